import PyProof.Rows.All
import Wide.All
import OpenK.AllK
import Wide.FinOn
import HandS.ForMost
import HandS.Exc
import HandS.ExcOwn
import HandS.ExcCtx
import HandS.ExcIs
import HandS.HotCalls
import HandS.IsInst
import HandS.Flow
import HandS.Style
import HandS.SortInts
import HandS.Deep
import HandS.WordsExc
import HandS.Conv
import HandS.SortRule
import HandS.Walk
import HandS.Zip
import HandS.SetFor
import HandS.DictTup
import HandS.More
import HandS.TupLen
import KE.KEqDict
import KE.KDictZip
import HandS.ExcValue
import HandS.TupLe
import KE.DataFind
import HandS.HeadHook3
import KE.KRevSl
import KE.KDictPairs
import PySem.Challenge.RW_stalehands_k08_whole_saved
set_option Elab.async false
set_option linter.all false
set_option maxRecDepth 100000
set_option maxHeartbeats 4000000
/-! Part one: a goal-directed form of the hand layer. Each judgement is put as a statement about one state,
so that a proof walks the text from the left and chooses its rule when the operands are known. -/
namespace Sh
open PySem PySem.Spec L2

abbrev St := L2.St
structure We (X : Cx) (e : Expr) (σ : St) (H : Hp) (Q : VK) : Prop where
  run : ∀ (pins : List (Addr × Obj)) (s : Shared), Inv X pins σ H s →
    wpAny (model X.prog X.w) X.A (eval e X.env) (EP X pins σ Q) X.xe s
structure Wt (X : Cx) (e : Expr) (σ : St) (H : Hp) (Q : Bool → Hp → Prop) : Prop where
  run : ∀ (pins : List (Addr × Obj)) (s : Shared), Inv X pins σ H s →
    wpAny (model X.prog X.w) X.A (isTrue e X.env (eval e X.env)) (TP X pins σ Q) X.xe s
structure Ww (X : Cx) (e : Expr) (σ : St) (H : Hp) (Q : Bool → Hp → Prop) : Prop where
  run : ∀ (whole : Sem Value) (pins : List (Addr × Obj)) (s : Shared), Inv X pins σ H s →
    wpAny (model X.prog X.w) X.A (isTrue e X.env whole) (TP X pins σ Q) X.xe s
structure Wa (X : Cx) (es : List Expr) (σ : St) (H : Hp) (Q : List V → Hp → Prop) : Prop where
  run : ∀ (pos : Pos) (pins : List (Addr × Obj)) (s : Shared), Inv X pins σ H s →
    wpAny (model X.prog X.w) X.A (spliced (backTo pos (starEach es X.env))) (AP X pins σ Q) X.xe s
structure Ws (X : Cx) (st : Stmt) (D : Ends) (σ : St) (H : Hp) : Prop where
  run : ∀ (pins : List (Addr × Obj)) (s : Shared), Inv X pins σ H s →
    wpAny (model X.prog X.w) X.A (exec st X.env) (SP X pins D) X.xe s
structure Wb (X : Cx) (st : List Stmt) (D : Ends) (σ : St) (H : Hp) : Prop where
  run : ∀ (pins : List (Addr × Obj)) (s : Shared), Inv X pins σ H s →
    wpAny (model X.prog X.w) X.A (execs st X.env) (SP X pins D) X.xe s
structure Wg (X : Cx) (tg : Expr) (v : V) (σ : St) (H : Hp) (Q : St → Hp → Prop) : Prop where
  run : ∀ (pins : List (Addr × Obj)) (s : Shared) (u : Value), Inv X pins σ H s → RelV v u →
    wpAny (model X.prog X.w) X.A (assign tg X.env u) (fun _ s' => ∃ σ' H', Inv X pins σ' H' s' ∧ Q σ' H') X.xe s
structure Wop (X : Cx) (f : Value → Value → Sem Value) (x y : V) (H : Hp) (Q : VK) : Prop where
  run : ∀ (pins : List (Addr × Obj)) (s : Shared) (σ : St) (u v : Value), Inv X pins σ H s → RelV x u → RelV y v →
    wpAny (model X.prog X.w) X.A (f u v) (EP X pins σ Q) X.xe s
structure Wun (X : Cx) (f : Value → Sem Value) (x : V) (H : Hp) (Q : VK) : Prop where
  run : ∀ (pins : List (Addr × Obj)) (s : Shared) (σ : St) (u : Value), Inv X pins σ H s → RelV x u →
    wpAny (model X.prog X.w) X.A (f u) (EP X pins σ Q) X.xe s
structure Wcall (X : Cx) (f : Value) (xs : List V) (H : Hp) (Q : VK) : Prop where
  run : ∀ (pins : List (Addr × Obj)) (s : Shared) (σ : St) (us : List Value), Inv X pins σ H s → Vals xs us →
    wpAny (model X.prog X.w) X.A (call f us) (EP X pins σ Q) X.xe s

section
variable {X : Cx} {e : Expr} {t : TE} {σ : St} {H : Hp} {Q : VK}
theorem We.pe : PE X e (We X e) := ⟨fun pins s _ _ _ I h => h.run pins s I⟩
theorem Wt.pt : PT X e (Wt X e) := ⟨fun pins s _ _ _ I h => h.run pins s I⟩
theorem Ww.pw : PW X e (Ww X e) := ⟨fun wh pins s _ _ _ I h => h.run wh pins s I⟩
theorem Wa.pa {es : List Expr} : PA X es (Wa X es) := ⟨fun pos pins s _ _ _ I h => h.run pos pins s I⟩
theorem Ws.ps {st : Stmt} : PS X st (Ws X st) := ⟨fun pins s _ _ _ I h => h.run pins s I⟩
theorem Wb.pss {st : List Stmt} : PSs X st (Wb X st) := ⟨fun pins s _ _ _ I h => h.run pins s I⟩
theorem Wg.pg {tg : Expr} : PG X tg (Wg X tg) := ⟨fun pins s _ _ _ u _ I r h => h.run pins s u I r⟩
theorem Wop.op {f : Value → Value → Sem Value} : OpR X f (Wop X f) := fun pins s σ _ _ _ _ _ _ I r1 r2 h => h.run pins s σ _ _ I r1 r2
theorem Wun.un {f : Value → Sem Value} : UnR X f (Wun X f) := fun pins s σ _ _ _ _ I r h => h.run pins s σ _ I r
theorem Wcall.cr {f : Value} : CallR X f (Wcall X f) := fun pins s σ _ _ _ _ I r h => h.run pins s σ _ I r
theorem of_pe (h : PE X e t) (q : t σ H Q) : We X e σ H Q := ⟨fun pins s I => h.run pins s σ H Q I q⟩
theorem of_pt {tt : TT} {Q : Bool → Hp → Prop} (h : PT X e tt) (q : tt σ H Q) : Wt X e σ H Q := ⟨fun pins s I => h.run pins s σ H Q I q⟩
theorem of_pw {tt : TT} {Q : Bool → Hp → Prop} (h : PW X e tt) (q : tt σ H Q) : Ww X e σ H Q := ⟨fun wh pins s I => h.run wh pins s σ H Q I q⟩
theorem of_pa {es : List Expr} {ta : TA} {Q : List V → Hp → Prop} (h : PA X es ta) (q : ta σ H Q) : Wa X es σ H Q := ⟨fun pos pins s I => h.run pos pins s σ H Q I q⟩
theorem of_ps {st : Stmt} {ts : TS} {D : Ends} (h : PS X st ts) (q : ts D σ H) : Ws X st D σ H := ⟨fun pins s I => h.run pins s σ H D I q⟩
theorem of_pss {st : List Stmt} {ts : TS} {D : Ends} (h : PSs X st ts) (q : ts D σ H) : Wb X st D σ H := ⟨fun pins s I => h.run pins s σ H D I q⟩
theorem of_pg {tg : Expr} {g : TG} {v : V} {Q : St → Hp → Prop} (h : PG X tg g) (q : g v σ H Q) : Wg X tg v σ H Q := ⟨fun pins s u I r => h.run pins s σ H v u Q I r q⟩
theorem of_op {f : Value → Value → Sem Value} {r : R2} {x y : V} (h : OpR X f r) (q : r x y H Q) : Wop X f x y H Q := ⟨fun pins s σ u v I r1 r2 => h pins s σ H x y u v Q I r1 r2 q⟩
theorem of_un {f : Value → Sem Value} {r : V → Hp → VK → Prop} {x : V} (h : UnR X f r) (q : r x H Q) : Wun X f x H Q := ⟨fun pins s σ u I r1 => h pins s σ H x u Q I r1 q⟩
theorem of_cr {f : Value} {r : List V → Hp → VK → Prop} {xs : List V} (h : CallR X f r) (q : r xs H Q) : Wcall X f xs H Q := ⟨fun pins s σ us I r1 => h pins s σ H xs us Q I r1 q⟩
end
end Sh
namespace Sh
open PySem PySem.Spec L2 PyProof.Rows

/-- a name of the frame: its slot, that it is seen there, that it may be stored -/
structure Nm (N : List Str) (env : Env) (i : Nat) (x : Str) : Prop where
  at' : N[i]? = some x
  vis : Vis env.scope x
  hd : (x == ("__debug__" : Str)) = false
  hc : (x == ("__classdict__" : Str)) = false
/-- .. that may be stored -/
structure Nl (N : List Str) (env : Env) (fn' : Str → Bool) (i : Nat) (x : Str) : Prop where
  at' : N[i]? = some x
  loc : Loc env.scope x
  fn : fn' x = true ∨ env.scope.names.lookup x = some .local
/-- a global name of the module -/
structure Gd (env : Env) (x : Str) : Prop where
  gl : env.kindOf x = some .globalImplicit
  hd : (x == ("__debug__" : Str)) = false
structure Gn (env : Env) (mg' : Str → Option Value) (x : Str) (u : Value) : Prop where
  gl : env.kindOf x = some .globalImplicit
  hd : (x == ("__debug__" : Str)) = false
  mg : mg' x = some u
/-- a built-in name -/
structure Bn (env : Env) (mg' : Str → Option Value) (x : Str) (u : Value) : Prop where
  gl : env.kindOf x = some .globalImplicit
  hd : (x == ("__debug__" : Str)) = false
  mg : mg' x = none
  bt : bootBuiltins x = some u
  nn : x ≠ "__name__"

section
variable {X : Cx} {a b c e o : Expr} {es rest : List Expr} {σ : St} {H : Hp} {Q : VK} {QB : Bool → Hp → Prop} {QA : List V → Hp → Prop} {D : Ends} {pos p1 p2 : Pos} {v x y : V} {i j : Int} {n : Nat}

theorem wa_imp {Q' : List V → Hp → Prop} (q : Wa X es σ H QA) (h : ∀ vs H1, QA vs H1 → Q' vs H1) : Wa X es σ H Q' :=
  ⟨fun pos pins s I => thn (q.run pos pins s I) fun us s1 ⟨vs, H1, I1, r, q1⟩ => ⟨vs, H1, I1, r, h vs H1 q1⟩⟩
theorem we_imp {Q' : VK} (q : We X e σ H Q) (h : ∀ v H1, Q v H1 → Q' v H1) : We X e σ H Q' :=
  ⟨fun pins s I => thn (q.run pins s I) fun u s1 ⟨v, H1, I1, r, q1⟩ => ⟨v, H1, I1, r, h v H1 q1⟩⟩
/-! names, constants -/
theorem we_var {k : Nat} {z : Str} (m : Nm X.N X.env k z) (h : σ[k]? = some (some v)) (q : Q v H) : We X (.Name z pos) σ H Q := of_pe (pe_var m.at' m.vis m.hd m.hc) ⟨v, h, q⟩
theorem we_int (q : Q (.int i) H) : We X (.Constant (.int i) n pos) σ H Q := of_pe pe_int q
theorem we_bl {k : Bool} (q : Q (.bl k) H) : We X (.Constant (.bool k) n pos) σ H Q := of_pe pe_bl q
theorem we_non (q : Q .non H) : We X (.Constant .none n pos) σ H Q := of_pe pe_non q
theorem we_str {z : Str} (q : Q (.str z) H) : We X (.Constant (.str z) n pos) σ H Q := of_pe pe_str q
theorem we_glob {z : Str} {u : Value} (g : Gn X.env X.mg z u) (r : RelV v u) (q : Q v H) : We X (.Name z pos) σ H Q :=
  of_pe (pe_glob g.gl g.mg r g.hd) q
theorem we_blt {z : Str} {u : Value} (g : Bn X.env X.mg z u) (r : RelV v u) (q : Q v H) : We X (.Name z pos) σ H Q :=
  of_pe (pe_bltn g.gl g.mg g.bt r g.nn g.hd) q

/-! operators -/
theorem we_op {op : Operator} (q : We X a σ H fun x H1 => We X b σ H1 fun y H2 => Wop X (binaryOp op) x y H2 Q) : We X (.BinOp a op b pos) σ H Q := of_pe (pe_op Wop.op We.pe We.pe) q
theorem we_neg (q : We X a σ H fun x H1 => Wun X (unaryOp .USub) x H1 Q) : We X (.UnaryOp .USub a pos) σ H Q := of_pe (pe_un Wun.un We.pe) q
theorem we_not (q : We X a σ H fun x H1 => ∃ c, x = .bl c ∧ Q (.bl (!c)) H1) : We X (.UnaryOp .Not a pos) σ H Q := of_pe (pe_not We.pe) q
theorem we_cmp {op : CmpOp} (hm : behindInMarks op b = false) (q : We X a σ H fun x H1 => We X b σ H1 fun y H2 => Wop X (compareOp op) x y H2 Q) : We X (.Compare a [op] [b] pos) σ H Q :=
  of_pe (pe_cmpR Wop.op We.pe We.pe hm) q
theorem we_one {op : BoolOp} (q : We X a σ H Q) : We X (.BoolOp op [a] pos) σ H Q := of_pe (pe_one We.pe) q
theorem we_and (q : We X a σ H fun x H1 => ∃ c, x = .bl c ∧ if c = true then We X (.BoolOp .And (b :: rest) pos) σ H1 Q else Q (.bl false) H1) : We X (.BoolOp .And (a :: b :: rest) pos) σ H Q :=
  of_pe (pe_and We.pe We.pe) q
theorem we_or (q : We X a σ H fun x H1 => ∃ c, x = .bl c ∧ if c = true then Q (.bl true) H1 else We X (.BoolOp .Or (b :: rest) pos) σ H1 Q) : We X (.BoolOp .Or (a :: b :: rest) pos) σ H Q :=
  of_pe (pe_or We.pe We.pe) q
theorem we_ifx (q : Wt X c σ H fun k H1 => if k = true then We X a σ H1 Q else We X b σ H1 Q) : We X (.IfExp c a b pos) σ H Q := of_pe (pe_ifExp Wt.pt We.pe We.pe) q
theorem we_chain {op op' : CmpOp} {b c : Expr} (hm : lastMarks [op, op'] [b, c] = false)
    (q : We X a σ H fun x H1 => We X b σ H1 fun y H2 => Wop X (compareOp op) x y H2 fun z H3 => ∃ k, z = .bl k ∧
      if k = true then We X c σ H3 fun w H4 => Wop X (compareOp op') y w H4 Q else Q (.bl false) H3) : We X (.Compare a [op, op'] [b, c] pos) σ H Q :=
  of_pe (pe_chain Wop.op Wop.op We.pe We.pe We.pe hm) q

/-! tests -/
theorem wt_cmp {op : CmpOp} (hm : behindInMarks op b = false) (q : We X a σ H fun x H1 => We X b σ H1 fun y H2 => Wop X (compareOp op) x y H2 fun z H3 => ∃ k, z = .bl k ∧ QB k H3) : Wt X (.Compare a [op] [b] pos) σ H QB :=
  of_pt (pt_cmpR Wop.op We.pe We.pe hm) q
theorem wt_not (q : Wt X a σ H fun k H1 => QB (!k) H1) : Wt X (.UnaryOp .Not a pos) σ H QB := of_pt (pt_not Wt.pt) q
theorem wt_ww (q : Ww X e σ H QB) : Wt X e σ H QB := of_pt Ww.pw.pt q
theorem ww_and1 (q : Wt X a σ H QB) : Ww X (.BoolOp .And [a] pos) σ H QB := of_pw (pw_and1 Wt.pt) q
theorem ww_or1 (q : Wt X a σ H QB) : Ww X (.BoolOp .Or [a] pos) σ H QB := of_pw (pw_or1 Wt.pt) q
theorem ww_and (q : Wt X a σ H fun k H1 => if k = true then Ww X (.BoolOp .And (b :: rest) pos) σ H1 QB else QB false H1) : Ww X (.BoolOp .And (a :: b :: rest) pos) σ H QB := of_pw (pw_and Wt.pt Ww.pw) q
theorem ww_or (q : Wt X a σ H fun k H1 => if k = true then QB true H1 else Ww X (.BoolOp .Or (b :: rest) pos) σ H1 QB) : Ww X (.BoolOp .Or (a :: b :: rest) pos) σ H QB := of_pw (pw_or Wt.pt Ww.pw) q
theorem wt_val (q : We X e σ H fun z H1 => ∃ k, z = .bl k ∧ QB k H1)
    (he : ∀ whole, isTrue e X.env whole = (do let v ← whole; standAt e.pos; holding [v] (truthy v)) := by intro _; rfl) : Wt X e σ H QB := of_pt (pt_val We.pe he) q

/-! arguments, displays -/
theorem wa_nil (q : QA [] H) : Wa X [] σ H QA := of_pa pa_nil q
theorem wa_cons (q : We X e σ H fun x H1 => Wa X es σ H1 fun xs H2 => QA (x :: xs) H2) (hs : starEach (e :: es) X.env = (false, eval e X.env) :: starEach es X.env := by rfl) : Wa X (e :: es) σ H QA :=
  of_pa (pa_cons We.pe Wa.pa hs) q
theorem we_tup {k : Nat} (q : Wa X es σ H fun xs H1 => xs.length ≤ sizeLine ∧ ∀ p H2, H1 p = none → H2 = upd H1 p (.tup xs) → Q (.ref p) H2) : We X (.Tuple es k pos) σ H Q :=
  of_pe (pe_tup Wa.pa) (wa_imp q fun xs H1 h => ⟨h.1, fun p hp => h.2 p _ hp rfl⟩)
theorem we_lst (q : Wa X es σ H fun xs H1 => xs.length ≤ sizeLine ∧ ∀ p H2, H1 p = none → H2 = upd H1 p (.lst xs) → Q (.ref p) H2) : We X (.List es pos) σ H Q :=
  of_pe (pe_lst Wa.pa) (wa_imp q fun xs H1 h => ⟨h.1, fun p hp => h.2 p _ hp rfl⟩)
theorem we_dict0 (q : ∀ p H2, H p = none → H2 = upd H p (.dK []) → Q (.ref p) H2) : We X (.Dict [] [] pos) σ H Q := of_pe pe_dnewK fun p hp => q p _ hp rfl
theorem we_dict0T (q : ∀ p H2, H p = none → H2 = upd H p (.dT []) → Q (.ref p) H2) : We X (.Dict [] [] pos) σ H Q := of_pe pe_dnewT fun p hp => q p _ hp rfl

/-! fields -/
theorem we_fld {f : Str} (hb : attributeBase e f X.env (eval e X.env) = eval e X.env)
    (q : We X e σ H fun x H1 => ∃ a C dx fs v, x = .ref a ∧ H1 a = some (.ins C dx fs) ∧ Cls X.K C ∧ NoAttr X.K C f ∧ fs.lookup f = some v ∧ Q v H1) : We X (.Attribute e f pos) σ H Q :=
  of_pe (pe_fld We.pe hb) q

/-! subscripts -/
end
structure Wsub (X : Cx) (x y : V) (H : Hp) (Q : VK) : Prop where
  run : ∀ (value slice : Expr) (pins : List (Addr × Obj)) (s : Shared) (σ : St) (v u : Value), Inv X pins σ H s → RelV x v → RelV y u →
    subscripted slice false v u = operate [v, u] (getItem v u) → wpAny (model X.prog X.w) X.A (subscriptTail value slice v u) (EP X pins σ Q) X.xe s
section
variable {X : Cx} {a b c e o : Expr} {es rest : List Expr} {σ : St} {H : Hp} {Q : VK} {QB : Bool → Hp → Prop} {QA : List V → Hp → Prop} {D : Ends} {pos p1 p2 : Pos} {v x y : V} {i j : Int} {n : Nat} {p : Addr} {xs : List V}
theorem Wsub.ix : IxR X (Wsub X) := fun value slice pins s σ _ _ _ _ _ _ I rx ry h hs => h.run value slice pins s σ _ _ I rx ry hs
theorem of_ix {r : R2} (h : IxR X r) (q : r x y H Q) : Wsub X x y H Q := ⟨fun value slice pins s σ v u I rx ry hs => h value slice pins s σ H x y v u Q I rx ry q hs⟩
theorem we_sub (hs : PlainIx b) (q : We X a σ H fun x H1 => We X b σ H1 fun y H2 => Wsub X x y H2 Q) : We X (.Subscript a b pos) σ H Q := of_pe (pe_ix Wsub.ix We.pe We.pe hs) q
theorem ws_list (hp : SqL X.K H p xs) (hv : atI xs i = some v) (q : Q v H) : Wsub X (.ref p) (.int i) H Q := of_ix ix_list ⟨p, xs, i, v, rfl, rfl, hp, hv, q⟩
theorem ws_tup (hp : SqT X.K H p xs) (hv : atI xs i = some v) (q : Q v H) : Wsub X (.ref p) (.int i) H Q := of_ix ix_tup ⟨p, xs, i, v, rfl, rfl, hp, hv, q⟩
theorem ws_dict (hu : X.A.units + 1 < cLine) (g : DGet H p y (some v)) (q : Q v H) : Wsub X (.ref p) y H Q := by
  refine ⟨fun value slice pins s σ w u I rx ry hs => ?_⟩
  cases (show w = Value.ref p from rx)
  have hT := dict_typeIs I g
  have key := d_getItem (Q := EP X pins σ Q) (E := X.xe) hu I g ry fun w' s3 I3 r3 => ⟨v, H, I3, r3, q⟩
  unfold subscriptTail
  refine wpAny_bind ?_
  rw [getitemInPython_of_ne hT.not_modules]
  refine wpAny_bind (wpAny_specialOf hT PySem.F.slot_dict_getitem.lookup ?_)
  have rest : wpAny (model X.prog X.w) X.A (subscripted slice false (.ref p) u)
      (fun r s₃ => wpAny (model X.prog X.w) X.A (letTemporaryGo value (.ref p) r >>= fun _ => pure r) (EP X pins σ Q) X.xe s₃) X.xe s := by
    rw [hs]
    exact wpAny_operating (wpAny_mono key (fun r s₃ h₃ => wpAny_bind (wpAny_letTemporaryGo (wpAny_pure h₃))) fun _ _ z => z)
  first
    | exact wpAny_pure (wpAny_bind rest)
    | exact wpAny_bind (wpAny_pure (wpAny_bind rest))
    | exact wpAny_bind rest
theorem we_slice {lo hi : Option Expr} {tl th : TO} {r : V → Option Int → Option Int → Hp → VK → Prop} (hr : SlR X r) (hl : PO X lo tl) (hu : PO X hi th)
    (q : We X e σ H fun x H1 => tl σ H1 fun l H2 => th σ H2 fun u H3 => r x l u H3 Q) : We X (.Subscript e (.Slice lo hi none p2) pos) σ H Q := of_pe (pe_slice hr We.pe hl hu) q
theorem we_rev {k : Nat} {q1 q2 q3 : Pos} (q : We X e σ H fun x H1 => ∃ a xs, x = .ref a ∧ SqL X.K H1 a xs ∧ ∀ p H2, H1 p = none → H2 = upd H1 p (.lst xs.reverse) → Q (.ref p) H2) :
    We X (.Subscript e (.Slice none none (some (.UnaryOp .USub (.Constant (.int 1) k q1) q2)) q3) pos) σ H Q :=
  of_pe (pe_revL We.pe) (we_imp q fun x H1 ⟨a, xs, h1, h2, h3⟩ => ⟨a, xs, h1, h2, fun p hp => h3 p _ hp rfl⟩)

/-! calls of built-ins by name -/
theorem we_callB {z : Str} {id : String} (g : Bn X.env X.mg z (.builtin id)) (q : Wa X (e :: es) σ H fun vs H1 => Wcall X (.builtin id) vs H1 Q)
    (he : starEach (e :: es) X.env = (false, eval e X.env) :: starEach es X.env := by rfl) (hp : (backTo pos (starEach es X.env)).any (·.1) = false := by rfl) : We X (.Call (.Name z p1) (e :: es) [] pos) σ H Q :=
  of_pe (pe_callB Wcall.cr g.gl g.mg g.bt Wa.pa g.nn g.hd he hp) q
theorem we_callTy {z : Str} {T : String} (g : Bn X.env X.mg z (.type T)) (q : Wa X (e :: es) σ H fun vs H1 => Wcall X (.type T) vs H1 Q)
    (he : starEach (e :: es) X.env = (false, eval e X.env) :: starEach es X.env := by rfl) (hp : (backTo pos (starEach es X.env)).any (·.1) = false := by rfl) : We X (.Call (.Name z p1) (e :: es) [] pos) σ H Q :=
  of_pe (pe_callTy Wcall.cr g.gl g.mg g.bt Wa.pa g.nn g.hd he hp) q
end
end Sh
namespace Sh
open PySem PySem.Spec L2 PyProof.Rows
abbrev CN (X : Cx) : CXT := L2N.CX X.prog X.w
/-- a def of the text as it may be called: where it stands, its level, what it promises -/
structure Dn (P : Program) (w : World) (K : PySem.W.Frag) (mg : Str → Option Value) (base : Heap) (k : Nat) (x : Str) (ps : List Str) (sp : Sp) : Prop where
  ex : ∃ (f : Addr) (fd : FuncData), FnOk P w K mg base (L2N.CX P w) k f fd ps sp ∧ mg x = some (.ref f) ∧ PySem.W.keepIn K (.ref f) = true ∧ Binds K fd ps []
/-- a method of the class at C -/
structure Mn (P : Program) (w : World) (K : PySem.W.Frag) (mg : Str → Option Value) (base : Heap) (k : Nat) (C : Addr) (m : Str) (ps : List Str) (sp : Sp) : Prop where
  ex : ∃ (f : Addr) (fd : FuncData), FnOk P w K mg base (L2N.CX P w) k f fd ps sp ∧ Meth K C m f ∧ Binds K fd ps []
/-- the class at C, as it is made -/
structure Cn (P : Program) (w : World) (K : PySem.W.Frag) (mg : Str → Option Value) (base : Heap) (k : Nat) (x : Str) (C : Addr) (ps : List Str) (sp : Sp) : Prop where
  ex : ∃ (f : Addr) (fd : FuncData), FnOk P w K mg base (L2N.CX P w) k f fd ps sp ∧ mg x = some (.ref C) ∧ Mk K C f ∧ Binds K fd ps []
abbrev DnX (X : Cx) := Dn X.prog X.w X.K X.mg X.base
abbrev MnX (X : Cx) := Mn X.prog X.w X.K X.mg X.base
abbrev CnX (X : Cx) := Cn X.prog X.w X.K X.mg X.base

section
variable {X : Cx} {a b c e o : Expr} {es rest : List Expr} {σ : St} {H : Hp} {Q : VK} {QB : Bool → Hp → Prop} {QA : List V → Hp → Prop} {D : Ends} {pos p1 p2 apos : Pos} {v x y : V} {i j : Int} {n : Nat} {p : Addr} {xs : List V}
  {W : WX} {sp : Sp} {k l : Nat} {ps : List Str} {z m : Str} {C : Addr}

/-! calls of the text's own defs -/
theorem we_call (tk : L2N.Takes X W) (hr : Room l X.A) (gl : Gd X.env z) (G : DnX X k z ps sp) (hk : k ≤ l) (q : Wa X (e :: es) σ H fun vs H1 => sp vs H1 Q fun cls d H2 => W cls d σ H2)
    (he : starEach (e :: es) X.env = (false, eval e X.env) :: starEach es X.env := by rfl)
    (hp : (backTo pos (starEach es X.env)).any (·.1) = false := by rfl) : We X (.Call (.Name z p1) (e :: es) [] pos) σ H Q := by
  obtain ⟨f, fd, F, hm, kp, hb⟩ := G.ex
  exact of_pe (pe_callS (E := fun σ cls d H => W cls d σ H) F (hr.mono hk) gl.gl hm kp hb (fun σ => L2N.passAt tk σ) Wa.pa gl.hd he hp) q
/-- a call of no exception, in any context -/
theorem passN {CXt : CXT} (E : XK) (h : ∀ cls d H, ¬ E cls d H) : Passes (CN X) X E := fun _ _ _ _ _ _ _ z => by
  obtain ⟨_, _, _, cls, d, _, _, _, _, _, _, _, w⟩ := z
  exact (h _ _ _ w).elim
theorem meth_at {us : List Value} {vs : List V} {pins : List (Addr × Obj)} {s : Shared} {f : Addr} {fd : FuncData} (tk : L2N.Takes X W) (hr : Room k X.A) (F : FnOk X.prog X.w X.K X.mg X.base (CN X) k f fd ps sp) (hb : Binds X.K fd ps [])
    (I : Inv X pins σ H s) (r : Vals vs us) (q : sp vs H Q fun cls d H2 => W cls d σ H2) : wpAny (model X.prog X.w) X.A (call (.ref f) us) (EP X pins σ Q) X.xe s :=
  run_fnS (E := fun σ cls d H => W cls d σ H) F hr hb (L2N.passAt tk σ) I r q
theorem we_meth {pl : Sem Bool} (tk : L2N.Takes X W) (hr : Room l X.A) (hc : Cls X.K C) (G : MnX X k C m ps sp) (hk : k ≤ l)
    (q : We X o σ H fun x H1 => ∃ a dx fs, x = .ref a ∧ H1 a = some (.ins C dx fs) ∧ fs.lookup m = none ∧ Wa X (e :: es) σ H1 fun vs H2 => sp (.ref a :: vs) H2 Q fun cls d H3 => W cls d σ H3)
    (hst : starEach (e :: es) X.env = (false, eval e X.env) :: starEach es X.env := by rfl) (hpl : (backTo pos (starEach es X.env)).any (·.1) = false := by rfl)
    (ht : eval (.Call (.Attribute o m apos) (e :: es) [] pos) X.env = (do
      let rv ← eval o X.env
      standAt apos.atName
      let (g, fst) ← holding [rv] (getMethod rv m pl)
      callWith pos g fst (backTo pos (starEach (e :: es) X.env)) (backToKw pos (keywordEach [] X.env))) := by rfl) : We X (.Call (.Attribute o m apos) (e :: es) [] pos) σ H Q := by
  obtain ⟨f, fd, F, hm, hb⟩ := G.ex
  refine ⟨fun pins s I => PySem.W.methodCall_KW (pl := pl) (thn (q.run pins s I) fun u s1 hu => ?_) ht⟩
  obtain ⟨x, H1, I1, rx, a, dx, fs, ex, ea, lk, q1⟩ := hu
  subst ex
  cases (show u = Value.ref a from rx)
  refine getmeth_ok I1 ea hc hm lk (PySem.W.callWith_K (first := [.ref a]) (h₀ := X.base) I.ok.mod.kin hm.kp ?_ hst hpl)
  refine thn (q1.run pos pins s1 I1) fun us s2 hs => ?_
  obtain ⟨vs, H2, I2, r, q2⟩ := hs
  exact ⟨I2.kIn, meth_at (us := .ref a :: us) (vs := .ref a :: vs) tk (hr.mono hk) F hb I2 (.cons rfl r) q2⟩
theorem we_meth0 {pl : Sem Bool} (tk : L2N.Takes X W) (hr : Room l X.A) (hc : Cls X.K C) (G : MnX X k C m ps sp) (hk : k ≤ l)
    (q : We X o σ H fun x H1 => ∃ a dx fs, x = .ref a ∧ H1 a = some (.ins C dx fs) ∧ fs.lookup m = none ∧ sp [.ref a] H1 Q fun cls d H3 => W cls d σ H3)
    (ht : eval (.Call (.Attribute o m apos) [] [] pos) X.env = (do
      let rv ← eval o X.env
      standAt apos.atName
      let (g, fst) ← holding [rv] (getMethod rv m pl)
      callWith pos g fst (backTo pos (starEach [] X.env)) (backToKw pos (keywordEach [] X.env))) := by rfl) : We X (.Call (.Attribute o m apos) [] [] pos) σ H Q := by
  obtain ⟨f, fd, F, hm, hb⟩ := G.ex
  refine ⟨fun pins s I => PySem.W.methodCall_KW (pl := pl) (thn (q.run pins s I) fun u s1 hu => ?_) ht⟩
  obtain ⟨x, H1, I1, rx, a, dx, fs, ex, ea, lk, q1⟩ := hu
  subst ex
  cases (show u = Value.ref a from rx)
  refine getmeth_ok I1 ea hc hm lk (PySem.W.callWith_K0 (first := [.ref a]) I1.kIn hm.kp ?_)
  exact meth_at (us := [.ref a]) (vs := [.ref a]) tk (hr.mono hk) F hb I1 (.cons rfl .nil) q1
/-- a new instance, its __init__ by its promise -/
theorem make_at {pins : List (Addr × Obj)} {s : Shared} {us : List Value} {vs : List V} {f : Addr} {fd : FuncData} (tk : L2N.Takes X W) (M : Mk X.K C f) (F : FnOk X.prog X.w X.K X.mg X.base (CN X) k f fd ps sp) (hr : Room (k + 1) X.A)
    (hb : Binds X.K fd ps []) (I : Inv X pins σ H s) (r : Vals vs us)
    (h : ∀ x dx, H x = none → H dx = none → dx ≠ x → sp (.ref x :: vs) (upd (upd H dx (.own x)) x (.ins C dx [])) (fun v H2 => v = .non ∧ Q (.ref x) H2) fun cls d H3 => W cls d σ H3) :
    wpAny (model X.prog X.w) X.A (call (.ref C) us) (EP X pins σ Q) X.xe s := by
  have N := s.heap.objs.size
  have fr1 : H (s.heap.objs.size + 1) = none := I.hok.fresh (Nat.le_succ _)
  have fr0 : H s.heap.objs.size = none := I.hok.fresh (Nat.le_refl _)
  have h1 := h _ _ fr1 fr0 (Nat.ne_of_lt (Nat.lt_succ_self _))
  have J := Inv.made (C := C) I
  have r1 : Vals (V.ref (s.heap.objs.size + 1) :: vs) (Value.ref (s.heap.objs.size + 1) :: us) := .cons rfl r
  have ln : (Value.ref (s.heap.objs.size + 1) :: us).length = ps.length := by rw [← r1.length]; exact F.len _ _ _ _ h1
  have bd := hb _ (Value.ref (s.heap.objs.size + 1) :: us) J.kIn (by rw [List.append_nil]; exact ln)
  rw [List.append_nil] at bd
  have run := F.run _ X.stack _ _ ⟨Value.ref (s.heap.objs.size + 1) :: us, []⟩ _ _ _ _ (hr.make C us []) (J.env0.make C us []) bd r1 h1
  refine wpAny_call (make_map (f := f) I.kIn M.makes M.init (beq_iff_eq.mp M.fn) (codeAny_mono run fun res s' g => ?_))
  cases res with
  | error e => exact tk e s' (L2N.XE.of_call J (fun _ _ _ w => w) g)
  | ok fl =>
    cases fl with
    | ret u =>
      have af := J.after g
      obtain ⟨v, H', J', rv, ev, q3⟩ := af
      cases ev
      exact ⟨rv, V.ref (s.heap.objs.size + 1), H', J', rfl, q3⟩
    | next => exact False.elim g
    | brk => exact False.elim g
    | cont => exact False.elim g
theorem we_make (tk : L2N.Takes X W) (hr : Room l X.A) (gl : Gd X.env z) (G : CnX X k z C ps sp) (hk : k + 1 ≤ l)
    (q : Wa X (e :: es) σ H fun vs H1 => ∀ x dx, H1 x = none → H1 dx = none → dx ≠ x → sp (.ref x :: vs) (upd (upd H1 dx (.own x)) x (.ins C dx [])) (fun v H2 => v = .non ∧ Q (.ref x) H2) fun cls d H3 => W cls d σ H3)
    (he : starEach (e :: es) X.env = (false, eval e X.env) :: starEach es X.env := by rfl)
    (hp : (backTo pos (starEach es X.env)).any (·.1) = false := by rfl) : We X (.Call (.Name z p1) (e :: es) [] pos) σ H Q := by
  obtain ⟨f, fd, F, hm, M, hb⟩ := G.ex
  refine ⟨fun pins s I => wpAny_Call_Name_kw (ld_glob I gl.gl hm (PySem.W.callWith_K (h₀ := X.base) I.ok.mod.kin M.kp ?_ he hp) gl.hd)⟩
  refine thn (q.run pos pins s I) fun us s1 hu => ?_
  obtain ⟨vs, H1, I1, r, q1⟩ := hu
  exact ⟨I1.kIn, make_at tk M F (hr.mono hk) hb I1 r q1⟩

/-! methods of built-in types -/
theorem we_bm {T id : String} {r : V → List V → Hp → VK → Prop} (pa : PlainAttrs T) (slot : Slot T m id) (hty : typeOf (.builtin id) = pure (.type "method_descriptor")) (hm : MtR X id r)
    (q : We X o σ H fun x H1 => tyV X.K T x H1 ∧ Wa X (e :: es) σ H1 fun ws H2 => r x ws H2 Q)
    (hbase : attributeBase o m X.env (eval o X.env) = eval o X.env := by rfl)
    (hfew : ((backTo pos (starEach (e :: es) X.env)).all (fun w => !w.1) && (backToKw pos (keywordEach [] X.env)).all (fun w => w.1.isSome)
      && decide ((e :: es).length + ([] : List Keyword).length + (if ([] : List Keyword).isEmpty then 0 else 1) < 30)) = true := by rfl)
    (hline : (apos.endLine == pos.line) = true := by rfl) (hs : starEach (e :: es) X.env = (false, eval e X.env) :: starEach es X.env := by rfl)
    (hplain : (backTo pos (starEach es X.env)).any (·.1) = false := by rfl) : We X (.Call (.Attribute o m apos) (e :: es) [] pos) σ H Q :=
  of_pe (pe_bm pa slot hty hm We.pe Wa.pa hbase hfew hline hs hplain) q
theorem we_bm0 {T id : String} {r : V → List V → Hp → VK → Prop} (pa : PlainAttrs T) (slot : Slot T m id) (hty : typeOf (.builtin id) = pure (.type "method_descriptor")) (hm : MtR X id r)
    (q : We X o σ H fun x H1 => tyV X.K T x H1 ∧ r x [] H1 Q)
    (hbase : attributeBase o m X.env (eval o X.env) = eval o X.env := by rfl) (hline : (apos.endLine == pos.line) = true := by rfl) : We X (.Call (.Attribute o m apos) [] [] pos) σ H Q :=
  of_pe (pe_bm0 pa slot hty hm We.pe hbase hline) q

/-! statements -/
variable {st : Stmt} {sts sts2 : List Stmt}
theorem wb_nil (q : D.nx σ H) : Wb X [] D σ H := of_pss pss_nil q
theorem wb_cons (q : Ws X st { D with nx := fun σ' H' => Wb X sts D σ' H' } σ H) : Wb X (st :: sts) D σ H := of_pss (pss_cons Ws.ps Wb.pss) q
theorem wb_one (q : Ws X st D σ H) : Wb X [st] D σ H := of_pss (pss_one Ws.ps) q
theorem ws_expr (q : We X e σ H fun _ H1 => D.nx σ H1) (hs : swapsWith e none pos.line X.env = pure false := by rfl) : Ws X (.Expr e pos) D σ H := of_ps (ps_expr We.pe hs) q
theorem ws_ret (q : We X e σ H D.rt) : Ws X (.Return (some e) pos) D σ H := of_ps (ps_ret We.pe) q
theorem ws_if (q : Wt X c σ H fun k H1 => if k = true then Wb X sts D σ H1 else Wb X sts2 D σ H1) : Ws X (.If c sts sts2 pos) D σ H := of_ps (ps_if Wt.pt Wb.pss Wb.pss) q
theorem ws_pass (q : D.nx σ H) : Ws X (.Pass pos) D σ H := of_ps ps_pass q
/-- a name is stored -/
theorem wg_name {i : Nat} {QS : St → Hp → Prop} (nl : Nl X.N X.env X.fn i z) (hN : X.N.Nodup) (q : QS (σ.set i (some v)) H) : Wg X (.Name z p1) v σ H QS :=
  of_pg (pg_name hN nl.at' nl.loc nl.fn) q
theorem ws_asg {tg : Expr} (q : We X e σ H fun w H1 => Wg X tg w σ H1 D.nx) (hs : swapsWithSole [tg] e pos.line X.env = pure false := by rfl) (hw : swappedStores [tg] e X.env = pure none := by rfl)
    (h1 : (assignEach [tg] X.env).map (·.2) = [assign tg X.env] := by rfl) : Ws X (.Assign [tg] e pos) D σ H := of_ps (ps_asg We.pe Wg.pg hs hw h1) q
theorem ws_asgN (q : We X e σ H fun w H1 => Wg X (.Name z p1) w σ H1 D.nx) (hs : swapsWithSole [.Name z p1] e pos.line X.env = pure false := by rfl) (hw : swappedStores [.Name z p1] e X.env = pure none := by rfl) :
    Ws X (.Assign [.Name z p1] e pos) D σ H := ws_asg q hs hw rfl
theorem ws_fld {f : Str} (q : We X e σ H fun y H1 => We X o σ H1 fun x H2 => ∃ a C dx fs, x = .ref a ∧ H2 a = some (.ins C dx fs) ∧ Cls X.K C ∧ NoAttr X.K C f ∧ fs.length < 1000 ∧ D.nx σ (upd H2 a (.ins C dx (putF f y fs))))
    (hs : swapsWith e (some (.Attribute o f p1)) pos.line X.env = pure false := by rfl) : Ws X (.Assign [.Attribute o f p1] e pos) D σ H := of_ps (ps_fld We.pe We.pe hs) q
theorem ws_dput (hu : X.A.units + 1 < cLine) (q : We X e σ H fun w H1 => We X a σ H1 fun x H2 => We X b σ H2 fun y H3 => ∃ d H4, x = .ref d ∧ DPut H3 d y w H4 ∧ D.nx σ H4)
    (hs : swapsWith e (some (.Subscript a b p1)) pos.line X.env = pure false := by rfl) : Ws X (.Assign [.Subscript a b p1] e pos) D σ H := of_ps (ps_dput hu We.pe We.pe We.pe hs) q
theorem wg_set {QS : St → Hp → Prop} {t : TSet} (hs : PSet X t) (q : We X a σ H fun o H1 => We X b σ H1 fun i H2 => t o i v H2 fun H3 => QS σ H3)
    (ha : ∀ w, assign (.Subscript a b pos) X.env w = (do
      let rv ← holding [w] (eval a X.env)
      let jv ← holding [w, rv] (eval b X.env)
      standAt pos
      holding [w, rv, jv] (setItem rv jv w)
      release [w, rv, jv] []) := by intro _; rfl) : Wg X (.Subscript a b pos) v σ H QS := of_pg (pg_sub We.pe We.pe hs ha) q
/-- xs[i] = e, xs a list -/
theorem ws_lset (q : We X e σ H fun w H1 => We X a σ H1 fun o H2 => We X b σ H2 fun i H3 => rSetL o i w H3 fun H4 => D.nx σ H4) (hs : swapsWithSole [.Subscript a b p1] e pos.line X.env = pure false := by rfl)
    (hw : swappedStores [.Subscript a b p1] e X.env = pure none := by rfl)
    (ha : ∀ w, assign (.Subscript a b p1) X.env w = (do
      let rv ← holding [w] (eval a X.env)
      let jv ← holding [w, rv] (eval b X.env)
      standAt p1
      holding [w, rv, jv] (setItem rv jv w)
      release [w, rv, jv] []) := by intro _; rfl) : Ws X (.Assign [.Subscript a b p1] e pos) D σ H :=
  ws_asg (we_imp q fun w H1 h => wg_set set_list h ha) hs hw rfl
theorem ws_raise (hc : X.calm = true) (tk : L2N.Takes X W) {B newId initId : String} {bmB : List Value} {mm : Str} {q1 q2 q3 : Pos} (F : ExcBaseFacts B newId initId bmB)
    (hx : PySem.W.excIn X.K C bmB newId = true) (gC : X.mg z = some (.ref C)) (kC : PySem.W.keepIn X.K (.ref C) = true) (r : Raises X (.ref C)) (hg : Gd X.env z) (q : W (.ref C) none σ H) : Ws X (.Raise (some (.Call (.Name z q1) [.Constant (.str mm) n q2] [] q3)) none pos) D σ H :=
  of_ps (L2N.ps_raise hc tk (L2N.pmk_own F hx gC kC r hg.gl hg.hd)) q
end
end Sh
namespace Sh
open PySem PySem.Spec L2 PyProof.Rows
/-- the names of a def -/
structure Nf (X : Cx) (N : List Str) (sc : Scope) : Prop where
  hN : X.N = N
  hs : X.env.scope = sc
  fn : ∀ x, X.fn x = true
/-- the body of a def is being run -/
structure Bd (X : Cx) (k : Nat) (N : List Str) (sc : Scope) : Prop where
  nf : Nf X N sc
  hr : Room k X.A
  nd : X.N.Nodup
  calm : X.calm = true
  stk : X.stack = X.env :: X.outer
  frm : X.env.frame = some X.env.locals
  po : PassesOwn (model X.prog X.w) X.A X.env X.xe
section
variable {X : Cx} {k : Nat} {N : List Str} {sc : Scope} {x : Str} {i : Nat}
theorem Bd.hu (B : Bd X k N sc) : X.A.units + 1 < cLine := hu_of B.hr
theorem Nf.nm (B : Nf X N sc) (h1 : N[i]? = some x) (h2 : Vis sc x) (hd : (x == ("__debug__" : Str)) = false) (hc : (x == ("__classdict__" : Str)) = false) : Nm X.N X.env i x :=
  ⟨by rw [B.hN]; exact h1, by rw [B.hs]; exact h2, hd, hc⟩
theorem Nf.nl (B : Nf X N sc) (h1 : N[i]? = some x) (h2 : Loc sc x) : Nl X.N X.env X.fn i x := ⟨by rw [B.hN]; exact h1, by rw [B.hs]; exact h2, .inl (B.fn x)⟩
theorem Nf.gl (B : Nf X N sc) (h : sc.names.lookup x = some .globalImplicit) : X.env.kindOf x = some .globalImplicit := by
  unfold Env.kindOf
  rw [B.hs]
  exact h
theorem Nf.lk (B : Nf X N sc) (h : sc.names.lookup x = some .local) : X.env.kindOf x = some .local := by
  unfold Env.kindOf
  rw [B.hs]
  exact h
theorem Nf.gd (B : Nf X N sc) (h : sc.names.lookup x = some .globalImplicit) (hd : (x == ("__debug__" : Str)) = false) : Gd X.env x := ⟨B.gl h, hd⟩
end
/-- a def of the text keeps its promise, if its body does so in any such context -/
theorem def_ok {P : Program} {w : World} {K : PySem.W.Frag} {mg : Str → Option Value} {base : Heap} {x qual : Str} {st : Stmt} {f : Addr} {fd : FuncData} {N ps : List Str} {k : Nat} {sp : Sp}
    (F : Fun K x qual st f fd) (S : FnScope N ps (defScope st)) (len : ∀ vs H Q E, sp vs H Q E → vs.length = ps.length)
    (body : ∀ (X : Cx), X.prog = P → X.w = w → X.K = K → X.mg = mg → X.base = base → Bd X k N (defScope st) → ∀ (vs : List V) (H : Hp) (Q : VK) (E : XK),
      L2N.Takes X (fun cls d _ H => E cls d H) → sp vs H Q E → Wb X (defBody st) { nx := fun _ H' => Q .non H', rt := Q } (start N vs) H) :
    FnOk P w K mg base (L2N.CX P w) (k + 1) f fd ps sp := by
  obtain ⟨oc, od, kV, doc, pm, an, cdv, ct, osl, rfl, lk, hcd⟩ := F.ex
  refine fn_of lk hcd S len fun A outer s H vs Q E hr hsp => ⟨_, Wb.pss, ?_⟩
  refine body _ rfl rfl rfl rfl rfl ⟨⟨rfl, rfl, fun _ => rfl⟩, hr, S.nd, rfl, rfl, rfl, passes_of rfl⟩ vs H Q E (L2N.takes_of rfl rfl rfl rfl) hsp
end Sh
namespace Sh
open PySem PySem.Spec L2 PyProof.Rows
section
variable {X : Cx} {σ : St} {H : Hp} {Q : VK} {i j : Int} {x y v : V} {b : Bool}
theorem wop_add (q : Q (.int (i + j)) H) : Wop X (binaryOp .Add) (.int i) (.int j) H Q := of_op op_add ⟨_, _, rfl, rfl, q⟩
theorem wop_sub (q : Q (.int (i - j)) H) : Wop X (binaryOp .Sub) (.int i) (.int j) H Q := of_op op_sub ⟨_, _, rfl, rfl, q⟩
theorem wop_mul (h : CMul i j) (q : Q (.int (i * j)) H) : Wop X (binaryOp .Mult) (.int i) (.int j) H Q := of_op op_mul ⟨_, _, rfl, rfl, h, q⟩
theorem wop_mod (h : 0 < j) (q : Q (.int (i % j)) H) : Wop X (binaryOp .Mod) (.int i) (.int j) H Q := of_op op_mod ⟨_, _, rfl, rfl, h, q⟩
theorem wop_fdiv (h : 0 < j) (h2 : j < 1073741824) (q : Q (.int (i / j)) H) : Wop X (binaryOp .FloorDiv) (.int i) (.int j) H Q := of_op op_fdiv ⟨_, _, rfl, rfl, ⟨h, h2⟩, q⟩
theorem wun_neg (q : Q (.int (-i)) H) : Wun X (unaryOp .USub) (.int i) H Q := of_un un_neg ⟨_, rfl, q⟩
theorem wop_lt (q : Q (.bl (decide (i < j))) H) : Wop X (compareOp .Lt) (.int i) (.int j) H Q := of_op op_lt ⟨_, _, rfl, rfl, q⟩
theorem wop_le (q : Q (.bl (decide (i ≤ j))) H) : Wop X (compareOp .LtE) (.int i) (.int j) H Q := of_op op_le ⟨_, _, rfl, rfl, q⟩
theorem wop_gt (q : Q (.bl (decide (j < i))) H) : Wop X (compareOp .Gt) (.int i) (.int j) H Q := of_op op_gt ⟨_, _, rfl, rfl, q⟩
theorem wop_ge (q : Q (.bl (decide (j ≤ i))) H) : Wop X (compareOp .GtE) (.int i) (.int j) H Q := of_op op_ge ⟨_, _, rfl, rfl, q⟩
theorem wop_eq (h : scal x y = true) (q : Q (.bl (decide (x = y))) H) : Wop X (compareOp .Eq) x y H Q := of_op op_eq ⟨h, q⟩
theorem wop_ne (h : scal x y = true) (q : Q (.bl (!decide (x = y))) H) : Wop X (compareOp .NotEq) x y H Q := of_op op_ne ⟨h, q⟩
theorem wop_isN (q : Q (.bl (decide (x = .non))) H) : Wop X (compareOp .Is) x .non H Q := of_op op_isN ⟨rfl, q⟩
theorem wop_notN (q : Q (.bl (!decide (x = .non))) H) : Wop X (compareOp .IsNot) x .non H Q := of_op op_notN ⟨rfl, q⟩

/-! what a thing is, and isinstance -/
def tyName : PyData → String
  | .none => "NoneType"
  | .bool _ => "bool"
  | .int _ => "int"
  | .str _ => "str"
  | .list _ => "list"
  | .tuple _ => "tuple"
  | .dict _ => "dict"
def isi (d : PyData) (n : String) : Bool := (kitB (tyName d) n).getD false
theorem isi_int : ∀ d : PyData, kitB (tyName d) "int" = some (match d with | .int _ => true | .bool _ => true | _ => false)
  | .none => (by decide +kernel : kitB "NoneType" "int" = some false)
  | .bool _ => (by decide +kernel : kitB "bool" "int" = some true)
  | .int _ => (by decide +kernel : kitB "int" "int" = some true)
  | .str _ => (by decide +kernel : kitB "str" "int" = some false)
  | .list _ => (by decide +kernel : kitB "list" "int" = some false)
  | .tuple _ => (by decide +kernel : kitB "tuple" "int" = some false)
  | .dict _ => (by decide +kernel : kitB "dict" "int" = some false)
theorem isi_bool : ∀ d : PyData, kitB (tyName d) "bool" = some (match d with | .bool _ => true | _ => false)
  | .none => (by decide +kernel : kitB "NoneType" "bool" = some false)
  | .bool _ => (by decide +kernel : kitB "bool" "bool" = some true)
  | .int _ => (by decide +kernel : kitB "int" "bool" = some false)
  | .str _ => (by decide +kernel : kitB "str" "bool" = some false)
  | .list _ => (by decide +kernel : kitB "list" "bool" = some false)
  | .tuple _ => (by decide +kernel : kitB "tuple" "bool" = some false)
  | .dict _ => (by decide +kernel : kitB "dict" "bool" = some false)
theorem isi_str : ∀ d : PyData, kitB (tyName d) "str" = some (match d with | .str _ => true | _ => false)
  | .none => (by decide +kernel : kitB "NoneType" "str" = some false)
  | .bool _ => (by decide +kernel : kitB "bool" "str" = some false)
  | .int _ => (by decide +kernel : kitB "int" "str" = some false)
  | .str _ => (by decide +kernel : kitB "str" "str" = some true)
  | .list _ => (by decide +kernel : kitB "list" "str" = some false)
  | .tuple _ => (by decide +kernel : kitB "tuple" "str" = some false)
  | .dict _ => (by decide +kernel : kitB "dict" "str" = some false)
theorem isi_tuple : ∀ d : PyData, kitB (tyName d) "tuple" = some (match d with | .tuple _ => true | _ => false)
  | .none => (by decide +kernel : kitB "NoneType" "tuple" = some false)
  | .bool _ => (by decide +kernel : kitB "bool" "tuple" = some false)
  | .int _ => (by decide +kernel : kitB "int" "tuple" = some false)
  | .str _ => (by decide +kernel : kitB "str" "tuple" = some false)
  | .list _ => (by decide +kernel : kitB "list" "tuple" = some false)
  | .tuple _ => (by decide +kernel : kitB "tuple" "tuple" = some true)
  | .dict _ => (by decide +kernel : kitB "dict" "tuple" = some false)
theorem isi_list : ∀ d : PyData, kitB (tyName d) "list" = some (match d with | .list _ => true | _ => false)
  | .none => (by decide +kernel : kitB "NoneType" "list" = some false)
  | .bool _ => (by decide +kernel : kitB "bool" "list" = some false)
  | .int _ => (by decide +kernel : kitB "int" "list" = some false)
  | .str _ => (by decide +kernel : kitB "str" "list" = some false)
  | .list _ => (by decide +kernel : kitB "list" "list" = some true)
  | .tuple _ => (by decide +kernel : kitB "tuple" "list" = some false)
  | .dict _ => (by decide +kernel : kitB "dict" "list" = some false)
theorem Dp.ty {K : PySem.W.Frag} {d : PyData} (h : Dp K H v d) : TyX K H v (.type (tyName d)) := by
  cases h with
  | non => exact .base .non
  | bl b => exact .base (.bl b)
  | int i => exact .base (.int i)
  | str s => exact .base (.str s)
  | lst h _ =>
    rcases h with (h | ⟨o, h⟩) | ⟨o, its, n, h1, h2, _⟩
    · exact .base (.lst h)
    · exact .base (.frz h)
    · exact .kList h1 h2
  | tup h _ =>
    rcases h with (h | ⟨o, h⟩) | ⟨o, its, n, h1, h2, _⟩
    · exact .base (.tup h)
    · exact .fTuple h
    · exact .kTuple h1 h2
theorem wc_isi {d : PyData} {n : String} (h : Dp X.K H v d) (hb : kitB (tyName d) n = some b) (q : Q (.bl b) H) : Wcall X (.builtin "isinstance") [v, .ty n] H Q :=
  of_cr call_isi ⟨_, _, _, _, _, rfl, .ty n, Dp.ty h, kit_ty hb, q⟩
theorem wc_lenT {p : Addr} {xs : List V} (h : SqT X.K H p xs) (q : Q (.int xs.length) H) : Wcall X (.builtin "len") [.ref p] H Q := of_cr call_len_seq ⟨p, xs, rfl, .inr h, q⟩
theorem wc_lenL {p : Addr} {xs : List V} (h : SqL X.K H p xs) (q : Q (.int xs.length) H) : Wcall X (.builtin "len") [.ref p] H Q := of_cr call_len_seq ⟨p, xs, rfl, .inl h, q⟩
end
section
variable {X : Cx} {a b c e o : Expr} {es rest : List Expr} {σ : St} {H : Hp} {Q : VK} {QB : Bool → Hp → Prop} {QA : List V → Hp → Prop} {QS : St → Hp → Prop} {D : Ends} {pos : Pos} {v x y : V}
theorem we_id (h : We X e σ H Q) : We X e σ H Q := h
theorem we_idN {z : Str} (h : We X (.Name z pos) σ H Q) : We X (.Name z pos) σ H Q := h
theorem we_idC {k : Const} {n : Nat} (h : We X (.Constant k n pos) σ H Q) : We X (.Constant k n pos) σ H Q := h
theorem we_idF {k : List Keyword} (h : We X (.Call a es k pos) σ H Q) : We X (.Call a es k pos) σ H Q := h
theorem we_idSl {lo hi st : Option Expr} {p2 : Pos} (h : We X (.Subscript a (.Slice lo hi st p2) pos) σ H Q) : We X (.Subscript a (.Slice lo hi st p2) pos) σ H Q := h
theorem wt_id (h : Wt X e σ H QB) : Wt X e σ H QB := h
theorem ww_id (h : Ww X e σ H QB) : Ww X e σ H QB := h
theorem wa_id (h : Wa X es σ H QA) : Wa X es σ H QA := h
theorem wb_id {st : List Stmt} (h : Wb X st D σ H) : Wb X st D σ H := h
theorem ws_id {st : Stmt} (h : Ws X st D σ H) : Ws X st D σ H := h
theorem wg_id (h : Wg X e v σ H QS) : Wg X e v σ H QS := h
theorem wop_id {f : Value → Value → Sem Value} (h : Wop X f x y H Q) : Wop X f x y H Q := h
theorem wun_id {f : Value → Sem Value} (h : Wun X f x H Q) : Wun X f x H Q := h
end
end Sh
namespace Sh
open PySem PySem.Spec L2 PyProof.Rows
/-- a def of the module -/
def DefAt (K : PySem.W.Frag) (mg : Str → Option Value) (x : Str) (st : Stmt) (ps : List Str) : Prop :=
  ∃ (f : Addr) (fd : FuncData), Fun K x x st f fd ∧ mg x = some (.ref f) ∧ PySem.W.keepIn K (.ref f) = true ∧ Binds K fd ps []
/-- a method of the class at C -/
def MethAt (K : PySem.W.Frag) (C : Addr) (m qual : Str) (st : Stmt) (ps : List Str) : Prop :=
  ∃ (f : Addr) (fd : FuncData), Fun K m qual st f fd ∧ Meth K C m f ∧ Binds K fd ps []
/-- an exception class of the text, over ValueError -/
structure Xn (K : PySem.W.Frag) (mg : Str → Option Value) (x : Str) (C : Addr) : Prop where
  g : mg x = some (.ref C)
  x : PySem.W.excIn K C [.type "ValueError", .type "Exception", .type "BaseException", .type "object"] "ValueError.__new__" = true
  k : PySem.W.keepIn K (.ref C) = true
  b : PySem.W.subIn K (.ref C) (.type "BaseException") = some true
  t : PySem.W.typeIn K (.ref C) = some (.type "type")
structure KAt (K : PySem.W.Frag) (mg : Str → Option Value) (x : Str) (C : Addr) : Prop where
  g : mg x = some (.ref C)
  c : Cls K C
  m : PySem.W.makesIn K C = true
  k : PySem.W.keepIn K (.ref C) = true
section
variable {K : PySem.W.Frag} {mg : Str → Option Value} {h : Heap} {P : Program} {w : World} {base : Heap}
theorem defAt_mk {x : Str} {st : Stmt} {f : Addr} {oc : Value} {od an : Option Addr} {osl : Array (Option Value)} {kV doc pm cdv ct : Value} {ps : List Str} (X : K.In h) (G : h.Ns mainGlobals mg)
    (a : PySem.W.nsIn K mainGlobals x = some (some (.ref f))) (l : K.lookup f = some ⟨oc, od, .func (PySem.W.fnOf x x (defArgs st) (defBody st) (defScope st) .none kV doc pm an cdv ct), osl⟩)
    (c : PySem.W.codeIn K cdv x = true) (k : PySem.W.keepIn K (.ref f) = true)
    (b : ∀ (kV doc pm : Value) (an : Option Addr) (cdv ct : Value) (us : List Value), us.length = ps.length → bindArgs (PySem.W.fnOf x x (defArgs st) (defBody st) (defScope st) .none kV doc pm an cdv ct) ⟨us, []⟩ = pure (ps.zip us)) : DefAt K mg x st ps :=
  ⟨f, _, fun_mk l c k, PySem.W.mg_of X G a, k, (fun_mk (st := st) l c k).binds b⟩
theorem methAt_mk {x qual : Str} {st : Stmt} {f C : Addr} {oc : Value} {od an : Option Addr} {osl : Array (Option Value)} {kV doc pm cdv ct : Value} {ps : List Str}
    (a : PySem.W.findIn K (.ref C) x = some (some (.ref f))) (i : PySem.W.isFn K (.ref f) = true) (l : K.lookup f = some ⟨oc, od, .func (PySem.W.fnOf x qual (defArgs st) (defBody st) (defScope st) .none kV doc pm an cdv ct), osl⟩)
    (c : PySem.W.codeIn K cdv qual = true) (k : PySem.W.keepIn K (.ref f) = true)
    (b : ∀ (kV doc pm : Value) (an : Option Addr) (cdv ct : Value) (us : List Value), us.length = ps.length → bindArgs (PySem.W.fnOf x qual (defArgs st) (defBody st) (defScope st) .none kV doc pm an cdv ct) ⟨us, []⟩ = pure (ps.zip us)) : MethAt K C x qual st ps :=
  ⟨f, _, fun_mk l c k, ⟨a, i, k⟩, (fun_mk (st := st) l c k).binds b⟩
theorem xn_mk {x : Str} {C : Addr} (X : K.In h) (G : h.Ns mainGlobals mg) (a : PySem.W.nsIn K mainGlobals x = some (some (.ref C)))
    (e : PySem.W.excIn K C [.type "ValueError", .type "Exception", .type "BaseException", .type "object"] "ValueError.__new__" = true)
    (k : PySem.W.keepIn K (.ref C) = true) (b : PySem.W.subIn K (.ref C) (.type "BaseException") = some true) (t : PySem.W.typeIn K (.ref C) = some (.type "type")) : Xn K mg x C :=
  ⟨PySem.W.mg_of X G a, e, k, b, t⟩
theorem kAt_mk {x : Str} {C : Addr} (X : K.In h) (G : h.Ns mainGlobals mg) (a : PySem.W.nsIn K mainGlobals x = some (some (.ref C)))
    (pg : PySem.W.plainGet K C Str.empty = true) (hd : PySem.W.hasDictIn K C = true) (po : PySem.W.plainOver K C = true)
    (sa : PySem.W.findIn K (.ref C) "__setattr__" = some (some (.builtin "object.__setattr__"))) (mk : PySem.W.makesIn K C = true) (kc : PySem.W.keepIn K (.ref C) = true) : KAt K mg x C :=
  ⟨PySem.W.mg_of X G a, ⟨pg, hd, po, sa⟩, mk, kc⟩
/-- from a def of the module to how it may be called -/
theorem dn_of {x : Str} {st : Stmt} {N ps : List Str} {k : Nat} {sp : Sp} (A : DefAt K mg x st ps) (S : FnScope N ps (defScope st)) (len : ∀ vs H Q E, sp vs H Q E → vs.length = ps.length)
    (body : ∀ (X : Cx), X.prog = P → X.w = w → X.K = K → X.mg = mg → X.base = base → Bd X k N (defScope st) → ∀ (vs : List V) (H : Hp) (Q : VK) (E : XK),
      L2N.Takes X (fun cls d _ H => E cls d H) → sp vs H Q E → Wb X (defBody st) { nx := fun _ H' => Q .non H', rt := Q } (start N vs) H) : Dn P w K mg base (k + 1) x ps sp := by
  obtain ⟨f, fd, F, hm, kp, hb⟩ := A
  exact ⟨f, fd, def_ok F S len body, hm, kp, hb⟩
theorem mn_of {x qual : Str} {C : Addr} {st : Stmt} {N ps : List Str} {k : Nat} {sp : Sp} (A : MethAt K C x qual st ps) (S : FnScope N ps (defScope st)) (len : ∀ vs H Q E, sp vs H Q E → vs.length = ps.length)
    (body : ∀ (X : Cx), X.prog = P → X.w = w → X.K = K → X.mg = mg → X.base = base → Bd X k N (defScope st) → ∀ (vs : List V) (H : Hp) (Q : VK) (E : XK),
      L2N.Takes X (fun cls d _ H => E cls d H) → sp vs H Q E → Wb X (defBody st) { nx := fun _ H' => Q .non H', rt := Q } (start N vs) H) : Mn P w K mg base (k + 1) C x ps sp := by
  obtain ⟨f, fd, F, hm, hb⟩ := A
  exact ⟨f, fd, def_ok F S len body, hm, hb⟩
theorem cn_of {x : Str} {C : Addr} {ps : List Str} {k : Nat} {sp : Sp} (A : KAt K mg x C) (M : Mn P w K mg base k C "__init__" ps sp) : Cn P w K mg base k x C ps sp := by
  obtain ⟨f, fd, F, hm, hb⟩ := M
  exact ⟨f, fd, F, A.g, ⟨A.m, hm.at_, hm.fn, A.k⟩, hb⟩
end
section
variable {X : Cx} {σ : St} {H : Hp} {D : Ends} {W : WX} {z m : Str} {C : Addr} {n : Nat} {p q1 q2 q3 : Pos}
/-- raise X('..') -/
theorem ws_raiseX (hc : X.calm = true) (tk : L2N.Takes X W) (g : Gd X.env z) (x : Xn X.K X.mg z C) (q : W (.ref C) none σ H) :
    Ws X (.Raise (some (.Call (.Name z q1) [.Constant (.str m) n q2] [] q3)) none p) D σ H :=
  ws_raise hc tk PySem.F.excBase_ValueError x.x x.g x.k (raises_own x.b x.t) g q
end
section
variable {X : Cx} {σ : St} {H : Hp} {Q : VK} {i : Int} {z : Str} {pos : Pos} {T : String} {t : Tok} {a : Addr}
theorem we_bty (g : Bn X.env X.mg z (.type T)) (q : Q (.ty T) H) : We X (.Name z pos) σ H Q := we_blt (v := .ty T) g rfl q
theorem we_gint (g : Gd X.env z) (m : ∃ t, X.mg z = some (.int i t)) (q : Q (.int i) H) : We X (.Name z pos) σ H Q := by
  obtain ⟨t, m⟩ := m
  exact we_glob (v := .int i) ⟨g.gl, g.hd, m⟩ ⟨t, rfl⟩ q
theorem we_gref (g : Gd X.env z) (m : X.mg z = some (.ref a)) (q : Q (.ref a) H) : We X (.Name z pos) σ H Q := we_glob (v := .ref a) ⟨g.gl, g.hd, m⟩ rfl q
end

/-! addresses of the classes, built-in names -/
structure Cl where
  (HandError NoSettings NoWorth NoHandle Stale Full NoPlace NoList NoNumber NotEmpty NoDeed Store Dense Chains Beside : Addr)
theorem bt_isinstance : bootBuiltins "isinstance" = some (.builtin "isinstance") := by decide +kernel
theorem nn_isinstance : ("isinstance" : Str) ≠ "__name__" := by decide
theorem bt_len : bootBuiltins "len" = some (.builtin "len") := by decide +kernel
theorem nn_len : ("len" : Str) ≠ "__name__" := by decide
theorem bt_sorted : bootBuiltins "sorted" = some (.builtin "sorted") := by decide +kernel
theorem nn_sorted : ("sorted" : Str) ≠ "__name__" := by decide
theorem bt_min : bootBuiltins "min" = some (.builtin "min") := by decide +kernel
theorem nn_min : ("min" : Str) ≠ "__name__" := by decide
theorem bt_max : bootBuiltins "max" = some (.builtin "max") := by decide +kernel
theorem nn_max : ("max" : Str) ≠ "__name__" := by decide
theorem bt_sum : bootBuiltins "sum" = some (.builtin "sum") := by decide +kernel
theorem nn_sum : ("sum" : Str) ≠ "__name__" := by decide
theorem bt_all : bootBuiltins "all" = some (.builtin "all") := by decide +kernel
theorem nn_all : ("all" : Str) ≠ "__name__" := by decide
theorem bt_any : bootBuiltins "any" = some (.builtin "any") := by decide +kernel
theorem nn_any : ("any" : Str) ≠ "__name__" := by decide
theorem bt_int : bootBuiltins "int" = some (.type "int") := by decide +kernel
theorem nn_int : ("int" : Str) ≠ "__name__" := by decide
theorem bt_bool : bootBuiltins "bool" = some (.type "bool") := by decide +kernel
theorem nn_bool : ("bool" : Str) ≠ "__name__" := by decide
theorem bt_str : bootBuiltins "str" = some (.type "str") := by decide +kernel
theorem nn_str : ("str" : Str) ≠ "__name__" := by decide
theorem bt_list : bootBuiltins "list" = some (.type "list") := by decide +kernel
theorem nn_list : ("list" : Str) ≠ "__name__" := by decide
theorem bt_tuple : bootBuiltins "tuple" = some (.type "tuple") := by decide +kernel
theorem nn_tuple : ("tuple" : Str) ≠ "__name__" := by decide
theorem bt_dict : bootBuiltins "dict" = some (.type "dict") := by decide +kernel
theorem nn_dict : ("dict" : Str) ≠ "__name__" := by decide
theorem bt_type : bootBuiltins "type" = some (.type "type") := by decide +kernel
theorem nn_type : ("type" : Str) ≠ "__name__" := by decide
theorem bt_range : bootBuiltins "range" = some (.type "range") := by decide +kernel
theorem nn_range : ("range" : Str) ≠ "__name__" := by decide
theorem bt_enumerate : bootBuiltins "enumerate" = some (.type "enumerate") := by decide +kernel
theorem nn_enumerate : ("enumerate" : Str) ≠ "__name__" := by decide
theorem bt_zip : bootBuiltins "zip" = some (.type "zip") := by decide +kernel
theorem nn_zip : ("zip" : Str) ≠ "__name__" := by decide
theorem bt_reversed : bootBuiltins "reversed" = some (.type "reversed") := by decide +kernel
theorem nn_reversed : ("reversed" : Str) ≠ "__name__" := by decide
theorem bt_ValueError : bootBuiltins "ValueError" = some (.type "ValueError") := by decide +kernel
theorem nn_ValueError : ("ValueError" : Str) ≠ "__name__" := by decide
end Sh
namespace Sh
open PySem PySem.Spec L2 PyProof.Rows
/-! ### what is owned: a list of assertions, each over a part of the heap of its own; tuples are never changed, and shared -/
def TLe (T T' : Hp) : Prop := ∀ a xs, T a = some (.tup xs) → T' a = some (.tup xs)
def HLe (h h' : Hp) : Prop := ∀ a o, h a = some o → h' a = some o
def Dj (h1 h2 : Hp) : Prop := ∀ a, h1 a = none ∨ h2 a = none
theorem TLe.rfl {T : Hp} : TLe T T := fun _ _ h => h
theorem TLe.trans {a b c : Hp} (x : TLe a b) (y : TLe b c) : TLe a c := fun p xs h => y p xs (x p xs h)
theorem HLe.rfl {T : Hp} : HLe T T := fun _ _ h => h
theorem HLe.trans {a b c : Hp} (x : HLe a b) (y : HLe b c) : HLe a c := fun p o h => y p o (x p o h)
theorem Dj.symm {a b : Hp} (d : Dj a b) : Dj b a := fun x => (d x).symm
theorem Dj.mono {a b a' b' : Hp} (d : Dj a b) (ha : HLe a' a) (hb : HLe b' b) : Dj a' b' := fun x => by
  rcases d x with h | h
  · left
    cases e : a' x with
    | none => exact Eq.refl _
    | some o => rw [ha x o e] at h; cases h
  · right
    cases e : b' x with
    | none => exact Eq.refl _
    | some o => rw [hb x o e] at h; cases h
structure Asn where
  P : Hp → Hp → Prop
  mono : ∀ {T T' h h' : Hp}, TLe T T' → HLe h h' → P T h → P T' h'
def SLs (T : Hp) : Hp → List Asn → Prop
  | _, [] => True
  | h, A :: L => ∃ h1 h2, Dj h1 h2 ∧ HLe h1 h ∧ HLe h2 h ∧ A.P T h1 ∧ SLs T h2 L
theorem SLs.mono {T T' : Hp} (ht : TLe T T') : ∀ {L : List Asn} {h h' : Hp}, HLe h h' → SLs T h L → SLs T' h' L
  | [], _, _, _, _ => trivial
  | A :: L, h, h', hh, ⟨h1, h2, d, l1, l2, a, s⟩ => ⟨h1, h2, d, l1.trans hh, l2.trans hh, A.mono ht HLe.rfl a, SLs.mono ht HLe.rfl s⟩
structure Own (H : Hp) (L : List Asn) : Prop where
  s : SLs H H L
/-- A, replaced by B -/
inductive Rp (A B : Asn) : List Asn → List Asn → Prop
  | here {L : List Asn} : Rp A B (A :: L) (B :: L)
  | there {D : Asn} {L L' : List Asn} (h : Rp A B L L') : Rp A B (D :: L) (D :: L')
/-- A, taken out -/
inductive Rm (A : Asn) : List Asn → List Asn → Prop
  | here {L : List Asn} : Rm A (A :: L) L
  | there {D : Asn} {L L' : List Asn} (h : Rm A L L') : Rm A (D :: L) (D :: L')
def cj (L : List Asn) : Asn := ⟨fun T h => SLs T h L, fun ht hh s => SLs.mono ht hh s⟩
def ex {α : Type} (F : α → Asn) : Asn := ⟨fun T h => ∃ x, (F x).P T h, fun ht hh ⟨x, s⟩ => ⟨x, (F x).mono ht hh s⟩⟩
def pr (φ : Prop) : Asn := ⟨fun _ _ => φ, fun _ _ s => s⟩
/-- the object at a -/
def pt (a : Addr) (o : HO) : Asn := ⟨fun _ h => h a = some o, fun _ hh s => hh _ _ s⟩
/-- a tuple -/
def tp (a : Addr) (xs : List V) : Asn := ⟨fun T _ => T a = some (.tup xs), fun ht _ s => ht _ _ s⟩
mutual
/-- plain things without lists -/
inductive Dt (T : Hp) : V → PyData → Prop
  | non : Dt T .non .none
  | bl (b : Bool) : Dt T (.bl b) (.bool b)
  | int (i : Int) : Dt T (.int i) (.int i)
  | str (x : Str) : Dt T (.str x) (.str x)
  | tup {a : Addr} {xs : List V} {ds : List PyData} : T a = some (.tup xs) → DtAll T xs ds → Dt T (.ref a) (.tuple ds)
inductive DtAll (T : Hp) : List V → List PyData → Prop
  | nil : DtAll T [] []
  | cons {v : V} {vs : List V} {d : PyData} {ds : List PyData} : Dt T v d → DtAll T vs ds → DtAll T (v :: vs) (d :: ds)
end
mutual
theorem Dt.mono {T T' : Hp} (ht : TLe T T') : ∀ {d : PyData} {v : V}, Dt T v d → Dt T' v d
  | .none, _, h => by cases h; exact .non
  | .bool b, _, h => by cases h; exact .bl b
  | .int i, _, h => by cases h; exact .int i
  | .str x, _, h => by cases h; exact .str x
  | .list _, _, h => by cases h
  | .dict _, _, h => by cases h
  | .tuple ds, _, h => by
    cases h with
    | tup h1 h2 => exact .tup (ht _ _ h1) (DtAll.mono ht h2)
theorem DtAll.mono {T T' : Hp} (ht : TLe T T') : ∀ {ds : List PyData} {vs : List V}, DtAll T vs ds → DtAll T' vs ds
  | [], _, h => by cases h; exact .nil
  | d :: ds, _, h => by
    cases h with
    | cons h1 h2 => exact .cons (Dt.mono ht h1) (DtAll.mono ht h2)
end
mutual
theorem Dt.dp {K : PySem.W.Frag} {T : Hp} : ∀ {d : PyData} {v : V}, Dt T v d → Dp K T v d
  | .none, _, h => by cases h; exact .non
  | .bool b, _, h => by cases h; exact .bl b
  | .int i, _, h => by cases h; exact .int i
  | .str x, _, h => by cases h; exact .str x
  | .list _, _, h => by cases h
  | .dict _, _, h => by cases h
  | .tuple ds, _, h => by
    cases h with
    | tup h1 h2 => exact .tup (SqT.of h1) (DtAll.dp h2)
theorem DtAll.dp {K : PySem.W.Frag} {T : Hp} : ∀ {ds : List PyData} {vs : List V}, DtAll T vs ds → DpAll K T vs ds
  | [], _, h => by cases h; exact .nil
  | d :: ds, _, h => by
    cases h with
    | cons h1 h2 => exact .cons (Dt.dp h1) (DtAll.dp h2)
end
/-- a plain thing, several -/
def dt (v : V) (d : PyData) : Asn := ⟨fun T _ => Dt T v d, fun ht _ s => s.mono ht⟩
def dts (vs : List V) (ds : List PyData) : Asn := ⟨fun T _ => DtAll T vs ds, fun ht _ s => s.mono ht⟩
section
variable {H : Hp} {A B : Asn} {L L' L1 : List Asn} {a p : Addr} {o o' : HO} {xs : List V} {T h : Hp}
theorem SLs.get (m : A ∈ L) (s : SLs T h L) : A.P T h := by
  induction L generalizing h with
  | nil => cases m
  | cons D L ih =>
    obtain ⟨h1, h2, d, l1, l2, b, s⟩ := s
    rcases List.mem_cons.mp m with rfl | m
    · exact A.mono TLe.rfl l1 b
    · exact A.mono TLe.rfl l2 (ih m s)
theorem Own.get (x : Own H L) (m : A ∈ L) : A.P H H := x.s.get m
theorem SLs.swap (s : SLs T h (A :: B :: L)) : SLs T h (B :: A :: L) := by
  obtain ⟨h1, h2, d, l1, l2, a, h3, h4, d', l3, l4, b, s⟩ := s
  refine ⟨h3, fun x => if (h1 x).isSome then h1 x else h4 x, fun x => ?_, l3.trans l2, fun x u e => ?_, b, h1, h4, (d.mono HLe.rfl l4), fun x u e => ?_, fun x u e => ?_, a, s⟩
  · rcases d x with e | e
    · rcases d' x with e' | e'
      · exact .inl e'
      · right; simp [e, e']
    · left
      cases q : h3 x with
      | none => rfl
      | some u => rw [l3 x u q] at e; cases e
  · (try dsimp only at e)
    split at e
    · exact l1 x u e
    · exact l2 x u (l4 x u e)
  · (try dsimp only); rw [e]; rfl
  · (try dsimp only)
    rcases d x with q | q
    · rw [q]; simpa using e
    · rw [l4 x u e] at q; cases q
theorem SLs.front (r : Rm A L L') (s : SLs T h L) : SLs T h (A :: L') := by
  induction r generalizing h with
  | here => exact s
  | there r ih =>
    obtain ⟨h1, h2, d, l1, l2, a, s⟩ := s
    exact SLs.swap ⟨h1, h2, d, l1, l2, a, ih s⟩
theorem SLs.back (r : Rm A L L') (s : SLs T h (A :: L')) : SLs T h L := by
  induction r generalizing h with
  | here => exact s
  | there r ih =>
    obtain ⟨h1, h2, d, l1, l2, a, s⟩ := SLs.swap s
    exact ⟨h1, h2, d, l1, l2, a, ih s⟩
theorem Own.front (r : Rm A L L') (x : Own H L) : Own H (A :: L') := ⟨x.s.front r⟩
theorem Own.back (r : Rm A L L') (x : Own H (A :: L')) : Own H L := ⟨x.s.back r⟩
theorem SLs.drop (s : SLs T h (A :: L)) : SLs T h L := by
  obtain ⟨h1, h2, d, l1, l2, a, s⟩ := s
  exact SLs.mono TLe.rfl l2 s
theorem Own.drop (x : Own H (A :: L)) : Own H L := ⟨x.s.drop⟩
/-- what is not owned by anyone may be said besides -/
theorem Own.add (x : Own H L) (a : A.P H (fun _ => none)) : Own H (A :: L) := ⟨⟨_, H, fun _ => .inl rfl, fun _ _ e => (by cases e), HLe.rfl, a, x.s⟩⟩
theorem Own.addT (x : Own H L) (e : H a = some (.tup xs)) : Own H (tp a xs :: L) := x.add e
theorem Own.addD {v : V} {d : PyData} (x : Own H L) (e : Dt H v d) : Own H (dt v d :: L) := x.add e
theorem Own.addP {φ : Prop} (x : Own H L) (e : φ) : Own H (pr φ :: L) := x.add e
theorem Own.tle {H' : Hp} (x : Own H L) (t : TLe H H') (l : HLe H H') : Own H' L := ⟨x.s.mono t l⟩
theorem tle_new (hp : H p = none) : TLe H (upd H p o) := fun b ys e => by rw [upd_ne (ne_of_none e hp)]; exact e
theorem hle_new (hp : H p = none) : HLe H (upd H p o) := fun b u e => by rw [upd_ne (ne_of_none e hp)]; exact e
/-- a new object -/
theorem Own.new (x : Own H L) (hp : H p = none) : Own (upd H p o) (pt p o :: L) := by
  refine ⟨⟨upd (fun _ => none) p o, H, fun b => ?_, fun b u e => ?_, hle_new hp, upd_same, SLs.mono (tle_new hp) HLe.rfl x.s⟩⟩
  · by_cases e : b = p
    · right; rw [e]; exact hp
    · left; rw [upd_ne e]
  · by_cases q : b = p
    · rw [q, upd_same] at e; cases e; rw [q]; exact upd_same
    · rw [upd_ne q] at e; cases e
theorem Own.newT (x : Own H L) (hp : H p = none) : Own (upd H p (.tup xs)) (tp p xs :: L) := (x.tle (tle_new hp) (hle_new hp)).addT upd_same
/-- what is owned is changed -/
theorem Own.wr (x : Own H L) (r : Rp (pt a o) (pt a o') L L') (nt : ∀ ys, o ≠ .tup ys) : Own (upd H a o') L' := by
  have tl : H a = some o → TLe H (upd H a o') := fun q b ys e => by
    have ne : b ≠ a := fun z => by subst z; rw [e] at q; cases q; exact nt _ rfl
    rw [upd_ne ne]; exact e
  have key : ∀ {h : Hp} {L L' : List Asn}, HLe h H → Rp (pt a o) (pt a o') L L' → SLs H h L → H a = some o ∧ SLs (upd H a o') (upd h a o') L' := by
    intro h L L' hl r s
    induction r generalizing h with
    | @here L =>
      obtain ⟨h1, h2, d, l1, l2, b, s⟩ := s
      have q : h1 a = some o := b
      have qa : H a = some o := hl _ _ (l1 _ _ q)
      have n2 : h2 a = none := (d a).resolve_left (by rw [q]; simp)
      refine ⟨qa, upd (fun _ => none) a o', h2, fun b => ?_, fun b u e => ?_, fun b u e => ?_, upd_same, SLs.mono (tl qa) HLe.rfl s⟩
      · by_cases e : b = a
        · right; rw [e]; exact n2
        · left; rw [upd_ne e]
      · by_cases z : b = a
        · rw [z, upd_same] at e; cases e; rw [z]; exact upd_same
        · rw [upd_ne z] at e; cases e
      · rw [upd_ne (ne_of_none e n2)]; exact l2 b u e
    | @there D L L' r ih =>
      obtain ⟨h1, h2, d, l1, l2, b, s⟩ := s
      obtain ⟨qa, s'⟩ := ih (l2.trans hl) s
      have h2a : h2 a = some o := by
        have : ∀ {h : Hp} {L L' : List Asn}, Rp (pt a o) (pt a o') L L' → SLs H h L → h a = some o := by
          intro h L L' r s
          induction r generalizing h with
          | here => exact s.get List.mem_cons_self
          | there r ih2 =>
            obtain ⟨g1, g2, _, _, l2, _, s⟩ := s
            exact l2 _ _ (ih2 s)
        exact this r s
      have n1 : h1 a = none := (d a).resolve_right (by rw [h2a]; simp)
      refine ⟨qa, h1, upd h2 a o', fun c => ?_, fun c u e => ?_, fun c u e => ?_, D.mono (tl qa) HLe.rfl b, s'⟩
      · by_cases z : c = a
        · left; rw [z]; exact n1
        · rw [upd_ne z]; exact d c
      · rw [upd_ne (ne_of_none e n1)]; exact l1 c u e
      · by_cases z : c = a
        · rw [z, upd_same] at e; cases e; rw [z]; exact upd_same
        · rw [upd_ne z] at e; rw [upd_ne z]; exact l2 c u e
  exact ⟨(key HLe.rfl r x.s).2⟩
theorem SLs.cjI : ∀ {L1 : List Asn} {h : Hp}, SLs T h (cj L1 :: L) → SLs T h (L1 ++ L)
  | [], h, s => s.drop
  | A :: L1, h, s => by
    obtain ⟨h1, h2, d, l1, l2, ⟨h3, h4, d', l3, l4, a, s1⟩, s⟩ := s
    have r : SLs T (fun x => if (h4 x).isSome then h4 x else h2 x) (cj L1 :: L) := by
      refine ⟨h4, h2, d.mono l4 HLe.rfl, fun x u e => ?_, fun x u e => ?_, s1, s⟩
      · (try dsimp only); rw [e]; rfl
      · (try dsimp only)
        rcases d x with q | q
        · have : h4 x = none := by
            cases z : h4 x with
            | none => rfl
            | some v => rw [l4 x v z] at q; cases q
          rw [this]; simpa using e
        · rw [q] at e; cases e
    refine ⟨h3, _, fun x => ?_, l3.trans l1, fun x u e => ?_, a, SLs.cjI r⟩
    · (try dsimp only)
      rcases d' x with q | q
      · exact .inl q
      · rcases d x with q' | q'
        · left
          cases z : h3 x with
          | none => rfl
          | some v => rw [l3 x v z] at q'; cases q'
        · right; rw [q, q']; rfl
    · (try dsimp only at e)
      split at e
      · exact l1 x u (l4 x u e)
      · exact l2 x u e
theorem SLs.cjE : ∀ {L1 : List Asn} {h : Hp}, SLs T h (L1 ++ L) → SLs T h (cj L1 :: L)
  | [], h, s => ⟨fun _ => none, h, fun _ => .inl rfl, fun _ _ e => (by cases e), HLe.rfl, trivial, s⟩
  | A :: L1, h, s => by
    obtain ⟨h1, h2, d, l1, l2, a, s⟩ := s
    obtain ⟨h3, h4, d', l3, l4, s1, s2⟩ := SLs.cjE (L1 := L1) s
    refine ⟨fun x => if (h1 x).isSome then h1 x else h3 x, h4, fun x => ?_, fun x u e => ?_, l4.trans l2, ⟨h1, h3, d.mono HLe.rfl l3, fun x u e => ?_, fun x u e => ?_, a, s1⟩, s2⟩
    · (try dsimp only)
      rcases d' x with q | q
      · rcases d x with q' | q'
        · left; rw [q, q']; rfl
        · right
          cases z : h4 x with
          | none => rfl
          | some v => rw [l4 x v z] at q'; cases q'
      · exact .inr q
    · (try dsimp only at e)
      split at e
      · exact l1 x u e
      · exact l2 x u (l3 x u e)
    · (try dsimp only); rw [e]; rfl
    · (try dsimp only)
      rcases d x with q | q
      · rw [q]; simpa using e
      · rw [l3 x u e] at q; cases q
theorem Own.cjI (x : Own H (cj L1 :: L)) : Own H (L1 ++ L) := ⟨x.s.cjI⟩
theorem Own.cjE (x : Own H (L1 ++ L)) : Own H (cj L1 :: L) := ⟨x.s.cjE⟩
theorem Own.exI {α : Type} {F : α → Asn} (x : Own H (ex F :: L)) : ∃ z, Own H (F z :: L) := by
  obtain ⟨h1, h2, d, l1, l2, ⟨z, a⟩, s⟩ := x.s
  exact ⟨z, ⟨⟨h1, h2, d, l1, l2, a, s⟩⟩⟩
theorem Own.exE {α : Type} {F : α → Asn} (z : α) (x : Own H (F z :: L)) : Own H (ex F :: L) := by
  obtain ⟨h1, h2, d, l1, l2, a, s⟩ := x.s
  exact ⟨⟨h1, h2, d, l1, l2, ⟨z, a⟩, s⟩⟩
theorem Own.prI {φ : Prop} (x : Own H (pr φ :: L)) : φ ∧ Own H L := ⟨x.get (A := pr φ) List.mem_cons_self, x.drop⟩
theorem Own.pt (x : Own H L) (m : pt a o ∈ L) : H a = some o := x.get (A := Sh.pt a o) m
theorem Own.tp (x : Own H L) (m : tp a xs ∈ L) : H a = some (.tup xs) := x.get (A := Sh.tp a xs) m
theorem Own.dt {v : V} {d : PyData} (x : Own H L) (m : dt v d ∈ L) : Dt H v d := x.get (A := Sh.dt v d) m
theorem Own.dts {vs : List V} {ds : List PyData} (x : Own H L) (m : dts vs ds ∈ L) : DtAll H vs ds := x.get (A := Sh.dts vs ds) m
theorem Own.nil (H : Hp) : Own H [] := ⟨trivial⟩
/-- of two lists, in any order -/
theorem Own.perm (x : Own H L) (q : L.Perm L') : Own H L' := by
  have : ∀ {L L' : List Asn}, L.Perm L' → ∀ {h : Hp}, SLs H h L → SLs H h L' := by
    intro L L' q
    induction q with
    | nil => exact fun s => s
    | cons A _ ih => exact fun ⟨h1, h2, d, l1, l2, a, s⟩ => ⟨h1, h2, d, l1, l2, a, ih s⟩
    | swap A B _ => exact fun s => s.swap
    | trans _ _ i1 i2 => exact fun s => i2 (i1 s)
  exact ⟨this q x.s⟩
end
end Sh
namespace Sh
open PySem PySem.Spec L2 PyProof.Rows
section
variable {X : Cx} {a b c e o : Expr} {es rest : List Expr} {σ : St} {H : Hp} {Q : VK} {D : Ends} {pos apos p1 p2 : Pos} {v x y : V} {i j : Int} {n : Nat} {p l : Addr} {xs ys : List V} {L L' : List Asn} {f : Str} {C dx : Addr} {fs : List (Str × V)}
theorem sz {k : Nat} (h : k ≤ 10000000) : k ≤ sizeLine := by rw [sizeLine_eq]; omega
theorem szl {k : Nat} (h : k < 10000000) : k < sizeLine := by rw [sizeLine_eq]; omega
/-! reading -/
theorem fld_ok {K : PySem.W.Frag} {R : V → Prop} (h : H p = some (.ins C dx fs)) (c : Cls K C) (nn : NoAttr K C f) (l : fs.lookup f = some v) (q : R v) :
    ∃ a C' dx' fs' v', V.ref p = .ref a ∧ H a = some (.ins C' dx' fs') ∧ Cls K C' ∧ NoAttr K C' f ∧ fs'.lookup f = some v' ∧ R v' := ⟨p, C, dx, fs, v, rfl, h, c, nn, l, q⟩
theorem o_lenL (h : Own H L) (m : pt p (.lst xs) ∈ L) (q : Q (.int xs.length) H) : Wcall X (.builtin "len") [.ref p] H Q := wc_lenL (SqL.of (h.pt m)) q
theorem o_lenT (h : Own H L) (m : tp p xs ∈ L) (q : Q (.int xs.length) H) : Wcall X (.builtin "len") [.ref p] H Q := wc_lenT (SqT.of (h.tp m)) q
theorem o_lenD {kvs : List (Key × V)} (h : Own H L) (m : pt p (.dK kvs) ∈ L) (q : Q (.int kvs.length) H) : Wcall X (.builtin "len") [.ref p] H Q := of_cr call_lenD ⟨p, kvs, rfl, h.pt m, q⟩
theorem o_subL (h : Own H L) (m : pt p (.lst xs) ∈ L) (hv : atI xs i = some v) (q : Q v H) : Wsub X (.ref p) (.int i) H Q := ws_list (SqL.of (h.pt m)) hv q
theorem o_subT (h : Own H L) (m : tp p xs ∈ L) (hv : atI xs i = some v) (q : Q v H) : Wsub X (.ref p) (.int i) H Q := ws_tup (SqT.of (h.tp m)) hv q
theorem o_subD {kvs : List (Key × V)} {k : Key} (hu : X.A.units + 1 < cLine) (h : Own H L) (m : pt p (.dK kvs) ∈ L) (hv : valV kvs k = some v) (q : Q v H) : Wsub X (.ref p) (kV k) H Q :=
  ws_dict hu (hv ▸ DGet.k (h.pt m)) q
theorem o_subDT {kvs : List (List Key × V)} {k : List Key} {t : Addr} (hu : X.A.units + 1 < cLine) (h : Own H L) (m : pt p (.dT kvs) ∈ L) (m2 : H t = some (.tup (k.map kV))) (hv : valV kvs k = some v) (q : Q v H) : Wsub X (.ref p) (.ref t) H Q :=
  ws_dict hu (hv ▸ DGet.t (h.pt m) m2) q
/-- x in d, x not in d -/
theorem DGet.dict {o : Option V} {pins : List (Addr × Obj)} {s : Shared} (I : Inv X pins σ H s) (g : DGet H p y o) : True := trivial
theorem wop_in (hu : X.A.units + 1 < cLine) {r : Option V} (g : DGet H p y r) (q : Q (.bl r.isSome) H) : Wop X (compareOp .In) y (.ref p) H Q := by
  refine ⟨fun pins s σ u v I ru rv => ?_⟩
  cases (show v = Value.ref p from rv)
  exact d_in hu I g ru fun s3 I3 => ⟨.bl _, H, I3, rfl, q⟩
theorem wop_nin (hu : X.A.units + 1 < cLine) {r : Option V} (g : DGet H p y r) (q : Q (.bl (!r.isSome)) H) : Wop X (compareOp .NotIn) y (.ref p) H Q := by
  refine ⟨fun pins s σ u v I ru rv => ?_⟩
  cases (show v = Value.ref p from rv)
  exact d_notIn hu I g ru fun s3 I3 => ⟨.bl _, H, I3, rfl, q⟩
theorem isL_ok {K : PySem.W.Frag} {R : Prop} (h : Own H L) (m : pt p (.lst xs) ∈ L) (q : R) : (∃ xs, SqL K H p xs) ∧ R := ⟨⟨_, SqL.of (h.pt m)⟩, q⟩
theorem isD_ok {kvs : List (Key × V)} {R : Prop} (h : Own H L) (m : pt p (.dK kvs) ∈ L) (q : R) : IsD H p ∧ R := ⟨.inl ⟨kvs, .inl (h.pt m)⟩, q⟩
/-! new objects, changes -/
theorem Own.newE {H' : Hp} {o : HO} (h : Own H L) (hp : H p = none) (e : H' = upd H p o) : Own H' (Sh.pt p o :: L) := e ▸ h.new hp
theorem Own.newTE {H' : Hp} (h : Own H L) (hp : H p = none) (e : H' = upd H p (.tup xs)) : Own H' (Sh.tp p xs :: L) := e ▸ h.newT hp
theorem Own.wrE {H' : Hp} {o o' : HO} (h : Own H L) (e : H' = upd H p o') (m : Sh.pt p o ∈ L) (nt : ∀ ys, o ≠ .tup ys) (r : Rp (Sh.pt p o) (Sh.pt p o') L L') : Own H' L' := e ▸ h.wr r nt
/-- some of what is owned, in an order that is asked, ahead of the rest -/
inductive Pk : List Asn → List Asn → List Asn → Prop
  | nil {L : List Asn} : Pk [] L L
  | cons {A : Asn} {As L L1 R : List Asn} (r : Rm A L L1) (k : Pk As L1 R) : Pk (A :: As) L R
theorem Own.pick {As L R : List Asn} (k : Pk As L R) (x : Own H L) : Own H (As ++ R) := by
  have key : ∀ {As L R : List Asn}, Pk As L R → ∀ {h : Hp}, SLs H h L → SLs H h (As ++ R) := by
    intro As L R k
    induction k with
    | nil => exact fun s => s
    | cons r k ih =>
      intro h s
      obtain ⟨h1, h2, d, l1, l2, a, s⟩ := s.front r
      exact ⟨h1, h2, d, l1, l2, a, ih s⟩
  exact ⟨key k x.s⟩
/-- the same, in another order -/
inductive Pq : List Asn → List Asn → Prop
  | refl {L : List Asn} : Pq L L
  | cons {A : Asn} {G L L1 : List Asn} (r : Rm A L L1) (k : Pq G L1) : Pq (A :: G) L
theorem Own.pq {G L : List Asn} (k : Pq G L) (x : Own H L) : Own H G := by
  have key : ∀ {G L : List Asn}, Pq G L → ∀ {h : Hp}, SLs H h L → SLs H h G := by
    intro G L k
    induction k with
    | refl => exact fun s => s
    | cons r k ih =>
      intro h s
      obtain ⟨h1, h2, d, l1, l2, a, s⟩ := s.front r
      exact ⟨h1, h2, d, l1, l2, a, ih s⟩
  exact ⟨key k x.s⟩
/-- some of what is owned, the rest forgotten -/
inductive Sb : List Asn → List Asn → Prop
  | refl {L : List Asn} : Sb L L
  | nil {L : List Asn} : Sb [] L
  | cons {A : Asn} {G L L1 : List Asn} (r : Rm A L L1) (k : Sb G L1) : Sb (A :: G) L
  | skip {D : Asn} {G L : List Asn} (k : Sb G L) : Sb G (D :: L)
theorem Own.sub {G L : List Asn} (k : Sb G L) (x : Own H L) : Own H G := by
  have key : ∀ {G L : List Asn}, Sb G L → ∀ {h : Hp}, SLs H h L → SLs H h G := by
    intro G L k
    induction k with
    | refl => exact fun s => s
    | nil => exact fun _ => trivial
    | cons r k ih =>
      intro h s
      obtain ⟨h1, h2, d, l1, l2, a, s⟩ := s.front r
      exact ⟨h1, h2, d, l1, l2, a, ih s⟩
    | skip k ih => exact fun s => ih s.drop
  exact ⟨key k x.s⟩
theorem ntL {xs : List V} : ∀ ys, HO.lst xs ≠ .tup ys := fun _ e => by cases e
theorem ntK {xs : List (Key × V)} : ∀ ys, HO.dK xs ≠ .tup ys := fun _ e => by cases e
theorem ntT {xs : List (List Key × V)} : ∀ ys, HO.dT xs ≠ .tup ys := fun _ e => by cases e
theorem ntI : ∀ ys, HO.ins C dx fs ≠ .tup ys := fun _ e => by cases e
/-! changes -/
theorem ws_fldO (h : Own H L) {fs' : List (Str × V)} (c : Cls X.K C) (nn : NoAttr X.K C f) (m : pt p (.ins C dx fs) ∈ L) (hl : fs.length < 1000) (ef : putF f y fs = fs')
    (r : Rp (pt p (.ins C dx fs)) (pt p (.ins C dx fs')) L L') (q : ∀ H', Own H' L' → D.nx σ H') :
    ∃ a C'' dx' gs, V.ref p = .ref a ∧ H a = some (.ins C'' dx' gs) ∧ Cls X.K C'' ∧ NoAttr X.K C'' f ∧ gs.length < 1000 ∧ D.nx σ (upd H a (.ins C'' dx' (putF f y gs))) := by
  subst ef
  exact ⟨p, C, dx, fs, rfl, h.pt m, c, nn, hl, q _ (h.wr r ntI)⟩
theorem we_append (q : We X o σ H fun x H1 => ∃ l, x = .ref l ∧ (∃ xs, SqL X.K H1 l xs) ∧ We X e σ H1 fun y H2 => ∃ xs, H2 l = some (.lst xs) ∧ xs.length < sizeLine ∧ ∀ H3, H3 = upd H2 l (.lst (xs ++ [y])) → Q .non H3)
    (hbase : attributeBase o "append" X.env (eval o X.env) = eval o X.env := by rfl)
    (hfew : ((backTo pos (starEach [e] X.env)).all (fun w => !w.1) && (backToKw pos (keywordEach [] X.env)).all (fun w => w.1.isSome)
      && decide (([e] : List Expr).length + ([] : List Keyword).length + (if ([] : List Keyword).isEmpty then 0 else 1) < 30)) = true := by rfl)
    (hline : (apos.endLine == pos.line) = true := by rfl) (hs : starEach [e] X.env = (false, eval e X.env) :: starEach [] X.env := by rfl) : We X (.Call (.Attribute o "append" apos) [e] [] pos) σ H Q :=
  we_bm PySem.F.plainAttrs_list PySem.F.slot_list_append PySem.F.type_list_append mt_append (we_imp q fun x H1 ⟨l, ex, hx, q1⟩ => ex ▸ ⟨.inl ⟨rfl, hx⟩,
    wa_cons (we_imp q1 fun y H2 ⟨ys, h1, h2, h3⟩ => wa_nil ⟨l, ys, y, rfl, rfl, h1, h2, h3 _ rfl⟩) hs⟩) hbase hfew hline hs rfl
/-- xs.pop(i) -/
theorem we_popAt (q : We X o σ H fun x H1 => ∃ l, x = .ref l ∧ (∃ xs, SqL X.K H1 l xs) ∧ We X e σ H1 fun y H2 => ∃ i xs k z, y = .int i ∧ H2 l = some (.lst xs) ∧ -(2 ^ 63) ≤ i ∧ i < 2 ^ 63 ∧ seqIndex? i xs.length = some k ∧ xs[k]? = some z ∧
      ∀ H3, H3 = upd H2 l (.lst (xs.eraseIdx k)) → Q z H3)
    (hbase : attributeBase o "pop" X.env (eval o X.env) = eval o X.env := by rfl)
    (hfew : ((backTo pos (starEach [e] X.env)).all (fun w => !w.1) && (backToKw pos (keywordEach [] X.env)).all (fun w => w.1.isSome)
      && decide (([e] : List Expr).length + ([] : List Keyword).length + (if ([] : List Keyword).isEmpty then 0 else 1) < 30)) = true := by rfl)
    (hline : (apos.endLine == pos.line) = true := by rfl) (hs : starEach [e] X.env = (false, eval e X.env) :: starEach [] X.env := by rfl) : We X (.Call (.Attribute o "pop" apos) [e] [] pos) σ H Q :=
  we_bm PySem.F.plainAttrs_list PySem.F.slot_list_pop PySem.F.type_list_pop mt_popAt (we_imp q fun x H1 ⟨l, ex, hx, q1⟩ => ex ▸ ⟨.inl ⟨rfl, hx⟩,
    wa_cons (we_imp q1 fun y H2 ⟨i, ys, k, z, ey, h1, h2, h3, h4, h5, h6⟩ => wa_nil (ey ▸ ⟨l, ys, i, k, z, rfl, rfl, h1, h2, h3, h4, h5, h6 _ rfl⟩)) hs⟩) hbase hfew hline hs rfl
/-- d.pop(k), the key is there -/
theorem we_dpop (q : We X o σ H fun x H1 => ∃ a, x = .ref a ∧ IsD H1 a ∧ We X e σ H1 fun y H2 => ∃ kvs k v, H2 a = some (.dK kvs) ∧ y = kV k ∧ valV kvs k = some v ∧ ∀ H3, H3 = upd H2 a (.dK (dropK kvs k)) → Q v H3)
    (m : M1 X o "pop" apos e pos) : We X (.Call (.Attribute o "pop" apos) [e] [] pos) σ H Q :=
  of_pe (pe_dpop1 We.pe We.pe m) (we_imp q fun x H1 ⟨a, ex, hx, q1⟩ => ⟨a, ex, hx, we_imp q1 fun y H2 ⟨kvs, k, v, h1, h2, h3, h4⟩ => ⟨kvs, k, v, h1, h2, h3, h4 _ rfl⟩⟩)
theorem own_set {QH : Hp → Prop} {k : Nat} (h : Own H L) (m : pt p (.lst xs) ∈ L) (r : Rp (pt p (.lst xs)) (pt p (.lst (xs.set k v))) L L') (hk : ixN xs.length i = some k) (q : ∀ H', Own H' L' → QH H') :
    rSetL (.ref p) (.int i) v H QH := ⟨p, xs, i, k, rfl, rfl, h.pt m, hk, q _ (h.wr r ntL)⟩
theorem own_dput {kvs : List (Key × V)} {k : Key} (h : Own H L) (m : pt p (.dK kvs) ∈ L) (r : Rp (pt p (.dK kvs)) (pt p (.dK (putK kvs k v))) L L') (hs : kvs.length < sizeLine) (q : ∀ H', Own H' L' → D.nx σ H') :
    ∃ d H4, V.ref p = .ref d ∧ DPut H d (kV k) v H4 ∧ D.nx σ H4 := ⟨p, _, rfl, DPut.k (h.pt m) hs, q _ (h.wr r ntK)⟩
theorem own_dputT {kvs : List (List Key × V)} {k : List Key} {t : Addr} (h : Own H L) (m : pt p (.dT kvs) ∈ L) (r : Rp (pt p (.dT kvs)) (pt p (.dT (putK kvs k v))) L L') (ht : H t = some (.tup (k.map kV))) (hs : kvs.length < sizeLine) (q : ∀ H', Own H' L' → D.nx σ H') :
    ∃ d H4, V.ref p = .ref d ∧ DPut H d (.ref t) v H4 ∧ D.nx σ H4 := ⟨p, _, rfl, DPut.t (h.pt m) ht hs, q _ (h.wr r ntT)⟩
end
end Sh
namespace Sh
open PySem PySem.Spec L2 PyProof.Rows
/-! ### settings -/
def isWhole : PyData → Int → Int → Bool
  | .int i, lo, hi => decide (lo ≤ i) && decide (i ≤ hi)
  | _, _, _ => false
def isOne (a b : Str) : PyData → Bool
  | .str s => decide (s = a) || decide (s = b)
  | _ => false
def areSettings : PyData → Bool
  | .tuple [a, b, c, d] => isWhole a 1 60 && isWhole b 1 1000 && isOne "first" "last" c && isOne "worn" "round" d
  | _ => false
def isHandle (n r : Int) : PyData → Bool
  | .tuple [a, b] => isWhole a 0 (n - 1) && isWhole b 0 (r - 1)
  | _ => false
def spIsWhole (K : PySem.W.Frag) : Sp := fun vs H Q _ => ∃ (v : V) (d : PyData) (lo hi : Int), vs = [v, .int lo, .int hi] ∧ Dp K H v d ∧ Q (.bl (isWhole d lo hi)) H
def spAreSettings (K : PySem.W.Frag) : Sp := fun vs H Q _ => ∃ (v : V) (d : PyData), vs = [v] ∧ Dp K H v d ∧ Q (.bl (areSettings d)) H
def spChecked (K : PySem.W.Frag) (C : Cl) : Sp := fun vs H Q E => ∃ (v : V) (d : PyData), vs = [v] ∧ Dp K H v d ∧ (areSettings d = true → Q v H) ∧ (areSettings d = false → E (.ref C.NoSettings) none H)
def spNeedWorth (K : PySem.W.Frag) (C : Cl) : Sp := fun vs H Q E => ∃ (v : V) (d : PyData), vs = [v] ∧ Dp K H v d ∧ (isWhole d 0 9999 = true → Q .non H) ∧ (isWhole d 0 9999 = false → E (.ref C.NoWorth) none H)
/-- at least two things in a tuple, the first two are ints -/
def SetsAt (K : PySem.W.Frag) (H : Hp) (p : V) (n r : Int) : Prop := ∃ (a : Addr) (c d : V), p = .ref a ∧ SqT K H a [.int n, .int r, c, d]
def spIsHandle (K : PySem.W.Frag) : Sp := fun vs H Q _ => ∃ (s v : V) (n r : Int) (d : PyData), vs = [s, v] ∧ SetsAt K H s n r ∧ Dp K H v d ∧ Q (.bl (isHandle n r d)) H
def spNeedHandle (K : PySem.W.Frag) (C : Cl) : Sp := fun vs H Q E => ∃ (s v : V) (n r : Int) (d : PyData), vs = [s, v] ∧ SetsAt K H s n r ∧ Dp K H v d ∧
  (isHandle n r d = true → Q .non H) ∧ (isHandle n r d = false → E (.ref C.NoHandle) none H)
theorem ite_b {A B : Prop} {k : Bool} (h1 : k = true → A) (h2 : k = false → B) : if k = true then A else B := by
  cases k
  · rw [if_neg Bool.false_ne_true]; exact h2 rfl
  · rw [if_pos rfl]; exact h1 rfl
theorem ite_t {A B : Prop} {k : Bool} (e : k = true) (h : A) : if k = true then A else B := by rw [if_pos e]; exact h
theorem ite_f {A B : Prop} {k : Bool} (e : k = false) (h : B) : if k = true then A else B := by rw [e, if_neg Bool.false_ne_true]; exact h
section
variable {K : PySem.W.Frag}
theorem Dp.tupI {H : Hp} {v : V} {ds : List PyData} (h : Dp K H v (.tuple ds)) : ∃ a xs, v = .ref a ∧ SqT K H a xs ∧ DpAll K H xs ds := by
  cases h with
  | tup h1 h2 => exact ⟨_, _, rfl, h1, h2⟩
theorem DpAll.len {H : Hp} : ∀ {xs : List V} {ds : List PyData}, DpAll K H xs ds → xs.length = ds.length
  | _, _, .nil => rfl
  | _, _, .cons _ t => by rw [List.length_cons, List.length_cons, DpAll.len t]
theorem inV2 (x : V) (a b : V) : inV x [a, b] = (eqV a x || eqV b x) := by simp [inV]
theorem eqV_str (a b : Str) : eqV (.str a) (.str b) = decide (b = a) := by
  show decide (a = b) = _
  by_cases e : a = b
  · subst e; rfl
  · rw [decide_eq_false e, decide_eq_false (fun z => e z.symm)]
end
/-! ### a store: what it holds, plainly -/
inductive Er where
  | NoSettings | NoWorth | NoHandle | Stale | Full | NoPlace | NoList | NoNumber | NotEmpty | NoDeed
  deriving DecidableEq
def Cl.of (C : Cl) : Er → Addr
  | .NoSettings => C.NoSettings
  | .NoWorth => C.NoWorth
  | .NoHandle => C.NoHandle
  | .Stale => C.Stale
  | .Full => C.Full
  | .NoPlace => C.NoPlace
  | .NoList => C.NoList
  | .NoNumber => C.NoNumber
  | .NotEmpty => C.NotEmpty
  | .NoDeed => C.NoDeed
structure SS where
  n : Int
  r : Int
  last : Bool
  rnd : Bool
  cs : List Int
  ws : List (Int × V)
  ln : List Int
  gn : List Int
/-- the slots 0, 1, .. -/
def slots (k : Nat) : List Int := (List.range k).map fun (i : Nat) => (i : Int)
structure SS.Ok (S : SS) : Prop where
  n1 : 1 ≤ S.n
  n60 : S.n ≤ 60
  r1 : 1 ≤ S.r
  rk : S.r ≤ 1000
  len : (S.cs.length : Int) ≤ S.n
  cr : ∀ c ∈ S.cs, 0 ≤ c ∧ c < S.r
  parts : (S.ws.map (·.1) ++ (S.ln ++ S.gn)).Perm (slots S.cs.length)
def SS.cnt (S : SS) (s : Int) : Int := S.cs.getD s.toNat 0
def asH (n r : Int) : PyData → Option (Int × Int)
  | .tuple [.int s, .int c] => if 0 ≤ s ∧ s ≤ n - 1 ∧ 0 ≤ c ∧ c ≤ r - 1 then some (s, c) else none
  | _ => none
def SS.holds (S : SS) (s c : Int) : Bool := (valV S.ws s).isSome && decide (S.cnt s = c)
def SS.at (S : SS) (d : PyData) : Except Er (Int × Int) := match asH S.n S.r d with
  | none => .error .NoHandle
  | some (s, c) => if S.holds s c = true then .ok (s, c) else .error .Stale
/-- a thing comes -/
def SS.putIn (S : SS) (v : V) : Except Er ((Int × Int) × SS) :=
  if S.ln ≠ [] then
    let s := if S.last then S.ln.getLastD 0 else S.ln.headD 0
    .ok ((s, S.cnt s), { S with ln := if S.last then S.ln.dropLast else S.ln.tail, ws := putK S.ws s v })
  else if (S.cs.length : Int) < S.n then .ok ((S.cs.length, 0), { S with cs := S.cs ++ [0], ws := putK S.ws (S.cs.length : Int) v })
  else .error .Full
def SS.dropAt (S : SS) (s : Int) : SS :=
  if S.cnt s + 1 < S.r then { S with cs := S.cs.set s.toNat (S.cnt s + 1), ln := S.ln ++ [s], ws := dropK S.ws s }
  else if S.rnd = true then { S with cs := S.cs.set s.toNat 0, ln := S.ln ++ [s], ws := dropK S.ws s }
  else { S with gn := S.gn ++ [s], ws := dropK S.ws s }
def ordS (b : Bool) : Str := if b then "last" else "first"
def endS (b : Bool) : Str := if b then "round" else "worn"
def SS.sets (S : SS) : List V := [.int S.n, .int S.r, .str (ordS S.last), .str (endS S.rnd)]
def kw (ws : List (Int × V)) : List (Key × V) := ws.map fun p => (Sum.inl p.1, p.2)
def iv (xs : List Int) : List V := xs.map V.int
structure StAd where
  (dx s c w l g : Addr)
def sflds (q : StAd) : List (Str × V) := [("settings", .ref q.s), ("counts", .ref q.c), ("worths", .ref q.w), ("line", .ref q.l), ("gone", .ref q.g)]
def storeCells (C p : Addr) (S : SS) (q : StAd) : List Asn := [pt p (.ins C q.dx (sflds q)), pt q.c (.lst (iv S.cs)), pt q.w (.dK (kw S.ws)), pt q.l (.lst (iv S.ln)), pt q.g (.lst (iv S.gn)), tp q.s S.sets]
/-- a store stands at p -/
def StoreAt (C p : Addr) (S : SS) : Asn := ex fun q => cj (storeCells C p S q)
theorem StoreAt.op {H : Hp} {C p : Addr} {S : SS} {L : List Asn} (h : Own H (StoreAt C p S :: L)) :
    ∃ q : StAd, Own H (pt p (.ins C q.dx (sflds q)) :: pt q.c (.lst (iv S.cs)) :: pt q.w (.dK (kw S.ws)) :: pt q.l (.lst (iv S.ln)) :: pt q.g (.lst (iv S.gn)) :: tp q.s S.sets :: L) := by
  obtain ⟨q, h⟩ := h.exI
  exact ⟨q, h.cjI⟩
theorem StoreAt.cl {H : Hp} {C p : Addr} {S : SS} {L : List Asn} (q : StAd)
    (h : Own H (pt p (.ins C q.dx (sflds q)) :: pt q.c (.lst (iv S.cs)) :: pt q.w (.dK (kw S.ws)) :: pt q.l (.lst (iv S.ln)) :: pt q.g (.lst (iv S.gn)) :: tp q.s S.sets :: L)) :
    Own H (StoreAt C p S :: L) := Own.exE q (Own.cjE (L1 := storeCells C p S q) h)
theorem StoreAt.cl1 {H : Hp} {C p : Addr} {S : SS} {A : Asn} {L : List Asn} (q : StAd)
    (h : Own H (pt p (.ins C q.dx (sflds q)) :: pt q.c (.lst (iv S.cs)) :: pt q.w (.dK (kw S.ws)) :: pt q.l (.lst (iv S.ln)) :: pt q.g (.lst (iv S.gn)) :: tp q.s S.sets :: A :: L)) :
    Own H (A :: StoreAt C p S :: L) := (StoreAt.cl q h).front (.there .here)
theorem valV_kw (ws : List (Int × V)) (s : Int) : valV (kw ws) (Sum.inl s : Key) = valV ws s := by
  induction ws with
  | nil => rfl
  | cons p r ih =>
    by_cases e : p.1 = s
    · rw [valV_pos e]; exact valV_pos (p := ((Sum.inl p.1 : Key), p.2)) (by rw [e])
    · rw [valV_neg e, ← ih]; exact valV_neg (p := ((Sum.inl p.1 : Key), p.2)) (fun z => e (Sum.inl.inj z))
theorem any_kw (ws : List (Int × V)) (s : Int) : ((kw ws).any fun kv => decide (kv.1 = (Sum.inl s : Key))) = ws.any fun kv => decide (kv.1 = s) := by
  unfold kw
  rw [List.any_map]
  congr 1
  funext p
  show decide ((Sum.inl p.1 : Key) = Sum.inl s) = decide (p.1 = s)
  exact decide_eq_decide.mpr ⟨fun z => Sum.inl.inj z, fun z => by rw [z]⟩
theorem putK_kw (ws : List (Int × V)) (s : Int) (v : V) : putK (kw ws) (Sum.inl s : Key) v = kw (putK ws s v) := by
  unfold putK
  rw [any_kw]
  split
  · unfold kw
    rw [List.map_map, List.map_map]
    refine List.map_congr_left fun p _ => ?_
    show (if (Sum.inl p.1 : Key) = Sum.inl s then _ else _) = _
    by_cases e : p.1 = s
    · simp [e]
    · have : ¬ (Sum.inl p.1 : Key) = Sum.inl s := fun z => e (Sum.inl.inj z)
      simp [e, this]
  · simp [kw]
theorem dropK_kw (ws : List (Int × V)) (s : Int) : dropK (kw ws) (Sum.inl s : Key) = kw (dropK ws s) := by
  unfold dropK kw
  rw [List.filter_map]
  congr 1
  refine List.filter_congr fun p _ => ?_
  show decide ((Sum.inl p.1 : Key) ≠ Sum.inl s) = decide (p.1 ≠ s)
  exact decide_eq_decide.mpr ⟨fun z e => z (by rw [e]), fun z e => z (Sum.inl.inj e)⟩
theorem kw_len (ws : List (Int × V)) : (kw ws).length = ws.length := List.length_map _
theorem iv_len (xs : List Int) : (iv xs).length = xs.length := List.length_map _
/-! its plain laws -/
section
variable {S : SS} {s c : Int} {v : V}
theorem mem_slots {k : Nat} {s : Int} : s ∈ slots k ↔ 0 ≤ s ∧ s < k := by
  unfold slots
  rw [List.mem_map]
  constructor
  · rintro ⟨i, hi, rfl⟩
    rw [List.mem_range] at hi
    omega
  · intro h
    exact ⟨s.toNat, List.mem_range.mpr (by omega), by omega⟩
theorem slots_nd (k : Nat) : (slots k).Nodup := by
  unfold slots
  exact List.Pairwise.map _ (fun a b (h : a ≠ b) e => h (by omega)) List.nodup_range
theorem slots_succ (k : Nat) : slots (k + 1) = slots k ++ [(k : Int)] := by
  unfold slots
  rw [List.range_succ, List.map_append]; rfl
theorem valV_mem (ws : List (Int × V)) (s : Int) : (valV ws s).isSome = true ↔ s ∈ ws.map (·.1) := by
  rw [← valV_any, List.any_eq_true, List.mem_map]
  constructor
  · rintro ⟨p, hp, e⟩; exact ⟨p, hp, of_decide_eq_true e⟩
  · rintro ⟨p, hp, e⟩; exact ⟨p, hp, decide_eq_true e⟩
theorem SS.Ok.rngW (o : S.Ok) (h : s ∈ S.ws.map (·.1)) : 0 ≤ s ∧ s < S.cs.length := mem_slots.mp (o.parts.mem_iff.mp (List.mem_append_left _ h))
theorem SS.Ok.rngL (o : S.Ok) (h : s ∈ S.ln) : 0 ≤ s ∧ s < S.cs.length := mem_slots.mp (o.parts.mem_iff.mp (List.mem_append_right _ (List.mem_append_left _ h)))
theorem SS.Ok.rngG (o : S.Ok) (h : s ∈ S.gn) : 0 ≤ s ∧ s < S.cs.length := mem_slots.mp (o.parts.mem_iff.mp (List.mem_append_right _ (List.mem_append_right _ h)))
theorem SS.Ok.nd (o : S.Ok) : (S.ws.map (·.1) ++ (S.ln ++ S.gn)).Nodup := o.parts.nodup_iff.mpr (slots_nd _)
theorem SS.Ok.ndW (o : S.Ok) : (S.ws.map (·.1)).Nodup := (List.nodup_append.mp o.nd).1
theorem SS.Ok.total (o : S.Ok) : S.ws.length + S.ln.length + S.gn.length = S.cs.length := by
  have e := o.parts.length_eq
  rw [List.length_append, List.length_append, List.length_map] at e
  unfold slots at e
  rw [List.length_map, List.length_range] at e
  omega
theorem SS.Ok.lenC (o : S.Ok) : S.cs.length ≤ 60 := by have := o.len; have := o.n60; omega
theorem SS.Ok.lenW (o : S.Ok) : S.ws.length ≤ 60 := by have := o.total; have := o.lenC; omega
theorem SS.Ok.lenL (o : S.Ok) : S.ln.length ≤ 60 := by have := o.total; have := o.lenC; omega
theorem SS.Ok.lenG (o : S.Ok) : S.gn.length ≤ 60 := by have := o.total; have := o.lenC; omega
theorem at_cnt (h : 0 ≤ s ∧ s < S.cs.length) : atI (iv S.cs) s = some (.int (S.cnt s)) := by
  obtain ⟨k, rfl⟩ : ∃ k : Nat, s = k := ⟨s.toNat, by omega⟩
  refine atI_nat ?_
  unfold iv SS.cnt
  have hk : k < S.cs.length := by omega
  rw [List.getElem?_map, List.getElem?_eq_getElem hk]
  show some (V.int _) = some (V.int (S.cs.getD (k : Int).toNat 0))
  rw [Int.toNat_natCast, List.getD_eq_getElem?_getD, List.getElem?_eq_getElem hk]
  rfl
theorem asH_some {n r : Int} {d : PyData} (h : asH n r d = some (s, c)) : d = .tuple [.int s, .int c] ∧ 0 ≤ s ∧ s ≤ n - 1 ∧ 0 ≤ c ∧ c ≤ r - 1 := by
  unfold asH at h
  split at h
  · split at h
    · rename_i hh
      cases h
      exact ⟨rfl, hh⟩
    · cases h
  · cases h
theorem isHandle_asH (n r : Int) (d : PyData) : isHandle n r d = (asH n r d).isSome := by
  unfold isHandle asH
  split
  · rename_i a b
    cases a with
    | int s =>
      cases b with
      | int c =>
        show ((decide (0 ≤ s) && decide (s ≤ n - 1)) && (decide (0 ≤ c) && decide (c ≤ r - 1))) = _
        by_cases h : 0 ≤ s ∧ s ≤ n - 1 ∧ 0 ≤ c ∧ c ≤ r - 1
        · dsimp only
          rw [if_pos h]
          simp [h]
        · dsimp only
          rw [if_neg h]
          simp only [Option.isSome_none, Bool.and_eq_false_iff, decide_eq_false_iff_not]
          omega
      | _ => simp [isWhole]
    | _ => simp [isWhole]
  · rename_i h
    split
    · rename_i s c
      exact absurd rfl (h (.int s) (.int c))
    · rfl
theorem SS.holds_in (h : S.holds s c = true) : s ∈ S.ws.map (·.1) ∧ S.cnt s = c := by
  unfold SS.holds at h
  rw [Bool.and_eq_true] at h
  exact ⟨(valV_mem _ _).mp h.1, of_decide_eq_true h.2⟩
end
section
variable {q : StAd}
theorem sf1 : (sflds q).lookup ("settings" : Str) = some (.ref q.s) := by rfl
theorem sf2 : (sflds q).lookup ("counts" : Str) = some (.ref q.c) := by rfl
theorem sf3 : (sflds q).lookup ("worths" : Str) = some (.ref q.w) := by rfl
theorem sf4 : (sflds q).lookup ("line" : Str) = some (.ref q.l) := by rfl
theorem sf5 : (sflds q).lookup ("gone" : Str) = some (.ref q.g) := by rfl
end
/-! ### plain data: no bools, no dicts; compared, they are equal just when they are the same -/
def pl : Nat → PyData → Bool
  | _, .none => true
  | _, .int _ => true
  | _, .str x => PyData.canLay0 (.str x)
  | k + 1, .tuple xs => xs.all (pl k)
  | k + 1, .list xs => xs.all (pl k)
  | _, _ => false
theorem pl_all {k : Nat} (hk : ∀ d, pl k d = true → d.canLay0 = true ∧ d.depth ≤ k) : ∀ xs : List PyData, xs.all (pl k) = true → PyData.canLayAll0 xs = true ∧ PyData.depthAll xs ≤ k
  | [], _ => ⟨rfl, Nat.zero_le _⟩
  | x :: xs, h => by
    rw [List.all_cons, Bool.and_eq_true] at h
    obtain ⟨a, b⟩ := hk x h.1
    obtain ⟨c, d⟩ := pl_all hk xs h.2
    refine ⟨?_, ?_⟩
    · show (x.canLay0 && PyData.canLayAll0 xs) = true
      rw [a, c] <;> rfl
    · show max x.depth (PyData.depthAll xs) ≤ k
      omega
theorem pl_lay : ∀ (k : Nat) (d : PyData), pl k d = true → d.canLay0 = true ∧ d.depth ≤ k
  | _, .none, _ => ⟨rfl, Nat.zero_le _⟩
  | _, .int _, _ => ⟨rfl, Nat.zero_le _⟩
  | 0, .str x, h => ⟨by simpa [pl] using h, Nat.zero_le _⟩
  | _ + 1, .str x, h => ⟨by simpa [pl] using h, Nat.zero_le _⟩
  | k + 1, .tuple xs, h => by
    obtain ⟨a, b⟩ := pl_all (pl_lay k) xs (by simpa [pl] using h)
    exact ⟨a, Nat.succ_le_succ b⟩
  | k + 1, .list xs, h => by
    obtain ⟨a, b⟩ := pl_all (pl_lay k) xs (by simpa [pl] using h)
    exact ⟨a, Nat.succ_le_succ b⟩
  | 0, .tuple _, h => by simp [pl] at h
  | 0, .list _, h => by simp [pl] at h
  | 0, .bool _, h => by simp [pl] at h
  | 0, .dict _, h => by simp [pl] at h
  | _ + 1, .bool _, h => by simp [pl] at h
  | _ + 1, .dict _, h => by simp [pl] at h
theorem pl_shaped {k : Nat} {d : PyData} (h : pl k d = true) (hk : k ≤ 64) : SeqAt.shaped d = true := by
  obtain ⟨a, b⟩ := pl_lay k d h
  show (d.canLay0 && decide (d.depth ≤ 64)) = true
  rw [a, decide_eq_true (Nat.le_trans b hk)] <;> rfl
theorem eqvAll_iff {k : Nat} (hk : ∀ d e, pl k d = true → pl k e = true → (PyData.eqv d e = true ↔ d = e)) : ∀ xs ys : List PyData, xs.all (pl k) = true → ys.all (pl k) = true → (PyData.eqvAll xs ys = true ↔ xs = ys)
  | [], [], _, _ => by simp [PyData.eqvAll]
  | [], _ :: _, _, _ => by simp [PyData.eqvAll]
  | _ :: _, [], _, _ => by simp [PyData.eqvAll]
  | x :: xs, y :: ys, h1, h2 => by
    rw [List.all_cons, Bool.and_eq_true] at h1 h2
    show (PyData.eqv x y && PyData.eqvAll xs ys) = true ↔ _
    rw [Bool.and_eq_true, hk x y h1.1 h2.1, eqvAll_iff hk xs ys h1.2 h2.2, List.cons.injEq]
theorem pl_eqv : ∀ (k : Nat) (d e : PyData), pl k d = true → pl k e = true → (PyData.eqv d e = true ↔ d = e) := by
  intro k
  induction k with
  | zero =>
    intro d e h1 h2
    cases d <;> cases e <;> simp_all [pl, PyData.eqv]
  | succ k ih =>
    intro d e h1 h2
    cases d <;> cases e <;> simp_all [pl, PyData.eqv, eqvAll_iff ih]
    all_goals
      refine eqvAll_iff ih _ _ ?_ ?_
      · simpa using h1
      · simpa using h2
theorem eqv_true {k : Nat} {d : PyData} (h : pl k d = true) : PyData.eqv d d = true := (pl_eqv k d d h h).mpr rfl
theorem pl_up : ∀ (k : Nat) (d : PyData), pl k d = true → pl (k + 1) d = true
  | _, .none, _ => rfl
  | _, .int _, _ => rfl
  | 0, .str x, h => by simpa [pl] using h
  | _ + 1, .str x, h => by simpa [pl] using h
  | k + 1, .tuple xs, h => by
    rw [pl] at h ⊢
    exact List.all_eq_true.mpr fun x hx => pl_up k x (List.all_eq_true.mp h x hx)
  | k + 1, .list xs, h => by
    rw [pl] at h ⊢
    exact List.all_eq_true.mpr fun x hx => pl_up k x (List.all_eq_true.mp h x hx)
  | 0, .tuple _, h => by simp [pl] at h
  | 0, .list _, h => by simp [pl] at h
  | 0, .bool _, h => by simp [pl] at h
  | 0, .dict _, h => by simp [pl] at h
  | _ + 1, .bool _, h => by simp [pl] at h
  | _ + 1, .dict _, h => by simp [pl] at h
section
variable {X : Cx} {H : Hp} {Q : VK} {x y : V} {d e : PyData} {k j : Nat}
theorem wop_eqP (hr : Room k X.A) (h1 : Dp X.K H x d) (h2 : Dp X.K H y e) (p1 : pl j d = true) (p2 : pl j e = true) (hj : j ≤ 64) (q : ∀ b : Bool, (b = true ↔ d = e) → Q (.bl b) H) : Wop X (compareOp .Eq) x y H Q :=
  of_op (op_eqD hr.units) ⟨d, e, h1, h2, pl_shaped p1 hj, pl_shaped p2 hj, q _ (pl_eqv j d e p1 p2)⟩
theorem wop_neP (hr : Room k X.A) (h1 : Dp X.K H x d) (h2 : Dp X.K H y e) (p1 : pl j d = true) (p2 : pl j e = true) (hj : j ≤ 64) (q : ∀ b : Bool, (b = true ↔ d ≠ e) → Q (.bl b) H) : Wop X (compareOp .NotEq) x y H Q :=
  of_op (op_neD hr.units) ⟨d, e, h1, h2, pl_shaped p1 hj, pl_shaped p2 hj, q _ (by rw [Bool.not_eq_true', ← Bool.not_eq_true]; exact not_congr (pl_eqv j d e p1 p2))⟩
end
def ids (xs : List Int) : List PyData := xs.map PyData.int
theorem pl_ids (k : Nat) (xs : List Int) : pl (k + 1) (.list (ids xs)) = true := by
  rw [pl]
  unfold ids
  rw [List.all_map]
  exact List.all_eq_true.mpr fun x _ => by cases k <;> rfl
theorem dpAll_iv {K : PySem.W.Frag} {H : Hp} : ∀ xs : List Int, DpAll K H (iv xs) (ids xs)
  | [] => .nil
  | x :: xs => .cons (.int x) (dpAll_iv xs)
theorem ids_inj {xs ys : List Int} (h : ids xs = ids ys) : xs = ys := by
  induction xs generalizing ys with
  | nil => cases ys with
    | nil => rfl
    | cons _ _ => cases h
  | cons x xs ih => cases ys with
    | nil => cases h
    | cons y ys =>
      unfold ids at h
      rw [List.map_cons, List.map_cons, List.cons.injEq] at h
      rw [PyData.int.inj h.1, ih h.2]
theorem SS.Ok.new {n r : Int} {last rnd : Bool} (h1 : 1 ≤ n) (h2 : n ≤ 60) (h3 : 1 ≤ r) (h4 : r ≤ 1000) : SS.Ok ⟨n, r, last, rnd, [], [], [], []⟩ :=
  ⟨h1, h2, h3, h4, by show (0 : Int) ≤ n; omega, fun _ h => (by cases h), List.Perm.refl _⟩
/-! the promises of a store's methods -/
def setD (n r : Int) (last rnd : Bool) : PyData := .tuple [.int n, .int r, .str (ordS last), .str (endS rnd)]
def setV (n r : Int) (last rnd : Bool) : List V := [.int n, .int r, .str (ordS last), .str (endS rnd)]
theorem dtSet {H : Hp} {a : Addr} {n r : Int} {last rnd : Bool} (h : H a = some (.tup (setV n r last rnd))) : Dt H (.ref a) (setD n r last rnd) := .tup h (.cons (.int _) (.cons (.int _) (.cons (.str _) (.cons (.str _) .nil))))
theorem areSet {n r : Int} (last rnd : Bool) (h1 : 1 ≤ n) (h2 : n ≤ 60) (h3 : 1 ≤ r) (h4 : r ≤ 1000) : areSettings (setD n r last rnd) = true := by
  show ((decide (1 ≤ n) && decide (n ≤ 60)) && (decide (1 ≤ r) && decide (r ≤ 1000)) && isOne "first" "last" (.str (ordS last)) && isOne "worn" "round" (.str (endS rnd))) = true
  have e1 : isOne "first" "last" (.str (ordS last)) = true := by cases last <;> decide
  have e2 : isOne "worn" "round" (.str (endS rnd)) = true := by cases rnd <;> decide
  rw [e1, e2]
  simp [h1, h2, h3, h4]
def SS.new (n r : Int) (last rnd : Bool) : SS := ⟨n, r, last, rnd, [], [], [], []⟩
def spInitS (K : PySem.W.Frag) (C : Cl) : Sp := fun vs H Q E => ∃ (x dx : Addr) (v : V) (L : List Asn), vs = [.ref x, v] ∧ Own H (pt x (.ins C.Store dx []) :: L) ∧
  ((∃ (a : Addr) (n r : Int) (last rnd : Bool), v = .ref a ∧ tp a (setV n r last rnd) ∈ L ∧ 1 ≤ n ∧ n ≤ 60 ∧ 1 ≤ r ∧ r ≤ 1000 ∧ ∀ H', Own H' (StoreAt C.Store x (SS.new n r last rnd) :: L) → Q .non H') ∨
   (∃ d : PyData, Dp K H v d ∧ areSettings d = false ∧ E (.ref C.NoSettings) none H))
def spPutIn (C : Cl) : Sp := fun vs H Q E => ∃ (p : Addr) (S : SS) (v : V) (L : List Asn), vs = [.ref p, v] ∧ S.Ok ∧ Own H (StoreAt C.Store p S :: L) ∧
  (∀ s c S', S.putIn v = .ok ((s, c), S') → ∀ t H', Own H' (tp t [.int s, .int c] :: StoreAt C.Store p S' :: L) → Q (.ref t) H') ∧ (∀ e, S.putIn v = .error e → ∀ H', Own H' (StoreAt C.Store p S :: L) → E (.ref (C.of e)) none H')
def spPut (K : PySem.W.Frag) (C : Cl) : Sp := fun vs H Q E => ∃ (p : Addr) (S : SS) (v : V) (d : PyData) (L : List Asn), vs = [.ref p, v] ∧ S.Ok ∧ Own H (StoreAt C.Store p S :: L) ∧ Dp K H v d ∧
  (isWhole d 0 9999 = false → E (.ref C.NoWorth) none H) ∧
  (isWhole d 0 9999 = true → ∀ s c S', S.putIn v = .ok ((s, c), S') → ∀ t H', Own H' (tp t [.int s, .int c] :: StoreAt C.Store p S' :: L) → Q (.ref t) H') ∧
  (isWhole d 0 9999 = true → ∀ e, S.putIn v = .error e → ∀ H', Own H' (StoreAt C.Store p S :: L) → E (.ref (C.of e)) none H')
/-- a method that asks of a handle, and changes nothing -/
def spAsk (K : PySem.W.Frag) (C : Cl) (R : SS → Int × Int → V → Prop) : Sp := fun vs H Q E => ∃ (p : Addr) (S : SS) (v : V) (d : PyData) (L : List Asn), vs = [.ref p, v] ∧ S.Ok ∧ Own H (StoreAt C.Store p S :: L) ∧ Dp K H v d ∧
  (∀ sc, S.at d = .ok sc → ∀ y, R S sc y → Q y H) ∧ (∀ e, S.at d = .error e → E (.ref (C.of e)) none H)
def spNeed (K : PySem.W.Frag) (C : Cl) : Sp := spAsk K C fun _ _ y => y = .non
def spGet (K : PySem.W.Frag) (C : Cl) : Sp := spAsk K C fun S sc y => valV S.ws sc.1 = some y
def spHas (K : PySem.W.Frag) (C : Cl) : Sp := fun vs H Q E => ∃ (p : Addr) (S : SS) (v : V) (d : PyData) (L : List Asn), vs = [.ref p, v] ∧ S.Ok ∧ Own H (StoreAt C.Store p S :: L) ∧ Dp K H v d ∧
  ∀ b : Bool, (b = true ↔ ∃ sc, S.at d = .ok sc) → Q (.bl b) H
def spHold (K : PySem.W.Frag) (C : Cl) : Sp := fun vs H Q E => ∃ (p : Addr) (S : SS) (t : Addr) (s c : Int) (L : List Asn), vs = [.ref p, .ref t] ∧ S.Ok ∧ Own H (StoreAt C.Store p S :: L) ∧ SqT K H t [.int s, .int c] ∧ Q (.bl (S.holds s c)) H
def spDrop (K : PySem.W.Frag) (C : Cl) : Sp := fun vs H Q E => ∃ (p : Addr) (S : SS) (v : V) (d : PyData) (L : List Asn), vs = [.ref p, v] ∧ S.Ok ∧ Own H (StoreAt C.Store p S :: L) ∧ Dp K H v d ∧
  (∀ s c y, S.at d = .ok (s, c) → valV S.ws s = some y → ∀ H', Own H' (StoreAt C.Store p (S.dropAt s) :: L) → Q y H') ∧ (∀ e, S.at d = .error e → E (.ref (C.of e)) none H)
def SS.chg (S : SS) (s : Int) (v : V) : SS := { S with ws := putK S.ws s v }
def spChange (K : PySem.W.Frag) (C : Cl) : Sp := fun vs H Q E => ∃ (p : Addr) (S : SS) (v w : V) (d dw : PyData) (L : List Asn), vs = [.ref p, v, w] ∧ S.Ok ∧ Own H (StoreAt C.Store p S :: L) ∧ Dp K H v d ∧ Dp K H w dw ∧
  (∀ e, S.at d = .error e → E (.ref (C.of e)) none H) ∧ (∀ sc, S.at d = .ok sc → isWhole dw 0 9999 = false → E (.ref C.NoWorth) none H) ∧
  (∀ s c y, S.at d = .ok (s, c) → isWhole dw 0 9999 = true → valV S.ws s = some y → ∀ H', Own H' (StoreAt C.Store p (S.chg s w) :: L) → Q y H')
/-- a method without arguments that tells a number -/
def spTell (C : Cl) (R : SS → V) : Sp := fun vs H Q _ => ∃ (p : Addr) (S : SS) (L : List Asn), vs = [.ref p] ∧ S.Ok ∧ Own H (StoreAt C.Store p S :: L) ∧ Q (R S) H
/-- .. that tells a new list of ints -/
def spTellL (C : Cl) (R : SS → List Int) : Sp := fun vs H Q _ => ∃ (p : Addr) (S : SS) (L : List Asn), vs = [.ref p] ∧ S.Ok ∧ Own H (StoreAt C.Store p S :: L) ∧
  ∀ l H', Own H' (pt l (.lst (iv (R S))) :: StoreAt C.Store p S :: L) → Q (.ref l) H'
/-! more of a store's plain laws -/
section
variable {S : SS} {s c : Int} {v : V} {X : Cx} {H : Hp} {Q : VK} {L : List Asn} {p l : Addr}
theorem wop_neNil {k : Nat} {xs : List Int} {e : Addr} (hr : Room k X.A) (h : Own H L) (m : pt l (.lst (iv xs)) ∈ L) (m2 : pt e (.lst []) ∈ L) (q : Q (.bl (!decide (xs = []))) H) : Wop X (compareOp .NotEq) (.ref l) (.ref e) H Q := by
  refine wop_neP (j := 1) hr (.lst (SqL.of (h.pt m)) (dpAll_iv xs)) (.lst (SqL.of (h.pt m2)) .nil) (pl_ids 0 xs) rfl (by decide) fun b hb => ?_
  have : b = !decide (xs = []) := by
    cases xs with
    | nil => cases b with
      | false => rfl
      | true => exact absurd rfl (hb.mp rfl)
    | cons x xs => cases b with
      | true => rfl
      | false => exact absurd (hb.mpr (fun z => by cases z)) Bool.false_ne_true
  rw [this]; exact q
theorem iv_get {xs : List Int} {k : Nat} (h : k < xs.length) : (iv xs)[k]? = some (.int (xs.getD k 0)) := by
  unfold iv
  rw [List.getElem?_map, List.getElem?_eq_getElem h, List.getD_eq_getElem?_getD, List.getElem?_eq_getElem h]
  rfl
theorem iv_erase (xs : List Int) (k : Nat) : (iv xs).eraseIdx k = iv (xs.eraseIdx k) := by
  unfold iv
  induction xs generalizing k with
  | nil => rfl
  | cons x xs ih => cases k with
    | zero => rfl
    | succ k => simp [ih k]
theorem iv_app (xs : List Int) (k : Int) : iv xs ++ [V.int k] = iv (xs ++ [k]) := by simp [iv]
theorem iv_set (xs : List Int) (j : Nat) (k : Int) : (iv xs).set j (V.int k) = iv (xs.set j k) := by simp [iv, List.map_set]
theorem getLastD_eq (xs : List Int) (h : xs ≠ []) : xs.getLastD 0 = xs.getD (xs.length - 1) 0 := by
  rw [List.getLastD_eq_getLast?, List.getLast?_eq_getElem?, List.getD_eq_getElem?_getD]
theorem headD_eq (xs : List Int) : xs.headD 0 = xs.getD 0 0 := by cases xs <;> rfl
theorem erase_last (xs : List Int) : xs.eraseIdx (xs.length - 1) = xs.dropLast := by
  rw [List.dropLast_eq_take, List.eraseIdx_eq_take_drop_succ]
  cases xs with
  | nil => rfl
  | cons x xs =>
    have : (x :: xs).length - 1 + 1 = (x :: xs).length := by simp
    rw [this, List.drop_length, List.append_nil]
theorem ixN_of {n : Nat} {i : Int} (h : 0 ≤ i ∧ i < n) : ixN n i = some i.toNat := by
  unfold ixN
  rw [if_pos h.1, if_pos h.2]
theorem SS.at_ok {d : PyData} (h : S.at d = .ok (s, c)) : d = .tuple [.int s, .int c] ∧ S.holds s c = true ∧ 0 ≤ s ∧ s ≤ S.n - 1 ∧ 0 ≤ c ∧ c ≤ S.r - 1 := by
  unfold SS.at at h
  split at h
  · cases h
  · rename_i s' c' hh
    split at h
    · rename_i hl
      cases h
      obtain ⟨e, r⟩ := asH_some hh
      exact ⟨e, hl, r⟩
    · cases h
end
section
variable {H : Hp} {L : List Asn} {C p : Addr} {S : SS} {q : StAd}
theorem StoreAt.ins (h : Own H L) (m : StoreAt C p S ∈ L) : ∃ q : StAd, H p = some (.ins C q.dx (sflds q)) := by
  obtain ⟨q, s⟩ := h.get m
  exact ⟨q, SLs.get (A := pt p (.ins C q.dx (sflds q))) List.mem_cons_self s⟩
theorem recvS {R : Addr → Prop} {n : Str} (h : Own H L) (m : StoreAt C p S ∈ L) (hl : ∀ q : StAd, (sflds q).lookup n = none) (k : R p) :
    ∃ a dx fs, V.ref p = .ref a ∧ H a = some (.ins C dx fs) ∧ fs.lookup n = none ∧ R a := by
  obtain ⟨q, e⟩ := StoreAt.ins h m
  exact ⟨p, _, _, rfl, e, hl q, k⟩
theorem recvP {R : Addr → Prop} {n : Str} {dx : Addr} {fs : List (Str × V)} (h : Own H L) (m : pt p (.ins C dx fs) ∈ L) (hl : fs.lookup n = none) (k : R p) :
    ∃ a dx fs, V.ref p = .ref a ∧ H a = some (.ins C dx fs) ∧ fs.lookup n = none ∧ R a := ⟨p, _, _, rfl, h.pt m, hl, k⟩
theorem asH_none {n r : Int} {d : PyData} (h : isHandle n r d = false) : asH n r d = none := by
  have e := isHandle_asH n r d
  rw [h] at e
  cases z : asH n r d with
  | none => rfl
  | some x => rw [z] at e; cases e
theorem sets_at {K : PySem.W.Frag} (h : Own H L) (m : tp q.s S.sets ∈ L) : SetsAt K H (.ref q.s) S.n S.r := ⟨_, _, _, rfl, SqT.of (h.tp m)⟩
end
/-! ### lists in order -/
def srt (xs : List Int) : List Int := xs.mergeSort fun a b => decide (a ≤ b)
theorem srt_perm (xs : List Int) : (srt xs).Perm xs := List.mergeSort_perm xs _
theorem srt_sorted (xs : List Int) : (srt xs).Pairwise (· ≤ ·) := by
  have h := List.pairwise_mergeSort (le := fun (a b : Int) => decide (a ≤ b)) (fun a b c h1 h2 => by simp at *; omega) (fun a b => by simp; omega) xs
  exact h.imp fun h => by simpa using h
theorem srt_eq {ys xs : List Int} (p : ys.Perm xs) (s : ys.Pairwise (· ≤ ·)) : ys = srt xs := PySem.W.ksm_same (p.trans (srt_perm xs).symm) s (srt_sorted xs)
theorem srt_len (xs : List Int) : (srt xs).length = xs.length := (srt_perm xs).length_eq
theorem mem_srt {xs : List Int} {x : Int} : x ∈ srt xs ↔ x ∈ xs := (srt_perm xs).mem_iff
def hD (p : Int × Int) : PyData := .tuple [.int p.1, .int p.2]
/-- a list of plain things -/
def ld (l : Addr) (ds : List PyData) : Asn := ex fun vs => cj [pt l (.lst vs), dts vs ds]
theorem ld.op {H : Hp} {l : Addr} {ds : List PyData} {L : List Asn} (h : Own H (ld l ds :: L)) : ∃ vs, Own H (pt l (.lst vs) :: dts vs ds :: L) := by
  obtain ⟨vs, h⟩ := h.exI
  exact ⟨vs, h.cjI⟩
theorem ld.cl {H : Hp} {l : Addr} {vs : List V} {ds : List PyData} {L : List Asn} (h : Own H (pt l (.lst vs) :: dts vs ds :: L)) : Own H (ld l ds :: L) := Own.exE vs (Own.cjE (L1 := [pt l (.lst vs), dts vs ds]) h)
theorem Own.ld {K : PySem.W.Frag} {H : Hp} {l : Addr} {ds : List PyData} {L : List Asn} (h : Own H L) (m : ld l ds ∈ L) : Dp K H (.ref l) (.list ds) := by
  obtain ⟨vs, s⟩ := h.get m
  have h1 := SLs.get (A := Sh.pt l (.lst vs)) List.mem_cons_self s
  have h2 := SLs.get (A := Sh.dts vs ds) (List.mem_cons_of_mem _ List.mem_cons_self) s
  exact .lst (SqL.of h1) (DtAll.dp h2)
/-- handles in order -/
def leH (a b : Int × Int) : Prop := a.1 < b.1 ∨ (a.1 = b.1 ∧ a.2 ≤ b.2)
instance (a b : Int × Int) : Decidable (leH a b) := by unfold leH; exact inferInstance
def srtH (xs : List (Int × Int)) : List (Int × Int) := xs.mergeSort fun a b => decide (leH a b)
theorem srtH_perm (xs : List (Int × Int)) : (srtH xs).Perm xs := List.mergeSort_perm xs _
theorem leH_trans {a b c : Int × Int} (h1 : leH a b) (h2 : leH b c) : leH a c := by
  unfold leH at *
  omega
theorem leH_total (a b : Int × Int) : leH a b ∨ leH b a := by
  unfold leH
  omega
theorem srtH_sorted (xs : List (Int × Int)) : (srtH xs).Pairwise leH := by
  have h := List.pairwise_mergeSort (le := fun (a b : Int × Int) => decide (leH a b)) (fun a b c h1 h2 => decide_eq_true (leH_trans (of_decide_eq_true h1) (of_decide_eq_true h2))) (fun a b => by rw [Bool.or_eq_true, decide_eq_true_eq, decide_eq_true_eq]; exact leH_total a b) xs
  exact h.imp fun h => by simpa using h
theorem srtH_eq {ys xs : List (Int × Int)} (p : ys.Perm xs) (s : ys.Pairwise leH) : ys = srtH xs :=
  List.Perm.eq_of_pairwise (fun a b _ _ h1 h2 => by
    obtain ⟨a1, a2⟩ := a
    obtain ⟨b1, b2⟩ := b
    simp only [leH] at h1 h2
    have e1 : a1 = b1 := by omega
    have e2 : a2 = b2 := by omega
    rw [e1, e2]) s (srtH_sorted xs) (p.trans (srtH_perm xs).symm)
def SS.keys (S : SS) : List Int := srt (S.ws.map (·.1))
def SS.live (S : SS) : List (Int × Int) := S.keys.map fun s => (s, S.cnt s)
def spLive (C : Cl) : Sp := fun vs H Q _ => ∃ (p : Addr) (S : SS) (L : List Asn), vs = [.ref p] ∧ S.Ok ∧ Own H (StoreAt C.Store p S :: L) ∧ ∀ l H', Own H' (ld l (S.live.map hD) :: StoreAt C.Store p S :: L) → Q (.ref l) H'
def SS.left (S : SS) : V := if S.rnd then .non else .int (S.n * S.r - ((S.cs.map (· + 1)).sum - S.ln.length))
def spLeft (C : Cl) : Sp := fun vs H Q _ => ∃ (p : Addr) (S : SS) (L : List Asn), vs = [.ref p] ∧ S.Ok ∧ Own H (StoreAt C.Store p S :: L) ∧ ∀ H', Own H' (StoreAt C.Store p S :: L) → Q S.left H'
theorem kw_keys (ws : List (Int × V)) : ((kw ws).map fun kv => kV kv.1) = iv (ws.map (·.1)) := by
  unfold kw iv
  rw [List.map_map, List.map_map]
  rfl
section
variable {X : Cx} {H : Hp} {Q : VK} {L : List Asn} {a : Addr}
theorem wc_sorted {ns : List Int} (h : Own H L) (m : pt a (.lst (iv ns)) ∈ L) (q : ∀ l H', H l = none → H' = upd H l (.lst (iv (srt ns))) → Q (.ref l) H') : Wcall X (.builtin "sorted") [.ref a] H Q :=
  of_cr cr_sortedI ⟨a, ns, rfl, SqL.of (h.pt m), fun ns' l pe so hn => q l _ hn (by rw [srt_eq pe so]; rfl)⟩
theorem wc_sum {ns : List Int} (hc : X.calm = true) (h : Own H L) (m : pt a (.lst (iv ns)) ∈ L) (q : Q (.int ns.sum) H) : Wcall X (.builtin "sum") [.ref a] H Q := of_cr (cr_sum hc) ⟨a, ns, rfl, SqL.of (h.pt m), q⟩
theorem wc_listD {ws : List (Int × V)} (hc : X.calm = true) (h : Own H L) (m : pt a (.dK (kw ws)) ∈ L) (q : ∀ l H', H l = none → H' = upd H l (.lst (iv (ws.map (·.1)))) → Q (.ref l) H') : Wcall X (.type "list") [.ref a] H Q :=
  of_cr (call_list_dK hc) ⟨a, _, rfl, h.pt m, fun l hn => q l _ hn (by rw [kw_keys])⟩
theorem dtH {T : Hp} {v : V} {p : Int × Int} (h : Dt T v (hD p)) : ∃ t, v = .ref t ∧ T t = some (.tup [.int p.1, .int p.2]) := by
  cases h with
  | tup h1 h2 =>
  cases h2 with
  | cons a b =>
  cases a
  cases b with
  | cons a b =>
  cases a
  cases b
  exact ⟨_, rfl, h1⟩
/-- which handle stands there -/
def keyH (H : Hp) (v : V) : Int × Int := match v with
  | .ref t => (match H t with
    | some (.tup [.int i, .int j]) => (i, j)
    | _ => (0, 0))
  | _ => (0, 0)
theorem keyH_of {H : Hp} {v : V} {p : Int × Int} (h : Dt H v (hD p)) : keyH H v = p := by
  obtain ⟨t, rfl, e⟩ := dtH h
  show (match H t with | some (.tup [.int i, .int j]) => (i, j) | _ => (0, 0)) = p
  rw [e]
theorem keys_of {H : Hp} : ∀ {vs : List V} {hs : List (Int × Int)}, DtAll H vs (hs.map hD) → vs.map (keyH H) = hs
  | [], [], _ => rfl
  | [], _ :: _, h => by cases h
  | _ :: _, [], h => by cases h
  | v :: vs, p :: hs, h => by
    rw [List.map_cons] at h
    cases h with
    | cons a b => rw [List.map_cons, keyH_of a, keys_of b]
theorem mem_dtH {H : Hp} : ∀ {vs : List V} {hs : List (Int × Int)}, DtAll H vs (hs.map hD) → ∀ v ∈ vs, Dt H v (hD (keyH H v))
  | [], _, _, v, hv => by cases hv
  | _ :: _, [], h, _, _ => by cases h
  | v :: vs, p :: hs, h, w, hw => by
    rw [List.map_cons] at h
    cases h with
    | cons a b =>
      rcases List.mem_cons.mp hw with rfl | hw
      · rw [keyH_of a]; exact a
      · exact mem_dtH b w hw
theorem dtAll_keys {H : Hp} : ∀ {vs : List V}, (∀ v ∈ vs, Dt H v (hD (keyH H v))) → DtAll H vs ((vs.map (keyH H)).map hD)
  | [], _ => .nil
  | v :: vs, h => .cons (h v List.mem_cons_self) (dtAll_keys fun w hw => h w (List.mem_cons_of_mem _ hw))
/-- sorted(a list of handles) -/
theorem wc_sortedH {vs : List V} {hs : List (Int × Int)} (h : Own H L) (m : pt a (.lst vs) ∈ L) (hd : DtAll H vs (hs.map hD)) (q : ∀ l H' ws, H l = none → H' = upd H l (.lst ws) → DtAll H ws ((srtH hs).map hD) → Q (.ref l) H') : Wcall X (.builtin "sorted") [.ref a] H Q := by
  refine of_cr cr_sortedPO ⟨a, vs, keyH H, rfl, SqL.of (h.pt m), fun x hx => dtH (mem_dtH hd x hx), fun ys l so st hn => q l _ ys hn rfl ?_⟩
  have e : ys.map (keyH H) = srtH hs := by
    refine srtH_eq ?_ ?_
    · rw [← keys_of hd]
      exact st.perm.map _
    · refine List.pairwise_map.mpr (so.imp fun {x y} h => ?_)
      have k := SrtO.lexB_no.mp h
      unfold leH
      omega
  rw [← e]
  exact dtAll_keys fun v hv => mem_dtH hd v (st.perm.mem_iff.mp hv)
theorem wc_listL {xs : List V} (h : Own H L) (m : pt a (.lst xs) ∈ L) (q : ∀ l H', H l = none → H' = upd H l (.lst xs) → Q (.ref l) H') : Wcall X (.type "list") [.ref a] H Q :=
  of_cr call_list_of ⟨a, _, rfl, .inl (SqL.of (h.pt m)), fun l hn => q l _ hn rfl⟩
end
/-! ### what the laws draw -/
def sq (K : PySem.W.Frag) (a : Addr) (xs : List V) : Asn := ⟨fun _ h => SqL K h a xs, fun _ hh s => by
  rcases s with (s | ⟨o, s⟩) | s
  · exact .inl (.inl (hh _ _ s))
  · exact .inl (.inr ⟨o, hh _ _ s⟩)
  · exact .inr s⟩
theorem Own.one {H : Hp} {A : Asn} (a : A.P H H) : Own H [A] := ⟨⟨H, fun _ => none, fun _ => .inr rfl, HLe.rfl, fun _ _ e => (by cases e), a, trivial⟩⟩
theorem Own.sq {K : PySem.W.Frag} {H : Hp} {L : List Asn} {a : Addr} {xs : List V} (x : Own H L) (m : sq K a xs ∈ L) : SqL K H a xs := x.get (A := Sh.sq K a xs) m
def zs (n : Nat) : List V := List.replicate n (.int 0)
/-- the draws so far -/
def town (t : Addr) (n : Nat) : Asn := pt t (.lst (zs n))
theorem zs_app (n : Nat) : zs n ++ [V.int 0] = zs (n + 1) := by unfold zs; rw [List.replicate_succ']
def spCell (K : PySem.W.Frag) : Sp := fun vs H Q _ => ∃ (a : Addr) (ns : List Int) (k : Int) (L : List Asn), vs = [.ref a, .int k] ∧ Own H L ∧ sq K a (iv ns) ∈ L ∧ 0 ≤ k ∧ ∀ i H', Own H' L → Q (.int i) H'
def spMixed (K : PySem.W.Frag) : Sp := fun vs H Q _ => ∃ (a : Addr) (ns : List Int) (k m : Int) (L : List Asn), vs = [.ref a, .int k, .int m] ∧ Own H L ∧ sq K a (iv ns) ∈ L ∧ 0 ≤ k ∧ 0 < m ∧ ∀ i H', 0 ≤ i → i < m → Own H' L → Q (.int i) H'
def spDraw (K : PySem.W.Frag) : Sp := fun vs H Q _ => ∃ (a t : Addr) (ns : List Int) (n : Nat) (m : Int) (L : List Asn), vs = [.ref a, .ref t, .int m] ∧ Own H (sq K a (iv ns) :: town t n :: L) ∧ n ≤ 1000000 ∧ 0 < m ∧
  ∀ i H', 0 ≤ i → i < m → Own H' (sq K a (iv ns) :: town t (n + 1) :: L) → Q (.int i) H'
def spPick (K : PySem.W.Frag) : Sp := fun vs H Q _ => ∃ (a t l : Addr) (ns : List Int) (n : Nat) (xs : List V) (L : List Asn), vs = [.ref a, .ref t, .ref l] ∧ Own H (sq K a (iv ns) :: town t n :: pt l (.lst xs) :: L) ∧ n ≤ 1000000 ∧ 0 < xs.length ∧
  ∀ v H', v ∈ xs → Own H' (sq K a (iv ns) :: town t (n + 1) :: pt l (.lst xs) :: L) → Q v H'
def spSettings (K : PySem.W.Frag) : Sp := fun vs H Q _ => ∃ (a t : Addr) (ns : List Int) (n : Nat) (L : List Asn), vs = [.ref a, .ref t] ∧ Own H (sq K a (iv ns) :: town t n :: L) ∧ n ≤ 999990 ∧
  ∀ s m r la rn H', m ∈ ([1, 2, 3, 4, 6, 60] : List Int) → r ∈ ([1, 2, 3, 5, 1000] : List Int) → Own H' (tp s (setV m r la rn) :: sq K a (iv ns) :: town t (n + 4) :: L) → Q (.ref s) H'
theorem mem_iv {v : V} {xs : List Int} (h : v ∈ iv xs) : ∃ i, v = .int i ∧ i ∈ xs := by
  obtain ⟨i, hi, e⟩ := List.mem_map.mp h
  exact ⟨i, e.symm, hi⟩
theorem rngN {m : Int} (h : m ∈ ([1, 2, 3, 4, 6, 60] : List Int)) : 1 ≤ m ∧ m ≤ 60 := by
  simp only [List.mem_cons, List.not_mem_nil, or_false] at h
  omega
theorem rngR {m : Int} (h : m ∈ ([1, 2, 3, 5, 1000] : List Int)) : 1 ≤ m ∧ m ≤ 1000 := by
  simp only [List.mem_cons, List.not_mem_nil, or_false] at h
  omega
/-- a thing of any kind: plain, or a list of plain things -/
def dl (v : V) (d : PyData) : Asn := ⟨fun T h => Dt T v d ∨ ∃ a xs ds, v = .ref a ∧ d = .list ds ∧ h a = some (.lst xs) ∧ DtAll T xs ds, fun ht hh s => by
  rcases s with s | ⟨a, xs, ds, e1, e2, e3, e4⟩
  · exact .inl (s.mono ht)
  · exact .inr ⟨a, xs, ds, e1, e2, hh _ _ e3, e4.mono ht⟩⟩
theorem Own.dl {K : PySem.W.Frag} {H : Hp} {L : List Asn} {v : V} {d : PyData} (x : Own H L) (m : dl v d ∈ L) : Dp K H v d := by
  rcases x.get (A := Sh.dl v d) m with s | ⟨a, xs, ds, rfl, rfl, e3, e4⟩
  · exact s.dp
  · exact .lst (SqL.of e3) e4.dp
theorem Own.dp {K : PySem.W.Frag} {H : Hp} {L : List Asn} {v : V} {d : PyData} (x : Own H L) (m : Sh.dt v d ∈ L) : Dp K H v d := (x.dt m).dp
theorem SLs.toDl {T h : Hp} {L : List Asn} {v : V} {d : PyData} (s : SLs T h (Sh.dt v d :: L)) : SLs T h (Sh.dl v d :: L) := by
  obtain ⟨h1, h2, a, b, c, x, s⟩ := s
  exact ⟨h1, h2, a, b, c, .inl x, s⟩
theorem Own.addDl {H : Hp} {L : List Asn} {v : V} {d : PyData} (x : Own H L) (e : Dt H v d) : Own H (Sh.dl v d :: L) := x.add (.inl e)
theorem Own.toDl {H : Hp} {L : List Asn} {a : Addr} {xs : List V} {ds : List PyData} (x : Own H (Sh.pt a (.lst xs) :: L)) (e : DtAll H xs ds) : Own H (Sh.dl (.ref a) (.list ds) :: L) := by
  obtain ⟨h1, h2, q1, q2, q3, y, s⟩ := x.s
  exact ⟨⟨h1, h2, q1, q2, q3, .inr ⟨a, xs, ds, rfl, rfl, y, e⟩, s⟩⟩
def erI : Er → Int
  | .NoSettings => 0
  | .NoWorth => 1
  | .NoHandle => 2
  | .Stale => 3
  | .Full => 4
  | .NoPlace => 5
  | .NoList => 6
  | .NoNumber => 7
  | .NotEmpty => 8
  | .NoDeed => 9
def refD (e : Er) : PyData := .tuple [.str "refused", .int (erI e)]
theorem pl_ref (e : Er) : pl 1 (refD e) = true := by cases e <;> decide +kernel
theorem DtAll.snoc {T : Hp} : ∀ {vs : List V} {ds : List PyData} {v : V} {d : PyData}, DtAll T vs ds → Dt T v d → DtAll T (vs ++ [v]) (ds ++ [d])
  | _, _, _, _, .nil, h => .cons h .nil
  | _, _, _, _, .cons a t, h => .cons a (DtAll.snoc t h)
theorem DtAll.len {T : Hp} : ∀ {vs : List V} {ds : List PyData}, DtAll T vs ds → vs.length = ds.length
  | _, _, .nil => rfl
  | _, _, .cons _ t => by rw [List.length_cons, List.length_cons, DtAll.len t]
theorem Own.addDs {H : Hp} {L : List Asn} {vs : List V} {ds : List PyData} (x : Own H L) (e : DtAll H vs ds) : Own H (Sh.dts vs ds :: L) := x.add e
/-- what is no handle, drawn -/
def spBadH (K : PySem.W.Frag) : Sp := fun vs H Q _ => ∃ (a t s : Addr) (ns : List Int) (n : Nat) (m r : Int) (la rn : Bool) (L : List Asn), vs = [.ref a, .ref t, .ref s] ∧ Own H (sq K a (iv ns) :: town t n :: L) ∧ tp s (setV m r la rn) ∈ L ∧
  n ≤ 1000000 ∧ ∀ v d H', isHandle m r d = false → Own H' (dl v d :: sq K a (iv ns) :: town t (n + 1) :: L) → Q v H'
/-! ### handles as numbers -/
theorem dpSet {K : PySem.W.Frag} {H : Hp} {a : Addr} {m r : Int} {la rn : Bool} (h : SqT K H a (setV m r la rn)) : Dp K H (.ref a) (setD m r la rn) := .tup h (.cons (.int _) (.cons (.int _) (.cons (.str _) (.cons (.str _) .nil))))
/-- settings are handed in, or something else -/
def SetsIn (K : PySem.W.Frag) (C : Cl) (H : Hp) (s : V) (E : XK) (R : Int → Int → Prop) : Prop :=
  (∃ (a : Addr) (m r : Int) (la rn : Bool), s = .ref a ∧ SqT K H a (setV m r la rn) ∧ 1 ≤ m ∧ m ≤ 60 ∧ 1 ≤ r ∧ r ≤ 1000 ∧ R m r) ∨ (∃ sd : PyData, Dp K H s sd ∧ areSettings sd = false ∧ E (.ref C.NoSettings) none H)
def spNumberOf (K : PySem.W.Frag) (C : Cl) : Sp := fun vs H Q E => ∃ (s v : V) (d : PyData), vs = [s, v] ∧ Dp K H v d ∧ SetsIn K C H s E fun m r =>
  (asH m r d = none → E (.ref C.NoHandle) none H) ∧ ∀ x c, asH m r d = some (x, c) → Q (.int (c * m + x)) H
def spHandleOf (K : PySem.W.Frag) (C : Cl) : Sp := fun vs H Q E => ∃ (s v : V) (d : PyData), vs = [s, v] ∧ Dp K H v d ∧ SetsIn K C H s E fun m r =>
  (isWhole d 0 (m * r - 1) = false → E (.ref C.NoNumber) none H) ∧ ∀ k, d = .int k → isWhole d 0 (m * r - 1) = true → ∀ p H', H p = none → H' = upd H p (.tup [.int (k % m), .int (k / m)]) → Q (.ref p) H'
section
variable {K : PySem.W.Frag} {H H' : Hp}
theorem SqL.up {a : Addr} {xs : List V} (l : HLe H H') (h : SqL K H a xs) : SqL K H' a xs := by
  rcases h with (s | ⟨o, s⟩) | s
  · exact .inl (.inl (l _ _ s))
  · exact .inl (.inr ⟨o, l _ _ s⟩)
  · exact .inr s
theorem SqT.up {a : Addr} {xs : List V} (l : HLe H H') (h : SqT K H a xs) : SqT K H' a xs := by
  rcases h with (s | ⟨o, s⟩) | s
  · exact .inl (.inl (l _ _ s))
  · exact .inl (.inr ⟨o, l _ _ s⟩)
  · exact .inr s
mutual
theorem Dp.up (l : HLe H H') : ∀ {d : PyData} {v : V}, Dp K H v d → Dp K H' v d
  | .none, _, h => by cases h; exact .non
  | .bool b, _, h => by cases h; exact .bl b
  | .int i, _, h => by cases h; exact .int i
  | .str x, _, h => by cases h; exact .str x
  | .dict _, _, h => by cases h
  | .list ds, _, h => by
    cases h with
    | lst h1 h2 => exact .lst (SqL.up l h1) (DpAll.up l h2)
  | .tuple ds, _, h => by
    cases h with
    | tup h1 h2 => exact .tup (SqT.up l h1) (DpAll.up l h2)
theorem DpAll.up (l : HLe H H') : ∀ {ds : List PyData} {vs : List V}, DpAll K H vs ds → DpAll K H' vs ds
  | [], _, h => by cases h; exact .nil
  | d :: ds, _, h => by
    cases h with
    | cons h1 h2 => exact .cons (Dp.up l h1) (DpAll.up l h2)
end
end
end Sh
namespace L2
open Sh
theorem Dp.more {K : PySem.W.Frag} {H H' : Hp} {p : PySem.Addr} {o : HO} {v : V} {d : PySem.PyData} (h : Dp K H v d) (hn : H p = none) (e : H' = upd H p o) : Dp K H' v d := Sh.Dp.up (e ▸ hle_new hn) h
end L2
namespace Sh
open PySem PySem.Spec L2 PyProof.Rows
/-! ### a def that is called within an except suite, with the exception that is handled there -/
/-- the handled exception stands at a, as oe, of the class at D -/
structure Hx (A : Around) (a : Addr) (oe : Obj) (D : Addr) : Prop where
  hd : A.handled = some (.ref a)
  zc : Zc (.ref D) none oe
  fl : ∃ vs, oe.data = .fields vs
structure FnE (P : Program) (w : World) (K : PySem.W.Frag) (mg : Str → Option Value) (base : Heap) (k : Nat) (f : Addr) (fd : FuncData) (ps : List Str) (sp : Addr → Addr → Sp) : Prop where
  len : ∀ a D vs H Q E, sp a D vs H Q E → vs.length = ps.length
  run : ∀ (A : Around) (outer : List Env) (s : Shared) (H : Hp) (args : Args) (us : List Value) (vs : List V) (Q : VK) (E : XK) (a : Addr) (oe : Obj) (D : Addr),
    L2H.RoomH k A → Hx A a oe D → L2H.PinOk outer H s (a, oe) → Env0 P w K mg base A outer s H → BindsTo s fd args (ps.zip us) → Vals vs us → sp a D vs H Q E →
    codeAny (model P w) A (.call (.ref f) args) (CR (L2N.CX P w) outer P w H s Q E) s
/-- the body of such a def -/
structure Be (X : Cx) (k : Nat) (N : List Str) (sc : Scope) (a : Addr) (oe : Obj) (D : Addr) : Prop where
  nf : Nf X N sc
  hr : L2H.RoomH k X.A
  nd : X.N.Nodup
  pn : (a, oe) ∈ X.pn
  zc : Zc (.ref D) none oe
  fl : ∃ vs, oe.data = .fields vs
theorem Around.deeper_handled (A : Around) (env : Env) : (A.deeper env).handled = A.handled := rfl
theorem fnE_of {P : Program} {w : World} {K : PySem.W.Frag} {mg : Str → Option Value} {base : Heap} {x qual : Str} {st : Stmt} {f : Addr} {fd : FuncData} {N ps : List Str} {k : Nat} {sp : Addr → Addr → Sp}
    (F : Fun K x qual st f fd) (S : FnScope N ps (defScope st)) (len : ∀ a D vs H Q E, sp a D vs H Q E → vs.length = ps.length)
    (body : ∀ (X : Cx), X.prog = P → X.w = w → X.K = K → X.mg = mg → X.base = base → ∀ (a : Addr) (oe : Obj) (D : Addr), Be X k N (defScope st) a oe D → ∀ (vs : List V) (H : Hp) (Q : VK) (E : XK),
      sp a D vs H Q E → Wb X (defBody st) { nx := fun _ H' => Q .non H', rt := Q } (start N vs) H) :
    FnE P w K mg base (k + 1) f fd ps sp := by
  obtain ⟨oc, od, kV, doc, pm, an, cdv, ct, osl, rfl, lk, hcd⟩ := F.ex
  refine ⟨len, fun A outer s H args us vs Q E a oe D hr hx hpin e0 hb r hsp => ?_⟩
  have lenV := len _ _ _ _ _ _ hsp
  have up : ∀ b o, base.get? b = some o → s.heap.get? b = some o := fun b o q => (e0.bs b o q).1
  have inK : K.In s.heap := e0.mod.kin.keeps up
  have nl : s.heap.NoLimit := e0.mod.nolimit.keeps up
  have kinds : ∀ y ∈ ps.zip us, (defScope st).names.lookup y.1 = some .local ∨ ((defScope st).names.lookup y.1 = some .cell ∧ ((cellsFrom (s.heap.objs.size + 1) (defScope st).names []).lookup y.1).isSome = true) := by
    rintro ⟨n, v⟩ hy
    rcases S.par n (List.of_mem_zip hy).1 with q | q
    · exact .inl q
    · exact .inr ⟨q, PySem.W.cellsFrom_some _ _ _ (.inl q)⟩
  refine codeAny_call_function hr.depth (inK _ _ lk) rfl S.co S.gen rfl (PySem.W.codeRec_of inK hcd) (hb _ _ _ _ ?_)
  refine wpAny_newFunctionEnv_cells S.kind kinds fun env he s1 c => ?_
  subst he
  refine ⟨nl.keeps c.toInCall.keep, codeAny_func ?_⟩
  have J := L2H.inv_startH (CX := L2N.CX P w) (E := E) (qual := qual) (f := f) (cd := cdv) (A := A) S hpin e0 lenV r c
  have W := body (L2H.cxH (L2N.CX P w) P w K mg base N qual (defScope st) f cdv A outer s H E (a, oe)) rfl rfl rfl rfl rfl a oe D
    ⟨⟨rfl, rfl, fun _ => rfl⟩, hr.deeper _, S.nd, List.mem_singleton.mpr rfl, hx.zc, hx.fl⟩ vs H Q E hsp
  refine wpAny_mono (W.run [] s1 J) (fun fl s' hs => ?_) fun _ _ z => z
  have done : ∀ {σ' : St} {H' : Hp} {v : V} {u : Value}, Inv (L2H.cxH (L2N.CX P w) P w K mg base N qual (defScope st) f cdv A outer s H E (a, oe)) [] σ' H' s' →
      RelV v u → Q v H' → CE outer P w H s Q u s' :=
    fun {σ' H' v u} J' rv q => ⟨v, H', J'.os, J'.bare, J'.base, J'.hok, rv, q⟩
  cases fl with
  | ret u =>
    obtain ⟨v, σ', H', J', rv, q⟩ := hs
    exact done J' rv q
  | next =>
    obtain ⟨σ', H', J', q⟩ := hs
    exact done (v := V.non) (u := Value.none) J' rfl q
  | brk =>
    obtain ⟨_, _, _, no⟩ := hs
    exact no.elim
  | cont =>
    obtain ⟨_, _, _, no⟩ := hs
    exact no.elim
structure En (P : Program) (w : World) (K : PySem.W.Frag) (mg : Str → Option Value) (base : Heap) (k : Nat) (x : Str) (ps : List Str) (sp : Addr → Addr → Sp) : Prop where
  ex : ∃ (f : Addr) (fd : FuncData), FnE P w K mg base k f fd ps sp ∧ mg x = some (.ref f) ∧ PySem.W.keepIn K (.ref f) = true ∧ Binds K fd ps []
section
variable {X : Cx} {a b c e o : Expr} {es rest : List Expr} {σ : St} {H : Hp} {Q : VK} {QB : Bool → Hp → Prop} {QA : List V → Hp → Prop} {D : Ends} {pos p1 p2 apos : Pos} {v x y : V} {n : Nat} {xs : List V}
  {k l : Nat} {ps : List Str} {z m : Str} {C : Addr}
theorem we_callE {ad : Addr} {oe : Obj} {De : Addr} {sp : Addr → Addr → Sp} (hr : L2H.RoomH l X.A) (hx : Hx X.A ad oe De) (hp : (ad, oe) ∈ X.pn) (gl : Gd X.env z) (G : En X.prog X.w X.K X.mg X.base k z ps sp) (hk : k ≤ l)
    (q : Wa X (e :: es) σ H fun vs H1 => sp ad De vs H1 Q fun _ _ _ => False)
    (he : starEach (e :: es) X.env = (false, eval e X.env) :: starEach es X.env := by rfl)
    (hpl : (backTo pos (starEach es X.env)).any (·.1) = false := by rfl) : We X (.Call (.Name z p1) (e :: es) [] pos) σ H Q := by
  obtain ⟨f, fd, F, hm, kp, hb⟩ := G.ex
  refine ⟨fun pins s I => wpAny_Call_Name_kw (ld_glob I gl.gl hm (PySem.W.callWith_K (h₀ := X.base) I.ok.mod.kin kp ?_ he hpl) gl.hd)⟩
  refine thn (q.run pos pins s I) fun us s1 hu => ?_
  obtain ⟨vs, H1, I1, r, q1⟩ := hu
  refine ⟨I1.kIn, ?_⟩
  have lenU : us.length = ps.length := by rw [← r.length]; exact F.len _ _ _ _ _ _ q1
  have bd := hb s1 us I1.kIn (by rw [List.append_nil]; exact lenU)
  rw [List.append_nil] at bd
  obtain ⟨g1, g2, g3, g4, g5⟩ := I1.pin (ad, oe) (List.mem_append_left _ hp)
  have pin : L2H.PinOk X.stack H1 s1 (ad, oe) := ⟨g1, g2, fun hm => (List.mem_cons.mp (I1.stkSub _ hm)).elim g3 g4, g5⟩
  have run := F.run X.A X.stack s1 H1 ⟨us, []⟩ us vs Q (fun _ _ _ => False) ad oe De (hr.mono hk) hx pin I1.env0 bd r q1
  refine wpAny_call (codeAny_mono run fun res s' g => ?_)
  cases res with
  | error er =>
    obtain ⟨_, _, _, _, _, _, _, _, _, _, _, _, no⟩ := g
    exact no.elim
  | ok fl =>
    cases fl with
    | ret u => exact I1.after g
    | next => exact False.elim g
    | brk => exact False.elim g
    | cont => exact False.elim g
/-- isinstance of the handled exception -/
theorem wc_isE {ad De : Addr} {oe : Obj} {c : V} {cv : Value} {bb : Bool} (hp : (ad, oe) ∈ X.pn) (Ce : ExcC X.K De) (hz : Zc (.ref De) none oe) (hf : ∃ vs, oe.data = .fields vs) (hc : ∀ u, RelV c u → u = cv)
    (hk : PySem.W.kitOne X.K (.ref De) cv = some bb) (q : Q (.bl bb) H) : Wcall X (.builtin "isinstance") [.ref ad, c] H Q := by
  refine ⟨fun pins s σ us I r => ?_⟩
  cases r with
  | cons r0 r =>
  cases r0
  cases r with
  | cons r1 r =>
  cases r
  cases hc _ r1
  have got := (I.pin (ad, oe) (List.mem_append_left _ hp)).1
  obtain ⟨vs, dv⟩ := hf
  have J : PySem.W.InstAt s.heap ad oe De none := by
    rcases oe with ⟨oc, od, oda, osl⟩
    obtain ⟨z1, z2⟩ := hz
    dsimp only at z1 z2 dv
    subst z1 z2 dv
    exact ⟨got, rfl, rfl, trivial⟩
  refine PySem.W.kia_one (PySem.W.handS_kitx_exc Ce.hg Ce.hk Ce.hs Ce.hd Ce.ha Ce.hn Ce.ht Ce.hm) I.kIn J hk (fun z => nomatch z) fun tk => ?_
  exact ⟨.bl bb, H, I.kept (t' := tk) fun _ _ z => z, rfl, q⟩
/-- try: body except c as n: suite -/
theorem ws_try {body suite : List Stmt} {b₀ : Stmt} {i : Nat} {cv : Value} {Wout : WX} {n : Str} {np pos' : Pos} (hs : X.stack = X.env :: X.outer) (hf : X.env.frame = some X.env.locals) (hN : X.N.Nodup) (nl : X.N[i]? = some n) (hln : X.env.kindOf n = some .local)
    (hc : Names X z cv) (tk : L2N.Takes X Wout)
    (q : ∀ (pn : List (Addr × Obj)) (xe : Value → Shared → Prop),
      L2N.Takes (X.tr pn xe) (wAs X.K cv i (fun a cls d D σ H => ∀ (oe : Obj) (pn' : List (Addr × Obj)), L2N.Zn cls d oe → (∃ vs, oe.data = .fields vs) → Wb (X.suite a ((a, oe) :: pn')) (b₀ :: suite) D σ H) Wout D) →
      PassesOwn (model X.prog X.w) X.A X.env xe → Wb (X.tr pn xe) body D σ H) :
    Ws X (.Try body [.ExceptHandler (some (.Name z np)) (some n) (b₀ :: suite) pos'] [] [] pos) D σ H :=
  of_ps (L2N.ps_try_as (tb := fun W D σ H => ∀ (pn : List (Addr × Obj)) (xe : Value → Shared → Prop), L2N.Takes (X.tr pn xe) W → PassesOwn (model X.prog X.w) X.A X.env xe → Wb (X.tr pn xe) body D σ H)
    (ts := fun a cls d D σ H => ∀ (oe : Obj) (pn' : List (Addr × Obj)), L2N.Zn cls d oe → (∃ vs, oe.data = .fields vs) → Wb (X.suite a ((a, oe) :: pn')) (b₀ :: suite) D σ H)
    hs hf hN nl hln hc tk (fun W pn xe t p => ⟨fun pins s σ H D I h => (h pn xe t p).run pins s I⟩)
    fun a oe cls d pn z f => ⟨fun pins s σ H D I h => (h oe pn z f).run pins s I⟩) q
/-- xs.count(y), flat items -/
theorem wm_count {ys : List V} {l : Addr} {r : V} (hs : SqL X.K H l ys) (fy : flatV y = true) (fys : ys.all flatV = true) (q : Q (.int (ys.countP fun z => eqV z y : Nat)) H) :
    ∀ (pins : List (Addr × Obj)) (s : Shared) (σ : St) (v : Value) (us : List Value), Inv X pins σ H s → RelV (.ref l) v → Vals [y] us → wpAny (model X.prog X.w) X.A (call (.builtin "list.count") (v :: us)) (EP X pins σ Q) X.xe s := by
  intro pins s σ v us I rv rus
  cases (show v = Value.ref l from rv)
  obtain ⟨u, rfl, ru⟩ := rus.one
  obtain ⟨its, vals, ⟨ob, k, ho, hc, hd, hdat⟩, hlen⟩ := I.list hs
  rcases ob with ⟨oc, od, oda, osl⟩
  dsimp only at hc hd hdat
  subst hc hd hdat
  have eqs : ∀ u' ∈ its, SeqAt.EqAt X.A.in1 s u' u (eqU y u') := fun u' h' => mem_eqAt ru fy vals fys u' h'
  refine call_meets PySem.F.slot_list_count ⟨_, ho, rfl⟩ PySem.F.entry_list_count (PySem.F.args_list_count_2 _ _) (SeqAt.list_countAt l its.toArray k none osl u (eqU y)) ⟨ho, fun u' h' => eqs u' (by simpa using h'), ?_⟩
  refine ⟨.int (ys.countP fun z => eqV z y : Nat), H, I.tok _, ⟨s.toks, ?_⟩, q⟩
  have cnt : ∀ {ys : List V} {its : List Value}, Vals ys its → ys.all flatV = true → its.countP (eqU y) = ys.countP fun z => eqV z y := by
    intro ys its vals
    induction vals with
    | nil => intro _; rfl
    | cons r0 _ ih =>
      intro f
      rw [List.all_cons, Bool.and_eq_true] at f
      rw [List.countP_cons, List.countP_cons, ih f.2, eqU_of r0 f.1]
  show Value.int ((its.toArray.toList.countP (eqU y) : Nat) : Int) s.toks = _
  rw [show its.toArray.toList = its from rfl, cnt vals fys]
end
theorem en_of {P : Program} {w : World} {K : PySem.W.Frag} {mg : Str → Option Value} {base : Heap} {x : Str} {st : Stmt} {N ps : List Str} {k : Nat} {sp : Addr → Addr → Sp} (A : DefAt K mg x st ps) (S : FnScope N ps (defScope st))
    (len : ∀ a D vs H Q E, sp a D vs H Q E → vs.length = ps.length)
    (body : ∀ (X : Cx), X.prog = P → X.w = w → X.K = K → X.mg = mg → X.base = base → ∀ (a : Addr) (oe : Obj) (D : Addr), Be X k N (defScope st) a oe D → ∀ (vs : List V) (H : Hp) (Q : VK) (E : XK),
      sp a D vs H Q E → Wb X (defBody st) { nx := fun _ H' => Q .non H', rt := Q } (start N vs) H) : En P w K mg base (k + 1) x ps sp := by
  obtain ⟨f, fd, F, hm, kp, hb⟩ := A
  exact ⟨f, fd, fnE_of F S len body, hm, kp, hb⟩
/-! which refusal -/
def spWhich (C : Cl) : Addr → Addr → Sp := fun a D vs H Q _ => ∃ (e : Er) (L : List Asn), vs = [.ref a] ∧ D = C.of e ∧ Own H L ∧ ∀ t H', Own H' (tp t [.str "refused", .int (erI e)] :: L) → Q (.ref t) H'
theorem we_extend {X : Cx} {o e : Expr} {σ : St} {H : Hp} {Q : VK} {pos apos : Pos} (q : We X o σ H fun x H1 => ∃ l, x = .ref l ∧ (∃ xs, SqL X.K H1 l xs) ∧ We X e σ H1 fun y H2 => ∃ b xs ys, y = .ref b ∧ H2 l = some (.lst xs) ∧ H2 b = some (.lst ys) ∧ xs.length + ys.length ≤ sizeLine ∧
      ∀ H3, H3 = upd H2 l (.lst (xs ++ ys)) → Q .non H3)
    (hbase : attributeBase o "extend" X.env (eval o X.env) = eval o X.env := by rfl)
    (hfew : ((backTo pos (starEach [e] X.env)).all (fun w => !w.1) && (backToKw pos (keywordEach [] X.env)).all (fun w => w.1.isSome)
      && decide (([e] : List Expr).length + ([] : List Keyword).length + (if ([] : List Keyword).isEmpty then 0 else 1) < 30)) = true := by rfl)
    (hline : (apos.endLine == pos.line) = true := by rfl) (hs : starEach [e] X.env = (false, eval e X.env) :: starEach [] X.env := by rfl) : We X (.Call (.Attribute o "extend" apos) [e] [] pos) σ H Q :=
  we_bm PySem.F.plainAttrs_list PySem.F.slot_list_extend PySem.F.type_list_extend mt_extend (we_imp q fun x H1 ⟨l, ex, hx, q1⟩ => ex ▸ ⟨.inl ⟨rfl, hx⟩,
    wa_cons (we_imp q1 fun y H2 ⟨b, xs, ys, ey, h1, h2, h3, h4⟩ => wa_nil (ey ▸ ⟨l, b, xs, ys, rfl, rfl, h1, h2, h3, h4 _ rfl⟩)) hs⟩) hbase hfew hline hs rfl
theorem we_count {X : Cx} {o e : Expr} {σ : St} {H : Hp} {Q : VK} {pos apos : Pos} (q : We X o σ H fun x H1 => ∃ l, x = .ref l ∧ (∃ xs, SqL X.K H1 l xs) ∧ We X e σ H1 fun y H2 => ∃ xs, SqL X.K H2 l xs ∧ flatV y = true ∧ xs.all flatV = true ∧ Q (.int (xs.countP fun z => eqV z y : Nat)) H2)
    (hbase : attributeBase o "count" X.env (eval o X.env) = eval o X.env := by rfl)
    (hfew : ((backTo pos (starEach [e] X.env)).all (fun w => !w.1) && (backToKw pos (keywordEach [] X.env)).all (fun w => w.1.isSome)
      && decide (([e] : List Expr).length + ([] : List Keyword).length + (if ([] : List Keyword).isEmpty then 0 else 1) < 30)) = true := by rfl)
    (hline : (apos.endLine == pos.line) = true := by rfl) (hs : starEach [e] X.env = (false, eval e X.env) :: starEach [] X.env := by rfl) : We X (.Call (.Attribute o "count" apos) [e] [] pos) σ H Q :=
  we_bm (r := fun x ws H Q => ∃ l y xs, x = .ref l ∧ ws = [y] ∧ SqL X.K H l xs ∧ flatV y = true ∧ xs.all flatV = true ∧ Q (.int (xs.countP fun z => eqV z y : Nat)) H) PySem.F.plainAttrs_list PySem.F.slot_list_count PySem.F.type_list_count
    (fun pins s σ H x xs v us Q I rx rs h => by
      obtain ⟨l, y, ys, rfl, rfl, h1, h2, h3, h4⟩ := h
      exact wm_count (r := .non) h1 h2 h3 h4 pins s σ v us I rx rs)
    (we_imp q fun x H1 ⟨l, ex, hx, q1⟩ => ex ▸ ⟨.inl ⟨rfl, hx⟩, wa_cons (we_imp q1 fun y H2 ⟨ys, h1, h2, h3, h4⟩ => wa_nil ⟨l, y, ys, rfl, rfl, h1, h2, h3, h4⟩) hs⟩) hbase hfew hline hs rfl
theorem we_index {X : Cx} {o e : Expr} {σ : St} {H : Hp} {Q : VK} {pos apos : Pos} (q : We X o σ H fun x H1 => ∃ l, x = .ref l ∧ (∃ xs, SqL X.K H1 l xs) ∧ We X e σ H1 fun y H2 => ∃ xs j z, SqL X.K H2 l xs ∧ flatV y = true ∧ xs.all flatV = true ∧ xs[j]? = some z ∧ eqV z y = true ∧
      (∀ m z', m < j → xs[m]? = some z' → eqV z' y = false) ∧ Q (.int (j : Nat)) H2)
    (hbase : attributeBase o "index" X.env (eval o X.env) = eval o X.env := by rfl)
    (hfew : ((backTo pos (starEach [e] X.env)).all (fun w => !w.1) && (backToKw pos (keywordEach [] X.env)).all (fun w => w.1.isSome)
      && decide (([e] : List Expr).length + ([] : List Keyword).length + (if ([] : List Keyword).isEmpty then 0 else 1) < 30)) = true := by rfl)
    (hline : (apos.endLine == pos.line) = true := by rfl) (hs : starEach [e] X.env = (false, eval e X.env) :: starEach [] X.env := by rfl) : We X (.Call (.Attribute o "index" apos) [e] [] pos) σ H Q :=
  we_bm PySem.F.plainAttrs_list PySem.F.slot_list_index PySem.F.type_list_index mt_index
    (we_imp q fun x H1 ⟨l, ex, hx, q1⟩ => ex ▸ ⟨.inl ⟨rfl, hx⟩, wa_cons (we_imp q1 fun y H2 ⟨ys, j, z, h1, h2, h3, h4, h5, h6, h7⟩ => wa_nil ⟨l, ys, y, j, z, rfl, rfl, h1, h2, h3, h4, h5, h6, h7⟩) hs⟩) hbase hfew hline hs rfl
def whichL (e : Er) : List V := [.bl (decide (e = .NoSettings)), .bl (decide (e = .NoWorth)), .bl (decide (e = .NoHandle)), .bl (decide (e = .Stale)), .bl (decide (e = .Full)), .bl (decide (e = .NoPlace)), .bl (decide (e = .NoList)),
  .bl (decide (e = .NoNumber)), .bl (decide (e = .NotEmpty)), .bl (decide (e = .NoDeed))]
theorem which_all (e : Er) : ((whichL e).take (erI e).toNat).all (fun z => !eqV z (.bl true)) = true := by cases e <;> decide
theorem which_min (e : Er) {m : Nat} {z : V} (hm : m < (erI e).toNat) (h : (whichL e)[m]? = some z) : eqV z (.bl true) = false := by
  have k := List.all_eq_true.mp (which_all e) z (by
    refine List.mem_of_getElem? (i := m) ?_
    rw [List.getElem?_take_of_lt hm]
    exact h)
  simpa using k
/-- a call of what an expression tells -/
theorem we_callX {X : Cx} {fe e : Expr} {es : List Expr} {σ : St} {H : Hp} {Q : VK} {W : WX} {l : Nat} {pos : Pos} (tk : L2N.Takes X W) (hr : Room l X.A)
    (q : We X fe σ H fun x H1 => ∃ (f : Addr) (fd : FuncData) (k : Nat) (ps : List Str) (sp : Sp), x = .ref f ∧ FnOk X.prog X.w X.K X.mg X.base (CN X) k f fd ps sp ∧ k ≤ l ∧ PySem.W.keepIn X.K (.ref f) = true ∧ Binds X.K fd ps [] ∧
      Wa X (e :: es) σ H1 fun vs H2 => sp vs H2 Q fun cls d H3 => W cls d σ H3)
    (he : starEach (e :: es) X.env = (false, eval e X.env) :: starEach es X.env := by rfl) (hp : (backTo pos (starEach es X.env)).any (·.1) = false := by rfl)
    (hc : eval (.Call fe (e :: es) [] pos) X.env = (do callWith pos (← eval fe X.env) [] (backTo pos (starEach (e :: es) X.env)) (backToKw pos (keywordEach [] X.env))) := by rfl) :
    We X (.Call fe (e :: es) [] pos) σ H Q := by
  refine ⟨fun pins s I => PyProof.Rows.Call_ (thn (q.run pins s I) fun u s1 hu => ?_) hc⟩
  obtain ⟨x, H1, I1, rx, f, fd, k, ps, sp, ex, F, hk, kp, hb, q1⟩ := hu
  subst ex
  cases (show u = Value.ref f from rx)
  refine PySem.W.callWith_K (h₀ := X.base) I.ok.mod.kin kp ?_ he hp
  refine thn (q1.run pos pins s1 I1) fun us s2 hs => ?_
  obtain ⟨vs, H2, I2, r, q2⟩ := hs
  exact ⟨I2.kIn, meth_at tk (hr.mono hk) F hb I2 r q2⟩
/-! ### the law itself -/
def spLaw (K : PySem.W.Frag) : Sp := fun vs H Q _ => ∃ (a : Addr) (ns : List Int), vs = [.ref a] ∧ SqL K H a (iv ns) ∧ ns.length ≤ 63 ∧ ∀ H', Q (.bl true) H'
theorem walkL {l : PySem.W.OpenLaw} {k : Nat} {q : Program} {loose : List Str} {XP : (Str → Option Value) → Heap → Prop} {YP : World → Heap → Prop} {d : DefRec} {K : Params → PySem.W.Frag} (hr : Room k callerA) (hn : l.most = some 63) (hdf : d.params.defaults = [])
    (hY : ∀ (w : World) (h : Heap), YP w h → (K w.params).In h)
    (F : ∀ (w : World) (mg : Str → Option Value) (fa : Addr) (h : Heap), (K w.params).In h → h.Ns mainGlobals mg → mg d.name = some (.ref fa) →
      ∃ fd : FuncData, (∀ (s : Shared) (u : Value), BindsTo s fd ⟨[u], []⟩ [("script", u)]) ∧ ∀ base : Heap, (K w.params).In base → base.Ns mainGlobals mg → FnOk l.prog w (K w.params) mg base (L2N.CX l.prog w) k fa fd ["script"] (spLaw (K w.params))) :
    PySem.W.WalkO q loose XP YP l.row.toRowW d [] (fun f vs => PySem.call f vs) :=
  L2.walk_of (n := 63) (k := k) (x := "script") (CX := fun w => L2N.CX l.prog w) (sp := fun w => spLaw (K w.params)) hn (by decide) hdf hr hY F
    (fun _ _ a ns hl _ hS => ⟨a, ns, rfl, hS, hl, fun _ => rfl⟩) fun _ _ _ _ _ z => by
      obtain ⟨_, _, _, _, _, _, _, _, _, _, _, _, no⟩ := z
      exact no
section
variable {K : PySem.W.Frag} {D C : Addr}
theorem kit_self : PySem.W.kitOne K (.ref D) (.ref D) = some true := by
  unfold PySem.W.kitOne
  rw [if_pos (beq_self_eq_true _)]
theorem kit_ref (hd : PySem.W.hasDictIn K C = true) (ht : PySem.W.typeIn K (.ref C) = some (.type "type")) (h1 : PySem.W.subIn K (.ref D) (.ref D) = some true) (h2 : PySem.W.subIn K (.ref D) (.ref C) = some false) :
    PySem.W.kitOne K (.ref D) (.ref C) = some false := by
  have ne : ¬ (Value.ref D == Value.ref C) = true := fun e => by
    have q : D = C := Value.ref.inj (beq_iff_eq.mp e)
    subst q
    rw [h1] at h2
    cases h2
  obtain ⟨cd, hc, _⟩ := PySem.W.any_some hd
  unfold PySem.W.kitOne
  rw [if_neg ne]
  show (if ((PySem.W.clsIn K C).isSome && PySem.W.typeIn K (.ref C) == some (.type "type")) = true then PySem.W.subIn K (.ref D) (.ref C) else none) = some false
  rw [hc, ht, if_pos (by rfl)]
  exact h2
theorem kit_val (h : PySem.W.subIn K (.ref D) (.type "ValueError") = some true) : PySem.W.kitOne K (.ref D) (.type "ValueError") = some true := by
  unfold PySem.W.kitOne
  rw [if_neg (by intro e; cases (beq_iff_eq.mp e))]
  show (if PySem.W.kitMeta "ValueError" = true then PySem.W.subIn K (.ref D) (.type "ValueError") else none) = some true
  rw [if_pos (by decide +kernel)]
  exact h
end
end Sh
namespace Sh
open PySem PySem.Spec L2 PyProof.Rows
section
variable {X : Cx} {a b c e o iter elt : Expr} {σ : St} {H : Hp} {Q : VK} {D : Ends} {pos p1 p2 p3 spos : Pos} {v x y : V} {n k : Nat} {z zy : Str} {body : List Stmt} {scope : Scope} {i : Nat}
/-- a name's target -/
theorem pg_nl (nl : Nl X.N X.env X.fn i z) (nd : X.N.Nodup) : PG X (.Name z p1) (gName i) := pg_name nd nl.at' nl.loc nl.fn
/-- for z in a list -/
theorem ws_forL (po : PassesOwn (model X.prog X.w) X.A X.env X.xe) (hc : X.calm = true) (nd : X.N.Nodup) (nl : Nl X.N X.env X.fn i z)
    (q : We X iter σ H fun x H1 => ∃ (l : Addr) (xs : List V), x = .ref l ∧ SqL X.K H1 l xs ∧ ∃ Pv : Nat → St → Hp → Prop, Pv 0 σ H1 ∧ (∀ j σ H, j ≤ xs.length → Pv j σ H → SqL X.K H l xs) ∧
      (∀ j y σ H, xs[j]? = some y → Pv j σ H → Wb X body { D with nx := Pv (j + 1), ct := Pv (j + 1), bk := D.nx } (σ.set i (some y)) H) ∧ ∀ σ H, Pv xs.length σ H → D.nx σ H)
    (hs : ∀ x, foldedSetIterable iter X.env x = pure x := by intro _; rfl) : Ws X (.For (.Name z p1) iter body [] pos) D σ H := by
  refine of_ps (ps_for po hc (pi_list We.pe) (pg_nl nl nd) Wb.pss hs) (we_imp q fun x H1 h => ?_)
  obtain ⟨l, xs, ex, hl, Pv, h0, h1, h2, h3⟩ := h
  exact ⟨l, ex, ⟨xs, hl⟩, for_list Pv h0 h1 (fun j y σ H e p => h2 j y σ H e p) h3⟩
/-- for z in range(e) -/
theorem ws_forR (po : PassesOwn (model X.prog X.w) X.A X.env X.xe) (hc : X.calm = true) (nd : X.N.Nodup) (nl : Nl X.N X.env X.fn i z) (g : Bn X.env X.mg "range" (.type "range"))
    (q : We X e σ H fun x H1 => ∃ m : Int, x = .int m ∧ -(2 ^ 62) ≤ m ∧ m < 2 ^ 62 ∧ ∃ Pv : Nat → St → Hp → Prop, Pv 0 σ H1 ∧
      (∀ (j : Nat) σ H, j < m.toNat → Pv j σ H → Wb X body { D with nx := Pv (j + 1), ct := Pv (j + 1), bk := D.nx } (σ.set i (some (.int (j : Int)))) H) ∧ ∀ σ H, Pv m.toNat σ H → D.nx σ H)
    (h1 : starEach [e] X.env = [(false, eval e X.env)] := by rfl)
    (hs : ∀ x, foldedSetIterable (.Call (.Name "range" p2) [e] [] p3) X.env x = pure x := by intro _; rfl) : Ws X (.For (.Name z p1) (.Call (.Name "range" p2) [e] [] p3) body [] pos) D σ H := by
  refine of_ps (ps_for po hc (pi_range1 g.gl g.mg (pa_cons We.pe pa_nil h1) h1) (pg_nl nl nd) Wb.pss hs) (we_imp q fun x H1 h => ?_)
  obtain ⟨m, rfl, b1, b2, Pv, h0, h2, h3⟩ := h
  refine ⟨m, rfl, b1, b2, for_range Pv h0 (fun j σ H hj p => ?_) h3⟩
  rw [Int.zero_add]
  exact h2 j σ H hj p
/-- for z1, z2 in enumerate(a list) -/
theorem ws_forE {i1 i2 kk : Nat} {z1 z2 : Str} {q1 q2 tpos : Pos} (po : PassesOwn (model X.prog X.w) X.A X.env X.xe) (hc : X.calm = true) (nd : X.N.Nodup) (n1 : Nl X.N X.env X.fn i1 z1) (n2 : Nl X.N X.env X.fn i2 z2) (g : Bn X.env X.mg "enumerate" (.type "enumerate"))
    (q : We X e σ H fun x H1 => ∃ (l : Addr) (xs : List V), x = .ref l ∧ SqL X.K H1 l xs ∧ ∃ Pv : Nat → St → Hp → Prop, Pv 0 σ H1 ∧ (∀ j σ H, j ≤ xs.length → Pv j σ H → SqL X.K H l xs) ∧
      (∀ (j : Nat) y σ H T H', xs[j]? = some y → Pv j σ H → H T = none → H' = upd H T (.tup [.int (j : Int), y]) → Wb X body { D with nx := Pv (j + 1), ct := Pv (j + 1), bk := D.nx } ((σ.set i1 (some (.int (j : Int)))).set i2 (some y)) H') ∧
      ∀ σ H, Pv xs.length σ H → D.nx σ H)
    (h1 : starEach [e] X.env = [(false, eval e X.env)] := by rfl)
    (hs : ∀ x, foldedSetIterable (.Call (.Name "enumerate" p2) [e] [] p3) X.env x = pure x := by intro _; rfl) :
    Ws X (.For (.Tuple [.Name z1 q1, .Name z2 q2] kk tpos) (.Call (.Name "enumerate" p2) [e] [] p3) body [] pos) D σ H := by
  refine of_ps (ps_for po hc (pi_enum g.gl g.mg (pa_cons We.pe pa_nil h1) h1) (pg_tup (n := 2) hc (pgs_cons (pg_nl n1 nd) (pgs_cons (pg_nl n2 nd) pgs_nil))) Wb.pss hs) (we_imp q fun x H1 h => ?_)
  obtain ⟨l, xs, ex, hl, Pv, h0, h2, h3, h4⟩ := h
  subst ex
  refine ⟨l, xs, rfl, hl, for_it walk_enum Pv h0 h2 (fun j x σ H H' hj p y => ?_) h4⟩
  obtain ⟨T, x1, x2, rfl, hn, e, hx, hy⟩ := y
  cases hx
  exact ⟨T, _, rfl, SqT.of (by rw [e]; exact upd_same), rfl, _, _, rfl, _, _, rfl, rfl, h3 j x2 σ H T H' hy p hn e⟩
/-! ### comprehensions -/
theorem lookup_map {β : Type} (f : Str → β → β) (x : Str) : ∀ l : List (Str × β), (l.map fun p => (p.1, f p.1 p.2)).lookup x = (l.lookup x).map (f x)
  | [] => rfl
  | (n, k) :: r => by
    rw [List.map_cons, List.lookup_cons, List.lookup_cons]
    cases e : (x == n) with
    | true =>
      have : x = n := beq_iff_eq.mp e
      subst this
      rfl
    | false => exact lookup_map f x r
theorem lookup_rl {scope : Scope} {env : Env} (x : Str) : (relabel scope env).names.lookup x = (scope.names.lookup x).map fun k => if (k == NameKind.free && env.scope.kind == .function && env.kindOf x == some .cell) = true then NameKind.cell else k := by
  have e : (relabel scope env).names = scope.names.map fun p => (p.1, (fun (n : Str) (k : NameKind) => if (k == NameKind.free && env.scope.kind == .function && env.kindOf n == some .cell) = true then NameKind.cell else k) p.1 p.2) := by
    show List.map _ _ = List.map _ _
    refine List.map_congr_left fun p _ => ?_
    obtain ⟨n, k⟩ := p
    dsimp only
    split
    · rfl
    · rfl
  rw [e]
  exact lookup_map (fun (n : Str) (k : NameKind) => if (k == NameKind.free && env.scope.kind == .function && env.kindOf n == some .cell) = true then NameKind.cell else k) x _
theorem rl_local {scope : Scope} {env : Env} {x : Str} (h : scope.names.lookup x = some .local) : (relabel scope env).names.lookup x = some .local := by rw [lookup_rl, h]; rfl
theorem rl_global {scope : Scope} {env : Env} {x : Str} (h : scope.names.lookup x = some .globalImplicit) : (relabel scope env).names.lookup x = some .globalImplicit := by rw [lookup_rl, h]; rfl
theorem rl_free {scope : Scope} {env : Env} {x : Str} (h : scope.names.lookup x = some .free) : (relabel scope env).names.lookup x = some .cell ∨ (relabel scope env).names.lookup x = some .free := by
  rw [lookup_rl, h, Option.map_some]
  split
  · exact .inl rfl
  · exact .inr rfl
theorem nmF {N : List Str} {env : Env} {cl : List (Str × Addr)} {C : Addr} (m : Nm N env i z) (h : scope.names.lookup z = some .free) : Nm N (compEnvC scope cl C env) i z := ⟨m.at', .inr (rl_free h), m.hd, m.hc⟩
theorem nmO {N : List Str} {env : Env} {cl : List (Str × Addr)} {C : Addr} (m : Nm N env i z) (h : scope.names.lookup z = some .local) : Nm N (compEnvC scope cl C env) i z := ⟨m.at', .inl (rl_local h), m.hd, m.hc⟩
theorem gdC {env : Env} {cl : List (Str × Addr)} {C : Addr} (m : Gd env z) (h : scope.names.lookup z = some .globalImplicit) : Gd (compEnvC scope cl C env) z := ⟨rl_global h, m.hd⟩
theorem bnC {env : Env} {mg : Str → Option Value} {u : Value} {cl : List (Str × Addr)} {C : Addr} (m : Bn env mg z u) (h : scope.names.lookup z = some .globalImplicit) : Bn (compEnvC scope cl C env) mg z u := ⟨rl_global h, m.hd, m.mg, m.bt, m.nn⟩
/-- a name that only a comprehension has -/
structure No (N : List Str) (i : Nat) (z : Str) : Prop where
  at' : N[i]? = some z
  hd : (z == ("__debug__" : Str)) = false
  hc : (z == ("__classdict__" : Str)) = false
theorem nmN {N : List Str} {env : Env} {cl : List (Str × Addr)} {C : Addr} (m : No N i z) (h : scope.names.lookup z = some .local) : Nm N (compEnvC scope cl C env) i z := ⟨m.at', .inl (rl_local h), m.hd, m.hc⟩
theorem Nm.no {N : List Str} {env : Env} (m : Nm N env i z) : No N i z := ⟨m.at', m.hd, m.hc⟩
/-- a global that only a comprehension has -/
structure Gc (z : Str) : Prop where
  hd : (z == ("__debug__" : Str)) = false
structure Bc (mg : Str → Option Value) (z : Str) (u : Value) : Prop where
  hd : (z == ("__debug__" : Str)) = false
  mg : mg z = none
  bt : bootBuiltins z = some u
  nn : z ≠ "__name__"
theorem gdN {env : Env} {cl : List (Str × Addr)} {C : Addr} (m : Gc z) (h : scope.names.lookup z = some .globalImplicit) : Gd (compEnvC scope cl C env) z := ⟨rl_global h, m.hd⟩
theorem bnN {env : Env} {mg : Str → Option Value} {u : Value} {cl : List (Str × Addr)} {C : Addr} (m : Bc mg z u) (h : scope.names.lookup z = some .globalImplicit) : Bn (compEnvC scope cl C env) mg z u := ⟨rl_global h, m.hd, m.mg, m.bt, m.nn⟩
theorem Nf.blk {N : List Str} {sc : Scope} {own : List (Str × Nat)} (B : Nf X N sc) (h : blkC N sc scope own = true) : BlkOk X.N X.env.scope scope own := by
  rw [B.hN, B.hs]
  exact blkOk_by h
theorem Nf.sw {N : List Str} {sc : Scope} {gs : List Comprehension} {py : Pos} {yn : Str} {l : Nat} (B : Nf X N sc) (hk : sc.kind = .function) (hy : sc.names.lookup yn = some .local) (hl : (py.line == pos.line) = true)
    (ha : (scope.names.any fun (n, k) => n == yn && (k == .local || k == .cell)) = false) : swapsWith (.ListComp elt gs scope pos) (some (.Name yn py)) l X.env = pure true :=
  sw_true (by rw [B.hs]; exact hk) (by rw [B.hs]; exact hy) hl ha
theorem Nf.no {N : List Str} {sc : Scope} (B : Nf X N sc) (h : N[i]? = some z) (hd : (z == ("__debug__" : Str)) = false) (hc : (z == ("__classdict__" : Str)) = false) : No X.N i z := ⟨by rw [B.hN]; exact h, hd, hc⟩
/-- the context of a comprehension's block -/
abbrev blk (X : Cx) (scope : Scope) (s : Shared) (H : Hp) (C : Addr) (cl : List (Str × Addr)) (fp : List Addr) : Cx := X.blk s H scope (compEnvC scope cl C X.env) fp
theorem takesB (s : Shared) (Hs : Hp) (C : Addr) (cl : List (Str × Addr)) (fp : List Addr) : L2N.Takes (blk X scope s Hs C cl fp) (fun _ _ _ _ => False) := fun _ _ x => by
  obtain ⟨_, _, _, _, _, _, _, _, _, _, _, _, _, _, _, _, no⟩ := x
  exact no.elim
def teB (X : Cx) (scope : Scope) (elt : Expr) : TE := fun σ H Q => ∀ (s : Shared) (Hs : Hp) (C : Addr) (cl : List (Str × Addr)) (fp : List Addr), We (blk X scope s Hs C cl fp) elt σ H Q
theorem lcT {scope : Scope} (nd : X.N.Nodup) (no : X.N[i]? = some z) (hz : scope.names.lookup z = some .local) (s : Shared) (Hs : Hp) (C : Addr) (cl : List (Str × Addr)) (fp : List Addr) : PG (blk X scope s Hs C cl fp) (.Name z p1) (gName i) :=
  pg_name nd no (.inl (rl_local hz)) (.inr (rl_local hz))
theorem lcE (s : Shared) (Hs : Hp) (C : Addr) (cl : List (Str × Addr)) (fp : List Addr) : PE (blk X scope s Hs C cl fp) elt (teB X scope elt) := ⟨fun pins t σ H Q I h => (h s Hs C cl fp).run pins t I⟩
theorem wipe1 (σ : St) (i : Nat) (v : Option V) : wipe ((wipe σ [i]).set i v) [i] = wipe σ [i] := by
  show ((σ.set i none).set i v).set i none = σ.set i none
  rw [List.set_set, List.set_set]
/-- [elt for z in a list], as it is read -/
def LcL (X : Cx) (scope : Scope) (i : Nat) (elt iter : Expr) (σ : St) (H : Hp) (Q : VK) : Prop :=
  We X iter σ H fun x H1 => ∃ (l : Addr) (xs : List V), x = .ref l ∧ SqL X.K H1 l xs ∧ ∀ dl H2, H1 dl = none → H2 = upd H1 dl (.lst []) → ∃ Pv : Nat → Hp → Prop, Pv 0 H2 ∧ (∀ j H, j ≤ xs.length → Pv j H → SqL X.K H l xs) ∧
    (∀ j y H, xs[j]? = some y → Pv j H → ∀ (s : Shared) (Hs : Hp) (C : Addr) (cl : List (Str × Addr)) (fp : List Addr), We (blk X scope s Hs C cl fp) elt ((σ.set i none).set i (some y)) H fun v H4 =>
      ∃ acc, H4 dl = some (.lst acc) ∧ acc.length < sizeLine ∧ ∀ H5, H5 = upd H4 dl (.lst (acc ++ [v])) → Pv (j + 1) H5) ∧ ∀ H, Pv xs.length H → Q (.ref dl) H
theorem LcL.t (q : LcL X scope i elt iter σ H Q) : tLc (iList X.K (We X iter)) (gName i) (fun _ H Q => Q true H) (teB X scope elt) [i] σ H Q := by
  refine we_imp q fun x H1 h => ?_
  obtain ⟨l, xs, ex, hl, h⟩ := h
  refine ⟨l, ex, ⟨xs, hl⟩, fun dl hn => ?_⟩
  obtain ⟨Pv, h0, h1, h2, h3⟩ := h dl _ hn rfl
  refine lc_list (te := teB X scope elt) (tt := fun _ H Q => Q true H) (g := gName i) Pv h0 h1 (fun j y H e p => ⟨wipe1 σ i _, iteT fun s Hs C cl fp => ?_⟩) h3
  exact we_imp (h2 j y H e p s Hs C cl fp) fun v H4 ⟨acc, g1, g2, g3⟩ => ⟨acc, g1, g2, g3 _ rfl⟩
def LcR (X : Cx) (scope : Scope) (i : Nat) (elt e : Expr) (σ : St) (H : Hp) (Q : VK) : Prop :=
  We X e σ H fun x H1 => ∃ m : Int, x = .int m ∧ -(2 ^ 62) ≤ m ∧ m < 2 ^ 62 ∧ ∀ dl H2, H1 dl = none → H2 = upd H1 dl (.lst []) → ∃ Pv : Nat → Hp → Prop, Pv 0 H2 ∧
    (∀ (j : Nat) H, j < m.toNat → Pv j H → ∀ (s : Shared) (Hs : Hp) (C : Addr) (cl : List (Str × Addr)) (fp : List Addr), We (blk X scope s Hs C cl fp) elt ((σ.set i none).set i (some (.int (j : Int)))) H fun v H4 =>
      ∃ acc, H4 dl = some (.lst acc) ∧ acc.length < sizeLine ∧ ∀ H5, H5 = upd H4 dl (.lst (acc ++ [v])) → Pv (j + 1) H5) ∧ ∀ H, Pv m.toNat H → Q (.ref dl) H
theorem LcR.t (q : LcR X scope i elt e σ H Q) : tLc (iRng1 (tCons (We X e) tNil)) (gName i) (fun _ H Q => Q true H) (teB X scope elt) [i] σ H Q := by
  refine we_imp q fun x H1 h => ?_
  obtain ⟨m, rfl, b1, b2, h⟩ := h
  refine ⟨m, rfl, b1, b2, fun dl hn => ?_⟩
  obtain ⟨Pv, h0, h2, h3⟩ := h dl _ hn rfl
  refine lc_range (te := teB X scope elt) (tt := fun _ H Q => Q true H) (g := gName i) Pv h0 (fun j H hj p => ⟨wipe1 σ i _, iteT fun s Hs C cl fp => ?_⟩) h3
  rw [Int.zero_add]
  exact we_imp (h2 j H hj p s Hs C cl fp) fun v H4 ⟨acc, g1, g2, g3⟩ => ⟨acc, g1, g2, g3 _ rfl⟩
theorem we_lcL (hc : X.calm = true) (nd : X.N.Nodup) (no : X.N[i]? = some z) (ok : BlkOk X.N X.env.scope scope [(z, i)]) (hz : scope.names.lookup z = some .local) (q : LcL X scope i elt iter σ H Q)
    (hs : ∀ x, foldedSetIterable iter X.env x = pure x := by intro _; rfl) : We X (.ListComp elt [⟨.Name z p1, iter, [], 0⟩] scope pos) σ H Q :=
  of_pe (pe_lc hc nd (pi_list We.pe) ok (fun s Hs C cl fp => lcT nd no hz s Hs C cl fp) (fun _ _ _ _ _ => pts_nil) (fun s Hs C cl fp => lcE s Hs C cl fp) hs) q.t
theorem we_lcR (hc : X.calm = true) (nd : X.N.Nodup) (no : X.N[i]? = some z) (ok : BlkOk X.N X.env.scope scope [(z, i)]) (hz : scope.names.lookup z = some .local) (g : Bn X.env X.mg "range" (.type "range")) (q : LcR X scope i elt e σ H Q)
    (h1 : starEach [e] X.env = [(false, eval e X.env)] := by rfl)
    (hs : ∀ x, foldedSetIterable (.Call (.Name "range" p2) [e] [] p3) X.env x = pure x := by intro _; rfl) : We X (.ListComp elt [⟨.Name z p1, .Call (.Name "range" p2) [e] [] p3, [], 0⟩] scope pos) σ H Q :=
  of_pe (pe_lc hc nd (pi_range1 g.gl g.mg (pa_cons We.pe pa_nil h1) h1) ok (fun s Hs C cl fp => lcT nd no hz s Hs C cl fp) (fun _ _ _ _ _ => pts_nil) (fun s Hs C cl fp => lcE s Hs C cl fp) hs) q.t
/-- y = [elt for z in ..] -/
theorem ws_lcL {iy : Nat} (hc : X.calm = true) (nd : X.N.Nodup) (ny : X.N[iy]? = some zy) (hy : X.env.scope.names.lookup zy = some .local) (hw : swapsWith (.ListComp elt [⟨.Name z p1, iter, [], 0⟩] scope pos) (some (.Name zy p2)) spos.line X.env = pure true)
    (no : X.N[i]? = some z) (ok : BlkOk X.N X.env.scope scope [(z, i)]) (hz : scope.names.lookup z = some .local) (q : LcL X scope i elt iter σ H fun v H1 => D.nx (σ.set iy (some v)) H1)
    (hs : ∀ x, foldedSetIterable iter X.env x = pure x := by intro _; rfl) : Ws X (.Assign [.Name zy p2] (.ListComp elt [⟨.Name z p1, iter, [], 0⟩] scope pos) spos) D σ H :=
  of_ps (ps_setLc hc nd ny hy hw (pi_list We.pe) ok (fun s Hs C cl fp => lcT nd no hz s Hs C cl fp) (fun _ _ _ _ _ => pts_nil) (fun s Hs C cl fp => lcE s Hs C cl fp) hs) q.t
theorem ws_lcR {iy : Nat} {p4 : Pos} (hc : X.calm = true) (nd : X.N.Nodup) (ny : X.N[iy]? = some zy) (hy : X.env.scope.names.lookup zy = some .local)
    (hw : swapsWith (.ListComp elt [⟨.Name z p1, .Call (.Name "range" p2) [e] [] p3, [], 0⟩] scope pos) (some (.Name zy p4)) spos.line X.env = pure true)
    (no : X.N[i]? = some z) (ok : BlkOk X.N X.env.scope scope [(z, i)]) (hz : scope.names.lookup z = some .local) (g : Bn X.env X.mg "range" (.type "range")) (q : LcR X scope i elt e σ H fun v H1 => D.nx (σ.set iy (some v)) H1)
    (h1 : starEach [e] X.env = [(false, eval e X.env)] := by rfl)
    (hs : ∀ x, foldedSetIterable (.Call (.Name "range" p2) [e] [] p3) X.env x = pure x := by intro _; rfl) : Ws X (.Assign [.Name zy p4] (.ListComp elt [⟨.Name z p1, .Call (.Name "range" p2) [e] [] p3, [], 0⟩] scope pos) spos) D σ H :=
  of_ps (ps_setLc hc nd ny hy hw (pi_range1 g.gl g.mg (pa_cons We.pe pa_nil h1) h1) ok (fun s Hs C cl fp => lcT nd no hz s Hs C cl fp) (fun _ _ _ _ _ => pts_nil) (fun s Hs C cl fp => lcE s Hs C cl fp) hs) q.t
end
end Sh
namespace Sh
open PySem PySem.Spec L2 PyProof.Rows
/-! ### a store's plain laws: what put and drop leave -/
section
variable {S S' : SS} {s c : Int} {v y : V}
theorem keys_drop (ws : List (Int × V)) (s : Int) : (dropK ws s).map (·.1) = (ws.map (·.1)).filter fun k => decide (k ≠ s) := by
  unfold dropK
  rw [List.filter_map]
  rfl
theorem perm_filter {s : Int} : ∀ {l : List Int}, l.Nodup → s ∈ l → l.Perm (s :: l.filter fun k => decide (k ≠ s))
  | [], _, h => by cases h
  | x :: l, nd, h => by
    rw [List.nodup_cons] at nd
    by_cases e : x = s
    · subst e
      have : (l.filter fun k => decide (k ≠ x)) = l := List.filter_eq_self.mpr fun k hk => decide_eq_true fun z => nd.1 (z ▸ hk)
      rw [List.filter_cons_of_neg (by simp), this]
    · have hm : s ∈ l := (List.mem_cons.mp h).resolve_left fun z => e z.symm
      rw [List.filter_cons_of_pos (by simp [e])]
      exact (List.Perm.cons x (perm_filter nd.2 hm)).trans (List.Perm.swap s x _)
theorem SS.Ok.notW (ok : S.Ok) (h : s ∈ S.ln ∨ s ∈ S.gn) : s ∉ S.ws.map (·.1) := fun hw => by
  have nd := ok.nd
  rw [List.nodup_append] at nd
  exact nd.2.2 s hw s (List.mem_append.mpr h) rfl
theorem valV_none (ws : List (Int × V)) (h : s ∉ ws.map (·.1)) : valV ws s = none := by
  cases e : valV ws s with
  | none => rfl
  | some v => exact absurd ((valV_mem ws s).mp (by rw [e]; rfl)) h
/-- what a put leaves: the two ways -/
theorem SS.put_cases (ok : S.Ok) (h : S.putIn v = .ok ((s, c), S')) :
    (s ∈ S.ln ∧ c = S.cnt s ∧ ∃ ln', S.ln.Perm (s :: ln') ∧ S' = { S with ln := ln', ws := S.ws ++ [(s, v)] } ∧ (S.last = false → S.ln = s :: ln') ∧ (S.last = true → S.ln = ln' ++ [s])) ∨
    (S.ln = [] ∧ s = S.cs.length ∧ c = 0 ∧ (S.cs.length : Int) < S.n ∧ S' = { S with cs := S.cs ++ [0], ws := S.ws ++ [(s, v)] }) := by
  unfold SS.putIn at h
  by_cases hl : S.ln ≠ []
  · rw [if_pos hl] at h
    cases hla : S.last with
    | false =>
      rw [hla] at h
      simp only [Bool.false_eq_true, ↓reduceIte, Except.ok.injEq, Prod.mk.injEq] at h
      obtain ⟨⟨rfl, rfl⟩, rfl⟩ := h
      cases e : S.ln with
      | nil => exact absurd e hl
      | cons x r =>
        left
        have hx : x ∉ S.ws.map (·.1) := ok.notW (.inl (by rw [e]; exact List.mem_cons_self))
        refine ⟨List.mem_cons_self, rfl, r, List.Perm.refl _, ?_, fun _ => rfl, fun z => by cases z⟩
        show SS.mk _ _ _ _ _ (putK S.ws x v) _ _ = _
        rw [putK_new v (valV_none _ hx), ← hla]
        rfl
    | true =>
      rw [hla] at h
      simp only [↓reduceIte, Except.ok.injEq, Prod.mk.injEq] at h
      obtain ⟨⟨rfl, rfl⟩, rfl⟩ := h
      left
      have el : S.ln = S.ln.dropLast ++ [S.ln.getLastD 0] := by
        rw [List.getLastD_eq_getLast?, List.getLast?_eq_some_getLast hl]
        exact (List.dropLast_concat_getLast hl).symm
      have hin : S.ln.getLastD 0 ∈ S.ln := by rw [el]; simp
      have hx : S.ln.getLastD 0 ∉ S.ws.map (·.1) := ok.notW (.inl hin)
      refine ⟨hin, rfl, S.ln.dropLast, ?_, ?_, fun z => (by cases z), fun _ => el⟩
      · have p : (S.ln.dropLast ++ [S.ln.getLastD 0]).Perm (S.ln.getLastD 0 :: S.ln.dropLast) := List.perm_append_singleton _ _
        rwa [← el] at p
      · rw [putK_new v (valV_none _ hx), ← hla]
  · rw [if_neg hl] at h
    by_cases hc : (S.cs.length : Int) < S.n
    · rw [if_pos hc] at h
      simp only [Except.ok.injEq, Prod.mk.injEq] at h
      obtain ⟨⟨rfl, rfl⟩, rfl⟩ := h
      right
      have hx : (S.cs.length : Int) ∉ S.ws.map (·.1) := fun z => by have := (ok.rngW z).2; omega
      exact ⟨Classical.byContradiction hl, rfl, rfl, hc, by rw [putK_new v (valV_none _ hx)]⟩
    · rw [if_neg hc] at h
      cases h
theorem SS.put_err {e : Er} (h : S.putIn v = .error e) : e = .Full ∧ S.ln = [] ∧ ¬ (S.cs.length : Int) < S.n := by
  unfold SS.putIn at h
  by_cases hl : S.ln ≠ []
  · rw [if_pos hl] at h; cases h
  · rw [if_neg hl] at h
    by_cases hc : (S.cs.length : Int) < S.n
    · rw [if_pos hc] at h; cases h
    · rw [if_neg hc] at h
      cases h
      exact ⟨rfl, Classical.byContradiction hl, hc⟩
theorem SS.Ok.put (ok : S.Ok) (h : S.putIn v = .ok ((s, c), S')) : S'.Ok := by
  rcases SS.put_cases ok h with ⟨h1, h2, ln', pe, rfl, -, -⟩ | ⟨h1, rfl, h3, h4, rfl⟩
  · refine ⟨ok.n1, ok.n60, ok.r1, ok.rk, ok.len, ok.cr, ?_⟩
    show (List.map (·.1) (S.ws ++ [(s, v)]) ++ (ln' ++ S.gn)).Perm (slots S.cs.length)
    rw [List.map_append, List.append_assoc]
    refine List.Perm.trans (List.Perm.append_left _ ?_) ok.parts
    exact (List.Perm.append_right S.gn pe).symm
  · refine ⟨ok.n1, ok.n60, ok.r1, ok.rk, ?_, ?_, ?_⟩
    · show ((S.cs ++ [0]).length : Int) ≤ S.n
      rw [List.length_append, List.length_singleton]
      omega
    · intro k hk
      rcases List.mem_append.mp hk with hk | hk
      · exact ok.cr k hk
      · have := List.mem_singleton.mp hk
        have := ok.r1
        show 0 ≤ k ∧ k < S.r
        omega
    · show (List.map (·.1) (S.ws ++ [((S.cs.length : Int), v)]) ++ (S.ln ++ S.gn)).Perm (slots (S.cs ++ [0]).length)
      rw [List.map_append, List.length_append, List.length_singleton, slots_succ]
      have p1 : (List.map (·.1) S.ws ++ List.map (·.1) [((S.cs.length : Int), v)] ++ (S.ln ++ S.gn)).Perm (List.map (·.1) S.ws ++ (S.ln ++ S.gn) ++ [(S.cs.length : Int)]) := by
        rw [List.append_assoc, List.append_assoc]
        exact List.Perm.append_left _ List.perm_append_comm
      exact p1.trans (List.Perm.append_right _ ok.parts)
theorem SS.Ok.drop (ok : S.Ok) (h : s ∈ S.ws.map (·.1)) : (S.dropAt s).Ok := by
  have rng := ok.rngW h
  have r1 := ok.r1
  have pk : (S.ws.map (·.1)).Perm (s :: (dropK S.ws s).map (·.1)) := by rw [keys_drop]; exact perm_filter ok.ndW h
  have pl : ((dropK S.ws s).map (·.1) ++ ((S.ln ++ [s]) ++ S.gn)).Perm (slots S.cs.length) := by
    refine List.Perm.trans ?_ ok.parts
    refine List.Perm.trans ?_ (List.Perm.append_right _ pk.symm)
    rw [List.cons_append]
    have : ((dropK S.ws s).map (·.1) ++ (S.ln ++ [s] ++ S.gn)).Perm (s :: ((dropK S.ws s).map (·.1) ++ (S.ln ++ S.gn))) := by
      refine List.Perm.trans (List.Perm.append_left _ ?_) List.perm_middle
      rw [List.append_assoc]
      exact List.perm_middle
    exact this
  have cm : ∀ (k : Int), 0 ≤ k ∧ k < S.r → ∀ c ∈ S.cs.set s.toNat k, 0 ≤ c ∧ c < S.r := fun k hk c hc => by
    rcases List.mem_or_eq_of_mem_set hc with hc | rfl
    · exact ok.cr c hc
    · exact hk
  have c0 : 0 ≤ S.cnt s := by
    have hk : s.toNat < S.cs.length := by omega
    unfold SS.cnt
    rw [List.getD_eq_getElem?_getD, List.getElem?_eq_getElem hk]
    exact (ok.cr _ (List.getElem_mem hk)).1
  unfold SS.dropAt
  split
  · refine ⟨ok.n1, ok.n60, ok.r1, ok.rk, ?_, cm _ ⟨by omega, by assumption⟩, ?_⟩
    · show ((S.cs.set s.toNat (S.cnt s + 1)).length : Int) ≤ S.n
      rw [List.length_set]; exact ok.len
    · show List.Perm _ (slots (S.cs.set s.toNat (S.cnt s + 1)).length)
      rw [List.length_set]; exact pl
  · split
    · refine ⟨ok.n1, ok.n60, ok.r1, ok.rk, ?_, cm _ ⟨by omega, by show (0 : Int) < S.r; omega⟩, ?_⟩
      · show ((S.cs.set s.toNat 0).length : Int) ≤ S.n
        rw [List.length_set]; exact ok.len
      · show List.Perm _ (slots (S.cs.set s.toNat 0).length)
        rw [List.length_set]; exact pl
    · refine ⟨ok.n1, ok.n60, ok.r1, ok.rk, ok.len, ok.cr, ?_⟩
      show ((dropK S.ws s).map (·.1) ++ (S.ln ++ (S.gn ++ [s]))).Perm (slots S.cs.length)
      refine List.Perm.trans (List.Perm.append_left _ ?_) pl
      rw [List.append_assoc]
      exact List.Perm.append_left _ List.perm_append_comm
theorem keys_put_old (ws : List (Int × V)) (h : s ∈ ws.map (·.1)) : (putK ws s v).map (·.1) = ws.map (·.1) := by
  have ha : (ws.any fun kv => decide (kv.1 = s)) = true := by rw [valV_any]; exact (valV_mem ws s).mpr h
  unfold putK
  rw [if_pos ha, List.map_map]
  refine List.map_congr_left fun p _ => ?_
  show (if p.1 = s then (p.1, v) else p).1 = p.1
  split <;> rfl
theorem SS.Ok.chg (ok : S.Ok) (h : s ∈ S.ws.map (·.1)) : (S.chg s v).Ok := by
  refine ⟨ok.n1, ok.n60, ok.r1, ok.rk, ok.len, ok.cr, ?_⟩
  show (List.map (·.1) (putK S.ws s v) ++ _).Perm _
  rw [keys_put_old _ h]
  exact ok.parts
end
end Sh
namespace Sh
open PySem PySem.Spec L2 PyProof.Rows
section
variable {X : Cx} {a b c e o lo hi : Expr} {σ : St} {H : Hp} {Q : VK} {pos p1 p2 p3 : Pos}
/-- xs[:hi] of a list -/
theorem we_slTo (q : We X e σ H fun x H1 => We X hi σ H1 fun y H2 => ∃ (i : Int) (a : Addr) (xs : List V), y = .int i ∧ x = .ref a ∧ SqL X.K H2 a xs ∧ ∀ p H3, H2 p = none → H3 = upd H2 p (.lst (cutV xs none (some i))) → Q (.ref p) H3) : We X (.Subscript e (.Slice none (some hi) none p2) pos) σ H Q :=
  we_slice sl_list po_none (po_some We.pe) (we_imp q fun x H1 h => we_imp h fun y H2 ⟨i, a, xs, e1, e2, h1, h2⟩ => ⟨i, e1, a, xs, e2, h1, fun p hp => h2 p _ hp rfl⟩)
/-- xs[lo:] of a list -/
theorem we_slFrom (q : We X e σ H fun x H1 => We X lo σ H1 fun y H2 => ∃ (i : Int) (a : Addr) (xs : List V), y = .int i ∧ x = .ref a ∧ SqL X.K H2 a xs ∧ ∀ p H3, H2 p = none → H3 = upd H2 p (.lst (cutV xs (some i) none)) → Q (.ref p) H3) : We X (.Subscript e (.Slice (some lo) none none p2) pos) σ H Q :=
  we_slice sl_list (po_some We.pe) po_none (we_imp q fun x H1 h => we_imp h fun y H2 ⟨i, a, xs, e1, e2, h1, h2⟩ => ⟨i, e1, a, xs, e2, h1, fun p hp => h2 p _ hp rfl⟩)
theorem cut_init (xs : List V) (x : V) : cutV (xs ++ [x]) none (some (-1)) = xs := by
  have e : HT.sIx (xs ++ [x]).length (xs ++ [x]).length (some (-1)) = xs.length := by
    rw [List.length_append, List.length_singleton]
    simp only [HT.sIx]
    split <;> omega
  unfold cutV
  rw [e]
  show ((xs ++ [x]).drop 0).take (xs.length - 0) = xs
  simp
end
theorem Own.addDt {H : Hp} {L : List Asn} {v : V} {d : PyData} (x : Own H L) (e : Dt H v d) : Own H (Sh.dt v d :: L) := x.add e
section
variable {T : Hp}
theorem DtAll.get {T : Hp} : ∀ {vs : List V} {ds : List PyData} {j : Nat} {y : V}, DtAll T vs ds → vs[j]? = some y → ∃ d, ds[j]? = some d ∧ Dt T y d
  | _, _, _, _, .nil, h => by simp at h
  | _, _, 0, _, .cons a _, h => by
    rw [List.getElem?_cons_zero] at h
    cases h
    exact ⟨_, rfl, a⟩
  | _, _, j + 1, _, .cons _ t, h => by
    rw [List.getElem?_cons_succ] at h
    rw [List.getElem?_cons_succ]
    exact DtAll.get t h
theorem pl_hD (k : Nat) (p : Int × Int) : pl (k + 1) (hD p) = true := by
  show ([PyData.int p.1, PyData.int p.2].all (pl k)) = true
  cases k <;> rfl
theorem hD_inj {p q : Int × Int} : hD p = hD q ↔ p = q := by
  constructor
  · intro h
    unfold hD at h
    injection h with h
    injection h with h1 h
    injection h with h2 h
    injection h1 with h1
    injection h2 with h2
    exact Prod.ext h1 h2
  · intro h; rw [h]
end
end Sh
/-! The same judgements over a list of assertions in the place of the heap. -/
namespace Sh
open PySem PySem.Spec L2 PyProof.Rows
abbrev As := List Asn
abbrev LK := V → As → Prop
abbrev SK := St → As → Prop
def dn (Q : LK) : VK := fun v H => ∃ L, Own H L ∧ Q v L
def dnB (Q : Bool → As → Prop) : Bool → Hp → Prop := fun b H => ∃ L, Own H L ∧ Q b L
def dnA (Q : List V → As → Prop) : List V → Hp → Prop := fun b H => ∃ L, Own H L ∧ Q b L
def dnS (Q : SK) : St → Hp → Prop := fun b H => ∃ L, Own H L ∧ Q b L
structure DL where
  nx : SK
  rt : LK
  bk : SK := fun _ _ => False
  ct : SK := fun _ _ => False
def DL.dn (D : DL) : Ends := ⟨dnS D.nx, Sh.dn D.rt, dnS D.bk, dnS D.ct⟩
structure EL (X : Cx) (e : Expr) (σ : St) (L : As) (Q : LK) : Prop where
  run : ∀ H, Own H L → We X e σ H (dn Q)
structure TL (X : Cx) (e : Expr) (σ : St) (L : As) (Q : Bool → As → Prop) : Prop where
  run : ∀ H, Own H L → Wt X e σ H (dnB Q)
structure WL (X : Cx) (e : Expr) (σ : St) (L : As) (Q : Bool → As → Prop) : Prop where
  run : ∀ H, Own H L → Ww X e σ H (dnB Q)
structure AL (X : Cx) (es : List Expr) (σ : St) (L : As) (Q : List V → As → Prop) : Prop where
  run : ∀ H, Own H L → Wa X es σ H (dnA Q)
structure SL (X : Cx) (st : Stmt) (D : DL) (σ : St) (L : As) : Prop where
  run : ∀ H, Own H L → Ws X st D.dn σ H
structure BL (X : Cx) (st : List Stmt) (D : DL) (σ : St) (L : As) : Prop where
  run : ∀ H, Own H L → Wb X st D.dn σ H
structure GL (X : Cx) (tg : Expr) (v : V) (σ : St) (L : As) (Q : SK) : Prop where
  run : ∀ H, Own H L → Wg X tg v σ H (dnS Q)
structure OL (X : Cx) (f : Value → Value → Sem Value) (x y : V) (L : As) (Q : LK) : Prop where
  run : ∀ H, Own H L → Wop X f x y H (dn Q)
structure UL (X : Cx) (f : Value → Sem Value) (x : V) (L : As) (Q : LK) : Prop where
  run : ∀ H, Own H L → Wun X f x H (dn Q)
structure CL (X : Cx) (f : Value) (xs : List V) (L : As) (Q : LK) : Prop where
  run : ∀ H, Own H L → Wcall X f xs H (dn Q)
structure XL (X : Cx) (x y : V) (L : As) (Q : LK) : Prop where
  run : ∀ H, Own H L → Wsub X x y H (dn Q)
/-- one list of assertions gives another -/
def Imp (L L' : As) : Prop := ∀ T h, SLs T h L → SLs T h L'
theorem Imp.own {L L' : As} (h : Imp L L') {H : Hp} (o : Own H L) : Own H L' := ⟨h H H o.s⟩

section
variable {X : Cx} {a b c e o : Expr} {es rest : List Expr} {σ : St} {H : Hp} {L L' L1 G : As} {QH QH' : VK} {Q : LK} {QB : Bool → As → Prop} {QA : List V → As → Prop} {QS : SK} {D : DL} {pos p1 p2 p3 apos : Pos} {v x y : V} {i j : Int} {n : Nat} {p l : Addr} {xs ys : List V}
theorem wt_imp {P P' : Bool → Hp → Prop} (q : Wt X e σ H P) (h : ∀ v H1, P v H1 → P' v H1) : Wt X e σ H P' := ⟨fun pins s I => thn (q.run pins s I) fun _ _ ⟨H1, I1, q1⟩ => ⟨H1, I1, h _ H1 q1⟩⟩
theorem ww_imp {P P' : Bool → Hp → Prop} (q : Ww X e σ H P) (h : ∀ v H1, P v H1 → P' v H1) : Ww X e σ H P' := ⟨fun wh pins s I => thn (q.run wh pins s I) fun _ _ ⟨H1, I1, q1⟩ => ⟨H1, I1, h _ H1 q1⟩⟩
theorem wop_imp {f : Value → Value → Sem Value} (q : Wop X f x y H QH) (h : ∀ v H1, QH v H1 → QH' v H1) : Wop X f x y H QH' := ⟨fun pins s σ u v I r1 r2 => thn (q.run pins s σ u v I r1 r2) fun _ _ ⟨w, H1, I1, r, q1⟩ => ⟨w, H1, I1, r, h _ H1 q1⟩⟩
theorem wun_imp {f : Value → Sem Value} (q : Wun X f x H QH) (h : ∀ v H1, QH v H1 → QH' v H1) : Wun X f x H QH' := ⟨fun pins s σ u I r1 => thn (q.run pins s σ u I r1) fun _ _ ⟨w, H1, I1, r, q1⟩ => ⟨w, H1, I1, r, h _ H1 q1⟩⟩
theorem wg_imp {P P' : St → Hp → Prop} (q : Wg X e v σ H P) (h : ∀ v H1, P v H1 → P' v H1) : Wg X e v σ H P' := ⟨fun pins s u I r => thn (q.run pins s u I r) fun _ _ ⟨σ', H1, I1, q1⟩ => ⟨σ', H1, I1, h _ H1 q1⟩⟩
structure ELe (D D' : Ends) : Prop where
  nx : ∀ σ H, D.nx σ H → D'.nx σ H
  rt : ∀ σ H, D.rt σ H → D'.rt σ H
  bk : ∀ σ H, D.bk σ H → D'.bk σ H
  ct : ∀ σ H, D.ct σ H → D'.ct σ H
theorem sp_imp {pins : List (Addr × Obj)} {D D' : Ends} (h : ELe D D') (f : Flow) (s : Shared) (q : SP X pins D f s) : SP X pins D' f s := by
  cases f with
  | next => obtain ⟨σ', H', I, q⟩ := q; exact ⟨σ', H', I, h.nx _ _ q⟩
  | brk => obtain ⟨σ', H', I, q⟩ := q; exact ⟨σ', H', I, h.bk _ _ q⟩
  | cont => obtain ⟨σ', H', I, q⟩ := q; exact ⟨σ', H', I, h.ct _ _ q⟩
  | ret u => obtain ⟨v, σ', H', I, r, q⟩ := q; exact ⟨v, σ', H', I, r, h.rt _ _ q⟩
theorem ws_imp {st : Stmt} {D D' : Ends} (q : Ws X st D σ H) (h : ELe D D') : Ws X st D' σ H := ⟨fun pins s I => thn (q.run pins s I) fun f s' => sp_imp h f s'⟩
theorem wb_imp {st : List Stmt} {D D' : Ends} (q : Wb X st D σ H) (h : ELe D D') : Wb X st D' σ H := ⟨fun pins s I => thn (q.run pins s I) fun f s' => sp_imp h f s'⟩

/-! changes of the list -/
theorem ite_m {A B A' B' : Prop} {k : Bool} (q : if k = true then A else B) (h1 : A → A') (h2 : B → B') : if k = true then A' else B' := by
  cases k with
  | true => exact h1 q
  | false => exact h2 q
theorem Imp.rfl : Imp L L := fun _ _ h => h
theorem Imp.trans (h : Imp L L1) (k : Imp L1 L') : Imp L L' := fun T g o => k T g (h T g o)
theorem EL.sub (h : Imp L L') (q : EL X e σ L' Q) : EL X e σ L Q := ⟨fun H o => q.run H (h.own o)⟩
theorem TL.sub (h : Imp L L') (q : TL X e σ L' QB) : TL X e σ L QB := ⟨fun H o => q.run H (h.own o)⟩
theorem AL.sub (h : Imp L L') (q : AL X es σ L' QA) : AL X es σ L QA := ⟨fun H o => q.run H (h.own o)⟩
theorem SL.sub {st : Stmt} (h : Imp L L') (q : SL X st D σ L') : SL X st D σ L := ⟨fun H o => q.run H (h.own o)⟩
theorem BL.sub {st : List Stmt} (h : Imp L L') (q : BL X st D σ L') : BL X st D σ L := ⟨fun H o => q.run H (h.own o)⟩
theorem OL.sub {f : Value → Value → Sem Value} (h : Imp L L') (q : OL X f x y L' Q) : OL X f x y L Q := ⟨fun H o => q.run H (h.own o)⟩
theorem XL.sub (h : Imp L L') (q : XL X x y L' Q) : XL X x y L Q := ⟨fun H o => q.run H (h.own o)⟩
theorem CL.sub {f : Value} (h : Imp L L') (q : CL X f xs L' Q) : CL X f xs L Q := ⟨fun H o => q.run H (h.own o)⟩
/-- what the assertions tell in plain words -/
theorem EL.know {φ : Prop} (h : ∀ H, Own H L → φ) (q : φ → EL X e σ L Q) : EL X e σ L Q := ⟨fun H o => (q (h H o)).run H o⟩
theorem BL.know {φ : Prop} {st : List Stmt} (h : ∀ H, Own H L → φ) (q : φ → BL X st D σ L) : BL X st D σ L := ⟨fun H o => (q (h H o)).run H o⟩
theorem CL.know {φ : Prop} {f : Value} (h : ∀ H, Own H L → φ) (q : φ → CL X f xs L Q) : CL X f xs L Q := ⟨fun H o => (q (h H o)).run H o⟩
theorem imp_nil : Imp L [] := fun _ _ _ => trivial
theorem imp_cons {A : Asn} (r : Rm A L L1) (k : Imp L1 G) : Imp L (A :: G) := fun T h s => by
  obtain ⟨h1, h2, d, l1, l2, a, s⟩ := s.front r
  exact ⟨h1, h2, d, l1, l2, a, k T h2 s⟩
theorem imp_same {A : Asn} (k : Imp L G) : Imp (A :: L) (A :: G) := fun T h s => by
  obtain ⟨h1, h2, d, l1, l2, a, s⟩ := s
  exact ⟨h1, h2, d, l1, l2, a, k T h2 s⟩
theorem imp_drop {A : Asn} (k : Imp L G) : Imp (A :: L) G := fun T h s => k T h s.drop
/-- one assertion weakened -/
theorem imp_up {A B : Asn} (r : Rm A L L1) (w : ∀ T h, A.P T h → B.P T h) (k : Imp L1 G) : Imp L (B :: G) := fun T h s => by
  obtain ⟨h1, h2, d, l1, l2, a, s⟩ := s.front r
  exact ⟨h1, h2, d, l1, l2, w T h1 a, k T h2 s⟩
theorem mem_rm {A : Asn} {L : As} (m : A ∈ L) : ∃ L1, Rm A L L1 := by
  induction L with
  | nil => cases m
  | cons B L ih =>
    rcases List.mem_cons.mp m with e | m
    · subst e; exact ⟨L, .here⟩
    · obtain ⟨L1, r⟩ := ih m
      exact ⟨B :: L1, .there r⟩
/-- a thing that owns nothing may be said again -/
theorem imp_add {A : Asn} (w : ∀ T h, SLs T h L → A.P T (fun _ => none)) (k : Imp L G) : Imp L (A :: G) := fun T h s =>
  ⟨_, h, fun _ => .inl rfl, fun _ _ e => (by cases e), HLe.rfl, w T h s, k T h s⟩
theorem imp_dt {d : PyData} (m : dt v d ∈ L) (k : Imp L G) : Imp L (dt v d :: G) := imp_add (fun T h s => show Dt T v d from (s.get (A := dt v d) m)) k
theorem imp_tp (m : tp p xs ∈ L) (k : Imp L G) : Imp L (tp p xs :: G) := imp_add (fun T h s => show T p = some (.tup xs) from (s.get (A := tp p xs) m)) k
theorem imp_dts {ds : List PyData} (m : dts xs ds ∈ L) (k : Imp L G) : Imp L (dts xs ds :: G) := imp_add (fun T h s => show DtAll T xs ds from (s.get (A := dts xs ds) m)) k

/-! expressions -/
theorem el_var {k : Nat} {z : Str} (m : Nm X.N X.env k z) (h : σ[k]? = some (some v)) (q : Q v L) : EL X (.Name z pos) σ L Q := ⟨fun H o => we_var m h ⟨L, o, q⟩⟩
theorem el_int (q : Q (.int i) L) : EL X (.Constant (.int i) n pos) σ L Q := ⟨fun H o => we_int ⟨L, o, q⟩⟩
theorem el_bl {k : Bool} (q : Q (.bl k) L) : EL X (.Constant (.bool k) n pos) σ L Q := ⟨fun H o => we_bl ⟨L, o, q⟩⟩
theorem el_non (q : Q .non L) : EL X (.Constant .none n pos) σ L Q := ⟨fun H o => we_non ⟨L, o, q⟩⟩
theorem el_str {z : Str} (q : Q (.str z) L) : EL X (.Constant (.str z) n pos) σ L Q := ⟨fun H o => we_str ⟨L, o, q⟩⟩
theorem el_bty {z : Str} {T : String} (g : Bn X.env X.mg z (.type T)) (q : Q (.ty T) L) : EL X (.Name z pos) σ L Q := ⟨fun H o => we_bty g ⟨L, o, q⟩⟩
theorem el_gint {z : Str} (g : Gd X.env z) (m : ∃ t, X.mg z = some (.int i t)) (q : Q (.int i) L) : EL X (.Name z pos) σ L Q := ⟨fun H o => we_gint g m ⟨L, o, q⟩⟩
theorem el_gref {z : Str} (g : Gd X.env z) (m : X.mg z = some (.ref p)) (q : Q (.ref p) L) : EL X (.Name z pos) σ L Q := ⟨fun H o => we_gref g m ⟨L, o, q⟩⟩
theorem el_op {op : Operator} (q : EL X a σ L fun x L1 => EL X b σ L1 fun y L2 => OL X (binaryOp op) x y L2 Q) : EL X (.BinOp a op b pos) σ L Q :=
  ⟨fun H o => we_op (we_imp (q.run H o) fun _ H1 ⟨_, o1, q1⟩ => we_imp (q1.run H1 o1) fun _ H2 ⟨_, o2, q2⟩ => q2.run H2 o2)⟩
theorem el_neg (q : EL X a σ L fun x L1 => UL X (unaryOp .USub) x L1 Q) : EL X (.UnaryOp .USub a pos) σ L Q := ⟨fun H o => we_neg (we_imp (q.run H o) fun _ H1 ⟨_, o1, q1⟩ => q1.run H1 o1)⟩
theorem el_not (q : EL X a σ L fun x L1 => ∃ c, x = .bl c ∧ Q (.bl (!c)) L1) : EL X (.UnaryOp .Not a pos) σ L Q := ⟨fun H o => we_not (we_imp (q.run H o) fun _ H1 ⟨L1, o1, c, e, q1⟩ => ⟨c, e, L1, o1, q1⟩)⟩
theorem el_cmp {op : CmpOp} (hm : behindInMarks op b = false) (q : EL X a σ L fun x L1 => EL X b σ L1 fun y L2 => OL X (compareOp op) x y L2 Q) : EL X (.Compare a [op] [b] pos) σ L Q :=
  ⟨fun H o => we_cmp hm (we_imp (q.run H o) fun _ H1 ⟨_, o1, q1⟩ => we_imp (q1.run H1 o1) fun _ H2 ⟨_, o2, q2⟩ => q2.run H2 o2)⟩
theorem el_one {op : BoolOp} (q : EL X a σ L Q) : EL X (.BoolOp op [a] pos) σ L Q := ⟨fun H o => we_one (q.run H o)⟩
theorem el_and (q : EL X a σ L fun x L1 => ∃ c, x = .bl c ∧ if c = true then EL X (.BoolOp .And (b :: rest) pos) σ L1 Q else Q (.bl false) L1) : EL X (.BoolOp .And (a :: b :: rest) pos) σ L Q :=
  ⟨fun H o => we_and (we_imp (q.run H o) fun _ H1 ⟨L1, o1, c, e, q1⟩ => ⟨c, e, ite_b (fun h => by rw [if_pos h] at q1; exact q1.run H1 o1) fun h => by rw [h, if_neg Bool.false_ne_true] at q1; exact ⟨L1, o1, q1⟩⟩)⟩
theorem el_or (q : EL X a σ L fun x L1 => ∃ c, x = .bl c ∧ if c = true then Q (.bl true) L1 else EL X (.BoolOp .Or (b :: rest) pos) σ L1 Q) : EL X (.BoolOp .Or (a :: b :: rest) pos) σ L Q :=
  ⟨fun H o => we_or (we_imp (q.run H o) fun _ H1 ⟨L1, o1, c, e, q1⟩ => ⟨c, e, ite_b (fun h => by rw [if_pos h] at q1; exact ⟨L1, o1, q1⟩) fun h => by rw [h, if_neg Bool.false_ne_true] at q1; exact q1.run H1 o1⟩)⟩
theorem el_ifx (q : TL X c σ L fun k L1 => if k = true then EL X a σ L1 Q else EL X b σ L1 Q) : EL X (.IfExp c a b pos) σ L Q :=
  ⟨fun H o => we_ifx (wt_imp (q.run H o) fun k H1 ⟨L1, o1, q1⟩ => ite_m q1 (fun z => z.run H1 o1) (fun z => z.run H1 o1))⟩
theorem el_chain {op op' : CmpOp} {b c : Expr} (hm : lastMarks [op, op'] [b, c] = false)
    (q : EL X a σ L fun x L1 => EL X b σ L1 fun y L2 => OL X (compareOp op) x y L2 fun z L3 => ∃ k, z = .bl k ∧
      if k = true then EL X c σ L3 fun w L4 => OL X (compareOp op') y w L4 Q else Q (.bl false) L3) : EL X (.Compare a [op, op'] [b, c] pos) σ L Q :=
  ⟨fun H o => we_chain hm (we_imp (q.run H o) fun _ H1 ⟨_, o1, q1⟩ => we_imp (q1.run H1 o1) fun _ H2 ⟨_, o2, q2⟩ => wop_imp (q2.run H2 o2) fun _ H3 ⟨L3, o3, k, e, q3⟩ =>
    ⟨k, e, ite_b (fun h => by rw [if_pos h] at q3; exact we_imp (q3.run H3 o3) fun _ H4 ⟨_, o4, q4⟩ => q4.run H4 o4) fun h => by rw [h, if_neg Bool.false_ne_true] at q3; exact ⟨L3, o3, q3⟩⟩)⟩
/-! tests -/
theorem tl_cmp {op : CmpOp} (hm : behindInMarks op b = false) (q : EL X a σ L fun x L1 => EL X b σ L1 fun y L2 => OL X (compareOp op) x y L2 fun z L3 => ∃ k, z = .bl k ∧ QB k L3) : TL X (.Compare a [op] [b] pos) σ L QB :=
  ⟨fun H o => wt_cmp hm (we_imp (q.run H o) fun _ H1 ⟨_, o1, q1⟩ => we_imp (q1.run H1 o1) fun _ H2 ⟨_, o2, q2⟩ => wop_imp (q2.run H2 o2) fun _ H3 ⟨L3, o3, k, e, q3⟩ => ⟨k, e, L3, o3, q3⟩)⟩
theorem tl_not (q : TL X a σ L fun k L1 => QB (!k) L1) : TL X (.UnaryOp .Not a pos) σ L QB := ⟨fun H o => wt_not (wt_imp (q.run H o) fun _ _ q1 => q1)⟩
theorem tl_wl (q : WL X e σ L QB) : TL X e σ L QB := ⟨fun H o => wt_ww (q.run H o)⟩
theorem wl_and1 (q : TL X a σ L QB) : WL X (.BoolOp .And [a] pos) σ L QB := ⟨fun H o => ww_and1 (q.run H o)⟩
theorem wl_or1 (q : TL X a σ L QB) : WL X (.BoolOp .Or [a] pos) σ L QB := ⟨fun H o => ww_or1 (q.run H o)⟩
theorem wl_and (q : TL X a σ L fun k L1 => if k = true then WL X (.BoolOp .And (b :: rest) pos) σ L1 QB else QB false L1) : WL X (.BoolOp .And (a :: b :: rest) pos) σ L QB :=
  ⟨fun H o => ww_and (wt_imp (q.run H o) fun k H1 ⟨L1, o1, q1⟩ => ite_m q1 (fun z => z.run H1 o1) (fun z => ⟨L1, o1, z⟩))⟩
theorem wl_or (q : TL X a σ L fun k L1 => if k = true then QB true L1 else WL X (.BoolOp .Or (b :: rest) pos) σ L1 QB) : WL X (.BoolOp .Or (a :: b :: rest) pos) σ L QB :=
  ⟨fun H o => ww_or (wt_imp (q.run H o) fun k H1 ⟨L1, o1, q1⟩ => ite_m q1 (fun z => ⟨L1, o1, z⟩) (fun z => z.run H1 o1))⟩
theorem tl_val (q : EL X e σ L fun z L1 => ∃ k, z = .bl k ∧ QB k L1)
    (he : ∀ whole, isTrue e X.env whole = (do let v ← whole; standAt e.pos; holding [v] (truthy v)) := by intro _; rfl) : TL X e σ L QB :=
  ⟨fun H o => wt_val (we_imp (q.run H o) fun _ H1 ⟨L1, o1, k, e, q1⟩ => ⟨k, e, L1, o1, q1⟩) he⟩
/-! arguments, displays -/
theorem al_nil (q : QA [] L) : AL X [] σ L QA := ⟨fun H o => wa_nil ⟨L, o, q⟩⟩
theorem al_cons (q : EL X e σ L fun x L1 => AL X es σ L1 fun xs L2 => QA (x :: xs) L2) (hs : starEach (e :: es) X.env = (false, eval e X.env) :: starEach es X.env := by rfl) : AL X (e :: es) σ L QA :=
  ⟨fun H o => wa_cons (we_imp (q.run H o) fun _ H1 ⟨_, o1, q1⟩ => wa_imp (q1.run H1 o1) fun _ H2 ⟨L2, o2, q2⟩ => ⟨L2, o2, q2⟩) hs⟩
/-- a new tuple, a new list: what is told of it -/
def NewT (xs : List V) (L : As) (Q : LK) : Prop := ∀ H, Own H L → xs.length ≤ sizeLine ∧ ∀ p H2, H p = none → H2 = upd H p (.tup xs) → ∃ L', Own H2 L' ∧ Q (.ref p) L'
def NewL (xs : List V) (L : As) (Q : LK) : Prop := ∀ H, Own H L → xs.length ≤ sizeLine ∧ ∀ p H2, H p = none → H2 = upd H p (.lst xs) → ∃ L', Own H2 L' ∧ Q (.ref p) L'
theorem newT_t (h : xs.length ≤ sizeLine) (q : ∀ p, Q (.ref p) (tp p xs :: L)) : NewT xs L Q := fun H o => ⟨h, fun p H2 hn e => ⟨_, o.newTE hn e, q p⟩⟩
theorem newL_p (h : xs.length ≤ sizeLine) (q : ∀ p, Q (.ref p) (pt p (.lst xs) :: L)) : NewL xs L Q := fun H o => ⟨h, fun p H2 hn e => ⟨_, o.newE hn e, q p⟩⟩
theorem el_tup {k : Nat} (q : AL X es σ L fun xs L1 => NewT xs L1 Q) : EL X (.Tuple es k pos) σ L Q :=
  ⟨fun H o => we_tup (wa_imp (q.run H o) fun xs H1 ⟨L1, o1, q1⟩ => q1 H1 o1)⟩
theorem el_lst (q : AL X es σ L fun xs L1 => NewL xs L1 Q) : EL X (.List es pos) σ L Q :=
  ⟨fun H o => we_lst (wa_imp (q.run H o) fun xs H1 ⟨L1, o1, q1⟩ => q1 H1 o1)⟩
theorem el_dict0 (q : ∀ p, Q (.ref p) (pt p (.dK []) :: L)) : EL X (.Dict [] [] pos) σ L Q := ⟨fun H o => we_dict0 fun p H2 hn e => ⟨_, o.newE hn e, q p⟩⟩
theorem el_dict0T (q : ∀ p, Q (.ref p) (pt p (.dT []) :: L)) : EL X (.Dict [] [] pos) σ L Q := ⟨fun H o => we_dict0T fun p H2 hn e => ⟨_, o.newE hn e, q p⟩⟩
/-! subscripts -/
theorem el_sub (hs : PlainIx b) (q : EL X a σ L fun x L1 => EL X b σ L1 fun y L2 => XL X x y L2 Q) : EL X (.Subscript a b pos) σ L Q :=
  ⟨fun H o => we_sub hs (we_imp (q.run H o) fun _ H1 ⟨_, o1, q1⟩ => we_imp (q1.run H1 o1) fun _ H2 ⟨_, o2, q2⟩ => q2.run H2 o2)⟩
theorem xl_T (m : tp p xs ∈ L) (hv : atI xs i = some v) (q : Q v L) : XL X (.ref p) (.int i) L Q := ⟨fun H o => o_subT o m hv ⟨L, o, q⟩⟩
theorem xl_L (m : pt p (.lst xs) ∈ L) (hv : atI xs i = some v) (q : Q v L) : XL X (.ref p) (.int i) L Q := ⟨fun H o => o_subL o m hv ⟨L, o, q⟩⟩
theorem xl_D {kvs : List (Key × V)} {k : Key} (hu : X.A.units + 1 < cLine) (m : pt p (.dK kvs) ∈ L) (hv : valV kvs k = some v) (q : Q v L) : XL X (.ref p) (kV k) L Q := ⟨fun H o => o_subD hu o m hv ⟨L, o, q⟩⟩
theorem xl_Ds {kvs : List (Key × V)} {k : Str} (hu : X.A.units + 1 < cLine) (m : pt p (.dK kvs) ∈ L) (hv : valV kvs (.inr k) = some v) (q : Q v L) : XL X (.ref p) (.str k) L Q := xl_D (k := .inr k) hu m hv q
theorem xl_Di {kvs : List (Key × V)} {k : Int} (hu : X.A.units + 1 < cLine) (m : pt p (.dK kvs) ∈ L) (hv : valV kvs (.inl k) = some v) (q : Q v L) : XL X (.ref p) (.int k) L Q := xl_D (k := .inl k) hu m hv q
/-! calls of built-ins -/
theorem el_callB {z : Str} {id : String} (g : Bn X.env X.mg z (.builtin id)) (q : AL X (e :: es) σ L fun vs L1 => CL X (.builtin id) vs L1 Q)
    (he : starEach (e :: es) X.env = (false, eval e X.env) :: starEach es X.env := by rfl) (hp : (backTo pos (starEach es X.env)).any (·.1) = false := by rfl) : EL X (.Call (.Name z p1) (e :: es) [] pos) σ L Q :=
  ⟨fun H o => we_callB g (wa_imp (q.run H o) fun _ H1 ⟨_, o1, q1⟩ => q1.run H1 o1) he hp⟩
theorem el_callTy {z : Str} {T : String} (g : Bn X.env X.mg z (.type T)) (q : AL X (e :: es) σ L fun vs L1 => CL X (.type T) vs L1 Q)
    (he : starEach (e :: es) X.env = (false, eval e X.env) :: starEach es X.env := by rfl) (hp : (backTo pos (starEach es X.env)).any (·.1) = false := by rfl) : EL X (.Call (.Name z p1) (e :: es) [] pos) σ L Q :=
  ⟨fun H o => we_callTy g (wa_imp (q.run H o) fun _ H1 ⟨_, o1, q1⟩ => q1.run H1 o1) he hp⟩
theorem of_cl {f : Value} {r : List V → Hp → VK → Prop} (h : CallR X f r) (q : ∀ H, Own H L → r xs H (dn Q)) : CL X f xs L Q := ⟨fun H o => of_cr h (q H o)⟩
theorem of_ol {f : Value → Value → Sem Value} {r : R2} (h : OpR X f r) (q : ∀ H, Own H L → r x y H (dn Q)) : OL X f x y L Q := ⟨fun H o => of_op h (q H o)⟩
/-! operators -/
theorem ol_add (q : Q (.int (i + j)) L) : OL X (binaryOp .Add) (.int i) (.int j) L Q := ⟨fun H o => wop_add ⟨L, o, q⟩⟩
theorem ol_sub (q : Q (.int (i - j)) L) : OL X (binaryOp .Sub) (.int i) (.int j) L Q := ⟨fun H o => wop_sub ⟨L, o, q⟩⟩
theorem ol_mul (h : CMul i j) (q : Q (.int (i * j)) L) : OL X (binaryOp .Mult) (.int i) (.int j) L Q := ⟨fun H o => wop_mul h ⟨L, o, q⟩⟩
theorem ol_mod (h : 0 < j) (q : Q (.int (i % j)) L) : OL X (binaryOp .Mod) (.int i) (.int j) L Q := ⟨fun H o => wop_mod h ⟨L, o, q⟩⟩
theorem ol_fdiv (h : 0 < j) (h2 : j < 1073741824) (q : Q (.int (i / j)) L) : OL X (binaryOp .FloorDiv) (.int i) (.int j) L Q := ⟨fun H o => wop_fdiv h h2 ⟨L, o, q⟩⟩
theorem ul_neg (q : Q (.int (-i)) L) : UL X (unaryOp .USub) (.int i) L Q := ⟨fun H o => wun_neg ⟨L, o, q⟩⟩
theorem ol_lt (q : Q (.bl (decide (i < j))) L) : OL X (compareOp .Lt) (.int i) (.int j) L Q := ⟨fun H o => wop_lt ⟨L, o, q⟩⟩
theorem ol_le (q : Q (.bl (decide (i ≤ j))) L) : OL X (compareOp .LtE) (.int i) (.int j) L Q := ⟨fun H o => wop_le ⟨L, o, q⟩⟩
theorem ol_gt (q : Q (.bl (decide (j < i))) L) : OL X (compareOp .Gt) (.int i) (.int j) L Q := ⟨fun H o => wop_gt ⟨L, o, q⟩⟩
theorem ol_ge (q : Q (.bl (decide (j ≤ i))) L) : OL X (compareOp .GtE) (.int i) (.int j) L Q := ⟨fun H o => wop_ge ⟨L, o, q⟩⟩
theorem dec_int : decide (V.int i = V.int j) = decide (i = j) := decide_eq_decide.mpr ⟨fun h => V.int.inj h, fun h => by rw [h]⟩
theorem dec_str {s t : Str} : decide (V.str s = V.str t) = decide (s = t) := decide_eq_decide.mpr ⟨fun h => V.str.inj h, fun h => by rw [h]⟩
theorem ol_eqI (q : Q (.bl (decide (i = j))) L) : OL X (compareOp .Eq) (.int i) (.int j) L Q := ⟨fun H o => wop_eq rfl (by rw [dec_int]; exact ⟨L, o, q⟩)⟩
theorem ol_neI (q : Q (.bl (!decide (i = j))) L) : OL X (compareOp .NotEq) (.int i) (.int j) L Q := ⟨fun H o => wop_ne rfl (by rw [dec_int]; exact ⟨L, o, q⟩)⟩
theorem ol_eqS {s t : Str} (q : Q (.bl (decide (s = t))) L) : OL X (compareOp .Eq) (.str s) (.str t) L Q := ⟨fun H o => wop_eq rfl (by rw [dec_str]; exact ⟨L, o, q⟩)⟩
theorem ol_neS {s t : Str} (q : Q (.bl (!decide (s = t))) L) : OL X (compareOp .NotEq) (.str s) (.str t) L Q := ⟨fun H o => wop_ne rfl (by rw [dec_str]; exact ⟨L, o, q⟩)⟩
theorem ol_isN (q : Q (.bl (decide (x = .non))) L) : OL X (compareOp .Is) x .non L Q := ⟨fun H o => wop_isN ⟨L, o, q⟩⟩
theorem ol_notN (q : Q (.bl (!decide (x = .non))) L) : OL X (compareOp .IsNot) x .non L Q := ⟨fun H o => wop_notN ⟨L, o, q⟩⟩
theorem ite_d {A B φ : Prop} [Decidable φ] (h1 : φ → A) (h2 : ¬ φ → B) : if decide φ = true then A else B := by
  by_cases h : φ
  · rw [if_pos (decide_eq_true h)]; exact h1 h
  · rw [if_neg (by simp [h])]; exact h2 h
theorem ite_n {A B φ : Prop} [Decidable φ] (h1 : ¬ φ → A) (h2 : φ → B) : if (!decide φ) = true then A else B := by
  by_cases h : φ
  · rw [if_neg (by simp [h])]; exact h2 h
  · rw [if_pos (by simp [h])]; exact h1 h
theorem ite_i {A B φ : Prop} {k : Bool} (e : k = true ↔ φ) (h1 : φ → A) (h2 : ¬ φ → B) : if k = true then A else B := by
  by_cases h : k = true
  · rw [if_pos h]; exact h1 (e.mp h)
  · rw [if_neg h]; exact h2 fun z => h (e.mpr z)
theorem ite_ni {A B φ : Prop} {k : Bool} (e : k = true ↔ φ) (h1 : ¬ φ → A) (h2 : φ → B) : if (!k) = true then A else B := by
  cases k with
  | true => exact h2 (e.mp rfl)
  | false => exact h1 fun z => Bool.false_ne_true (e.mpr z)
/-! statements -/
variable {st : Stmt} {sts sts2 : List Stmt}
theorem bl_nil (q : D.nx σ L) : BL X [] D σ L := ⟨fun H o => wb_nil ⟨L, o, q⟩⟩
theorem bl_cons (q : SL X st { D with nx := fun σ' L' => BL X sts D σ' L' } σ L) : BL X (st :: sts) D σ L :=
  ⟨fun H o => wb_cons (ws_imp (q.run H o) ⟨fun _ H1 ⟨_, o1, q1⟩ => q1.run H1 o1, fun _ _ z => z, fun _ _ z => z, fun _ _ z => z⟩)⟩
theorem bl_one (q : SL X st D σ L) : BL X [st] D σ L := ⟨fun H o => wb_one (q.run H o)⟩
theorem sl_expr (q : EL X e σ L fun _ L1 => D.nx σ L1) (hs : swapsWith e none pos.line X.env = pure false := by rfl) : SL X (.Expr e pos) D σ L := ⟨fun H o => ws_expr (we_imp (q.run H o) fun _ _ z => z) hs⟩
theorem sl_ret (q : EL X e σ L D.rt) : SL X (.Return (some e) pos) D σ L := ⟨fun H o => ws_ret (q.run H o)⟩
theorem sl_if (q : TL X c σ L fun k L1 => if k = true then BL X sts D σ L1 else BL X sts2 D σ L1) : SL X (.If c sts sts2 pos) D σ L :=
  ⟨fun H o => ws_if (wt_imp (q.run H o) fun k H1 ⟨L1, o1, q1⟩ => ite_m q1 (fun z => z.run H1 o1) (fun z => z.run H1 o1))⟩
theorem sl_pass (q : D.nx σ L) : SL X (.Pass pos) D σ L := ⟨fun H o => ws_pass ⟨L, o, q⟩⟩
theorem sl_cont (q : D.ct σ L) : SL X (.Continue pos) D σ L := ⟨fun H o => of_ps ps_continue ⟨L, o, q⟩⟩
theorem gl_name {i : Nat} {z : Str} (nl : Nl X.N X.env X.fn i z) (hN : X.N.Nodup) (q : QS (σ.set i (some v)) L) : GL X (.Name z p1) v σ L QS := ⟨fun H o => wg_name nl hN ⟨L, o, q⟩⟩
theorem sl_asg {tg : Expr} (q : EL X e σ L fun w L1 => GL X tg w σ L1 D.nx) (hs : swapsWithSole [tg] e pos.line X.env = pure false := by rfl) (hw : swappedStores [tg] e X.env = pure none := by rfl)
    (h1 : (assignEach [tg] X.env).map (·.2) = [assign tg X.env] := by rfl) : SL X (.Assign [tg] e pos) D σ L := ⟨fun H o => ws_asg (we_imp (q.run H o) fun _ H1 ⟨_, o1, q1⟩ => q1.run H1 o1) hs hw h1⟩
theorem sl_asgN {z : Str} (q : EL X e σ L fun w L1 => GL X (.Name z p1) w σ L1 D.nx) (hs : swapsWithSole [.Name z p1] e pos.line X.env = pure false := by rfl) (hw : swappedStores [.Name z p1] e X.env = pure none := by rfl) :
    SL X (.Assign [.Name z p1] e pos) D σ L := sl_asg q hs hw (Eq.refl _)
end
end Sh
namespace Sh
open PySem PySem.Spec L2 PyProof.Rows
/-! ### plain data, as the assertions tell it -/
def Dsi (L : As) (v : V) (d : PyData) : Prop := ∀ T h, SLs T h L → Dt T v d
def Dsc (K : PySem.W.Frag) (L : As) (v : V) (d : PyData) : Prop := ∀ H, Own H L → Dp K H v d
inductive DsiA (L : As) : List V → List PyData → Prop
  | nil : DsiA L [] []
  | cons {v : V} {vs : List V} {d : PyData} {ds : List PyData} (h : Dsi L v d) (t : DsiA L vs ds) : DsiA L (v :: vs) (d :: ds)
inductive DscA (K : PySem.W.Frag) (L : As) : List V → List PyData → Prop
  | nil : DscA K L [] []
  | cons {v : V} {vs : List V} {d : PyData} {ds : List PyData} (h : Dsc K L v d) (t : DscA K L vs ds) : DscA K L (v :: vs) (d :: ds)
section
variable {K : PySem.W.Frag} {L L' L1 G : As} {v x y : V} {d e : PyData} {ds es : List PyData} {vs xs : List V} {p l : Addr} {T h H : Hp}
theorem DsiA.all (q : DsiA L vs ds) (s : SLs T h L) : DtAll T vs ds := by
  induction q with
  | nil => exact .nil
  | cons h _ ih => exact .cons (h _ _ s) ih
theorem DscA.all (q : DscA K L vs ds) (s : Own H L) : DpAll K H vs ds := by
  induction q with
  | nil => exact .nil
  | cons h _ ih => exact .cons (h _ s) ih
theorem Dsi.dsc (q : Dsi L v d) : Dsc K L v d := fun H o => (q H H o.s).dp
theorem Dsi.int {i : Int} : Dsi L (.int i) (.int i) := fun _ _ _ => .int i
theorem Dsi.str {z : Str} : Dsi L (.str z) (.str z) := fun _ _ _ => .str z
theorem Dsi.bl {b : Bool} : Dsi L (.bl b) (.bool b) := fun _ _ _ => .bl b
theorem Dsi.non : Dsi L .non .none := fun _ _ _ => .non
theorem Dsi.dt (m : Sh.dt v d ∈ L) : Dsi L v d := fun _ _ s => s.get (A := Sh.dt v d) m
theorem Dsi.tp (m : Sh.tp p xs ∈ L) (q : DsiA L xs ds) : Dsi L (.ref p) (.tuple ds) := fun T h s => .tup (s.get (A := Sh.tp p xs) m) (q.all s)
theorem Dsi.imp (i : Imp L L') (q : Dsi L' v d) : Dsi L v d := fun T h s => q T h (i T h s)
theorem Dsc.ld (m : Sh.ld l ds ∈ L) : Dsc K L (.ref l) (.list ds) := fun H o => o.ld m
theorem Dsc.pt (m : Sh.pt l (.lst xs) ∈ L) (q : DscA K L xs ds) : Dsc K L (.ref l) (.list ds) := fun H o => .lst (SqL.of (o.pt m)) (q.all o)
theorem Dsc.li {ns : List Int} (m : Sh.pt l (.lst (iv ns)) ∈ L) : Dsc K L (.ref l) (.list (ids ns)) := fun H o => .lst (SqL.of (o.pt m)) (dpAll_iv ns)
theorem Dsc.dl (m : Sh.dl v d ∈ L) : Dsc K L v d := fun H o => o.dl m
theorem imp_dsi (q : Dsi L v d) (k : Imp L G) : Imp L (dt v d :: G) := imp_add (fun T h s => show Dt T v d from q T h s) k
/-- a data list, opened and closed -/
theorem ld_op {ds : List PyData} (s : SLs T h (ld l ds :: L)) : ∃ vs, SLs T h (pt l (.lst vs) :: dts vs ds :: L) := by
  obtain ⟨h1, h2, d, l1, l2, ⟨vs, a⟩, s⟩ := s
  exact ⟨vs, SLs.cjI (L1 := [pt l (.lst vs), dts vs ds]) ⟨h1, h2, d, l1, l2, a, s⟩⟩
theorem ld_cl {ds : List PyData} (s : SLs T h (pt l (.lst vs) :: dts vs ds :: L)) : SLs T h (ld l ds :: L) := by
  obtain ⟨h1, h2, d, l1, l2, a, s⟩ := SLs.cjE (L1 := [pt l (.lst vs), dts vs ds]) s
  exact ⟨h1, h2, d, l1, l2, ⟨vs, a⟩, s⟩
theorem ldP (q : (ld l ds).P T h) : ∃ vs, h l = some (.lst vs) ∧ DtAll T vs ds := by
  obtain ⟨vs, h1, h2, d, l1, l2, a, h3, h4, _, _, _, b, _⟩ := q
  exact ⟨vs, l1 _ _ a, b⟩
theorem imp_ld (r : Rm (pt l (.lst vs)) L L1) (q : DsiA L vs ds) (k : Imp L1 G) : Imp L (ld l ds :: G) := fun T h s => by
  have dd := q.all s
  obtain ⟨h1, h2, d, l1, l2, a, s⟩ := s.front r
  exact ⟨h1, h2, d, l1, l2, ⟨vs, ⟨h1, fun _ => none, fun _ => .inr rfl, HLe.rfl, fun _ _ e => (by cases e), a, ⟨fun _ => none, fun _ => none, fun _ => .inl rfl, fun _ _ e => (by cases e), fun _ _ e => (by cases e), dd, trivial⟩⟩⟩, k T h2 s⟩
theorem imp_ld0 (r : Rm (pt l (.lst [])) L L1) (k : Imp L1 G) : Imp L (ld l [] :: G) := imp_ld r .nil k
theorem dtAll_ids : ∀ {vs : List V} {ns : List Int}, DtAll T vs (ids ns) → vs = iv ns
  | [], [], _ => rfl
  | v :: vs, n :: ns, .cons h t => by
    cases h
    rw [dtAll_ids t]
    rfl
theorem imp_li {ns : List Int} (r : Rm (ld l (ids ns)) L L1) (k : Imp L1 G) : Imp L (pt l (.lst (iv ns)) :: G) := fun T h s => by
  obtain ⟨h1, h2, d, l1, l2, a, s⟩ := s.front r
  obtain ⟨vs, e1, e2⟩ := ldP a
  rw [dtAll_ids e2] at e1
  exact ⟨h1, h2, d, l1, l2, e1, k T h2 s⟩
end
/-! ### the draws: the script, the town with at most N draws -/
def dr (K : PySem.W.Frag) (a t : Addr) (N : Nat) : Asn := ex fun p : List Int × Nat => cj [sq K a (iv p.1), town t p.2, pr (p.2 ≤ N)]
section
variable {K : PySem.W.Frag} {L L' L1 G : As} {a t : Addr} {N N' : Nat} {H T h : Hp}
theorem dr.op (o : Own H (dr K a t N :: L)) : ∃ ns n, n ≤ N ∧ Own H (sq K a (iv ns) :: town t n :: L) := by
  obtain ⟨⟨ns, n⟩, o⟩ := o.exI
  have o := Own.cjI (L1 := [sq K a (iv ns), town t n, pr (n ≤ N)]) o
  have h : n ≤ N := o.get (A := pr (n ≤ N)) (List.mem_cons_of_mem _ (List.mem_cons_of_mem _ List.mem_cons_self))
  exact ⟨ns, n, h, o.sub (.cons .here (.cons .here (.skip .refl)))⟩
theorem dr.cl {ns : List Int} {n : Nat} (o : Own H (sq K a (iv ns) :: town t n :: L)) (h : n ≤ N) : Own H (dr K a t N :: L) := by
  refine Own.exE (ns, n) (Own.cjE (L1 := [sq K a (iv ns), town t n, pr (n ≤ N)]) ?_)
  exact Own.pq (.cons (.there .here) (.cons (.there .here) (.cons .here .refl))) (o.addP h)
theorem imp_dr (r : Rm (dr K a t N) L L1) (hN : N ≤ N') (k : Imp L1 G) : Imp L (dr K a t N' :: G) := imp_up r (fun T h s => by
  obtain ⟨⟨ns, n⟩, h1, h2, d, l1, l2, a1, h3, h4, d', l3, l4, a2, h5, h6, d'', l5, l6, a3, s⟩ := s
  exact ⟨⟨ns, n⟩, h1, h2, d, l1, l2, a1, h3, h4, d', l3, l4, a2, h5, h6, d'', l5, l6, Nat.le_trans a3 hN, s⟩) k
end
/-! ### promises over lists of assertions -/
abbrev SpL := List V → As → LK → (Er → As → Prop) → Prop
def lsp (C : Cl) (s : SpL) : Sp := fun vs H Q E => ∃ L Q' E', Own H L ∧ s vs L Q' E' ∧ (∀ v H' L', Own H' L' → Q' v L' → Q v H') ∧ (∀ e H' L', Own H' L' → E' e L' → E (.ref (C.of e)) none H')
def up (Q : LK) : LK := fun v L => ∃ L', Imp L L' ∧ Q v L'
def upE (E : Er → As → Prop) : Er → As → Prop := fun v L => ∃ L', Imp L L' ∧ E v L'
abbrev EK := Er → St → As → Prop
def XK' (C : Cl) (E : EK) : WX := fun cls d σ H => ∃ e L, cls = .ref (C.of e) ∧ d = none ∧ Own H L ∧ E e σ L
/-- a promise that is to be shown -/
def Sg (φ : Prop) : Prop := φ
theorem Sg.i {φ : Prop} (h : φ) : Sg φ := h
structure Wk (X : Cx) (C : Cl) (l : Nat) (E : EK) : Prop where
  tk : L2N.Takes X (XK' C E)
  hr : Room l X.A
def Rc (L : As) (p Cc : Addr) (m : Str) : Prop := ∀ H, Own H L → ∃ dx fs, H p = some (.ins Cc dx fs) ∧ fs.lookup m = none
section
variable {P : Program} {w : World} {K : PySem.W.Frag} {mg : Str → Option Value} {base : Heap} {k l : Nat} {z m : Str} {ps : List Str} {sp sp' : Sp} {s : SpL} {C : Cl} {Cc : Addr}
theorem Dn.imp (G : Dn P w K mg base k z ps sp) (h : ∀ vs H Q E, sp' vs H Q E → sp vs H Q E) : Dn P w K mg base k z ps sp' := by
  obtain ⟨f, fd, F, a, b, c⟩ := G.ex
  exact ⟨f, fd, F.imp h, a, b, c⟩
theorem Mn.imp (G : Mn P w K mg base k Cc m ps sp) (h : ∀ vs H Q E, sp' vs H Q E → sp vs H Q E) : Mn P w K mg base k Cc m ps sp' := by
  obtain ⟨f, fd, F, a, b⟩ := G.ex
  exact ⟨f, fd, F.imp h, a, b⟩
theorem dl_of {x : Str} {st : Stmt} {N : List Str} (A : DefAt K mg x st ps) (S : FnScope N ps (defScope st)) (len : ∀ vs L Q E, s vs L Q E → vs.length = ps.length)
    (body : ∀ (X : Cx), X.prog = P → X.w = w → X.K = K → X.mg = mg → X.base = base → Bd X k N (defScope st) → ∀ (vs : List V) (L : As) (Q : LK) (E : Er → As → Prop),
      Wk X C k (fun e _ L => upE E e L) → s vs L Q E → BL X (defBody st) { nx := fun _ L' => up Q .non L', rt := up Q } (start N vs) L) : Dn P w K mg base (k + 1) x ps (lsp C s) := by
  refine dn_of A S (fun vs H Q E ⟨L, Q', E', o, h, _⟩ => len _ _ _ _ h) fun X e1 e2 e3 e4 e5 B vs H Q E tk h => ?_
  obtain ⟨L, Q', E', o, h, q1, q2⟩ := h
  refine wb_imp ((body X e1 e2 e3 e4 e5 B vs L Q' E' ⟨tk.imp fun c d σ H' z => ?_, B.hr⟩ h).run H o) ⟨fun _ H' ⟨L', o', L2, im, z⟩ => q1 _ _ _ (im.own o') z, fun _ H' ⟨L', o', L2, im, z⟩ => q1 _ _ _ (im.own o') z, fun _ _ ⟨_, _, z⟩ => z.elim, fun _ _ ⟨_, _, z⟩ => z.elim⟩
  obtain ⟨e, L', rfl, rfl, o', L2, im, z⟩ := z
  exact q2 _ _ _ (im.own o') z
theorem ml_of {qual : Str} {st : Stmt} {N : List Str} (A : MethAt K Cc m qual st ps) (S : FnScope N ps (defScope st)) (len : ∀ vs L Q E, s vs L Q E → vs.length = ps.length)
    (body : ∀ (X : Cx), X.prog = P → X.w = w → X.K = K → X.mg = mg → X.base = base → Bd X k N (defScope st) → ∀ (vs : List V) (L : As) (Q : LK) (E : Er → As → Prop),
      Wk X C k (fun e _ L => upE E e L) → s vs L Q E → BL X (defBody st) { nx := fun _ L' => up Q .non L', rt := up Q } (start N vs) L) : Mn P w K mg base (k + 1) Cc m ps (lsp C s) := by
  refine mn_of A S (fun vs H Q E ⟨L, Q', E', o, h, _⟩ => len _ _ _ _ h) fun X e1 e2 e3 e4 e5 B vs H Q E tk h => ?_
  obtain ⟨L, Q', E', o, h, q1, q2⟩ := h
  refine wb_imp ((body X e1 e2 e3 e4 e5 B vs L Q' E' ⟨tk.imp fun c d σ H' z => ?_, B.hr⟩ h).run H o) ⟨fun _ H' ⟨L', o', L2, im, z⟩ => q1 _ _ _ (im.own o') z, fun _ H' ⟨L', o', L2, im, z⟩ => q1 _ _ _ (im.own o') z, fun _ _ ⟨_, _, z⟩ => z.elim, fun _ _ ⟨_, _, z⟩ => z.elim⟩
  obtain ⟨e, L', rfl, rfl, o', L2, im, z⟩ := z
  exact q2 _ _ _ (im.own o') z
end
section
variable {X : Cx} {C : Cl} {E : EK} {a b c e o : Expr} {es rest : List Expr} {σ : St} {L L' L1 G : As} {Q : LK} {QB : Bool → As → Prop} {QA : List V → As → Prop} {QS : SK} {D : DL} {pos p1 p2 p3 apos : Pos} {v x y : V} {i j : Int} {n k l : Nat} {p t : Addr} {xs ys : List V} {z m : Str} {ps : List Str} {s : SpL} {Cc : Addr}
theorem el_call (W : Wk X C l E) (gl : Gd X.env z) (G : DnX X k z ps (lsp C s)) (hk : k ≤ l) (q : AL X (e :: es) σ L fun vs L1 => Sg (s vs L1 Q fun er L2 => E er σ L2))
    (he : starEach (e :: es) X.env = (false, eval e X.env) :: starEach es X.env := by rfl)
    (hp : (backTo pos (starEach es X.env)).any (·.1) = false := by rfl) : EL X (.Call (.Name z p1) (e :: es) [] pos) σ L Q :=
  ⟨fun H o => we_call W.tk W.hr gl G hk (wa_imp (q.run H o) fun vs H1 ⟨L1, o1, q1⟩ => ⟨L1, Q, _, o1, q1, fun _ _ L' o' z => ⟨L', o', z⟩, fun er _ L' o' z => ⟨er, L', rfl, rfl, o', z⟩⟩) he hp⟩
theorem el_meth {pl : Sem Bool} (W : Wk X C l E) (hc : Cls X.K Cc) (G : MnX X k Cc m ps (lsp C s)) (hk : k ≤ l)
    (q : EL X o σ L fun x L1 => ∃ p, x = .ref p ∧ Rc L1 p Cc m ∧ AL X (e :: es) σ L1 fun vs L2 => Sg (s (.ref p :: vs) L2 Q fun er L3 => E er σ L3))
    (hst : starEach (e :: es) X.env = (false, eval e X.env) :: starEach es X.env := by rfl) (hpl : (backTo pos (starEach es X.env)).any (·.1) = false := by rfl)
    (ht : eval (.Call (.Attribute o m apos) (e :: es) [] pos) X.env = (do
      let rv ← eval o X.env
      standAt apos.atName
      let (g, fst) ← holding [rv] (getMethod rv m pl)
      callWith pos g fst (backTo pos (starEach (e :: es) X.env)) (backToKw pos (keywordEach [] X.env))) := by rfl) : EL X (.Call (.Attribute o m apos) (e :: es) [] pos) σ L Q := by
  refine ⟨fun H oo => we_meth W.tk W.hr hc G hk (we_imp (q.run H oo) fun x H1 hh => ?_) hst hpl ht⟩
  obtain ⟨L1, o1, p, ex, rc, q1⟩ := hh
  obtain ⟨dx, fs, h1, h2⟩ := rc H1 o1
  exact ⟨p, dx, fs, ex, h1, h2, wa_imp (q1.run H1 o1) fun vs H2 ⟨L2, o2, q2⟩ => ⟨L2, Q, _, o2, q2, fun _ _ L' o' z => ⟨L', o', z⟩, fun er _ L' o' z => ⟨er, L', rfl, rfl, o', z⟩⟩⟩
theorem el_meth0 {pl : Sem Bool} (W : Wk X C l E) (hc : Cls X.K Cc) (G : MnX X k Cc m ps (lsp C s)) (hk : k ≤ l)
    (q : EL X o σ L fun x L1 => ∃ p, x = .ref p ∧ Rc L1 p Cc m ∧ Sg (s [.ref p] L1 Q fun er L3 => E er σ L3))
    (ht : eval (.Call (.Attribute o m apos) [] [] pos) X.env = (do
      let rv ← eval o X.env
      standAt apos.atName
      let (g, fst) ← holding [rv] (getMethod rv m pl)
      callWith pos g fst (backTo pos (starEach [] X.env)) (backToKw pos (keywordEach [] X.env))) := by rfl) : EL X (.Call (.Attribute o m apos) [] [] pos) σ L Q := by
  refine ⟨fun H oo => we_meth0 W.tk W.hr hc G hk (we_imp (q.run H oo) fun x H1 hh => ?_) ht⟩
  obtain ⟨L1, o1, p, ex, rc, q1⟩ := hh
  obtain ⟨dx, fs, h1, h2⟩ := rc H1 o1
  exact ⟨p, dx, fs, ex, h1, h2, ⟨L1, Q, _, o1, q1, fun _ _ L' o' z => ⟨L', o', z⟩, fun er _ L' o' z => ⟨er, L', rfl, rfl, o', z⟩⟩⟩
theorem Own.make' {H : Hp} {L : List Asn} {x dx Cc : Addr} (h : Own H L) (hx : H x = none) (hd : H dx = none) (ne : dx ≠ x) : Own (upd (upd H dx (.own x)) x (.ins Cc dx [])) (Sh.pt x (.ins Cc dx []) :: L) := by
  have h1 := (h.new (o := .own x) hd).drop
  exact h1.new (by rw [upd_ne (Ne.symm ne)]; exact hx)
theorem el_make (W : Wk X C l E) (gl : Gd X.env z) (G : CnX X k z Cc ps (lsp C s)) (hk : k + 1 ≤ l)
    (q : AL X (e :: es) σ L fun vs L1 => ∀ x dx, Sg (s (.ref x :: vs) (pt x (.ins Cc dx []) :: L1) (fun v L2 => v = .non ∧ Q (.ref x) L2) fun er L2 => E er σ L2))
    (he : starEach (e :: es) X.env = (false, eval e X.env) :: starEach es X.env := by rfl)
    (hp : (backTo pos (starEach es X.env)).any (·.1) = false := by rfl) : EL X (.Call (.Name z p1) (e :: es) [] pos) σ L Q :=
  ⟨fun H o => we_make W.tk W.hr gl G hk (wa_imp (q.run H o) fun vs H1 ⟨L1, o1, q1⟩ x dx hx hd ne => ⟨_, _, _, o1.make' hx hd ne, q1 x dx, fun _ _ L' o' z => ⟨z.1, L', o', z.2⟩, fun er _ L' o' z => ⟨er, L', rfl, rfl, o', z⟩⟩) he hp⟩
theorem sl_raise {q1 q2 q3 : Pos} {er : Er} {mm : Str} (hc : X.calm = true) (W : Wk X C l E) (g : Gd X.env z) (x : Xn X.K X.mg z (C.of er)) (q : E er σ L) :
    SL X (.Raise (some (.Call (.Name z q1) [.Constant (.str mm) n q2] [] q3)) none pos) D σ L := ⟨fun H o => ws_raiseX hc W.tk g x ⟨er, L, rfl, rfl, o, q⟩⟩
/-! fields -/
theorem el_fld {f : Str} (hb : attributeBase e f X.env (eval e X.env) = eval e X.env)
    (q : EL X e σ L fun x L1 => ∃ p Cc dx fs v, x = .ref p ∧ pt p (.ins Cc dx fs) ∈ L1 ∧ Cls X.K Cc ∧ NoAttr X.K Cc f ∧ fs.lookup f = some v ∧ Q v L1) : EL X (.Attribute e f pos) σ L Q :=
  ⟨fun H o => we_fld hb (we_imp (q.run H o) fun x H1 ⟨L1, o1, p, Cc, dx, fs, v, ex, m, h1, h2, h3, q1⟩ => ⟨p, Cc, dx, fs, v, ex, o1.pt m, h1, h2, h3, L1, o1, q1⟩)⟩
theorem sl_fld {f : Str} {o : Expr} (q : EL X e σ L fun y L1 => EL X o σ L1 fun x L2 => ∃ p Cc dx fs L3, x = .ref p ∧ Rp (pt p (.ins Cc dx fs)) (pt p (.ins Cc dx (putF f y fs))) L2 L3 ∧ Cls X.K Cc ∧ NoAttr X.K Cc f ∧ fs.length < 1000 ∧ D.nx σ L3)
    (hs : swapsWith e (some (.Attribute o f p1)) pos.line X.env = pure false := by rfl) : SL X (.Assign [.Attribute o f p1] e pos) D σ L := by
  refine ⟨fun H oo => ws_fld (we_imp (q.run H oo) fun y H1 ⟨L1, o1, q1⟩ => we_imp (q1.run H1 o1) fun x H2 ⟨L2, o2, p, Cc, dx, fs, L3, ex, r, h1, h2, h3, q2⟩ => ?_) hs⟩
  have hm : pt p (.ins Cc dx fs) ∈ L2 := by
    have : ∀ {A B : Asn} {L L' : As}, Rp A B L L' → A ∈ L := fun r => by
      induction r with
      | here => exact List.mem_cons_self
      | there _ ih => exact List.mem_cons_of_mem _ ih
    exact this r
  exact ⟨p, Cc, dx, fs, ex, o2.pt hm, h1, h2, h3, L3, o2.wr r ntI, q2⟩
theorem Rp.mem {A B : Asn} {L L' : As} (r : Rp A B L L') : A ∈ L := by
  induction r with
  | here => exact List.mem_cons_self
  | there _ ih => exact List.mem_cons_of_mem _ ih
end
end Sh
namespace Sh
open PySem PySem.Spec L2 PyProof.Rows
/-! ### loops: an invariant is a family of slots and assertions -/
structure LI (α : Type) where
  ok : α → Prop
  st : α → St
  as : α → As
def LI.at {α : Type} (I : LI α) : SK := fun σ L => ∃ x, I.ok x ∧ σ = I.st x ∧ Imp L (I.as x)
section
variable {X : Cx} {C : Cl} {E : EK} {a b c e o iter elt : Expr} {es rest : List Expr} {σ : St} {L L' L1 G : As} {Q : LK} {QB : Bool → As → Prop} {QA : List V → As → Prop} {QS : SK} {D : DL} {pos p1 p2 p3 apos spos : Pos} {v x y : V} {i j : Int} {n k l : Nat} {p : Addr} {xs ys : List V} {z zy m : Str} {body : List Stmt} {d : PyData} {ds es' : List PyData} {scope : Scope} {ix : Nat}
/-- a list of data with its values -/
def lv (l : Addr) (vs : List V) (ds : List PyData) : Asn := cj [pt l (.lst vs), dts vs ds]
def DL.loop (D : DL) (K : SK) : DL := { nx := K, rt := D.rt, bk := D.nx, ct := K }
theorem sl_forR (po : PassesOwn (model X.prog X.w) X.A X.env X.xe) (hc : X.calm = true) (nd : X.N.Nodup) (nl : Nl X.N X.env X.fn ix z) (g : Bn X.env X.mg "range" (.type "range"))
    (q : EL X e σ L fun x L1 => ∃ m : Int, x = .int m ∧ -(2 ^ 62) ≤ m ∧ m < 2 ^ 62 ∧ ∃ (α : Type) (I : Nat → LI α), (I 0).at σ L1 ∧
      (∀ (j : Nat) x, j < m.toNat → (I j).ok x → BL X body (D.loop (I (j + 1)).at) (((I j).st x).set ix (some (.int (j : Int)))) ((I j).as x)) ∧ ∀ x, (I m.toNat).ok x → D.nx ((I m.toNat).st x) ((I m.toNat).as x))
    (h1 : starEach [e] X.env = [(false, eval e X.env)] := by rfl)
    (hs : ∀ x, foldedSetIterable (.Call (.Name "range" p2) [e] [] p3) X.env x = pure x := by intro _; rfl) : SL X (.For (.Name z p1) (.Call (.Name "range" p2) [e] [] p3) body [] pos) D σ L := by
  refine ⟨fun H o => ws_forR po hc nd nl g (we_imp (q.run H o) fun x H1 hh => ?_) h1 hs⟩
  obtain ⟨L1, o1, m, ex, b1, b2, α, I, h0, hj, hE⟩ := hh
  refine ⟨m, ex, b1, b2, fun j => dnS (I j).at, ⟨L1, o1, h0⟩, fun j σ H hjm hh => ?_, fun σ H hh => ?_⟩
  · obtain ⟨L, o, x, ok, rfl, im⟩ := hh
    exact wb_imp ((hj j x hjm ok).run H (im.own o)) ⟨fun _ _ z => z, fun _ _ z => z, fun _ _ z => z, fun _ _ z => z⟩
  · obtain ⟨L, o, x, ok, rfl, im⟩ := hh
    exact ⟨_, im.own o, hE x ok⟩
theorem ld_split {T h : Hp} {lp : Addr} (s : SLs T h (ld lp ds :: L)) : ∃ vs, SLs T h (lv lp vs ds :: L) := by
  obtain ⟨h1, h2, d, l1, l2, ⟨vs, a⟩, s⟩ := s
  exact ⟨vs, h1, h2, d, l1, l2, a, s⟩
theorem lvP {T h : Hp} {lp : Addr} {vs : List V} (q : (lv lp vs ds).P T h) : h lp = some (.lst vs) ∧ DtAll T vs ds := by
  obtain ⟨h1, h2, d, l1, l2, a, h3, h4, _, _, _, b, _⟩ := q
  exact ⟨l1 _ _ a, b⟩
theorem imp_lv {lp : Addr} {vs : List V} (r : Rm (lv lp vs ds) L L1) (k : Imp L1 G) : Imp L (ld lp ds :: G) := imp_up r (fun T h s => ⟨vs, s⟩) k
theorem Dsc.lv {K : PySem.W.Frag} {lp : Addr} {vs : List V} (m : Sh.lv lp vs ds ∈ L) : Dsc K L (.ref lp) (.list ds) := fun H o => by
  obtain ⟨e1, e2⟩ := lvP (o.get (A := Sh.lv lp vs ds) m)
  exact .lst (SqL.of e1) e2.dp
/-- for z in a list of data (it is not changed by the body) -/
theorem sl_forL (po : PassesOwn (model X.prog X.w) X.A X.env X.xe) (hc : X.calm = true) (nd : X.N.Nodup) (nl : Nl X.N X.env X.fn ix z)
    (q : EL X iter σ L fun x L1 => ∃ (lp : Addr) (ds : List PyData) (L2 : As), x = .ref lp ∧ Rm (ld lp ds) L1 L2 ∧ ∀ vs, vs.length = ds.length → ∃ (α : Type) (I : Nat → LI α), (I 0).at σ (lv lp vs ds :: L2) ∧ (∀ j x, (I j).ok x → lv lp vs ds ∈ (I j).as x) ∧
      (∀ (j : Nat) x d v, ds[j]? = some d → (I j).ok x → BL X body (D.loop (I (j + 1)).at) (((I j).st x).set ix (some v)) (dt v d :: (I j).as x)) ∧ ∀ x, (I ds.length).ok x → D.nx ((I ds.length).st x) ((I ds.length).as x))
    (hs : ∀ x, foldedSetIterable iter X.env x = pure x := by intro _; rfl) : SL X (.For (.Name z p1) iter body [] pos) D σ L := by
  refine ⟨fun H o => ws_forL po hc nd nl (we_imp (q.run H o) fun x H1 hh => ?_) hs⟩
  obtain ⟨L1, o1, lp, ds, L2, ex, hm, hh⟩ := hh
  obtain ⟨vs, s1⟩ := ld_split (o1.s.front hm)
  obtain ⟨e1, e2⟩ := lvP (s1.get (A := lv lp vs ds) List.mem_cons_self)
  have el := DtAll.len e2
  obtain ⟨α, I, h0, hl, hj, hE⟩ := hh vs el
  have get : ∀ {j σ H}, dnS (I j).at σ H → H lp = some (.lst vs) ∧ DtAll H vs ds := fun {j σ H} hh => by
    obtain ⟨L, o, x, ok, rfl, im⟩ := hh
    exact lvP ((im.own o).get (A := lv lp vs ds) (hl j x ok))
  refine ⟨lp, vs, ex, SqL.of e1, fun j σ H => dnS (I j).at σ H, ⟨_, ⟨s1⟩, h0⟩, fun j σ H _ hh => SqL.of (get hh).1, fun j y σ H hy hh => ?_, fun σ H hh => ?_⟩
  · obtain ⟨d, hd, dy⟩ := (get hh).2.get hy
    obtain ⟨L, o, x, ok, rfl, im⟩ := hh
    exact wb_imp ((hj j x d y hd ok).run H ((im.own o).addD dy)) ⟨fun _ _ z => z, fun _ _ z => z, fun _ _ z => z, fun _ _ z => z⟩
  · rw [el] at hh
    obtain ⟨L, o, x, ok, rfl, im⟩ := hh
    exact ⟨_, im.own o, hE x ok⟩
/-- for z1, z2 in enumerate(a list of data) -/
theorem sl_forE {i1 i2 kk : Nat} {z1 z2 : Str} {q1 q2 tpos : Pos} (po : PassesOwn (model X.prog X.w) X.A X.env X.xe) (hc : X.calm = true) (nd : X.N.Nodup) (n1 : Nl X.N X.env X.fn i1 z1) (n2 : Nl X.N X.env X.fn i2 z2) (g : Bn X.env X.mg "enumerate" (.type "enumerate"))
    (q : EL X e σ L fun x L1 => ∃ (lp : Addr) (ds : List PyData) (L2 : As), x = .ref lp ∧ Rm (ld lp ds) L1 L2 ∧ ∀ vs, vs.length = ds.length → ∃ (α : Type) (I : Nat → LI α), (I 0).at σ (lv lp vs ds :: L2) ∧ (∀ j x, (I j).ok x → lv lp vs ds ∈ (I j).as x) ∧
      (∀ (j : Nat) x d v, ds[j]? = some d → (I j).ok x → BL X body (D.loop (I (j + 1)).at) ((((I j).st x).set i1 (some (.int (j : Int)))).set i2 (some v)) (dt v d :: (I j).as x)) ∧ ∀ x, (I ds.length).ok x → D.nx ((I ds.length).st x) ((I ds.length).as x))
    (h1 : starEach [e] X.env = [(false, eval e X.env)] := by rfl)
    (hs : ∀ x, foldedSetIterable (.Call (.Name "enumerate" p2) [e] [] p3) X.env x = pure x := by intro _; rfl) :
    SL X (.For (.Tuple [.Name z1 q1, .Name z2 q2] kk tpos) (.Call (.Name "enumerate" p2) [e] [] p3) body [] pos) D σ L := by
  refine ⟨fun H o => ws_forE po hc nd n1 n2 g (we_imp (q.run H o) fun x H1 hh => ?_) h1 hs⟩
  obtain ⟨L1, o1, lp, ds, L2, ex, hm, hh⟩ := hh
  obtain ⟨vs, s1⟩ := ld_split (o1.s.front hm)
  obtain ⟨e1, e2⟩ := lvP (s1.get (A := lv lp vs ds) List.mem_cons_self)
  have el := DtAll.len e2
  obtain ⟨α, I, h0, hl, hj, hE⟩ := hh vs el
  have get : ∀ {j σ H}, dnS (I j).at σ H → H lp = some (.lst vs) ∧ DtAll H vs ds := fun {j σ H} hh => by
    obtain ⟨L, o, x, ok, rfl, im⟩ := hh
    exact lvP ((im.own o).get (A := lv lp vs ds) (hl j x ok))
  refine ⟨lp, vs, ex, SqL.of e1, fun j σ H => dnS (I j).at σ H, ⟨_, ⟨s1⟩, h0⟩, fun j σ H _ hh => SqL.of (get hh).1, fun j y σ H T H' hy hh hn e => ?_, fun σ H hh => ?_⟩
  · obtain ⟨d, hd, dy⟩ := (get hh).2.get hy
    obtain ⟨L, o, x, ok, rfl, im⟩ := hh
    have o2 := (im.own o).newTE hn e
    exact wb_imp ((hj j x d y hd ok).run H' (o2.drop.addD (dy.mono (by rw [e]; exact tle_new hn)))) ⟨fun _ _ z => z, fun _ _ z => z, fun _ _ z => z, fun _ _ z => z⟩
  · rw [el] at hh
    obtain ⟨L, o, x, ok, rfl, im⟩ := hh
    exact ⟨_, im.own o, hE x ok⟩
/-! ### comprehensions that make lists of data -/
/-- what is carried: R the list so far -/
structure LC (α : Type) where
  ok : α → Prop
  rs : α → List PyData
  as : α → As
def LcLR (X : Cx) (scope : Scope) (ix : Nat) (elt e : Expr) (σ : St) (L : As) (Q : LK) : Prop :=
  EL X e σ L fun x L1 => ∃ m : Int, x = .int m ∧ -(2 ^ 62) ≤ m ∧ m < 10000000 ∧ ∃ (α : Type) (I : Nat → LC α), (∃ x, (I 0).ok x ∧ (I 0).rs x = [] ∧ Imp L1 ((I 0).as x)) ∧
    (∀ (j : Nat) x dl, j < m.toNat → (I j).ok x → ∀ (s : Shared) (Hs : Hp) (C : Addr) (cl : List (Str × Addr)) (fp : List Addr), EL (blk X scope s Hs C cl fp) elt ((σ.set ix none).set ix (some (.int (j : Int)))) (ld dl ((I j).rs x) :: (I j).as x)
      fun v L' => ∃ d x', (I (j + 1)).ok x' ∧ (I (j + 1)).rs x' = (I j).rs x ++ [d] ∧ Imp L' (ld dl ((I j).rs x) :: dt v d :: (I (j + 1)).as x')) ∧
    ∀ x lp, (I m.toNat).ok x → Q (.ref lp) (ld lp ((I m.toNat).rs x) :: (I m.toNat).as x)
theorem LcLR.go {H : Hp} (q : LcLR X scope ix elt e σ L Q) (o : Own H L) : LcR X scope ix elt e σ H (dn Q) := by
  refine we_imp (q.run H o) fun x H1 hh => ?_
  obtain ⟨L1, o1, m, ex, b1, b2, α, I, ⟨x0, ok0, r0, im0⟩, hj, hE⟩ := hh
  have ln : ∀ {j x}, (I j).ok x → True := fun _ => trivial
  refine ⟨m, ex, b1, by omega, fun dl H2 hn e => ?_⟩
  refine ⟨fun j H => ∃ x, (I j).ok x ∧ ((I j).rs x).length = j ∧ Own H (ld dl ((I j).rs x) :: (I j).as x), ⟨x0, ok0, by rw [r0]; rfl, ?_⟩, fun j H hjm hh s Hs C cl fp => ?_, fun H hh => ?_⟩
  · rw [r0]
    refine ld.cl (vs := []) ((((im0.own o1).newE hn e).addDs .nil).pq (.cons (.there .here) (.cons .here .refl)))
  · obtain ⟨x, ok, rl, o⟩ := hh
    refine we_imp ((hj j x dl hjm ok s Hs C cl fp).run H o) fun v H4 hh => ?_
    obtain ⟨L', o', d, x', ok', er, im⟩ := hh
    obtain ⟨vs, o2⟩ := (im.own o').exI
    have o3 := Own.cjI (L1 := [pt dl (.lst vs), dts vs ((I j).rs x)]) o2
    have hvl := DtAll.len (o3.dts (vs := vs) (ds := (I j).rs x) (.tail _ (.head _)))
    refine ⟨vs, o3.pt (.head _), szl (by omega), fun H5 e5 => ⟨x', ok', by rw [er, List.length_append, List.length_singleton, rl], ?_⟩⟩
    have hd := DtAll.snoc (o3.dts (vs := vs) (ds := (I j).rs x) (.tail _ (.head _))) (o3.dt (v := v) (d := d) (.tail _ (.tail _ (.head _))))
    have o4 := (o3.addDs hd).wrE e5 (.tail _ (.head _)) ntL (.there .here)
    rw [er]
    exact ld.cl (vs := vs ++ [v]) ((Own.pq (.cons (.there .here) (.cons .here (.cons .here (.cons .here .refl)))) o4).sub (.cons .here (.cons .here (.skip (.skip .refl)))))
  · obtain ⟨x, ok, _, o⟩ := hh
    exact ⟨_, o, hE x dl ok⟩
theorem el_lcR (hc : X.calm = true) (nd : X.N.Nodup) (no : X.N[ix]? = some z) (ok : BlkOk X.N X.env.scope scope [(z, ix)]) (hz : scope.names.lookup z = some .local) (g : Bn X.env X.mg "range" (.type "range")) (q : LcLR X scope ix elt e σ L Q)
    (h1 : starEach [e] X.env = [(false, eval e X.env)] := by rfl)
    (hs : ∀ x, foldedSetIterable (.Call (.Name "range" p2) [e] [] p3) X.env x = pure x := by intro _; rfl) : EL X (.ListComp elt [⟨.Name z p1, .Call (.Name "range" p2) [e] [] p3, [], 0⟩] scope pos) σ L Q :=
  ⟨fun H o => we_lcR hc nd no ok hz g (q.go o) h1 hs⟩
theorem sl_lcR {iy : Nat} {p4 : Pos} (hc : X.calm = true) (nd : X.N.Nodup) (ny : X.N[iy]? = some zy) (hy : X.env.scope.names.lookup zy = some .local)
    (hw : swapsWith (.ListComp elt [⟨.Name z p1, .Call (.Name "range" p2) [e] [] p3, [], 0⟩] scope pos) (some (.Name zy p4)) spos.line X.env = pure true)
    (no : X.N[ix]? = some z) (ok : BlkOk X.N X.env.scope scope [(z, ix)]) (hz : scope.names.lookup z = some .local) (g : Bn X.env X.mg "range" (.type "range")) (q : LcLR X scope ix elt e σ L fun v L1 => D.nx (σ.set iy (some v)) L1)
    (h1 : starEach [e] X.env = [(false, eval e X.env)] := by rfl)
    (hs : ∀ x, foldedSetIterable (.Call (.Name "range" p2) [e] [] p3) X.env x = pure x := by intro _; rfl) : SL X (.Assign [.Name zy p4] (.ListComp elt [⟨.Name z p1, .Call (.Name "range" p2) [e] [] p3, [], 0⟩] scope pos) spos) D σ L :=
  ⟨fun H o => ws_lcR hc nd ny hy hw no ok hz g (q.go o) h1 hs⟩
def LcLL (X : Cx) (scope : Scope) (ix : Nat) (elt e : Expr) (σ : St) (L : As) (Q : LK) : Prop :=
  EL X e σ L fun x L1 => ∃ (lp : Addr) (ds : List PyData) (L2 : As), x = .ref lp ∧ Rm (ld lp ds) L1 L2 ∧ ds.length < 10000000 ∧ ∀ vs, vs.length = ds.length → ∃ (α : Type) (I : Nat → LC α), (∃ x, (I 0).ok x ∧ (I 0).rs x = [] ∧ Imp (lv lp vs ds :: L2) ((I 0).as x)) ∧
    (∀ j x, (I j).ok x → lv lp vs ds ∈ (I j).as x) ∧
    (∀ (j : Nat) x dl d v, ds[j]? = some d → (I j).ok x → ∀ (s : Shared) (Hs : Hp) (C : Addr) (cl : List (Str × Addr)) (fp : List Addr), EL (blk X scope s Hs C cl fp) elt ((σ.set ix none).set ix (some v)) (ld dl ((I j).rs x) :: dt v d :: (I j).as x)
      fun v' L' => ∃ d' x', (I (j + 1)).ok x' ∧ (I (j + 1)).rs x' = (I j).rs x ++ [d'] ∧ Imp L' (ld dl ((I j).rs x) :: dt v' d' :: (I (j + 1)).as x')) ∧
    ∀ x lp', (I ds.length).ok x → Q (.ref lp') (ld lp' ((I ds.length).rs x) :: (I ds.length).as x)
theorem LcLL.go {H : Hp} (q : LcLL X scope ix elt e σ L Q) (o : Own H L) : LcL X scope ix elt e σ H (dn Q) := by
  refine we_imp (q.run H o) fun x H1 hh => ?_
  obtain ⟨L1, o1, lp, ds, L2, ex, hm, hdl, hh⟩ := hh
  obtain ⟨vs, s1⟩ := ld_split (o1.s.front hm)
  obtain ⟨e1, e2⟩ := lvP (s1.get (A := lv lp vs ds) List.mem_cons_self)
  have el := DtAll.len e2
  obtain ⟨α, I, ⟨x0, ok0, r0, im0⟩, hl, hj, hE⟩ := hh vs el
  refine ⟨lp, vs, ex, SqL.of e1, fun dl H2 hn e => ?_⟩
  have get : ∀ {j : Nat} {H : Hp}, (∃ x, (I j).ok x ∧ ((I j).rs x).length = j ∧ Own H (ld dl ((I j).rs x) :: (I j).as x)) → H lp = some (.lst vs) ∧ DtAll H vs ds := fun {j H} hh => by
    obtain ⟨x, ok, _, o⟩ := hh
    exact lvP (o.get (A := lv lp vs ds) (List.mem_cons_of_mem _ (hl j x ok)))
  refine ⟨fun j H => ∃ x, (I j).ok x ∧ ((I j).rs x).length = j ∧ Own H (ld dl ((I j).rs x) :: (I j).as x), ⟨x0, ok0, by rw [r0]; rfl, ?_⟩, fun j H _ hh => SqL.of (get hh).1, fun j y H hy hh s Hs C cl fp => ?_, fun H hh => ?_⟩
  · rw [r0]
    refine ld.cl (vs := []) ((((im0.own ⟨s1⟩).newE hn e).addDs .nil).pq (.cons (.there .here) (.cons .here .refl)))
  · obtain ⟨d, hd, dy⟩ := (get hh).2.get hy
    have hjl : j < ds.length := (List.getElem?_eq_some_iff.mp hd).1
    obtain ⟨x, ok, rl, o⟩ := hh
    refine we_imp ((hj j x dl d y hd ok s Hs C cl fp).run H (Own.pq (.cons (.there .here) .refl) (o.addD dy))) fun v H4 hh => ?_
    obtain ⟨L', o', d', x', ok', er, im⟩ := hh
    obtain ⟨vs', o2⟩ := (im.own o').exI
    have o3 := Own.cjI (L1 := [pt dl (.lst vs'), dts vs' ((I j).rs x)]) o2
    have hvl := DtAll.len (o3.dts (vs := vs') (ds := (I j).rs x) (.tail _ (.head _)))
    refine ⟨vs', o3.pt (.head _), szl (by omega), fun H5 e5 => ⟨x', ok', by rw [er, List.length_append, List.length_singleton, rl], ?_⟩⟩
    have hd := DtAll.snoc (o3.dts (vs := vs') (ds := (I j).rs x) (.tail _ (.head _))) (o3.dt (v := v) (d := d') (.tail _ (.tail _ (.head _))))
    have o4 := (o3.addDs hd).wrE e5 (.tail _ (.head _)) ntL (.there .here)
    rw [er]
    exact ld.cl (vs := vs' ++ [v]) ((Own.pq (.cons (.there .here) (.cons .here (.cons .here (.cons .here .refl)))) o4).sub (.cons .here (.cons .here (.skip (.skip .refl)))))
  · rw [el] at hh
    obtain ⟨x, ok, _, o⟩ := hh
    exact ⟨_, o, hE x dl ok⟩
theorem el_lcL (hc : X.calm = true) (nd : X.N.Nodup) (no : X.N[ix]? = some z) (ok : BlkOk X.N X.env.scope scope [(z, ix)]) (hz : scope.names.lookup z = some .local) (q : LcLL X scope ix elt iter σ L Q)
    (hs : ∀ x, foldedSetIterable iter X.env x = pure x := by intro _; rfl) : EL X (.ListComp elt [⟨.Name z p1, iter, [], 0⟩] scope pos) σ L Q := ⟨fun H o => we_lcL hc nd no ok hz (q.go o) hs⟩
theorem sl_lcL {iy : Nat} (hc : X.calm = true) (nd : X.N.Nodup) (ny : X.N[iy]? = some zy) (hy : X.env.scope.names.lookup zy = some .local) (hw : swapsWith (.ListComp elt [⟨.Name z p1, iter, [], 0⟩] scope pos) (some (.Name zy p2)) spos.line X.env = pure true)
    (no : X.N[ix]? = some z) (ok : BlkOk X.N X.env.scope scope [(z, ix)]) (hz : scope.names.lookup z = some .local) (q : LcLL X scope ix elt iter σ L fun v L1 => D.nx (σ.set iy (some v)) L1)
    (hs : ∀ x, foldedSetIterable iter X.env x = pure x := by intro _; rfl) : SL X (.Assign [.Name zy p2] (.ListComp elt [⟨.Name z p1, iter, [], 0⟩] scope pos) spos) D σ L := ⟨fun H o => ws_lcL hc nd ny hy hw no ok hz (q.go o) hs⟩
/-- the context of a block -/
theorem Wk.blk {C' : Addr} (W : Wk X C l E) (s : Shared) (Hs : Hp) (cl : List (Str × Addr)) (fp : List Addr) : Wk (blk X scope s Hs C' cl fp) C l (fun _ _ _ => False) :=
  ⟨(takesB s Hs C' cl fp).imp fun _ _ _ _ ⟨_, _, _, _, _, z⟩ => z, W.hr⟩
end
end Sh
namespace Sh
open PySem PySem.Spec L2 PyProof.Rows
section
variable {H : Hp} {L L' L1 : As} {A B : Asn} {l : Addr} {ds ds' : List PyData} {xs : List V}
theorem Rp.rm (r : Rp A B L L') : ∃ L1, Rm A L L1 ∧ Rm B L' L1 := by
  induction r with
  | here => exact ⟨_, .here, .here⟩
  | there _ ih =>
    obtain ⟨L1, a, b⟩ := ih
    exact ⟨_, .there a, .there b⟩
theorem upd_ld (o : Own H L) (r : Rp (ld l ds) (ld l ds') L L') : ∃ vs, H l = some (.lst vs) ∧ DtAll H vs ds ∧ ∀ vs', DtAll H vs' ds' → Own (upd H l (.lst vs')) L' := by
  obtain ⟨L1, r1, r2⟩ := r.rm
  obtain ⟨vs, o1⟩ := ld.op (o.front r1)
  refine ⟨vs, o1.pt List.mem_cons_self, o1.dts (vs := vs) (ds := ds) (.tail _ (.head _)), fun vs' h => ?_⟩
  have o2 := (o1.addDs h).wr (o' := .lst vs') (.there .here) ntL
  exact (ld.cl (vs := vs') (Own.sub (.cons (.there .here) (.cons .here (.skip .refl))) o2)).back r2
theorem get_ld (o : Own H L) (m : ld l ds ∈ L) : ∃ vs, H l = some (.lst vs) ∧ DtAll H vs ds := ldP (o.get (A := ld l ds) m)
theorem new_ld {H' : Hp} {p : Addr} {vs : List V} (o : Own H L) (hn : H p = none) (e : H' = upd H p (.lst vs)) (h : DtAll H vs ds) : Own H' (ld p ds :: L) := by
  have o1 := (o.addDs h).newE hn e
  exact ld.cl (vs := vs) o1
end
section
variable {T : Hp}
theorem DtAll.take : ∀ {vs : List V} {ds : List PyData} (n : Nat), DtAll T vs ds → DtAll T (vs.take n) (ds.take n)
  | _, _, 0, _ => by simpa using DtAll.nil
  | _, _, n + 1, .nil => .nil
  | _, _, n + 1, .cons h t => .cons h (DtAll.take n t)
theorem DtAll.drop : ∀ {vs : List V} {ds : List PyData} (n : Nat), DtAll T vs ds → DtAll T (vs.drop n) (ds.drop n)
  | _, _, 0, h => h
  | _, _, n + 1, .nil => .nil
  | _, _, n + 1, .cons _ t => DtAll.drop n t
theorem DtAll.app : ∀ {vs ws : List V} {ds es : List PyData}, DtAll T vs ds → DtAll T ws es → DtAll T (vs ++ ws) (ds ++ es)
  | _, _, _, _, .nil, h => h
  | _, _, _, _, .cons a t, h => .cons a (DtAll.app t h)
theorem DtAll.rev : ∀ {vs : List V} {ds : List PyData}, DtAll T vs ds → DtAll T vs.reverse ds.reverse
  | _, _, .nil => .nil
  | _, _, .cons a t => by
    rw [List.reverse_cons, List.reverse_cons]
    exact DtAll.app (DtAll.rev t) (.cons a .nil)
theorem DtAll.erase : ∀ {vs : List V} {ds : List PyData} (n : Nat), DtAll T vs ds → DtAll T (vs.eraseIdx n) (ds.eraseIdx n)
  | _, _, _, .nil => .nil
  | _, _, 0, .cons _ t => t
  | _, _, n + 1, .cons a t => .cons a (DtAll.erase n t)
theorem DtAll.set {v : V} {d : PyData} (h : Dt T v d) : ∀ {vs : List V} {ds : List PyData} (n : Nat), DtAll T vs ds → DtAll T (vs.set n v) (ds.set n d)
  | _, _, _, .nil => .nil
  | _, _, 0, .cons _ t => .cons h t
  | _, _, n + 1, .cons a t => .cons a (DtAll.set h n t)
theorem DtAll.get' : ∀ {vs : List V} {ds : List PyData} {j : Nat} {d : PyData}, DtAll T vs ds → ds[j]? = some d → ∃ v, vs[j]? = some v ∧ Dt T v d
  | _, _, _, _, .nil, h => by simp at h
  | _, _, 0, _, .cons a _, h => by
    rw [List.getElem?_cons_zero] at h
    cases h
    exact ⟨_, rfl, a⟩
  | _, _, j + 1, _, .cons _ t, h => by
    rw [List.getElem?_cons_succ] at h
    rw [List.getElem?_cons_succ]
    exact DtAll.get' t h
theorem DtAll.atI {vs : List V} {ds : List PyData} {i : Int} {d : PyData} (h : DtAll T vs ds) (e : L2.atI ds i = some d) : ∃ v, L2.atI vs i = some v ∧ Dt T v d := by
  unfold L2.atI at e ⊢
  rw [DtAll.len h]
  cases q : ixN ds.length i with
  | none => rw [q] at e; cases e
  | some j =>
    rw [q] at e
    exact h.get' e
end
/-- the plain test of two plain things -/
noncomputable abbrev dq (d e : PyData) : Bool := @decide (d = e) (Classical.propDecidable _)
noncomputable abbrev dm (d : PyData) (ds : List PyData) : Bool := @decide (d ∈ ds) (Classical.propDecidable _)
theorem dq_of {d e : PyData} {b : Bool} (h : b = true ↔ d = e) : b = dq d e := by
  rw [Bool.eq_iff_iff, h]
  exact (@decide_eq_true_iff _ (Classical.propDecidable _)).symm
theorem dq_iff {d e : PyData} : dq d e = true ↔ d = e := @decide_eq_true_iff _ (Classical.propDecidable _)
theorem dm_iff {d : PyData} {ds : List PyData} : dm d ds = true ↔ d ∈ ds := @decide_eq_true_iff _ (Classical.propDecidable _)
theorem any_dm {j : Nat} {d : PyData} {ds : List PyData} (p1 : pl j d = true) (p2 : ∀ e ∈ ds, pl j e = true) : (ds.any fun z => PyData.eqv z d) = dm d ds := by
  rw [Bool.eq_iff_iff, dm_iff, List.any_eq_true]
  constructor
  · rintro ⟨x, hx, e⟩
    rw [pl_eqv j x d (p2 x hx) p1] at e
    exact e ▸ hx
  · intro h
    exact ⟨d, h, eqv_true p1⟩
def pls (j : Nat) (ds : List PyData) : Bool := ds.all (pl j)
theorem pls_list {j : Nat} {ds : List PyData} (h : pls j ds = true) : pl (j + 1) (.list ds) = true := h
theorem pls_hD {j : Nat} (hs : List (Int × Int)) : pls (j + 1) (hs.map hD) = true := by
  unfold pls
  rw [List.all_map]
  exact List.all_eq_true.mpr fun x _ => pl_hD j x
section
variable {X : Cx} {C : Cl} {E : EK} {a b c e o iter elt lo hi : Expr} {es rest : List Expr} {σ : St} {L L' L1 G : As} {Q : LK} {QB : Bool → As → Prop} {QA : List V → As → Prop} {QS : SK} {D : DL} {pos p1 p2 p3 apos spos : Pos} {v x y : V} {i : Int} {n k l j : Nat} {p q : Addr} {xs ys : List V} {z zy m : Str} {d f : PyData} {ds fs : List PyData}
theorem ol_eqD (W : Wk X C l E) (h1 : Dsc X.K L x d) (h2 : Dsc X.K L y f) (p1 : pl j d = true) (p2 : pl j f = true) (hj : j ≤ 64) (q : Q (.bl (dq d f)) L) : OL X (compareOp .Eq) x y L Q :=
  ⟨fun H o => wop_eqP W.hr (h1 H o) (h2 H o) p1 p2 hj fun b hb => by rw [dq_of hb]; exact ⟨L, o, q⟩⟩
theorem ol_neD (W : Wk X C l E) (h1 : Dsc X.K L x d) (h2 : Dsc X.K L y f) (p1 : pl j d = true) (p2 : pl j f = true) (hj : j ≤ 64) (q : Q (.bl (!dq d f)) L) : OL X (compareOp .NotEq) x y L Q :=
  ⟨fun H o => wop_neP W.hr (h1 H o) (h2 H o) p1 p2 hj fun b hb => by
    have : b = !dq d f := by
      rw [Bool.eq_iff_iff, hb, Bool.not_eq_true', ← Bool.not_eq_true]
      exact (not_congr dq_iff).symm
    rw [this]; exact ⟨L, o, q⟩⟩
theorem ol_inD (W : Wk X C l E) (h1 : Dsc X.K L x d) (h2 : Dsc X.K L y (.list ds)) (p1 : pl j d = true) (p2 : pls j ds = true) (hj : j < 64) (q : Q (.bl (dm d ds)) L) : OL X (compareOp .In) x y L Q :=
  of_ol (op_inD (by have := W.hr.un; omega)) fun H o => ⟨d, ds, h1 H o, h2 H o, pl_shaped p1 (by omega), pl_shaped (pls_list p2) (by omega), by rw [any_dm p1 (List.all_eq_true.mp p2)]; exact ⟨L, o, q⟩⟩
theorem ol_ninD (W : Wk X C l E) (h1 : Dsc X.K L x d) (h2 : Dsc X.K L y (.list ds)) (p1 : pl j d = true) (p2 : pls j ds = true) (hj : j < 64) (q : Q (.bl (!dm d ds)) L) : OL X (compareOp .NotIn) x y L Q :=
  of_ol (op_notInD (by have := W.hr.un; omega)) fun H o => ⟨d, ds, h1 H o, h2 H o, pl_shaped p1 (by omega), pl_shaped (pls_list p2) (by omega), by rw [any_dm p1 (List.all_eq_true.mp p2)]; exact ⟨L, o, q⟩⟩
/-! len, subscripts -/
theorem cl_lenL (m : pt p (.lst xs) ∈ L) (q : Q (.int xs.length) L) : CL X (.builtin "len") [.ref p] L Q := ⟨fun H o => o_lenL o m ⟨L, o, q⟩⟩
theorem cl_lenT (m : tp p xs ∈ L) (q : Q (.int xs.length) L) : CL X (.builtin "len") [.ref p] L Q := ⟨fun H o => o_lenT o m ⟨L, o, q⟩⟩
theorem cl_lenD {kvs : List (Key × V)} (m : pt p (.dK kvs) ∈ L) (q : Q (.int kvs.length) L) : CL X (.builtin "len") [.ref p] L Q := ⟨fun H o => o_lenD o m ⟨L, o, q⟩⟩
theorem cl_lenld (m : ld p ds ∈ L) (q : Q (.int ds.length) L) : CL X (.builtin "len") [.ref p] L Q := ⟨fun H o => by
  obtain ⟨vs, e1, e2⟩ := get_ld o m
  exact wc_lenL (SqL.of e1) (by rw [DtAll.len e2]; exact ⟨L, o, q⟩)⟩
theorem cl_lendt (m : dt (.ref p) (.tuple ds) ∈ L) (q : Q (.int ds.length) L) : CL X (.builtin "len") [.ref p] L Q := ⟨fun H o => by
  cases o.dt m with
  | tup h1 h2 => exact wc_lenT (SqT.of h1) (by rw [DtAll.len h2]; exact ⟨L, o, q⟩)⟩
/-- a data's own value, where it is no reference -/
def sv : PyData → Option V
  | .int i => some (.int i)
  | .str s => some (.str s)
  | .bool b => some (.bl b)
  | .none => some .non
  | _ => none
theorem sv_dt {T : Hp} {v w : V} (h : Dt T v d) (e : sv d = some w) : v = w := by
  cases h <;> simp_all [sv]
theorem xl_ldS (m : ld p ds ∈ L) (h : atI ds i = some d) (e : sv d = some v) (q : Q v L) : XL X (.ref p) (.int i) L Q := ⟨fun H o => by
  obtain ⟨vs, e1, e2⟩ := get_ld o m
  obtain ⟨w, h1, h2⟩ := e2.atI h
  rw [sv_dt h2 e] at h1
  exact ws_list (SqL.of e1) h1 ⟨L, o, q⟩⟩
theorem xl_ld (m : ld p ds ∈ L) (h : atI ds i = some d) (q : ∀ v, Q v (dt v d :: L)) : XL X (.ref p) (.int i) L Q := ⟨fun H o => by
  obtain ⟨vs, e1, e2⟩ := get_ld o m
  obtain ⟨w, h1, h2⟩ := e2.atI h
  exact ws_list (SqL.of e1) h1 ⟨_, o.addD h2, q w⟩⟩
theorem xl_dtS (m : dt (.ref p) (.tuple ds) ∈ L) (h : atI ds i = some d) (e : sv d = some v) (q : Q v L) : XL X (.ref p) (.int i) L Q := ⟨fun H o => by
  cases o.dt m with
  | tup e1 e2 =>
  obtain ⟨w, h1, h2⟩ := e2.atI h
  rw [sv_dt h2 e] at h1
  exact ws_tup (SqT.of e1) h1 ⟨L, o, q⟩⟩
theorem xl_dt (m : dt (.ref p) (.tuple ds) ∈ L) (h : atI ds i = some d) (q : ∀ v, Q v (dt v d :: L)) : XL X (.ref p) (.int i) L Q := ⟨fun H o => by
  cases o.dt m with
  | tup e1 e2 =>
  obtain ⟨w, h1, h2⟩ := e2.atI h
  exact ws_tup (SqT.of e1) h1 ⟨_, o.addD h2, q w⟩⟩
/-- what a data value is -/
theorem dt_ref {T h : Hp} (s : SLs T h L) (m : dt v (.tuple ds) ∈ L) : ∃ p, v = .ref p := by
  have := s.get (A := dt v (.tuple ds)) m
  cases this with
  | tup => exact ⟨_, rfl⟩
theorem xl_vS (m : dt x (.tuple ds) ∈ L) (h : atI ds i = some d) (e : sv d = some v) (q : Q v L) : XL X x (.int i) L Q := ⟨fun H o => by
  obtain ⟨p, rfl⟩ := dt_ref o.s m
  exact (xl_dtS m h e q).run H o⟩
theorem xl_v (m : dt x (.tuple ds) ∈ L) (h : atI ds i = some d) (q : ∀ v, Q v (dt v d :: L)) : XL X x (.int i) L Q := ⟨fun H o => by
  obtain ⟨p, rfl⟩ := dt_ref o.s m
  exact (xl_dt m h q).run H o⟩
theorem cl_lenv (m : dt x (.tuple ds) ∈ L) (q : Q (.int ds.length) L) : CL X (.builtin "len") [x] L Q := ⟨fun H o => by
  obtain ⟨p, rfl⟩ := dt_ref o.s m
  exact (cl_lendt m q).run H o⟩
/-! new tuples as data -/
theorem newT_d (hl : xs.length ≤ sizeLine) (h : DsiA L xs ds) (q : ∀ p, Q (.ref p) (dt (.ref p) (.tuple ds) :: tp p xs :: L)) : NewT xs L Q := fun H o => ⟨hl, fun p H2 hn e => by
  have o1 := o.newTE hn e
  have d1 : DtAll H2 xs ds := (h.all o.s).mono (by rw [e]; exact tle_new hn)
  exact ⟨_, o1.addD (.tup (o1.tp List.mem_cons_self) d1), q p⟩⟩
theorem newL_d (hl : xs.length ≤ sizeLine) (h : DsiA L xs ds) (q : ∀ p, Q (.ref p) (ld p ds :: L)) : NewL xs L Q := fun H o => ⟨hl, fun p H2 hn e => ⟨_, new_ld o hn e (h.all o.s), q p⟩⟩
/-! lists: append, pop -/
def IsLs (K : PySem.W.Frag) (L : As) (l : Addr) : Prop := ∀ H, Own H L → ∃ xs, SqL K H l xs
theorem IsLs.pt {K : PySem.W.Frag} (m : Sh.pt p (.lst xs) ∈ L) : IsLs K L p := fun H o => ⟨_, SqL.of (o.pt m)⟩
theorem IsLs.ld {K : PySem.W.Frag} (m : Sh.ld p ds ∈ L) : IsLs K L p := fun H o => by
  obtain ⟨vs, e1, _⟩ := get_ld o m
  exact ⟨_, SqL.of e1⟩
/-- y comes to the end of the list at l -/
def AppL (l : Addr) (y : V) (L : As) (R : As → Prop) : Prop := ∀ H, Own H L → ∃ xs, H l = some (.lst xs) ∧ xs.length < sizeLine ∧ ∀ H3, H3 = upd H l (.lst (xs ++ [y])) → ∃ L', Own H3 L' ∧ R L'
theorem app_pt {R : As → Prop} (r : Rp (pt p (.lst xs)) (pt p (.lst (xs ++ [y]))) L L') (h : xs.length < 10000000) (q : R L') : AppL p y L R := fun H o =>
  ⟨xs, o.pt r.mem, szl h, fun H3 e => ⟨L', o.wrE e r.mem ntL r, q⟩⟩
theorem app_li {R : As → Prop} {ns : List Int} (r : Rp (pt p (.lst (iv ns))) (pt p (.lst (iv (ns ++ [i])))) L L') (h : ns.length < 10000000) (q : R L') : AppL p (.int i) L R := fun H o =>
  ⟨iv ns, o.pt r.mem, szl (by rw [iv_len]; exact h), fun H3 e => ⟨L', o.wrE (by rw [iv_app] at e; exact e) r.mem ntL r, q⟩⟩
theorem app_ld {R : As → Prop} (r : Rp (ld p ds) (ld p (ds ++ [d])) L L') (hd : Dsi L y d) (h : ds.length < 10000000) (q : R L') : AppL p y L R := fun H o => by
  obtain ⟨vs, e1, e2, w⟩ := upd_ld o r
  exact ⟨vs, e1, szl (by rw [DtAll.len e2]; exact h), fun H3 e => ⟨L', e ▸ w _ (e2.snoc (hd H H o.s)), q⟩⟩
theorem el_append (q : EL X o σ L fun x L1 => ∃ p, x = .ref p ∧ IsLs X.K L1 p ∧ EL X e σ L1 fun y L2 => AppL p y L2 (Q .non))
    (hbase : attributeBase o "append" X.env (eval o X.env) = eval o X.env := by rfl)
    (hfew : ((backTo pos (starEach [e] X.env)).all (fun w => !w.1) && (backToKw pos (keywordEach [] X.env)).all (fun w => w.1.isSome)
      && decide (([e] : List Expr).length + ([] : List Keyword).length + (if ([] : List Keyword).isEmpty then 0 else 1) < 30)) = true := by rfl)
    (hline : (apos.endLine == pos.line) = true := by rfl) (hs : starEach [e] X.env = (false, eval e X.env) :: starEach [] X.env := by rfl) : EL X (.Call (.Attribute o "append" apos) [e] [] pos) σ L Q :=
  ⟨fun H oo => we_append (we_imp (q.run H oo) fun x H1 ⟨L1, o1, p, ex, il, q1⟩ => ⟨p, ex, il H1 o1, we_imp (q1.run H1 o1) fun y H2 ⟨L2, o2, q2⟩ => q2 H2 o2⟩) hbase hfew hline hs⟩
/-- the item at i goes out of the list at l -/
def PopL (l : Addr) (y : V) (L : As) (Q : LK) : Prop := ∀ H, Own H L → ∃ i xs k z, y = .int i ∧ H l = some (.lst xs) ∧ -(2 ^ 63) ≤ i ∧ i < 2 ^ 63 ∧ seqIndex? i xs.length = some k ∧ xs[k]? = some z ∧ ∀ H3, H3 = upd H l (.lst (xs.eraseIdx k)) → ∃ L', Own H3 L' ∧ Q z L'
theorem seqIx {n k : Nat} (h : k < n) : seqIndex? (k : Int) n = some k := by
  have h0 : ¬ (k : Int) < 0 := by omega
  unfold seqIndex?
  simp [h, h0]
theorem pop_ld {k : Nat} (r : Rp (ld p ds) (ld p (ds.eraseIdx k)) L L') (h : k < 10000000) (hd : ds[k]? = some d) (q : ∀ v, Q v (dt v d :: L')) : PopL p (.int (k : Int)) L Q := fun H o => by
  obtain ⟨vs, e1, e2, w⟩ := upd_ld o r
  obtain ⟨v, h1, h2⟩ := e2.get' hd
  have hk : k < vs.length := (List.getElem?_eq_some_iff.mp h1).1
  refine ⟨(k : Int), vs, k, v, rfl, e1, by omega, by omega, seqIx hk, h1, fun H3 e => ⟨_, (e ▸ w _ (e2.erase k) : Own H3 L').addD (h2.mono ?_), q v⟩⟩
  rw [e]
  intro b ys hb
  have ne : b ≠ p := fun z => by rw [z, e1] at hb; cases hb
  rw [upd_ne ne]; exact hb
theorem el_popAt (q : EL X o σ L fun x L1 => ∃ p, x = .ref p ∧ IsLs X.K L1 p ∧ EL X e σ L1 fun y L2 => PopL p y L2 Q)
    (hbase : attributeBase o "pop" X.env (eval o X.env) = eval o X.env := by rfl)
    (hfew : ((backTo pos (starEach [e] X.env)).all (fun w => !w.1) && (backToKw pos (keywordEach [] X.env)).all (fun w => w.1.isSome)
      && decide (([e] : List Expr).length + ([] : List Keyword).length + (if ([] : List Keyword).isEmpty then 0 else 1) < 30)) = true := by rfl)
    (hline : (apos.endLine == pos.line) = true := by rfl) (hs : starEach [e] X.env = (false, eval e X.env) :: starEach [] X.env := by rfl) : EL X (.Call (.Attribute o "pop" apos) [e] [] pos) σ L Q :=
  ⟨fun H oo => we_popAt (we_imp (q.run H oo) fun x H1 ⟨L1, o1, p, ex, il, q1⟩ => ⟨p, ex, il H1 o1, we_imp (q1.run H1 o1) fun y H2 ⟨L2, o2, q2⟩ => q2 H2 o2⟩) hbase hfew hline hs⟩
end
end Sh
namespace Sh
open PySem PySem.Spec L2 PyProof.Rows
/-! ### promises of the draws and of a store, over assertions -/
def sDraw (K : PySem.W.Frag) : SpL := fun vs L Q _ => ∃ (a t : Addr) (N : Nat) (m : Int) (L1 : As), vs = [.ref a, .ref t, .int m] ∧ Rm (dr K a t N) L L1 ∧ N ≤ 999999 ∧ 0 < m ∧ ∀ i, 0 ≤ i → i < m → Q (.int i) (dr K a t (N + 1) :: L1)
def sPick (K : PySem.W.Frag) : SpL := fun vs L Q _ => ∃ (a t l : Addr) (N : Nat) (L1 : As), vs = [.ref a, .ref t, .ref l] ∧ Rm (dr K a t N) L L1 ∧ N ≤ 999999 ∧
  ((∃ xs, pt l (.lst xs) ∈ L1 ∧ 0 < xs.length ∧ ∀ v ∈ xs, Q v (dr K a t (N + 1) :: L1)) ∨ (∃ ds, ld l ds ∈ L1 ∧ 0 < ds.length ∧ ∀ d ∈ ds, ∀ v, Q v (dt v d :: dr K a t (N + 1) :: L1)))
def sSets (K : PySem.W.Frag) : SpL := fun vs L Q _ => ∃ (a t : Addr) (N : Nat) (L1 : As), vs = [.ref a, .ref t] ∧ Rm (dr K a t N) L L1 ∧ N ≤ 999900 ∧
  ∀ s m r la rn, m ∈ ([1, 2, 3, 4, 6, 60] : List Int) → r ∈ ([1, 2, 3, 5, 1000] : List Int) → Q (.ref s) (tp s (setV m r la rn) :: dr K a t (N + 4) :: L1)
theorem imp_rm {A : Asn} {L L1 : As} (r : Rm A L L1) : Imp L (A :: L1) := fun T h s => s.front r
section
variable {K : PySem.W.Frag} {C : Cl} {L L' L1 : As} {Q : LK} {E : Er → As → Prop} {a t l : Addr} {N : Nat} {m : Int} {xs : List V} {ds : List PyData}
theorem sDraw.i (r : Rm (dr K a t N) L L1) (h1 : N ≤ 999999) (h2 : 0 < m) (q : ∀ i, 0 ≤ i → i < m → Q (.int i) (dr K a t (N + 1) :: L1)) : sDraw K [.ref a, .ref t, .int m] L Q E := ⟨a, t, N, m, L1, rfl, r, h1, h2, q⟩
theorem sPick.v (r : Rm (dr K a t N) L L1) (h1 : N ≤ 999999) (m1 : pt l (.lst xs) ∈ L1) (h2 : 0 < xs.length) (q : ∀ v ∈ xs, Q v (dr K a t (N + 1) :: L1)) : sPick K [.ref a, .ref t, .ref l] L Q E :=
  ⟨a, t, l, N, L1, rfl, r, h1, .inl ⟨xs, m1, h2, q⟩⟩
theorem sPick.d (r : Rm (dr K a t N) L L1) (h1 : N ≤ 999999) (m1 : ld l ds ∈ L1) (h2 : 0 < ds.length) (q : ∀ d ∈ ds, ∀ v, Q v (dt v d :: dr K a t (N + 1) :: L1)) : sPick K [.ref a, .ref t, .ref l] L Q E :=
  ⟨a, t, l, N, L1, rfl, r, h1, .inr ⟨ds, m1, h2, q⟩⟩
theorem sSets.i (r : Rm (dr K a t N) L L1) (h1 : N ≤ 999900) (q : ∀ s m r la rn, m ∈ ([1, 2, 3, 4, 6, 60] : List Int) → r ∈ ([1, 2, 3, 5, 1000] : List Int) → Q (.ref s) (tp s (setV m r la rn) :: dr K a t (N + 4) :: L1)) :
    sSets K [.ref a, .ref t] L Q E := ⟨a, t, N, L1, rfl, r, h1, q⟩
theorem sDraw.h (vs : List V) (H : Hp) (Q : VK) (E : XK) (h : lsp C (sDraw K) vs H Q E) : spDraw K vs H Q E := by
  obtain ⟨L, Q', E', o, ⟨a, t, N, m, L1, rfl, r, hN, hm, q⟩, q1, q2⟩ := h
  obtain ⟨ns, n, hn, o1⟩ := dr.op (o.front r)
  exact ⟨a, t, ns, n, m, L1, rfl, o1, by omega, hm, fun i H' h1 h2 o' => q1 _ _ _ (dr.cl o' (by omega)) (q i h1 h2)⟩
theorem sSets.h (vs : List V) (H : Hp) (Q : VK) (E : XK) (h : lsp C (sSets K) vs H Q E) : spSettings K vs H Q E := by
  obtain ⟨L, Q', E', o, ⟨a, t, N, L1, rfl, r, hN, q⟩, q1, q2⟩ := h
  obtain ⟨ns, n, hn, o1⟩ := dr.op (o.front r)
  refine ⟨a, t, ns, n, L1, rfl, o1, by omega, fun s m r la rn H' hm hr o' => q1 _ _ _ ?_ (q s m r la rn hm hr)⟩
  have ht := o'.tp (.head _)
  exact (dr.cl o'.drop (by omega)).addT ht
end
def sInit (K : PySem.W.Frag) (C : Cl) : SpL := fun vs L Q E => ∃ (x dx : Addr) (v : V) (L1 : As), vs = [.ref x, v] ∧ L = pt x (.ins C.Store dx []) :: L1 ∧
  ((∃ (a : Addr) (n r : Int) (last rnd : Bool), v = .ref a ∧ tp a (setV n r last rnd) ∈ L1 ∧ 1 ≤ n ∧ n ≤ 60 ∧ 1 ≤ r ∧ r ≤ 1000 ∧ Q .non (StoreAt C.Store x (SS.new n r last rnd) :: L1)) ∨
   (∃ d : PyData, Dsc K L1 v d ∧ areSettings d = false ∧ E .NoSettings L1))
def sPut (K : PySem.W.Frag) (C : Cl) : SpL := fun vs L Q E => ∃ (p : Addr) (S : SS) (v : V) (d : PyData) (L1 : As), vs = [.ref p, v] ∧ S.Ok ∧ Rm (StoreAt C.Store p S) L L1 ∧ Dsc K L v d ∧
  (isWhole d 0 9999 = false → E .NoWorth L) ∧ (isWhole d 0 9999 = true → ∀ s c S', S.putIn v = .ok ((s, c), S') → S'.Ok → ∀ t, Q (.ref t) (dt (.ref t) (hD (s, c)) :: StoreAt C.Store p S' :: L1)) ∧
  (isWhole d 0 9999 = true → ∀ e, S.putIn v = .error e → E e L)
def sPutIn (C : Cl) : SpL := fun vs L Q E => ∃ (p : Addr) (S : SS) (v : V) (L1 : As), vs = [.ref p, v] ∧ S.Ok ∧ Rm (StoreAt C.Store p S) L L1 ∧
  (∀ s c S', S.putIn v = .ok ((s, c), S') → S'.Ok → ∀ t, Q (.ref t) (dt (.ref t) (hD (s, c)) :: StoreAt C.Store p S' :: L1)) ∧ (∀ e, S.putIn v = .error e → E e L)
def sAsk (K : PySem.W.Frag) (C : Cl) (R : SS → Int × Int → V → Prop) : SpL := fun vs L Q E => ∃ (p : Addr) (S : SS) (v : V) (d : PyData), vs = [.ref p, v] ∧ S.Ok ∧ StoreAt C.Store p S ∈ L ∧ Dsc K L v d ∧
  (∀ sc, S.at d = .ok sc → ∀ y, R S sc y → Q y L) ∧ (∀ e, S.at d = .error e → E e L)
def sNeed (K : PySem.W.Frag) (C : Cl) : SpL := sAsk K C fun _ _ y => y = .non
def sGet (K : PySem.W.Frag) (C : Cl) : SpL := sAsk K C fun S sc y => valV S.ws sc.1 = some y
noncomputable def SS.hasD (S : SS) (d : PyData) : Bool := @decide (∃ sc, S.at d = .ok sc) (Classical.propDecidable _)
def sHas (K : PySem.W.Frag) (C : Cl) : SpL := fun vs L Q E => ∃ (p : Addr) (S : SS) (v : V) (d : PyData), vs = [.ref p, v] ∧ S.Ok ∧ StoreAt C.Store p S ∈ L ∧ Dsc K L v d ∧ Q (.bl (S.hasD d)) L
def sDrop (K : PySem.W.Frag) (C : Cl) : SpL := fun vs L Q E => ∃ (p : Addr) (S : SS) (v : V) (d : PyData) (L1 : As), vs = [.ref p, v] ∧ S.Ok ∧ Rm (StoreAt C.Store p S) L L1 ∧ Dsc K L v d ∧
  (∀ s c y, S.at d = .ok (s, c) → valV S.ws s = some y → (S.dropAt s).Ok → Q y (StoreAt C.Store p (S.dropAt s) :: L1)) ∧ (∀ e, S.at d = .error e → E e L)
def sChange (K : PySem.W.Frag) (C : Cl) : SpL := fun vs L Q E => ∃ (p : Addr) (S : SS) (v w : V) (d dw : PyData) (L1 : As), vs = [.ref p, v, w] ∧ S.Ok ∧ Rm (StoreAt C.Store p S) L L1 ∧ Dsc K L v d ∧ Dsc K L w dw ∧
  (∀ e, S.at d = .error e → E e L) ∧ (∀ sc, S.at d = .ok sc → isWhole dw 0 9999 = false → E .NoWorth L) ∧
  (∀ s c y, S.at d = .ok (s, c) → isWhole dw 0 9999 = true → valV S.ws s = some y → (S.chg s w).Ok → Q y (StoreAt C.Store p (S.chg s w) :: L1))
def sTell (C : Cl) (R : SS → V) : SpL := fun vs L Q _ => ∃ (p : Addr) (S : SS), vs = [.ref p] ∧ S.Ok ∧ StoreAt C.Store p S ∈ L ∧ Q (R S) L
def sTellL (C : Cl) (R : SS → List Int) : SpL := fun vs L Q _ => ∃ (p : Addr) (S : SS), vs = [.ref p] ∧ S.Ok ∧ StoreAt C.Store p S ∈ L ∧ ∀ l, Q (.ref l) (pt l (.lst (iv (R S))) :: L)
def sLive (C : Cl) : SpL := fun vs L Q _ => ∃ (p : Addr) (S : SS), vs = [.ref p] ∧ S.Ok ∧ StoreAt C.Store p S ∈ L ∧ ∀ l, Q (.ref l) (ld l (S.live.map hD) :: L)
def SS.freeL (S : SS) : List Int := if S.last then S.ln.reverse else S.ln
section
variable {K : PySem.W.Frag} {C : Cl} {L L' L1 : As} {p : Addr} {S : SS}
theorem sInit.h (vs : List V) (H : Hp) (Q : VK) (E : XK) (h : lsp C (sInit K C) vs H Q E) : spInitS K C vs H Q E := by
  obtain ⟨L, Q', E', o, ⟨x, dx, v, L1, rfl, rfl, h⟩, q1, q2⟩ := h
  refine ⟨x, dx, v, L1, rfl, o, ?_⟩
  rcases h with ⟨a, n, r, la, rn, rfl, m, h1, h2, h3, h4, q⟩ | ⟨d, hd, hs, q⟩
  · exact .inl ⟨a, n, r, la, rn, rfl, m, h1, h2, h3, h4, fun H' o' => q1 _ _ _ o' q⟩
  · exact .inr ⟨d, hd H o.drop, hs, q2 _ _ _ o.drop q⟩
theorem sPut.h (vs : List V) (H : Hp) (Q : VK) (E : XK) (h : lsp C (sPut K C) vs H Q E) : spPut K C vs H Q E := by
  obtain ⟨L, Q', E', o, ⟨p, S, v, d, L1, rfl, ok, r, hd, e1, e2, e3⟩, q1, q2⟩ := h
  refine ⟨p, S, v, d, L1, rfl, ok, o.front r, hd H o, fun z => q2 _ _ _ o (e1 z), fun z s c S' es t H' o' => ?_, fun z e es H' o' => q2 _ _ _ (o'.back r) (e3 z e es)⟩
  have o2 := o'.drop.addD (.tup (o'.tp (.head _)) (.cons (.int s) (.cons (.int c) .nil)))
  exact q1 _ _ _ o2 (e2 z s c S' es (ok.put es) t)
theorem sPutIn.h (vs : List V) (H : Hp) (Q : VK) (E : XK) (h : lsp C (sPutIn C) vs H Q E) : spPutIn C vs H Q E := by
  obtain ⟨L, Q', E', o, ⟨p, S, v, L1, rfl, ok, r, e2, e3⟩, q1, q2⟩ := h
  refine ⟨p, S, v, L1, rfl, ok, o.front r, fun s c S' es t H' o' => ?_, fun e es H' o' => q2 _ _ _ (o'.back r) (e3 e es)⟩
  have o2 := o'.drop.addD (.tup (o'.tp (.head _)) (.cons (.int s) (.cons (.int c) .nil)))
  exact q1 _ _ _ o2 (e2 s c S' es (ok.put es) t)
theorem sAsk.h {R : SS → Int × Int → V → Prop} (vs : List V) (H : Hp) (Q : VK) (E : XK) (h : lsp C (sAsk K C R) vs H Q E) : spAsk K C R vs H Q E := by
  obtain ⟨L, Q', E', o, ⟨p, S, v, d, rfl, ok, m, hd, e1, e2⟩, q1, q2⟩ := h
  obtain ⟨L1, r⟩ := mem_rm m
  exact ⟨p, S, v, d, L1, rfl, ok, o.front r, hd H o, fun sc es y ey => q1 _ _ _ o (e1 sc es y ey), fun e es => q2 _ _ _ o (e2 e es)⟩
theorem sHas.h (vs : List V) (H : Hp) (Q : VK) (E : XK) (h : lsp C (sHas K C) vs H Q E) : spHas K C vs H Q E := by
  obtain ⟨L, Q', E', o, ⟨p, S, v, d, rfl, ok, m, hd, e1⟩, q1, q2⟩ := h
  obtain ⟨L1, r⟩ := mem_rm m
  refine ⟨p, S, v, d, L1, rfl, ok, o.front r, hd H o, fun b hb => ?_⟩
  have : b = S.hasD d := by
    rw [Bool.eq_iff_iff, hb]
    exact (@decide_eq_true_iff _ (Classical.propDecidable _)).symm
  rw [this]
  exact q1 _ _ _ o e1
theorem sDrop.h (vs : List V) (H : Hp) (Q : VK) (E : XK) (h : lsp C (sDrop K C) vs H Q E) : spDrop K C vs H Q E := by
  obtain ⟨L, Q', E', o, ⟨p, S, v, d, L1, rfl, ok, r, hd, e1, e2⟩, q1, q2⟩ := h
  refine ⟨p, S, v, d, L1, rfl, ok, o.front r, hd H o, fun s c y es ey H' o' => q1 _ _ _ o' (e1 s c y es ey ?_), fun e es => q2 _ _ _ o (e2 e es)⟩
  exact ok.drop (SS.holds_in (SS.at_ok es).2.1).1
theorem sChange.h (vs : List V) (H : Hp) (Q : VK) (E : XK) (h : lsp C (sChange K C) vs H Q E) : spChange K C vs H Q E := by
  obtain ⟨L, Q', E', o, ⟨p, S, v, w, d, dw, L1, rfl, ok, r, hd, hw, e1, e2, e3⟩, q1, q2⟩ := h
  refine ⟨p, S, v, w, d, dw, L1, rfl, ok, o.front r, hd H o, hw H o, fun e es => q2 _ _ _ o (e1 e es), fun sc es z => q2 _ _ _ o (e2 sc es z), fun s c y es z ey H' o' => q1 _ _ _ o' (e3 s c y es z ey ?_)⟩
  exact ok.chg (SS.holds_in (SS.at_ok es).2.1).1
theorem sTell.h {R : SS → V} (vs : List V) (H : Hp) (Q : VK) (E : XK) (h : lsp C (sTell C R) vs H Q E) : spTell C R vs H Q E := by
  obtain ⟨L, Q', E', o, ⟨p, S, rfl, ok, m, e1⟩, q1, q2⟩ := h
  obtain ⟨L1, r⟩ := mem_rm m
  exact ⟨p, S, L1, rfl, ok, o.front r, q1 _ _ _ o e1⟩
theorem sTellL.h {R : SS → List Int} (vs : List V) (H : Hp) (Q : VK) (E : XK) (h : lsp C (sTellL C R) vs H Q E) : spTellL C R vs H Q E := by
  obtain ⟨L, Q', E', o, ⟨p, S, rfl, ok, m, e1⟩, q1, q2⟩ := h
  obtain ⟨L1, r⟩ := mem_rm m
  exact ⟨p, S, L1, rfl, ok, o.front r, fun l H' o' => q1 _ _ _ ((imp_same (fun T h s => s.back r)).own o') (e1 l)⟩
theorem sLive.h (vs : List V) (H : Hp) (Q : VK) (E : XK) (h : lsp C (sLive C) vs H Q E) : spLive C vs H Q E := by
  obtain ⟨L, Q', E', o, ⟨p, S, rfl, ok, m, e1⟩, q1, q2⟩ := h
  obtain ⟨L1, r⟩ := mem_rm m
  exact ⟨p, S, L1, rfl, ok, o.front r, fun l H' o' => q1 _ _ _ ((imp_same (fun T h s => s.back r)).own o') (e1 l)⟩
theorem sLeft.h (vs : List V) (H : Hp) (Q : VK) (E : XK) (h : lsp C (sTell C SS.left) vs H Q E) : spLeft C vs H Q E := by
  obtain ⟨L, Q', E', o, ⟨p, S, rfl, ok, m, e1⟩, q1, q2⟩ := h
  obtain ⟨L1, r⟩ := mem_rm m
  exact ⟨p, S, L1, rfl, ok, o.front r, fun H' o' => q1 _ _ _ (o'.back r) e1⟩
theorem Rc.store {n : Str} (m : StoreAt C.Store p S ∈ L) (hl : ∀ q : StAd, (sflds q).lookup n = none) : Rc L p C.Store n := fun H o => by
  obtain ⟨q, h⟩ := StoreAt.ins o m
  exact ⟨_, _, h, hl q⟩
end
end Sh
namespace Sh
open PySem PySem.Spec L2 PyProof.Rows
section
variable {K : PySem.W.Frag} {C : Cl} {L L' L1 : As} {p : Addr} {S S' : SS} {Q : LK} {E : Er → As → Prop} {v w y : V} {d dw : PyData} {s c : Int} {er : Er} {sc : Int × Int}
theorem sInit.i {x dx a : Addr} {n r : Int} {last rnd : Bool} (m : tp a (setV n r last rnd) ∈ L) (h1 : 1 ≤ n) (h2 : n ≤ 60) (h3 : 1 ≤ r) (h4 : r ≤ 1000) (q : SS.Ok (SS.new n r last rnd) → Q .non (StoreAt C.Store x (SS.new n r last rnd) :: L)) :
    sInit K C [.ref x, .ref a] (pt x (.ins C.Store dx []) :: L) Q E := ⟨x, dx, _, L, rfl, rfl, .inl ⟨a, n, r, last, rnd, rfl, m, h1, h2, h3, h4, q (SS.Ok.new h1 h2 h3 h4)⟩⟩
theorem sPut.i (ok : S.Ok) (r : Rm (StoreAt C.Store p S) L L1) (hd : Dsc K L v d) (e1 : isWhole d 0 9999 = false → E .NoWorth L)
    (e2 : isWhole d 0 9999 = true → ∀ s c S', S.putIn v = .ok ((s, c), S') → S'.Ok → ∀ t, Q (.ref t) (dt (.ref t) (hD (s, c)) :: StoreAt C.Store p S' :: L1)) (e3 : isWhole d 0 9999 = true → ∀ e, S.putIn v = .error e → E e L) :
    sPut K C [.ref p, v] L Q E := ⟨p, S, v, d, L1, rfl, ok, r, hd, e1, e2, e3⟩
theorem sPut.wh (ok : S.Ok) (r : Rm (StoreAt C.Store p S) L L1) (hd : Dsc K L v d) (hw : isWhole d 0 9999 = true)
    (e2 : ∀ s c S', S.putIn v = .ok ((s, c), S') → S'.Ok → ∀ t, Q (.ref t) (dt (.ref t) (hD (s, c)) :: StoreAt C.Store p S' :: L1)) (e3 : ∀ e, S.putIn v = .error e → E e L) :
    sPut K C [.ref p, v] L Q E := ⟨p, S, v, d, L1, rfl, ok, r, hd, fun z => (by rw [hw] at z; cases z), fun _ => e2, fun _ => e3⟩
theorem sPut.ok (ok : S.Ok) (r : Rm (StoreAt C.Store p S) L L1) (hd : Dsc K L v d) (hw : isWhole d 0 9999 = true) (es : S.putIn v = .ok ((s, c), S'))
    (q : S'.Ok → ∀ t, Q (.ref t) (dt (.ref t) (hD (s, c)) :: StoreAt C.Store p S' :: L1)) : sPut K C [.ref p, v] L Q E :=
  sPut.wh ok r hd hw (fun s1 c1 S1 e1 ok1 t => by rw [es] at e1; cases e1; exact q ok1 t) fun e e1 => by rw [es] at e1; cases e1
theorem sPut.err (ok : S.Ok) (r : Rm (StoreAt C.Store p S) L L1) (hd : Dsc K L v d) (hw : isWhole d 0 9999 = true) (es : S.putIn v = .error er) (q : E er L) : sPut K C [.ref p, v] L Q E :=
  sPut.wh ok r hd hw (fun s1 c1 S1 e1 ok1 t => by rw [es] at e1; cases e1) fun e e1 => by rw [es] at e1; cases e1; exact q
theorem sGet.i (ok : S.Ok) (m : StoreAt C.Store p S ∈ L) (hd : Dsc K L v d) (q1 : ∀ sc, S.at d = .ok sc → ∀ y, valV S.ws sc.1 = some y → Q y L) (q2 : ∀ e, S.at d = .error e → E e L) : sGet K C [.ref p, v] L Q E := ⟨p, S, v, d, rfl, ok, m, hd, q1, q2⟩
theorem sGet.ok (ok : S.Ok) (m : StoreAt C.Store p S ∈ L) (hd : Dsc K L v d) (es : S.at d = .ok sc) (ey : valV S.ws sc.1 = some y) (q : Q y L) : sGet K C [.ref p, v] L Q E :=
  sGet.i ok m hd (fun sc1 e1 y1 e2 => by rw [es] at e1; cases e1; rw [ey] at e2; cases e2; exact q) fun e e1 => by rw [es] at e1; cases e1
theorem sGet.err (ok : S.Ok) (m : StoreAt C.Store p S ∈ L) (hd : Dsc K L v d) (es : S.at d = .error er) (q : E er L) : sGet K C [.ref p, v] L Q E :=
  sGet.i ok m hd (fun sc1 e1 y1 e2 => by rw [es] at e1; cases e1) fun e e1 => by rw [es] at e1; cases e1; exact q
theorem sHas.i (m : StoreAt C.Store p S ∈ L) (ok : S.Ok) (hd : Dsc K L v d) (q : Q (.bl (S.hasD d)) L) : sHas K C [.ref p, v] L Q E := ⟨p, S, v, d, rfl, ok, m, hd, q⟩
theorem SS.has_ok {S : SS} {d : PyData} (h : S.at d = .ok sc) : S.hasD d = true := (@decide_eq_true_iff _ (Classical.propDecidable _)).mpr ⟨sc, h⟩
theorem SS.has_er {S : SS} {d : PyData} (h : S.at d = .error er) : S.hasD d = false := @decide_eq_false _ (Classical.propDecidable _) fun ⟨sc, z⟩ => by rw [h] at z; cases z
theorem SS.has_iff {S : SS} {d : PyData} : S.hasD d = true ↔ ∃ sc, S.at d = .ok sc := @decide_eq_true_iff _ (Classical.propDecidable _)
theorem sDrop.i (ok : S.Ok) (r : Rm (StoreAt C.Store p S) L L1) (hd : Dsc K L v d) (q1 : ∀ s c y, S.at d = .ok (s, c) → valV S.ws s = some y → (S.dropAt s).Ok → Q y (StoreAt C.Store p (S.dropAt s) :: L1)) (q2 : ∀ e, S.at d = .error e → E e L) :
    sDrop K C [.ref p, v] L Q E := ⟨p, S, v, d, L1, rfl, ok, r, hd, q1, q2⟩
theorem sDrop.ok (ok : S.Ok) (r : Rm (StoreAt C.Store p S) L L1) (hd : Dsc K L v d) (es : S.at d = .ok (s, c)) (ey : valV S.ws s = some y) (q : (S.dropAt s).Ok → Q y (StoreAt C.Store p (S.dropAt s) :: L1)) : sDrop K C [.ref p, v] L Q E :=
  sDrop.i ok r hd (fun s1 c1 y1 e1 e2 ok1 => by rw [es] at e1; cases e1; rw [ey] at e2; cases e2; exact q ok1) fun e e1 => by rw [es] at e1; cases e1
theorem sDrop.err (ok : S.Ok) (r : Rm (StoreAt C.Store p S) L L1) (hd : Dsc K L v d) (es : S.at d = .error er) (q : E er L) : sDrop K C [.ref p, v] L Q E :=
  sDrop.i ok r hd (fun s1 c1 y1 e1 e2 ok1 => by rw [es] at e1; cases e1) fun e e1 => by rw [es] at e1; cases e1; exact q
theorem sChange.i (ok : S.Ok) (r : Rm (StoreAt C.Store p S) L L1) (hd : Dsc K L v d) (hw : Dsc K L w dw) (q1 : ∀ e, S.at d = .error e → E e L) (q2 : ∀ sc, S.at d = .ok sc → isWhole dw 0 9999 = false → E .NoWorth L)
    (q3 : ∀ s c y, S.at d = .ok (s, c) → isWhole dw 0 9999 = true → valV S.ws s = some y → (S.chg s w).Ok → Q y (StoreAt C.Store p (S.chg s w) :: L1)) :
    sChange K C [.ref p, v, w] L Q E := ⟨p, S, v, w, d, dw, L1, rfl, ok, r, hd, hw, q1, q2, q3⟩
theorem sTell.i {R : SS → V} (m : StoreAt C.Store p S ∈ L) (ok : S.Ok) (q : Q (R S) L) : sTell C R [.ref p] L Q E := ⟨p, S, rfl, ok, m, q⟩
theorem sTellL.i {R : SS → List Int} (m : StoreAt C.Store p S ∈ L) (ok : S.Ok) (q : ∀ l, Q (.ref l) (pt l (.lst (iv (R S))) :: L)) : sTellL C R [.ref p] L Q E := ⟨p, S, rfl, ok, m, q⟩
theorem sLive.i (m : StoreAt C.Store p S ∈ L) (ok : S.Ok) (q : ∀ l, Q (.ref l) (ld l (S.live.map hD) :: L)) : sLive C [.ref p] L Q E := ⟨p, S, rfl, ok, m, q⟩
end
section
variable {X : Cx} {C : Cl} {E : EK} {e : Expr} {es : List Expr} {σ : St} {L : As} {Q : LK} {QB : Bool → As → Prop} {QA : List V → As → Prop} {QS : SK} {D : DL} {pos pz apos : Pos} {p : Addr} {kx k l : Nat} {zx m : Str} {ps : List Str} {s : SpL} {Cc : Addr} {v x y : V} {st : Stmt} {sts : List Stmt} {f : Value → Value → Sem Value}
/-- a method of what a name holds -/
theorem el_mN {pl : Sem Bool} (W : Wk X C l E) (nm : Nm X.N X.env kx zx) (h : σ[kx]? = some (some (.ref p))) (rc : Rc L p Cc m) (hc : Cls X.K Cc) (G : MnX X k Cc m ps (lsp C s)) (hk : k ≤ l)
    (q : AL X (e :: es) σ L fun vs L2 => Sg (s (.ref p :: vs) L2 Q fun er L3 => E er σ L3))
    (hst : starEach (e :: es) X.env = (false, eval e X.env) :: starEach es X.env := by rfl) (hpl : (backTo pos (starEach es X.env)).any (·.1) = false := by rfl)
    (ht : eval (.Call (.Attribute (.Name zx pz) m apos) (e :: es) [] pos) X.env = (do
      let rv ← eval (.Name zx pz) X.env
      standAt apos.atName
      let (g, fst) ← holding [rv] (getMethod rv m pl)
      callWith pos g fst (backTo pos (starEach (e :: es) X.env)) (backToKw pos (keywordEach [] X.env))) := by rfl) : EL X (.Call (.Attribute (.Name zx pz) m apos) (e :: es) [] pos) σ L Q :=
  el_meth W hc G hk (el_var nm h ⟨p, rfl, rc, q⟩) hst hpl ht
theorem el_mN0 {pl : Sem Bool} (W : Wk X C l E) (nm : Nm X.N X.env kx zx) (h : σ[kx]? = some (some (.ref p))) (rc : Rc L p Cc m) (hc : Cls X.K Cc) (G : MnX X k Cc m ps (lsp C s)) (hk : k ≤ l)
    (q : Sg (s [.ref p] L Q fun er L3 => E er σ L3))
    (ht : eval (.Call (.Attribute (.Name zx pz) m apos) [] [] pos) X.env = (do
      let rv ← eval (.Name zx pz) X.env
      standAt apos.atName
      let (g, fst) ← holding [rv] (getMethod rv m pl)
      callWith pos g fst (backTo pos (starEach [] X.env)) (backToKw pos (keywordEach [] X.env))) := by rfl) : EL X (.Call (.Attribute (.Name zx pz) m apos) [] [] pos) σ L Q :=
  el_meth0 W hc G hk (el_var nm h ⟨p, rfl, rc, q⟩) ht
theorem el_id (h : EL X e σ L Q) : EL X e σ L Q := h
theorem el_idN {z : Str} (h : EL X (.Name z pos) σ L Q) : EL X (.Name z pos) σ L Q := h
theorem el_idC {k : Const} {n : Nat} (h : EL X (.Constant k n pos) σ L Q) : EL X (.Constant k n pos) σ L Q := h
theorem el_idF {a : Expr} {k : List Keyword} (h : EL X (.Call a es k pos) σ L Q) : EL X (.Call a es k pos) σ L Q := h
theorem el_idM {a : Expr} {k : List Keyword} (h : EL X (.Call (.Attribute a m pz) es k pos) σ L Q) : EL X (.Call (.Attribute a m pz) es k pos) σ L Q := h
theorem el_idSl {a : Expr} {lo hi st : Option Expr} {p2 : Pos} (h : EL X (.Subscript a (.Slice lo hi st p2) pos) σ L Q) : EL X (.Subscript a (.Slice lo hi st p2) pos) σ L Q := h
theorem tl_id (h : TL X e σ L QB) : TL X e σ L QB := h
theorem wl_id (h : WL X e σ L QB) : WL X e σ L QB := h
theorem al_id (h : AL X es σ L QA) : AL X es σ L QA := h
theorem bl_id (h : BL X sts D σ L) : BL X sts D σ L := h
theorem sl_id (h : SL X st D σ L) : SL X st D σ L := h
theorem gl_id (h : GL X e v σ L QS) : GL X e v σ L QS := h
theorem ol_id (h : OL X f x y L Q) : OL X f x y L Q := h
theorem xl_id (h : XL X x y L Q) : XL X x y L Q := h
theorem cl_id {f : Value} {vs : List V} (h : CL X f vs L Q) : CL X f vs L Q := h
end
end Sh
namespace Sh
open PySem PySem.Spec L2 PyProof.Rows
theorem imp_dr0 {K : PySem.W.Frag} {L L1 L2 G : As} {a t : Addr} {ns : List Int} (r1 : Rm (pt t (.lst [])) L L1) (r2 : Rm (sq K a (iv ns)) L1 L2) (k : Imp L2 G) : Imp L (dr K a t 0 :: G) := fun T h s => by
  obtain ⟨h1, h2, d, l1, l2, a1, s⟩ := s.front r1
  obtain ⟨h3, h4, d', l3, l4, a2, s⟩ := s.front r2
  have s2 : SLs T h ([sq K a (iv ns), town t 0, pr (0 ≤ 0)] ++ G) := by
    have k2 : SLs T h (town t 0 :: sq K a (iv ns) :: G) := ⟨h1, h2, d, l1, l2, a1, h3, h4, d', l3, l4, a2, k T h4 s⟩
    have k3 := k2.swap
    obtain ⟨h5, h6, d5, l5, l6, a5, h7, h8, d7, l7, l8, a7, s7⟩ := k3
    exact ⟨h5, h6, d5, l5, l6, a5, h7, h8, d7, l7, l8, a7, ⟨fun _ => none, h8, fun _ => .inl rfl, fun _ _ e => (by cases e), HLe.rfl, Nat.le_refl 0, s7⟩⟩
  obtain ⟨g1, g2, e1, e2, e3, e4, e5⟩ := SLs.cjE (L1 := [sq K a (iv ns), town t 0, pr (0 ≤ 0)]) s2
  exact ⟨g1, g2, e1, e2, e3, ⟨(ns, 0), e4⟩, e5⟩
theorem law_of {P : Program} {w : World} {K : PySem.W.Frag} {mg : Str → Option Value} {base : Heap} {C : Cl} {st : Stmt} {f : Addr} {fd : FuncData} {N : List Str} {k : Nat} {rest : List Stmt} {p1 p2 p3 : Pos}
    (F : Fun K "law" "law" st f fd) (S : FnScope N ["script"] (defScope st)) (hb : defBody st = .Assign [.Name "town" p1] (.List [] p2) p3 :: rest) (hN : N[1]? = some ("town" : Str)) (hl : Loc (defScope st) "town")
    (body : ∀ (X : Cx), X.prog = P → X.w = w → X.K = K → X.mg = mg → X.base = base → Bd X k N (defScope st) → ∀ (a t : Addr), Wk X C k (fun _ _ _ => False) →
      BL X rest { nx := fun _ _ => False, rt := fun v _ => v = .bl true } ((start N [.ref a]).set 1 (some (.ref t))) [dr K a t 0]) :
    FnOk P w K mg base (L2N.CX P w) (k + 1) f fd ["script"] (spLaw K) := by
  refine def_ok F S (fun vs H Q E ⟨_, _, h, _⟩ => by rw [h] <;> rfl) fun X e1 e2 e3 e4 e5 B vs H Q E tk h => ?_
  obtain ⟨a, ns, rfl, hs, hlen, q⟩ := h
  have key : BL X (defBody st) { nx := fun _ _ => False, rt := fun v _ => v = .bl true } (start N [.ref a]) [sq K a (iv ns)] := by
    rw [hb]
    refine bl_cons (sl_asgN (el_lst (al_nil (newL_p (sz (Nat.le_of_ble_eq_true rfl)) fun t => gl_name (B.nf.nl hN hl) B.nd ?_))))
    refine BL.sub (imp_dr0 .here .here imp_nil) ?_
    exact body X e1 e2 e3 e4 e5 B a t ⟨tk.imp fun _ _ _ _ ⟨_, _, _, _, _, z⟩ => z.elim, B.hr⟩
  refine wb_imp (key.run H (Own.one hs)) ⟨fun _ _ ⟨_, _, z⟩ => z.elim, fun v H' ⟨_, _, z⟩ => ?_, fun _ _ ⟨_, _, z⟩ => z.elim, fun _ _ ⟨_, _, z⟩ => z.elim⟩
  rw [z]
  exact q H'
end Sh
namespace Sh
open PySem PySem.Spec L2 PyProof.Rows
theorem EL.wk {X : Cx} {C : Cl} {l : Nat} {E : EK} {e : Expr} {σ : St} {L : As} {Q : LK} (W : Wk X C l E) (q : Wk X C l E → EL X e σ L Q) : EL X e σ L Q := q W
theorem bl_eq {X : Cx} {st : List Stmt} {D : DL} {σ σ' : St} {L L' : As} (e : σ = σ') (f : L = L') (q : BL X st D σ' L') : BL X st D σ L := by subst e f; exact q
end Sh
namespace Sh
open PySem PySem.Spec L2 PyProof.Rows
theorem el_idm {X : Cx} {a : Expr} {m : Str} {pz pos : Pos} {es : List Expr} {k : List Keyword} {σ : St} {L : As} {Q : LK} (h : EL X (.Call (.Attribute a m pz) es k pos) σ L Q) : EL X (.Call (.Attribute a m pz) es k pos) σ L Q := h
theorem el_idk {X : Cx} {z : Str} {pz pos : Pos} {es : List Expr} {k : List Keyword} {σ : St} {L : As} {Q : LK} (h : EL X (.Call (.Name z pz) es k pos) σ L Q) : EL X (.Call (.Name z pz) es k pos) σ L Q := h
theorem el_idv {X : Cx} {z m : Str} {pz py pos : Pos} {es : List Expr} {k : List Keyword} {σ : St} {L : As} {Q : LK} (h : EL X (.Call (.Attribute (.Name z pz) m py) es k pos) σ L Q) : EL X (.Call (.Attribute (.Name z pz) m py) es k pos) σ L Q := h
end Sh
namespace Sh
open PySem PySem.Spec L2 PyProof.Rows
section
variable {X : Cx} {a b e o : Expr} {es : List Expr} {σ : St} {L : As} {Q : LK} {QB : Bool → As → Prop} {D : DL} {pos : Pos} {x y : V} {xs : List V} {st : Stmt} {sts : List Stmt}
theorem el_iO {op : Operator} (h : EL X (.BinOp a op b pos) σ L Q) : EL X (.BinOp a op b pos) σ L Q := h
theorem el_iC {ops : List CmpOp} (h : EL X (.Compare a ops es pos) σ L Q) : EL X (.Compare a ops es pos) σ L Q := h
theorem el_iB {op : BoolOp} (h : EL X (.BoolOp op es pos) σ L Q) : EL X (.BoolOp op es pos) σ L Q := h
theorem el_iU {op : UnaryOp} (h : EL X (.UnaryOp op a pos) σ L Q) : EL X (.UnaryOp op a pos) σ L Q := h
theorem el_iT {k : Nat} (h : EL X (.Tuple es k pos) σ L Q) : EL X (.Tuple es k pos) σ L Q := h
theorem el_iL (h : EL X (.List es pos) σ L Q) : EL X (.List es pos) σ L Q := h
theorem el_iI (h : EL X (.IfExp e a b pos) σ L Q) : EL X (.IfExp e a b pos) σ L Q := h
theorem el_iS (h : EL X (.Subscript a b pos) σ L Q) : EL X (.Subscript a b pos) σ L Q := h
theorem tl_iC {ops : List CmpOp} (h : TL X (.Compare a ops es pos) σ L QB) : TL X (.Compare a ops es pos) σ L QB := h
theorem tl_iC1 {op : CmpOp} (h : TL X (.Compare a [op] [b] pos) σ L QB) : TL X (.Compare a [op] [b] pos) σ L QB := h
theorem tl_iB {op : BoolOp} (h : TL X (.BoolOp op es pos) σ L QB) : TL X (.BoolOp op es pos) σ L QB := h
theorem tl_iN (h : TL X (.UnaryOp .Not a pos) σ L QB) : TL X (.UnaryOp .Not a pos) σ L QB := h
theorem sl_iR {e : Option Expr} (h : SL X (.Return e pos) D σ L) : SL X (.Return e pos) D σ L := h
theorem sl_iI {ss : List Stmt} (h : SL X (.If e sts ss pos) D σ L) : SL X (.If e sts ss pos) D σ L := h
theorem sl_iE (h : SL X (.Expr e pos) D σ L) : SL X (.Expr e pos) D σ L := h
theorem sl_iA {z : Str} {p1 : Pos} (h : SL X (.Assign [.Name z p1] e pos) D σ L) : SL X (.Assign [.Name z p1] e pos) D σ L := h
theorem wl_and' {c : Expr} {rest : List Expr} (q : TL X a σ L fun k L1 => if k = true then WL X (.BoolOp .And (c :: rest) pos) σ L1 QB else QB false L1) : TL X (.BoolOp .And (a :: c :: rest) pos) σ L QB := tl_wl (wl_and q)
theorem wl_or' {c : Expr} {rest : List Expr} (q : TL X a σ L fun k L1 => if k = true then QB true L1 else WL X (.BoolOp .Or (c :: rest) pos) σ L1 QB) : TL X (.BoolOp .Or (a :: c :: rest) pos) σ L QB := tl_wl (wl_or q)
theorem ol_idE (h : OL X (compareOp .Eq) x y L Q) : OL X (compareOp .Eq) x y L Q := h
theorem ol_idN (h : OL X (compareOp .NotEq) x y L Q) : OL X (compareOp .NotEq) x y L Q := h
theorem ol_idI (h : OL X (compareOp .In) x y L Q) : OL X (compareOp .In) x y L Q := h
theorem ol_idJ (h : OL X (compareOp .NotIn) x y L Q) : OL X (compareOp .NotIn) x y L Q := h
theorem newT_id (h : NewT xs L Q) : NewT xs L Q := h
theorem newL_id (h : NewL xs L Q) : NewL xs L Q := h
theorem appL_id {l : Addr} {R : As → Prop} (h : AppL l y L R) : AppL l y L R := h
theorem ex_id {α : Type} {p : α → Prop} (h : ∃ x, p x) : ∃ x, p x := h
theorem isl_id {K : PySem.W.Frag} {l : Addr} {φ : Prop} (h : IsLs K L l ∧ φ) : IsLs K L l ∧ φ := h
theorem ul_id {f : Value → Sem Value} (h : UL X f x L Q) : UL X f x L Q := h
end
end Sh
namespace Sh
open PySem PySem.Spec L2 PyProof.Rows
/-! ### slices, sorting, copies -/
def cutG {α : Type} (xs : List α) (lo hi : Option Int) : List α := (xs.drop (HT.sIx xs.length 0 lo)).take (HT.sIx xs.length xs.length hi - HT.sIx xs.length 0 lo)
theorem cutG_len {α : Type} (xs : List α) (lo hi : Option Int) : (cutG xs lo hi).length ≤ xs.length := by
  unfold cutG
  rw [List.length_take, List.length_drop]
  omega
theorem cutG_map {α β : Type} (f : α → β) (xs : List α) (lo hi : Option Int) : cutG (xs.map f) lo hi = (cutG xs lo hi).map f := by
  unfold cutG
  rw [List.length_map, List.map_take, List.map_drop]
theorem cutG_init {α : Type} (xs : List α) (x : α) : cutG (xs ++ [x]) none (some (-1)) = xs := by
  have e : HT.sIx (xs ++ [x]).length (xs ++ [x]).length (some (-1)) = xs.length := by
    rw [List.length_append, List.length_singleton]
    simp only [HT.sIx]
    split <;> omega
  unfold cutG
  rw [e]
  show ((xs ++ [x]).drop 0).take (xs.length - 0) = xs
  simp
theorem cutG_to {α : Type} (xs : List α) (k : Nat) : cutG xs none (some (k : Int)) = xs.take k := by
  unfold cutG
  show (xs.drop 0).take (HT.sIx xs.length xs.length (some (k : Int)) - 0) = _
  have e : HT.sIx xs.length xs.length (some (k : Int)) = min k xs.length := by
    simp only [HT.sIx]
    split
    · omega
    · rw [Int.toNat_natCast]
  rw [e, List.drop_zero, Nat.sub_zero]
  rcases Nat.le_total k xs.length with h | h
  · rw [Nat.min_eq_left h]
  · rw [Nat.min_eq_right h, List.take_of_length_le (Nat.le_refl _), List.take_of_length_le h]
theorem cutG_from {α : Type} (xs : List α) (k : Nat) : cutG xs (some (k : Int)) none = xs.drop k := by
  unfold cutG
  have e : HT.sIx xs.length 0 (some (k : Int)) = min k xs.length := by
    simp only [HT.sIx]
    split
    · omega
    · rw [Int.toNat_natCast]
  have e2 : HT.sIx xs.length xs.length none = xs.length := rfl
  rw [e, e2]
  rcases Nat.le_total k xs.length with h | h
  · rw [Nat.min_eq_left h, List.take_of_length_le (by rw [List.length_drop]; omega)]
  · rw [Nat.min_eq_right h, List.drop_of_length_le (Nat.le_refl _), List.drop_of_length_le h]; simp
theorem DtAll.cut {T : Hp} {vs : List V} {ds : List PyData} (h : DtAll T vs ds) (lo hi : Option Int) : DtAll T (cutV vs lo hi) (cutG ds lo hi) := by
  unfold cutV cutG
  rw [DtAll.len h]
  exact (h.drop _).take _
section
variable {X : Cx} {C : Cl} {E : EK} {a b c e o iter elt lo hi : Expr} {es rest : List Expr} {σ : St} {L L' L1 G : As} {Q : LK} {QB : Bool → As → Prop} {D : DL} {pos p1 p2 p3 apos spos : Pos} {v x y : V} {i : Int} {n k l j : Nat} {p q : Addr} {xs ys : List V} {d f : PyData} {ds fs : List PyData}
/-- a slice of x is told as a new list -/
def SlL (K : PySem.W.Frag) (x : V) (lo hi : Option Int) (L : As) (Q : LK) : Prop := ∀ H, Own H L → ∃ a xs, x = .ref a ∧ SqL K H a xs ∧ ∀ p H3, H p = none → H3 = upd H p (.lst (cutV xs lo hi)) → ∃ L', Own H3 L' ∧ Q (.ref p) L'
theorem slL_ld {K : PySem.W.Frag} {lo hi : Option Int} (m : ld p ds ∈ L) (q : ∀ l, Q (.ref l) (ld l (cutG ds lo hi) :: L)) : SlL K (.ref p) lo hi L Q := fun H o => by
  obtain ⟨vs, e1, e2⟩ := get_ld o m
  exact ⟨p, vs, rfl, SqL.of e1, fun l H3 hn e => ⟨_, new_ld o hn e (e2.cut lo hi), q l⟩⟩
theorem slL_li {K : PySem.W.Frag} {lo hi : Option Int} {ns : List Int} (m : pt p (.lst (iv ns)) ∈ L) (q : ∀ l, Q (.ref l) (pt l (.lst (iv (cutG ns lo hi))) :: L)) : SlL K (.ref p) lo hi L Q := fun H o =>
  ⟨p, iv ns, rfl, SqL.of (o.pt m), fun l H3 hn e => ⟨_, o.newE hn (by rw [e]; unfold iv; rw [← cutG_map]; rfl), q l⟩⟩
theorem slL_id {K : PySem.W.Frag} {lo hi : Option Int} (h : SlL K x lo hi L Q) : SlL K x lo hi L Q := h
theorem el_slTo (q : EL X e σ L fun x L1 => EL X hi σ L1 fun y L2 => ∃ i : Int, y = .int i ∧ SlL X.K x none (some i) L2 Q) : EL X (.Subscript e (.Slice none (some hi) none p2) pos) σ L Q :=
  ⟨fun H o => we_slTo (we_imp (q.run H o) fun x H1 ⟨_, o1, q1⟩ => we_imp (q1.run H1 o1) fun y H2 ⟨L2, o2, i, e1, h⟩ => by
    obtain ⟨a, xs, h1, h2, h3⟩ := h H2 o2
    exact ⟨i, a, xs, e1, h1, h2, h3⟩)⟩
theorem el_slFrom (q : EL X e σ L fun x L1 => EL X lo σ L1 fun y L2 => ∃ i : Int, y = .int i ∧ SlL X.K x (some i) none L2 Q) : EL X (.Subscript e (.Slice (some lo) none none p2) pos) σ L Q :=
  ⟨fun H o => we_slFrom (we_imp (q.run H o) fun x H1 ⟨_, o1, q1⟩ => we_imp (q1.run H1 o1) fun y H2 ⟨L2, o2, i, e1, h⟩ => by
    obtain ⟨a, xs, h1, h2, h3⟩ := h H2 o2
    exact ⟨i, a, xs, e1, h1, h2, h3⟩)⟩
/-- x[::-1] -/
def RvL (K : PySem.W.Frag) (x : V) (L : As) (Q : LK) : Prop := ∀ H, Own H L → ∃ a xs, x = .ref a ∧ SqL K H a xs ∧ ∀ p H3, H p = none → H3 = upd H p (.lst xs.reverse) → ∃ L', Own H3 L' ∧ Q (.ref p) L'
theorem rvL_ld {K : PySem.W.Frag} (m : ld p ds ∈ L) (q : ∀ l, Q (.ref l) (ld l ds.reverse :: L)) : RvL K (.ref p) L Q := fun H o => by
  obtain ⟨vs, e1, e2⟩ := get_ld o m
  exact ⟨p, vs, rfl, SqL.of e1, fun l H3 hn e => ⟨_, new_ld o hn e e2.rev, q l⟩⟩
theorem rvL_li {K : PySem.W.Frag} {ns : List Int} (m : pt p (.lst (iv ns)) ∈ L) (q : ∀ l, Q (.ref l) (pt l (.lst (iv ns.reverse)) :: L)) : RvL K (.ref p) L Q := fun H o =>
  ⟨p, iv ns, rfl, SqL.of (o.pt m), fun l H3 hn e => ⟨_, o.newE hn (by rw [e]; unfold iv; rw [List.map_reverse]), q l⟩⟩
theorem rvL_id {K : PySem.W.Frag} (h : RvL K x L Q) : RvL K x L Q := h
theorem el_rev {k : Nat} {q1 q2 q3 : Pos} (q : EL X e σ L fun x L1 => RvL X.K x L1 Q) : EL X (.Subscript e (.Slice none none (some (.UnaryOp .USub (.Constant (.int 1) k q1) q2)) q3) pos) σ L Q :=
  ⟨fun H o => we_rev (we_imp (q.run H o) fun x H1 ⟨L1, o1, h⟩ => h H1 o1)⟩
/-! sorted, list, min, int, sum -/
theorem cl_sortedI {ns : List Int} (m : pt p (.lst (iv ns)) ∈ L) (q : ∀ l, Q (.ref l) (pt l (.lst (iv (srt ns))) :: L)) : CL X (.builtin "sorted") [.ref p] L Q := ⟨fun H o => wc_sorted o m fun l H' hn e => ⟨_, o.newE hn e, q l⟩⟩
theorem cl_sortedH {hs : List (Int × Int)} (m : ld p (hs.map hD) ∈ L) (q : ∀ l, Q (.ref l) (ld l ((srtH hs).map hD) :: L)) : CL X (.builtin "sorted") [.ref p] L Q := ⟨fun H o => by
  obtain ⟨L1, r⟩ := mem_rm m
  obtain ⟨vs, o1⟩ := ld.op (o.front r)
  refine wc_sortedH o1 (.head _) (o1.dts (vs := vs) (ds := hs.map hD) (.tail _ (.head _))) fun l H' ws hn e hd => ⟨_, new_ld o hn e hd, q l⟩⟩
theorem cl_listld (m : ld p ds ∈ L) (q : ∀ l, Q (.ref l) (ld l ds :: L)) : CL X (.type "list") [.ref p] L Q := ⟨fun H o => by
  obtain ⟨vs, e1, e2⟩ := get_ld o m
  exact of_cr call_list_of ⟨p, vs, rfl, .inl (SqL.of e1), fun l hn => ⟨_, new_ld o hn rfl e2, q l⟩⟩⟩
theorem cl_listL (m : pt p (.lst xs) ∈ L) (q : ∀ l, Q (.ref l) (pt l (.lst xs) :: L)) : CL X (.type "list") [.ref p] L Q := ⟨fun H o => wc_listL o m fun l H' hn e => ⟨_, o.newE hn e, q l⟩⟩
theorem cl_min {i j : Int} (hc : X.calm = true) (q : Q (.int (if j < i then j else i)) L) : CL X (.builtin "min") [.int i, .int j] L Q := of_cl (call_min2 hc) fun H o => ⟨i, j, rfl, L, o, q⟩
theorem cl_max {i j : Int} (hc : X.calm = true) (q : Q (.int (if j > i then j else i)) L) : CL X (.builtin "max") [.int i, .int j] L Q := of_cl (call_max2 hc) fun H o => ⟨i, j, rfl, L, o, q⟩
theorem cl_intB {b : Bool} (q : Q (.int (if b then 1 else 0)) L) : CL X (.type "int") [.bl b] L Q := of_cl call_int1 fun H o => .inr ⟨b, rfl, L, o, q⟩
theorem cl_isi {n : String} {bb : Bool} (h : Dsc X.K L v d) (hb : kitB (tyName d) n = some bb) (q : Q (.bl bb) L) : CL X (.builtin "isinstance") [v, .ty n] L Q := ⟨fun H o => wc_isi (h H o) hb ⟨L, o, q⟩⟩
theorem ol_eqB {b c : Bool} (q : Q (.bl (decide (b = c))) L) : OL X (compareOp .Eq) (.bl b) (.bl c) L Q := ⟨fun H o => wop_eq rfl (by rw [show decide (V.bl b = V.bl c) = decide (b = c) from decide_eq_decide.mpr ⟨fun h => V.bl.inj h, fun h => by rw [h]⟩]; exact ⟨L, o, q⟩)⟩
theorem ol_neB {b c : Bool} (q : Q (.bl (!decide (b = c))) L) : OL X (compareOp .NotEq) (.bl b) (.bl c) L Q := ⟨fun H o => wop_ne rfl (by rw [show decide (V.bl b = V.bl c) = decide (b = c) from decide_eq_decide.mpr ⟨fun h => V.bl.inj h, fun h => by rw [h]⟩]; exact ⟨L, o, q⟩)⟩
theorem ite_q {A B : Prop} {d e : PyData} (h1 : d = e → A) (h2 : d ≠ e → B) : if dq d e = true then A else B := ite_i dq_iff h1 h2
theorem ite_nq {A B : Prop} {d e : PyData} (h1 : d ≠ e → A) (h2 : d = e → B) : if (!dq d e) = true then A else B := ite_ni dq_iff h1 h2
theorem ite_m' {A B : Prop} {d : PyData} {ds : List PyData} (h1 : d ∈ ds → A) (h2 : d ∉ ds → B) : if dm d ds = true then A else B := ite_i dm_iff h1 h2
theorem ite_nm {A B : Prop} {d : PyData} {ds : List PyData} (h1 : d ∉ ds → A) (h2 : d ∈ ds → B) : if (!dm d ds) = true then A else B := ite_ni dm_iff h1 h2
theorem dq_self {d : PyData} : dq d d = true := dq_iff.mpr rfl
/-! list + list, list * int -/
theorem ol_catD (m1 : ld p ds ∈ L) (m2 : ld q fs ∈ L) (h : ds.length + fs.length ≤ 10000000) (k : ∀ l, Q (.ref l) (ld l (ds ++ fs) :: L)) : OL X (binaryOp .Add) (.ref p) (.ref q) L Q := of_ol op_cat fun H o => by
  obtain ⟨vs, e1, e2⟩ := get_ld o m1
  obtain ⟨ws, f1, f2⟩ := get_ld o m2
  exact ⟨p, q, vs, ws, rfl, rfl, e1, f1, sz (by rw [DtAll.len e2, DtAll.len f2]; exact h), fun l hn => ⟨_, new_ld o hn rfl (e2.app f2), k l⟩⟩
theorem ol_repL {r : Int} (m : pt p (.lst xs) ∈ L) (h1 : -(2 ^ 63) ≤ r) (h2 : r < 2 ^ 63) (h : xs.length * r.toNat ≤ 10000000) (k : ∀ l, Q (.ref l) (pt l (.lst (List.replicate r.toNat xs).flatten) :: L)) : OL X (binaryOp .Mult) (.ref p) (.int r) L Q :=
  of_ol op_rep fun H o => ⟨p, r, xs, rfl, rfl, o.pt m, h1, h2, sz h, fun l hn => ⟨_, o.newE hn rfl, k l⟩⟩
end
end Sh
namespace Sh
open PySem PySem.Spec L2 PyProof.Rows
/-! ### deeds -/
def InR (n r : Int) (h : Int × Int) : Prop := 0 ≤ h.1 ∧ h.1 < n ∧ 0 ≤ h.2 ∧ h.2 < r
inductive Dg where
  | put (w : PyData)
  | get (h : PyData)
  | change (h w : PyData)
  | drop (h : PyData)
def Dg.d : Dg → PyData
  | .put w => .tuple [.str "put", w]
  | .get h => .tuple [.str "get", h]
  | .change h w => .tuple [.str "change", h, w]
  | .drop h => .tuple [.str "drop", h]
/-- a deed of a whole worth and of a handle within bounds -/
def Dg.good (n r : Int) : Dg → Prop
  | .put w => ∃ i, w = .int i ∧ 0 ≤ i ∧ i ≤ 9999
  | .get h => ∃ k, h = hD k ∧ InR n r k
  | .change h w => (∃ k, h = hD k ∧ InR n r k) ∧ ∃ i, w = .int i ∧ 0 ≤ i ∧ i ≤ 9999
  | .drop h => ∃ k, h = hD k ∧ InR n r k
def vOf : PyData → V
  | .int i => .int i
  | _ => .non
def SS.wth (S : SS) (s : Int) : PyData := match valV S.ws s with
  | some (.int i) => .int i
  | _ => .none
/-- the worths are ints -/
def SS.Wi (S : SS) : Prop := ∀ s y, valV S.ws s = some y → ∃ i, y = .int i
def SS.tell (S : SS) : Dg → PyData × SS
  | .put d => if isWhole d 0 9999 = true then (match S.putIn (vOf d) with
      | .ok (h, S') => (hD h, S')
      | .error e => (refD e, S)) else (refD .NoWorth, S)
  | .get d => match S.at d with
      | .ok sc => (S.wth sc.1, S)
      | .error e => (refD e, S)
  | .change d w => match S.at d with
      | .error e => (refD e, S)
      | .ok sc => if isWhole w 0 9999 = true then (S.wth sc.1, S.chg sc.1 (vOf w)) else (refD .NoWorth, S)
  | .drop d => match S.at d with
      | .error e => (refD e, S)
      | .ok sc => (S.wth sc.1, S.dropAt sc.1)
theorem whole_int {d : PyData} (h : isWhole d 0 9999 = true) : ∃ i, d = .int i ∧ 0 ≤ i ∧ i ≤ 9999 := by
  cases d with
  | int i =>
    have : (decide (0 ≤ i) && decide (i ≤ 9999)) = true := h
    rw [Bool.and_eq_true, decide_eq_true_iff, decide_eq_true_iff] at this
    exact ⟨i, rfl, this⟩
  | _ => cases h
theorem isW {k : Int} (h1 : 0 ≤ k) (h2 : k ≤ 9999) : isWhole (.int k) 0 9999 = true := by
  show (decide (0 ≤ k) && decide (k ≤ 9999)) = true
  rw [decide_eq_true h1, decide_eq_true h2]; rfl
theorem valV_drop' {s t : Int} : ∀ {ws : List (Int × V)}, valV (dropK ws s) t = if t = s then none else valV ws t
  | [] => by rw [show dropK ([] : List (Int × V)) s = [] from rfl, valV_nil]; split <;> rfl
  | p :: r => by
    by_cases e : p.1 = s
    · rw [dropK_pos e, valV_drop']
      by_cases h : t = s
      · rw [if_pos h, if_pos h]
      · rw [if_neg h, if_neg h, valV_neg (by rw [e]; exact fun z => h z.symm)]
    · rw [dropK_neg e]
      by_cases h : p.1 = t
      · rw [valV_pos h, if_neg (by rw [← h]; exact e), valV_pos h]
      · rw [valV_neg h, valV_drop', valV_neg h]
section
variable {S S' : SS} {s c : Int} {v : V} {h : Int × Int} {d : PyData} {g : Dg}
theorem SS.put_same (e : S.putIn v = .ok (h, S')) : S'.ws = putK S.ws h.1 v ∧ S'.n = S.n ∧ S'.r = S.r ∧ S'.last = S.last ∧ S'.rnd = S.rnd ∧ S'.gn = S.gn := by
  unfold SS.putIn at e
  split at e
  · cases e; exact ⟨rfl, rfl, rfl, rfl, rfl, rfl⟩
  · split at e
    · cases e; exact ⟨rfl, rfl, rfl, rfl, rfl, rfl⟩
    · cases e
theorem SS.drop_same : (S.dropAt s).ws = dropK S.ws s ∧ (S.dropAt s).n = S.n ∧ (S.dropAt s).r = S.r ∧ (S.dropAt s).last = S.last ∧ (S.dropAt s).rnd = S.rnd := by
  unfold SS.dropAt
  split
  · exact ⟨rfl, rfl, rfl, rfl, rfl⟩
  · split <;> exact ⟨rfl, rfl, rfl, rfl, rfl⟩
theorem SS.Wi.new {n r : Int} {la rn : Bool} : (SS.new n r la rn).Wi := fun s y e => by cases e
theorem SS.Wi.put {i : Int} (wi : S.Wi) (e : S.putIn (.int i) = .ok (h, S')) : S'.Wi := fun s y q => by
  rw [(SS.put_same e).1, valV_put] at q
  split at q
  · cases q; exact ⟨i, rfl⟩
  · exact wi s y q
theorem SS.Wi.drop (wi : S.Wi) : (S.dropAt s).Wi := fun t y q => by
  rw [SS.drop_same.1, valV_drop'] at q
  split at q
  · cases q
  · exact wi t y q
theorem SS.Wi.chg {i : Int} (wi : S.Wi) : (S.chg s (.int i)).Wi := fun t y q => by
  rw [show (S.chg s (.int i)).ws = putK S.ws s (.int i) from rfl, valV_put] at q
  split at q
  · cases q; exact ⟨i, rfl⟩
  · exact wi t y q
theorem SS.wth_of {i : Int} (h : valV S.ws s = some (.int i)) : S.wth s = .int i := by unfold SS.wth; rw [h]
theorem at_val' {s c : Int} (h : S.at d = .ok (s, c)) : ∃ y, valV S.ws s = some y := by
  obtain ⟨_, hh, _⟩ := SS.at_ok h
  exact Option.isSome_iff_exists.mp ((valV_mem _ _).mpr (SS.holds_in hh).1)
theorem SS.Wi.at (wi : S.Wi) {s c : Int} (h : S.at d = .ok (s, c)) : ∃ i, valV S.ws s = some (.int i) := by
  obtain ⟨y, e⟩ := at_val' h
  obtain ⟨i, rfl⟩ := wi s y e
  exact ⟨i, e⟩
theorem SS.tell_ok (ok : S.Ok) (wi : S.Wi) (g : Dg) : (S.tell g).2.Ok ∧ (S.tell g).2.Wi ∧ (S.tell g).2.n = S.n ∧ (S.tell g).2.r = S.r ∧ (S.tell g).2.last = S.last ∧ (S.tell g).2.rnd = S.rnd := by
  have same : S.Ok ∧ S.Wi ∧ S.n = S.n ∧ S.r = S.r ∧ S.last = S.last ∧ S.rnd = S.rnd := ⟨ok, wi, rfl, rfl, rfl, rfl⟩
  cases g with
  | put d =>
    unfold SS.tell
    dsimp only
    split
    · rename_i hw
      obtain ⟨i, rfl, _, _⟩ := whole_int hw
      split
      · rename_i h S' e
        obtain ⟨a, b, c, d, f, _⟩ := SS.put_same e
        exact ⟨ok.put e, wi.put e, b, c, d, f⟩
      · exact same
    · exact same
  | get d =>
    unfold SS.tell
    dsimp only
    split <;> exact same
  | change d w =>
    unfold SS.tell
    dsimp only
    split
    · exact same
    · rename_i sc e
      split
      · rename_i hw
        obtain ⟨i, rfl, _, _⟩ := whole_int hw
        obtain ⟨s, c⟩ := sc
        exact ⟨ok.chg (SS.holds_in (SS.at_ok e).2.1).1, wi.chg, rfl, rfl, rfl, rfl⟩
      · exact same
  | drop d =>
    unfold SS.tell
    dsimp only
    split
    · exact same
    · rename_i sc e
      obtain ⟨s, c⟩ := sc
      obtain ⟨a, b, c', d', f⟩ := SS.drop_same (S := S) (s := s)
      exact ⟨ok.drop (SS.holds_in (SS.at_ok e).2.1).1, wi.drop, b, c', d', f⟩
theorem SS.put_inR (ok : S.Ok) (e : S.putIn v = .ok (h, S')) : InR S.n S.r h := by
  obtain ⟨s, c⟩ := h
  have ok' := ok.put e
  have r1 := ok.r1
  rcases SS.put_cases ok e with ⟨h1, h2, _⟩ | ⟨_, h1, h2, h3, _⟩
  · have rg := ok.rngL h1
    have ln := ok.len
    have hk : s.toNat < S.cs.length := by omega
    have cc := ok.cr (S.cs[s.toNat]) (List.getElem_mem hk)
    have : c = S.cs[s.toNat] := by
      rw [h2]
      unfold SS.cnt
      rw [List.getD_eq_getElem?_getD, List.getElem?_eq_getElem hk]; rfl
    unfold InR
    dsimp only
    omega
  · unfold InR
    dsimp only
    omega
/-- a handle within bounds is asked -/
theorem SS.at_hD (hr : InR S.n S.r h) : S.at (hD h) = if S.holds h.1 h.2 = true then .ok h else .error .Stale := by
  obtain ⟨s, c⟩ := h
  unfold InR at hr
  dsimp only at hr
  have ha : asH S.n S.r (hD (s, c)) = some (s, c) := by
    unfold asH hD
    dsimp only
    rw [if_pos (by omega)]
  unfold SS.at
  rw [ha]
end
theorem ref_dt' {H : Hp} {L : List Asn} {t : Addr} {e : Er} (h : Own H (tp t [.str "refused", .int (erI e)] :: L)) : Own H (dt (.ref t) (refD e) :: L) :=
  h.drop.addD (.tup (h.tp List.mem_cons_self) (.cons (.str _) (.cons (.int _) .nil)))
section
variable {X : Cx} {L : As} {Q : LK} {x v : V} {i : Int} {d : PyData} {ds : List PyData}
theorem Dsc.tup {K : PySem.W.Frag} (h : Dsc K L x (.tuple ds)) {H : Hp} (o : Own H L) : ∃ p xs, x = .ref p ∧ SqT K H p xs ∧ DpAll K H xs ds := by
  obtain ⟨p, xs, e, h1, h2⟩ := Dp.tupI (h H o)
  exact ⟨p, xs, e, h1, h2⟩
theorem DpAll.get' {K : PySem.W.Frag} {T : Hp} : ∀ {vs : List V} {ds : List PyData} {j : Nat} {d : PyData}, DpAll K T vs ds → ds[j]? = some d → ∃ v, vs[j]? = some v ∧ Dp K T v d
  | _, _, _, _, .nil, h => by simp at h
  | _, _, 0, _, .cons a _, h => by
    rw [List.getElem?_cons_zero] at h
    cases h
    exact ⟨_, rfl, a⟩
  | _, _, j + 1, _, .cons _ t, h => by
    rw [List.getElem?_cons_succ] at h
    rw [List.getElem?_cons_succ]
    exact DpAll.get' t h
theorem DpAll.atI {K : PySem.W.Frag} {T : Hp} {vs : List V} {ds : List PyData} {i : Int} {d : PyData} (h : DpAll K T vs ds) (e : L2.atI ds i = some d) : ∃ v, L2.atI vs i = some v ∧ Dp K T v d := by
  unfold L2.atI at e ⊢
  rw [DpAll.len h]
  cases q : ixN ds.length i with
  | none => rw [q] at e; cases e
  | some j =>
    rw [q] at e
    exact DpAll.get' h e
theorem sv_dp {K : PySem.W.Frag} {T : Hp} {v w : V} (h : Dp K T v d) (e : sv d = some w) : v = w := by
  cases h <;> simp_all [sv]
theorem dts_dsc {K : PySem.W.Frag} {xs : List V} (m : dts xs ds ∈ L) : (∀ T h, SLs T h L → xs.length = ds.length) := fun T h s => DtAll.len (s.get (A := dts xs ds) m)
theorem xl_cS (h : Dsc X.K L x (.tuple ds)) (ha : atI ds i = some d) (e : sv d = some v) (q : Q v L) : XL X x (.int i) L Q := ⟨fun H o => by
  obtain ⟨p, xs, rfl, h1, h2⟩ := h.tup o
  obtain ⟨w, e1, e2⟩ := DpAll.atI h2 ha
  rw [sv_dp e2 e] at e1
  exact ws_tup h1 e1 ⟨L, o, q⟩⟩
end
/-! ### what a law draws -/
def sSome (K : PySem.W.Frag) : SpL := fun vs L Q _ => ∃ (a t s kn : Addr) (n r : Int) (la rn : Bool) (hs : List (Int × Int)) (N : Nat) (L1 : As), vs = [.ref a, .ref t, .ref s, .ref kn] ∧ Rm (dr K a t N) L L1 ∧ N ≤ 999950 ∧ tp s (setV n r la rn) ∈ L1 ∧
  1 ≤ n ∧ 1 ≤ r ∧ ld kn (hs.map hD) ∈ L1 ∧ (∀ h ∈ hs, InR n r h) ∧ ∀ h v, InR n r h → Q v (dt v (hD h) :: dr K a t (N + 3) :: L1)
def sDeed (K : PySem.W.Frag) : SpL := fun vs L Q _ => ∃ (a t s kn : Addr) (n r : Int) (la rn : Bool) (hs : List (Int × Int)) (N : Nat) (L1 : As), vs = [.ref a, .ref t, .ref s, .ref kn] ∧ Rm (dr K a t N) L L1 ∧ N ≤ 999900 ∧ tp s (setV n r la rn) ∈ L1 ∧
  1 ≤ n ∧ 1 ≤ r ∧ ld kn (hs.map hD) ∈ L1 ∧ (∀ h ∈ hs, InR n r h) ∧ ∀ (g : Dg) v, g.good n r → Q v (dt v g.d :: dr K a t (N + 5) :: L1)
def Dg.args : Dg → List PyData
  | .put w => [.str "put", w]
  | .get h => [.str "get", h]
  | .change h w => [.str "change", h, w]
  | .drop h => [.str "drop", h]
theorem Dg.d_args (g : Dg) : g.d = .tuple g.args := by cases g <;> rfl
def sDo (K : PySem.W.Frag) (C : Cl) : SpL := fun vs L Q _ => ∃ (p : Addr) (v : V) (S : SS) (g : Dg) (L1 : As), vs = [.ref p, v] ∧ S.Ok ∧ S.Wi ∧ Rm (StoreAt C.Store p S) L L1 ∧ (dt v g.d ∈ L ∨ ∃ t xs, v = .ref t ∧ tp t xs ∈ L ∧ DscA K L xs g.args) ∧
  ((S.tell g).2.Ok → (S.tell g).2.Wi → ∀ r, Q r (dt r (S.tell g).1 :: StoreAt C.Store p (S.tell g).2 :: L1))
section
variable {K : PySem.W.Frag} {C : Cl} {L L' L1 : As} {Q : LK} {E : Er → As → Prop} {a t s kn p : Addr} {n r : Int} {la rn : Bool} {hs : List (Int × Int)} {N : Nat} {v : V} {S : SS} {g : Dg}
theorem sSome.i (r1 : Rm (dr K a t N) L L1) (h1 : N ≤ 999950) (m1 : tp s (setV n r la rn) ∈ L1) (h2 : 1 ≤ n) (h3 : 1 ≤ r) (m2 : ld kn (hs.map hD) ∈ L1) (h4 : ∀ h ∈ hs, InR n r h) (q : ∀ h v, InR n r h → Q v (dt v (hD h) :: dr K a t (N + 3) :: L1)) :
    sSome K [.ref a, .ref t, .ref s, .ref kn] L Q E := ⟨a, t, s, kn, n, r, la, rn, hs, N, L1, rfl, r1, h1, m1, h2, h3, m2, h4, q⟩
theorem sDeed.i (r1 : Rm (dr K a t N) L L1) (h1 : N ≤ 999900) (m1 : tp s (setV n r la rn) ∈ L1) (h2 : 1 ≤ n) (h3 : 1 ≤ r) (m2 : ld kn (hs.map hD) ∈ L1) (h4 : ∀ h ∈ hs, InR n r h) (q : ∀ (g : Dg) v, g.good n r → Q v (dt v g.d :: dr K a t (N + 5) :: L1)) :
    sDeed K [.ref a, .ref t, .ref s, .ref kn] L Q E := ⟨a, t, s, kn, n, r, la, rn, hs, N, L1, rfl, r1, h1, m1, h2, h3, m2, h4, q⟩
theorem sDo.i (r1 : Rm (StoreAt C.Store p S) L L1) (hd : dt v g.d ∈ L) (ok : S.Ok) (wi : S.Wi) (q : (S.tell g).2.Ok → (S.tell g).2.Wi → ∀ r, Q r (dt r (S.tell g).1 :: StoreAt C.Store p (S.tell g).2 :: L1)) : sDo K C [.ref p, v] L Q E :=
  ⟨p, v, S, g, L1, rfl, ok, wi, r1, .inl hd, q⟩
theorem sDo.tup {t : Addr} {xs : List V} (ok : S.Ok) (wi : S.Wi) (r1 : Rm (StoreAt C.Store p S) L L1) (m : tp t xs ∈ L) (hd : DscA K L xs g.args) (q : (S.tell g).2.Ok → (S.tell g).2.Wi → ∀ r, Q r (dt r (S.tell g).1 :: StoreAt C.Store p (S.tell g).2 :: L1)) : sDo K C [.ref p, .ref t] L Q E :=
  ⟨p, _, S, g, L1, rfl, ok, wi, r1, .inr ⟨t, xs, rfl, m, hd⟩, q⟩
theorem dts_all {K : PySem.W.Frag} {xs : List V} {ds : List PyData} (m : dts xs ds ∈ L) (hl : xs.length = ds.length) : DscA K L xs ds := by
  have key : ∀ (xs : List V) (ds : List PyData), xs.length = ds.length → (∀ T h, SLs T h L → DtAll T xs ds) → DscA K L xs ds := by
    intro xs
    induction xs with
    | nil => intro ds hl _; cases ds with
      | nil => exact .nil
      | cons _ _ => cases hl
    | cons x xs ih => intro ds hl h; cases ds with
      | nil => cases hl
      | cons d ds =>
        refine .cons (fun H o => ?_) (ih ds (Nat.succ.inj hl) fun T h' s => ?_)
        · cases h H H o.s with
          | cons a b => exact a.dp
        · cases h T h' s with
          | cons a b => exact b
  exact key xs ds hl fun T h s => s.get (A := dts xs ds) m
theorem rm_mem {A : Asn} (r : Rm A L L1) : A ∈ L := by
  induction r with
  | here => exact List.mem_cons_self
  | there _ ih => exact List.mem_cons_of_mem _ ih
theorem BL.open_dt {X : Cx} {st : List Stmt} {D : DL} {σ : St} {ds : List PyData} (m : dt v (.tuple ds) ∈ L) (q : ∀ t xs, v = .ref t → BL X st D σ (tp t xs :: dts xs ds :: L)) : BL X st D σ L := ⟨fun H o => by
  have h := o.dt m
  cases h with
  | tup h1 h2 => exact (q _ _ rfl).run H ((o.addDs h2).addT h1)⟩
theorem dts_len {xs : List V} {ds : List PyData} {T h : Hp} (s : SLs T h L) (m : dts xs ds ∈ L) : xs.length = ds.length := DtAll.len (s.get (A := dts xs ds) m)
end
end Sh
namespace Sh
open PySem PySem.Spec L2 PyProof.Rows
section
variable {X : Cx} {σ : St} {L : As} {QS : SK} {p : Addr} {x1 x2 x3 x4 : V} {i1 i2 i3 i4 kk : Nat} {z1 z2 z3 z4 : Str} {q1 q2 q3 q4 tpos : Pos}
theorem gl_tup4 (hc : X.calm = true) (nd : X.N.Nodup) (n1 : Nl X.N X.env X.fn i1 z1) (n2 : Nl X.N X.env X.fn i2 z2) (n3 : Nl X.N X.env X.fn i3 z3) (n4 : Nl X.N X.env X.fn i4 z4) (m : tp p [x1, x2, x3, x4] ∈ L)
    (q : QS ((((σ.set i1 (some x1)).set i2 (some x2)).set i3 (some x3)).set i4 (some x4)) L) : GL X (.Tuple [.Name z1 q1, .Name z2 q2, .Name z3 q3, .Name z4 q4] kk tpos) (.ref p) σ L QS :=
  ⟨fun H o => of_pg (pg_tup (n := 4) hc (pgs_cons (pg_nl n1 nd) (pgs_cons (pg_nl n2 nd) (pgs_cons (pg_nl n3 nd) (pgs_cons (pg_nl n4 nd) pgs_nil))))) ⟨p, _, rfl, SqT.of (o.tp m), rfl, _, _, rfl, _, _, rfl, _, _, rfl, _, _, rfl, rfl, ⟨L, o, q⟩⟩⟩
theorem gl_tup2 (hc : X.calm = true) (nd : X.N.Nodup) (n1 : Nl X.N X.env X.fn i1 z1) (n2 : Nl X.N X.env X.fn i2 z2) (m : tp p [x1, x2] ∈ L)
    (q : QS ((σ.set i1 (some x1)).set i2 (some x2)) L) : GL X (.Tuple [.Name z1 q1, .Name z2 q2] kk tpos) (.ref p) σ L QS :=
  ⟨fun H o => of_pg (pg_tup (n := 2) hc (pgs_cons (pg_nl n1 nd) (pgs_cons (pg_nl n2 nd) pgs_nil))) ⟨p, _, rfl, SqT.of (o.tp m), rfl, _, _, rfl, _, _, rfl, rfl, ⟨L, o, q⟩⟩⟩
end
/-! ### what a good deed is told -/
section
variable {S S' : SS} {n' r' : Int} {b : Bool} {g : Dg} {d : PyData} {h : Int × Int}
theorem refD_ne {e f : Er} (h : e ≠ f) : refD e ≠ refD f := fun z => by
  cases e <;> cases f <;> first | exact h rfl | (exact absurd z (by unfold refD erI; simp))
theorem hD_ne_ref {e : Er} : hD h ≠ refD e := fun z => by
  unfold hD refD at z
  injection z with z
  injection z with z _
  cases z
theorem int_ne_ref {e : Er} {i : Int} : PyData.int i ≠ refD e := fun z => by cases z
theorem pl_tell (ok : S.Ok) (wi : S.Wi) (g : Dg) : pl 8 (S.tell g).1 = true := by
  have hr : ∀ e, pl 8 (refD e) = true := fun e => by cases e <;> decide +kernel
  cases g with
  | put d =>
    unfold SS.tell
    dsimp only
    split
    · split
      · exact pl_hD 7 _
      · exact hr _
    · exact hr _
  | get d =>
    unfold SS.tell
    dsimp only
    split
    · rename_i sc e
      obtain ⟨s, c⟩ := sc
      obtain ⟨i, hi⟩ := wi.at e
      dsimp only
      rw [SS.wth_of hi]; rfl
    · exact hr _
  | change d w =>
    unfold SS.tell
    dsimp only
    split
    · exact hr _
    · rename_i sc e
      obtain ⟨s, c⟩ := sc
      obtain ⟨i, hi⟩ := wi.at e
      split
      · dsimp only
        rw [SS.wth_of hi]; rfl
      · exact hr _
  | drop d =>
    unfold SS.tell
    dsimp only
    split
    · exact hr _
    · rename_i sc e
      obtain ⟨s, c⟩ := sc
      obtain ⟨i, hi⟩ := wi.at e
      dsimp only
      rw [SS.wth_of hi]; rfl
theorem pl_refD (e : Er) : pl 8 (refD e) = true := by cases e <;> decide +kernel
/-- what a put is told -/
theorem SS.tell_put {i : Int} (h1 : 0 ≤ i) (h2 : i ≤ 9999) : S.tell (.put (.int i)) = match S.putIn (.int i) with
    | .ok (h, S') => (hD h, S')
    | .error e => (refD e, S) := by
  unfold SS.tell
  dsimp only
  rw [if_pos (isW h1 h2)]; rfl
theorem SS.tell_get (hr : InR S.n S.r h) : S.tell (.get (hD h)) = if S.holds h.1 h.2 = true then (S.wth h.1, S) else (refD .Stale, S) := by
  unfold SS.tell
  dsimp only
  rw [SS.at_hD hr]
  by_cases hh : S.holds h.1 h.2 = true
  · rw [if_pos hh, if_pos hh]
  · rw [if_neg hh, if_neg hh]
theorem SS.tell_drop (hr : InR S.n S.r h) : S.tell (.drop (hD h)) = if S.holds h.1 h.2 = true then (S.wth h.1, S.dropAt h.1) else (refD .Stale, S) := by
  unfold SS.tell
  dsimp only
  rw [SS.at_hD hr]
  by_cases hh : S.holds h.1 h.2 = true
  · rw [if_pos hh, if_pos hh]
  · rw [if_neg hh, if_neg hh]
theorem SS.tell_change {i : Int} (hr : InR S.n S.r h) (h1 : 0 ≤ i) (h2 : i ≤ 9999) : S.tell (.change (hD h) (.int i)) = if S.holds h.1 h.2 = true then (S.wth h.1, S.chg h.1 (.int i)) else (refD .Stale, S) := by
  unfold SS.tell
  dsimp only
  rw [SS.at_hD hr]
  by_cases hh : S.holds h.1 h.2 = true
  · rw [if_pos hh, if_pos hh]
    dsimp only
    rw [if_pos (isW h1 h2)]; rfl
  · rw [if_neg hh, if_neg hh]
end
theorem ite_ff {A B : Prop} (h : B) : if false = true then A else B := h
theorem ite_tt {A B : Prop} (h : A) : if true = true then A else B := h
/-- parts of a text -/
def nth (l : List Stmt) (i : Nat) : Stmt := l.getD i (.Pass ⟨0, 0, 0, 0⟩)
def forBody : Stmt → List Stmt
  | .For _ _ b _ _ => b
  | _ => []
theorem EL.keep {X : Cx} {e : Expr} {σ : St} {L : As} {Q : LK} (v0 : V) (h : EL X e σ L fun v L' => v = v0 ∧ Imp L' L) (q : Q v0 L) : EL X e σ L Q := ⟨fun H o => we_imp (h.run H o) fun v H' ⟨L', o', e, i⟩ => ⟨L, i.own o', e ▸ q⟩⟩
theorem EL.cut {X : Cx} {e : Expr} {σ : St} {L : As} {Q : LK} (v0 : V) (L0 : As) (h : EL X e σ L fun v L' => v = v0 ∧ Imp L' L0) (q : Q v0 L0) : EL X e σ L Q := ⟨fun H o => we_imp (h.run H o) fun v H' ⟨L', o', e, i⟩ => ⟨L0, i.own o', e ▸ q⟩⟩
theorem TL.keep {X : Cx} {e : Expr} {σ : St} {L : As} {QB : Bool → As → Prop} (b0 : Bool) (h : TL X e σ L fun v L' => v = b0 ∧ Imp L' L) (q : QB b0 L) : TL X e σ L QB := ⟨fun H o => wt_imp (h.run H o) fun v H' ⟨L', o', e, i⟩ => ⟨L, i.own o', e ▸ q⟩⟩
def Dg.wd : Dg → Str
  | .put _ => "put"
  | .get _ => "get"
  | .change _ _ => "change"
  | .drop _ => "drop"
theorem xl_deed0 {X : Cx} {v : V} {L : As} {Q : LK} {g : Dg} (m : dt v g.d ∈ L) (q : Q (.str g.wd) L) : XL X v (.int 0) L Q := by
  cases g <;> exact xl_vS m rfl rfl q
end Sh
namespace Sh
open PySem PySem.Spec L2 PyProof.Rows
section
variable {X : Cx} {C : Cl} {E : EK} {a b c e o iter elt : Expr} {es rest : List Expr} {σ : St} {L L' L1 G : As} {Q : LK} {QB : Bool → As → Prop} {D : DL} {pos p1 p2 p3 apos spos : Pos} {v x y : V} {i : Int} {n k l j : Nat} {p q : Addr} {xs ys : List V} {z zy : Str} {d f : PyData} {ds fs : List PyData} {scope : Scope} {ix : Nat} {body : List Stmt}
/-! walks over a list whose values are known -/
def LcLV (X : Cx) (scope : Scope) (ix : Nat) (elt e : Expr) (σ : St) (L : As) (Q : LK) : Prop :=
  EL X e σ L fun x L1 => ∃ (lp : Addr) (xs : List V), x = .ref lp ∧ pt lp (.lst xs) ∈ L1 ∧ xs.length < 10000000 ∧ ∃ (α : Type) (I : Nat → LC α), (∃ x, (I 0).ok x ∧ (I 0).rs x = [] ∧ Imp L1 ((I 0).as x)) ∧
    (∀ j x, (I j).ok x → pt lp (.lst xs) ∈ (I j).as x) ∧
    (∀ (j : Nat) x dl y, xs[j]? = some y → (I j).ok x → ∀ (s : Shared) (Hs : Hp) (C : Addr) (cl : List (Str × Addr)) (fp : List Addr), EL (blk X scope s Hs C cl fp) elt ((σ.set ix none).set ix (some y)) (ld dl ((I j).rs x) :: (I j).as x)
      fun v' L' => ∃ d' x', (I (j + 1)).ok x' ∧ (I (j + 1)).rs x' = (I j).rs x ++ [d'] ∧ Imp L' (ld dl ((I j).rs x) :: dt v' d' :: (I (j + 1)).as x')) ∧
    ∀ x lp', (I xs.length).ok x → Q (.ref lp') (ld lp' ((I xs.length).rs x) :: (I xs.length).as x)
theorem LcLV.go {H : Hp} (q : LcLV X scope ix elt e σ L Q) (o : Own H L) : LcL X scope ix elt e σ H (dn Q) := by
  refine we_imp (q.run H o) fun x H1 hh => ?_
  obtain ⟨L1, o1, lp, xs, ex, hm, hdl, α, I, ⟨x0, ok0, r0, im0⟩, hl, hj, hE⟩ := hh
  refine ⟨lp, xs, ex, SqL.of (o1.pt hm), fun dl H2 hn e => ?_⟩
  have get : ∀ {j : Nat} {H : Hp}, (∃ x, (I j).ok x ∧ ((I j).rs x).length = j ∧ Own H (ld dl ((I j).rs x) :: (I j).as x)) → H lp = some (.lst xs) := fun {j H} hh => by
    obtain ⟨x, ok, _, o⟩ := hh
    exact o.pt (List.mem_cons_of_mem _ (hl j x ok))
  refine ⟨fun j H => ∃ x, (I j).ok x ∧ ((I j).rs x).length = j ∧ Own H (ld dl ((I j).rs x) :: (I j).as x), ⟨x0, ok0, by rw [r0]; rfl, ?_⟩, fun j H _ hh => SqL.of (get hh), fun j y H hy hh s Hs C cl fp => ?_, fun H hh => ?_⟩
  · rw [r0]
    refine ld.cl (vs := []) ((((im0.own o1).newE hn e).addDs .nil).pq (.cons (.there .here) (.cons .here .refl)))
  · have hjl : j < xs.length := (List.getElem?_eq_some_iff.mp hy).1
    obtain ⟨x, ok, rl, o⟩ := hh
    refine we_imp ((hj j x dl y hy ok s Hs C cl fp).run H o) fun v H4 hh => ?_
    obtain ⟨L', o', d', x', ok', er, im⟩ := hh
    obtain ⟨vs', o2⟩ := (im.own o').exI
    have o3 := Own.cjI (L1 := [pt dl (.lst vs'), dts vs' ((I j).rs x)]) o2
    have hvl := DtAll.len (o3.dts (vs := vs') (ds := (I j).rs x) (.tail _ (.head _)))
    refine ⟨vs', o3.pt (.head _), szl (by omega), fun H5 e5 => ⟨x', ok', by rw [er, List.length_append, List.length_singleton, rl], ?_⟩⟩
    have hd := DtAll.snoc (o3.dts (vs := vs') (ds := (I j).rs x) (.tail _ (.head _))) (o3.dt (v := v) (d := d') (.tail _ (.tail _ (.head _))))
    have o4 := (o3.addDs hd).wrE e5 (.tail _ (.head _)) ntL (.there .here)
    rw [er]
    exact ld.cl (vs := vs' ++ [v]) ((Own.pq (.cons (.there .here) (.cons .here (.cons .here (.cons .here .refl)))) o4).sub (.cons .here (.cons .here (.skip (.skip .refl)))))
  · obtain ⟨x, ok, _, o⟩ := hh
    exact ⟨_, o, hE x dl ok⟩
theorem el_lcV (hc : X.calm = true) (nd : X.N.Nodup) (no : X.N[ix]? = some z) (ok : BlkOk X.N X.env.scope scope [(z, ix)]) (hz : scope.names.lookup z = some .local) (q : LcLV X scope ix elt iter σ L Q)
    (hs : ∀ x, foldedSetIterable iter X.env x = pure x := by intro _; rfl) : EL X (.ListComp elt [⟨.Name z p1, iter, [], 0⟩] scope pos) σ L Q := ⟨fun H o => we_lcL hc nd no ok hz (q.go o) hs⟩
theorem sl_lcV {iy : Nat} (hc : X.calm = true) (nd : X.N.Nodup) (ny : X.N[iy]? = some zy) (hy : X.env.scope.names.lookup zy = some .local) (hw : swapsWith (.ListComp elt [⟨.Name z p1, iter, [], 0⟩] scope pos) (some (.Name zy p2)) spos.line X.env = pure true)
    (no : X.N[ix]? = some z) (ok : BlkOk X.N X.env.scope scope [(z, ix)]) (hz : scope.names.lookup z = some .local) (q : LcLV X scope ix elt iter σ L fun v L1 => D.nx (σ.set iy (some v)) L1)
    (hs : ∀ x, foldedSetIterable iter X.env x = pure x := by intro _; rfl) : SL X (.Assign [.Name zy p2] (.ListComp elt [⟨.Name z p1, iter, [], 0⟩] scope pos) spos) D σ L := ⟨fun H o => ws_lcL hc nd ny hy hw no ok hz (q.go o) hs⟩
/-! tuple(list) -/
theorem dtAll_iv {T : Hp} : ∀ ns : List Int, DtAll T (iv ns) (ids ns)
  | [] => .nil
  | n :: ns => .cons (.int n) (dtAll_iv ns)
theorem cl_tupI {ns : List Int} (m : pt p (.lst (iv ns)) ∈ L) (q : ∀ l, Q (.ref l) (dt (.ref l) (.tuple (ids ns)) :: tp l (iv ns) :: L)) : CL X (.type "tuple") [.ref p] L Q := of_cl call_tuple_of fun H o =>
  ⟨p, iv ns, rfl, .inl ⟨SqL.of (o.pt m), fun l hn => by
    have o1 := o.newT (xs := iv ns) hn
    exact ⟨_, o1.addD (.tup (o1.tp (.head _)) (dtAll_iv ns)), q l⟩⟩⟩
theorem cl_tupD (m : ld p ds ∈ L) (q : ∀ l, Q (.ref l) (dt (.ref l) (.tuple ds) :: L)) : CL X (.type "tuple") [.ref p] L Q := of_cl call_tuple_of fun H o => by
  obtain ⟨vs, e1, e2⟩ := get_ld o m
  refine ⟨p, vs, rfl, .inl ⟨SqL.of e1, fun l hn => ?_⟩⟩
  have o1 := o.newT (xs := vs) hn
  exact ⟨_, o1.drop.addD (.tup (o1.tp (.head _)) (e2.mono (tle_new hn))), q l⟩
theorem cl_listK {ws : List (Int × V)} (hc : X.calm = true) (m : pt p (.dK (kw ws)) ∈ L) (q : ∀ l, Q (.ref l) (pt l (.lst (iv (ws.map (·.1)))) :: L)) : CL X (.type "list") [.ref p] L Q := ⟨fun H o => wc_listD hc o m fun l H' hn e => ⟨_, o.newE hn e, q l⟩⟩
/-! a store's cells -/
theorem BL.openS {st : List Stmt} {S : SS} (r : Rm (StoreAt C.Store p S) L L1) (q : ∀ q : StAd, BL X st D σ (pt p (.ins C.Store q.dx (sflds q)) :: pt q.c (.lst (iv S.cs)) :: pt q.w (.dK (kw S.ws)) :: pt q.l (.lst (iv S.ln)) :: pt q.g (.lst (iv S.gn)) :: tp q.s S.sets :: L1)) : BL X st D σ L :=
  ⟨fun H o => by
    obtain ⟨w, o1⟩ := StoreAt.op (o.front r)
    exact (q w).run H o1⟩
theorem imp_stC {S : SS} (q : StAd) : Imp (pt p (.ins C.Store q.dx (sflds q)) :: pt q.c (.lst (iv S.cs)) :: pt q.w (.dK (kw S.ws)) :: pt q.l (.lst (iv S.ln)) :: pt q.g (.lst (iv S.gn)) :: tp q.s S.sets :: L) (StoreAt C.Store p S :: L) := fun T h s => by
  obtain ⟨h1, h2, d, l1, l2, a, s⟩ := SLs.cjE (L1 := storeCells C.Store p S q) s
  exact ⟨h1, h2, d, l1, l2, ⟨q, a⟩, s⟩
theorem imp_st {S : SS} (q : StAd) {L2 L3 L4 L5 : As} (r1 : Rm (pt p (.ins C.Store q.dx (sflds q))) L L1) (r2 : Rm (pt q.c (.lst (iv S.cs))) L1 L2) (r3 : Rm (pt q.w (.dK (kw S.ws))) L2 L3) (r4 : Rm (pt q.l (.lst (iv S.ln))) L3 L4) (r5 : Rm (pt q.g (.lst (iv S.gn))) L4 L5) (m : tp q.s S.sets ∈ L5)
    (k : Imp L5 G) : Imp L (StoreAt C.Store p S :: G) :=
  (imp_cons r1 (imp_cons r2 (imp_cons r3 (imp_cons r4 (imp_cons r5 (imp_tp m k)))))).trans (imp_stC q)
theorem el_iA {f : Str} (h : EL X (.Attribute e f pos) σ L Q) : EL X (.Attribute e f pos) σ L Q := h
end
/-- what a saved store is -/
def SS.savedD (S : SS) : PyData := .tuple [setD S.n S.r S.last S.rnd, .tuple (ids S.cs), .tuple (S.keys.map fun s => .tuple [.int s, S.wth s]), .tuple (ids S.ln), .tuple (ids S.gn)]
def sSaved (C : Cl) : SpL := fun vs L Q _ => ∃ (p : Addr) (S : SS), vs = [.ref p] ∧ S.Ok ∧ S.Wi ∧ StoreAt C.Store p S ∈ L ∧ ∀ r, Q r (dt r S.savedD :: L)
theorem sSaved.i {C : Cl} {L : As} {Q : LK} {E : Er → As → Prop} {p : Addr} {S : SS} (m : StoreAt C.Store p S ∈ L) (ok : S.Ok) (wi : S.Wi) (q : ∀ r, Q r (dt r S.savedD :: L)) : sSaved C [.ref p] L Q E := ⟨p, S, rfl, ok, wi, m, q⟩
end Sh
namespace Sh
open PySem PySem.Spec L2 PyProof.Rows
section
variable {X : Cx} {C : Cl} {E : EK} {a b c e o lo hi tg : Expr} {σ : St} {L L' L1 G : As} {Q : LK} {QS : SK} {D : DL} {pos p1 p2 p3 : Pos} {v x y : V} {i : Int} {n k l j : Nat} {p q : Addr} {xs ys : List V} {d f : PyData} {ds fs : List PyData}
/-! slices and sums of tuples -/
def SlT (K : PySem.W.Frag) (x : V) (lo hi : Option Int) (L : As) (Q : LK) : Prop := ∀ H, Own H L → ∃ a xs, x = .ref a ∧ SqT K H a xs ∧ ¬ (HT.sIx xs.length 0 lo = 0 ∧ HT.sIx xs.length xs.length hi = xs.length) ∧ ∀ p H3, H p = none → H3 = upd H p (.tup (cutV xs lo hi)) → ∃ L', Own H3 L' ∧ Q (.ref p) L'
theorem slT_t {K : PySem.W.Frag} {lo hi : Option Int} (m : tp p xs ∈ L) (hn : ¬ (HT.sIx xs.length 0 lo = 0 ∧ HT.sIx xs.length xs.length hi = xs.length)) (hy : cutV xs lo hi = ys) (q : ∀ l, Q (.ref l) (tp l ys :: L)) : SlT K (.ref p) lo hi L Q := fun H o =>
  ⟨p, xs, rfl, SqT.of (o.tp m), hn, fun l H3 hn e => ⟨_, o.newTE hn (by rw [e, hy]), q l⟩⟩
theorem slT_id {K : PySem.W.Frag} {lo hi : Option Int} (h : SlT K x lo hi L Q) : SlT K x lo hi L Q := h
theorem el_slToT (q : EL X e σ L fun x L1 => EL X hi σ L1 fun y L2 => ∃ i : Int, y = .int i ∧ SlT X.K x none (some i) L2 Q) : EL X (.Subscript e (.Slice none (some hi) none p2) pos) σ L Q :=
  ⟨fun H o => we_slice sl_tup po_none (po_some We.pe) (we_imp (q.run H o) fun x H1 ⟨_, o1, q1⟩ => we_imp (q1.run H1 o1) fun y H2 ⟨L2, o2, i, e1, h⟩ => by
    obtain ⟨a, xs, h1, h2, h3, h4⟩ := h H2 o2
    exact ⟨i, e1, a, xs, h1, h2, h3, fun p hp => h4 p _ hp rfl⟩)⟩
theorem el_slFromT (q : EL X e σ L fun x L1 => EL X lo σ L1 fun y L2 => ∃ i : Int, y = .int i ∧ SlT X.K x (some i) none L2 Q) : EL X (.Subscript e (.Slice (some lo) none none p2) pos) σ L Q :=
  ⟨fun H o => we_slice sl_tup (po_some We.pe) po_none (we_imp (q.run H o) fun x H1 ⟨_, o1, q1⟩ => we_imp (q1.run H1 o1) fun y H2 ⟨L2, o2, i, e1, h⟩ => by
    obtain ⟨a, xs, h1, h2, h3, h4⟩ := h H2 o2
    exact ⟨i, e1, a, xs, h1, h2, h3, fun p hp => h4 p _ hp rfl⟩)⟩
theorem ol_catT (m1 : tp p xs ∈ L) (m2 : tp q ys ∈ L) (hx : xs ≠ []) (hy : ys ≠ []) (h : xs.length + ys.length ≤ 1000) (k : ∀ l, Q (.ref l) (tp l (xs ++ ys) :: L)) : OL X (binaryOp .Add) (.ref p) (.ref q) L Q := of_ol op_catT fun H o =>
  ⟨p, q, xs, ys, rfl, rfl, SqT.of (o.tp m1), SqT.of (o.tp m2), hx, sz (by omega), fun z => absurd z hy, fun _ l hn => ⟨_, o.newT hn, k l⟩⟩
theorem cl_listT (m : tp p xs ∈ L) (q : ∀ l, Q (.ref l) (pt l (.lst xs) :: L)) : CL X (.type "list") [.ref p] L Q := ⟨fun H o => of_cr call_list_of ⟨p, xs, rfl, .inr (SqT.of (o.tp m)), fun l hn => ⟨_, o.new hn, q l⟩⟩⟩
theorem GL.know {K : PySem.W.Frag} {φ : PyData → Prop} (h : ∃ d, Dsc K L v d ∧ φ d) (q : ∀ d, Dsc K L v d → φ d → GL X tg v σ L QS) : GL X tg v σ L QS := by
  obtain ⟨d, h1, h2⟩ := h
  exact q d h1 h2
theorem GL.any {K : PySem.W.Frag} {φ : PyData → Prop} (h : ∃ d, Dsc K L v d ∧ φ d) (q : ∀ L0 d, Dsc K L0 v d → φ d → GL X tg v σ L0 QS) : GL X tg v σ L QS := by
  obtain ⟨d, h1, h2⟩ := h
  exact q L d h1 h2
/-! xs.extend(list) -/
def ExtL (l : Addr) (y : V) (L : As) (R : As → Prop) : Prop := ∀ H, Own H L → ∃ b xs ys, y = .ref b ∧ H l = some (.lst xs) ∧ H b = some (.lst ys) ∧ xs.length + ys.length ≤ sizeLine ∧ ∀ H3, H3 = upd H l (.lst (xs ++ ys)) → ∃ L', Own H3 L' ∧ R L'
theorem ext_pt {R : As → Prop} (m : pt q (.lst ys) ∈ L) (r : Rp (pt p (.lst xs)) (pt p (.lst (xs ++ ys))) L L') (h : xs.length + ys.length ≤ 1000) (k : R L') : ExtL p (.ref q) L R := fun H o =>
  ⟨q, xs, ys, rfl, o.pt r.mem, o.pt m, sz (by omega), fun H3 e => ⟨L', o.wrE e r.mem ntL r, k⟩⟩
theorem extL_id {R : As → Prop} (h : ExtL p y L R) : ExtL p y L R := h
theorem el_extend {apos : Pos} (q : EL X o σ L fun x L1 => ∃ p, x = .ref p ∧ IsLs X.K L1 p ∧ EL X e σ L1 fun y L2 => ExtL p y L2 (Q .non))
    (hbase : attributeBase o "extend" X.env (eval o X.env) = eval o X.env := by rfl)
    (hfew : ((backTo pos (starEach [e] X.env)).all (fun w => !w.1) && (backToKw pos (keywordEach [] X.env)).all (fun w => w.1.isSome)
      && decide (([e] : List Expr).length + ([] : List Keyword).length + (if ([] : List Keyword).isEmpty then 0 else 1) < 30)) = true := by rfl)
    (hline : (apos.endLine == pos.line) = true := by rfl) (hs : starEach [e] X.env = (false, eval e X.env) :: starEach [] X.env := by rfl) : EL X (.Call (.Attribute o "extend" apos) [e] [] pos) σ L Q :=
  ⟨fun H oo => we_extend (we_imp (q.run H oo) fun x H1 ⟨L1, o1, p, ex, il, q1⟩ => ⟨p, ex, il H1 o1, we_imp (q1.run H1 o1) fun y H2 ⟨L2, o2, q2⟩ => q2 H2 o2⟩) hbase hfew hline hs⟩
end
/-! ### settings, by data -/
def sChecked (K : PySem.W.Frag) : SpL := fun vs L Q E => ∃ (v : V) (d : PyData), vs = [v] ∧ Dsc K L v d ∧ (areSettings d = true → Q v L) ∧ (areSettings d = false → E .NoSettings L)
def sWhole (K : PySem.W.Frag) : SpL := fun vs L Q _ => ∃ (v : V) (d : PyData) (lo hi : Int), vs = [v, .int lo, .int hi] ∧ Dsc K L v d ∧ Q (.bl (isWhole d lo hi)) L
theorem sChecked.h {K : PySem.W.Frag} {C : Cl} (vs : List V) (H : Hp) (Q : VK) (E : XK) (h : lsp C (sChecked K) vs H Q E) : spChecked K C vs H Q E := by
  obtain ⟨L, Q', E', o, ⟨v, d, rfl, hd, e1, e2⟩, q1, q2⟩ := h
  exact ⟨v, d, rfl, hd H o, fun z => q1 _ _ _ o (e1 z), fun z => q2 _ _ _ o (e2 z)⟩
theorem sWhole.h {K : PySem.W.Frag} {C : Cl} (vs : List V) (H : Hp) (Q : VK) (E : XK) (h : lsp C (sWhole K) vs H Q E) : spIsWhole K vs H Q E := by
  obtain ⟨L, Q', E', o, ⟨v, d, lo, hi, rfl, hd, e1⟩, q1, q2⟩ := h
  exact ⟨v, d, lo, hi, rfl, hd H o, q1 _ _ _ o e1⟩
/-- a maker that refuses -/
def sBadI (K : PySem.W.Frag) (Cc : Addr) : SpL := fun vs L Q E => ∃ (x dx : Addr) (v : V) (d : PyData) (L1 : As), vs = [.ref x, v] ∧ L = pt x (.ins Cc dx []) :: L1 ∧ Dsc K L1 v d ∧ areSettings d = false ∧ E .NoSettings L1
def sBadC (K : PySem.W.Frag) (Cc : Addr) : SpL := fun vs L Q E => ∃ (x dx : Addr) (v : V) (L1 : As), vs = [.ref x, v, .non] ∧ L = pt x (.ins Cc dx []) :: L1 ∧
  ((∃ d, Dsc K L1 v d ∧ areSettings d = false ∧ E .NoSettings L1) ∨ ∃ (a : Addr) (n r : Int) (la rn : Bool), v = .ref a ∧ tp a (setV n r la rn) ∈ L1 ∧ 1 ≤ n ∧ n ≤ 60 ∧ 1 ≤ r ∧ r ≤ 1000 ∧ E .NoList L1)
def sAsk1 (K : PySem.W.Frag) : SpL := fun vs L Q _ => ∃ (what : Int) (v : V), vs = [.int what, v] ∧ 0 ≤ what ∧ what ≤ 3 ∧
  ((∃ d, Dsc K L v d ∧ areSettings d = false ∧ ∀ r, Q r (dt r (refD .NoSettings) :: L)) ∨
   ∃ (a : Addr) (n r : Int) (la rn : Bool), v = .ref a ∧ tp a (setV n r la rn) ∈ L ∧ 1 ≤ n ∧ n ≤ 60 ∧ 1 ≤ r ∧ r ≤ 1000 ∧ ((what = 0 ∧ Q v L) ∨ (what = 3 ∧ ∀ r, Q r (dt r (refD .NoList) :: L))))
end Sh
namespace Sh
open PySem PySem.Spec L2 PyProof.Rows
theorem rc_id {L : As} {p Cc : Addr} {m : Str} {φ : Prop} (h : Rc L p Cc m ∧ φ) : Rc L p Cc m ∧ φ := h
theorem ol_idM {X : Cx} {x y : V} {L : As} {Q : LK} (h : OL X (binaryOp .Mod) x y L Q) : OL X (binaryOp .Mod) x y L Q := h
/-! ### a row of deeds -/
def SS.run (S : SS) : List Dg → List PyData × SS
  | [] => ([], S)
  | g :: gs => ((S.tell g).1 :: ((S.tell g).2.run gs).1, ((S.tell g).2.run gs).2)
theorem SS.run_app {S : SS} : ∀ (gs fs : List Dg), S.run (gs ++ fs) = ((S.run gs).1 ++ ((S.run gs).2.run fs).1, ((S.run gs).2.run fs).2) := by
  intro gs
  induction gs generalizing S with
  | nil => intro fs; rfl
  | cons g gs ih =>
    intro fs
    show ((S.tell g).1 :: ((S.tell g).2.run (gs ++ fs)).1, ((S.tell g).2.run (gs ++ fs)).2) = _
    rw [ih]; rfl
theorem SS.run_snoc {S : SS} (gs : List Dg) (g : Dg) : S.run (gs ++ [g]) = ((S.run gs).1 ++ [((S.run gs).2.tell g).1], ((S.run gs).2.tell g).2) := SS.run_app gs [g]
theorem SS.run_len {S : SS} (gs : List Dg) : (S.run gs).1.length = gs.length := by
  induction gs generalizing S with
  | nil => rfl
  | cons g gs ih => show (_ :: ((S.tell g).2.run gs).1).length = _; rw [List.length_cons, List.length_cons, ih]
theorem SS.run_ok {S : SS} (gs : List Dg) (ok : S.Ok) (wi : S.Wi) : (S.run gs).2.Ok ∧ (S.run gs).2.Wi ∧ (S.run gs).2.n = S.n ∧ (S.run gs).2.r = S.r ∧ (S.run gs).2.last = S.last ∧ (S.run gs).2.rnd = S.rnd := by
  induction gs generalizing S with
  | nil => exact ⟨ok, wi, rfl, rfl, rfl, rfl⟩
  | cons g gs ih =>
    obtain ⟨a, b, c, d, e, f⟩ := SS.tell_ok ok wi g
    obtain ⟨a', b', c', d', e', f'⟩ := ih a b
    exact ⟨a', b', c'.trans c, d'.trans d, e'.trans e, f'.trans f⟩
theorem pl_le {j k : Nat} {d : PyData} (h : pl j d = true) (hk : j ≤ k) : pl k d = true := by
  induction k with
  | zero => rw [Nat.le_zero.mp hk] at h; exact h
  | succ k ih =>
    rcases Nat.lt_or_ge j (k + 1) with h1 | h1
    · exact pl_up k d (ih (by omega))
    · have : j = k + 1 := by omega
      rw [← this]; exact h
theorem pl_tell1 {S : SS} (ok : S.Ok) (wi : S.Wi) (g : Dg) : pl 1 (S.tell g).1 = true := by
  cases g with
  | put d =>
    unfold SS.tell
    dsimp only
    split
    · split
      · exact pl_hD 0 _
      · exact pl_ref _
    · exact pl_ref _
  | get d =>
    unfold SS.tell
    dsimp only
    split
    · rename_i sc e
      obtain ⟨s, c⟩ := sc
      obtain ⟨i, hi⟩ := wi.at e
      dsimp only
      rw [SS.wth_of hi]; rfl
    · exact pl_ref _
  | change d w =>
    unfold SS.tell
    dsimp only
    split
    · exact pl_ref _
    · rename_i sc e
      obtain ⟨s, c⟩ := sc
      obtain ⟨i, hi⟩ := wi.at e
      split
      · dsimp only
        rw [SS.wth_of hi]; rfl
      · exact pl_ref _
  | drop d =>
    unfold SS.tell
    dsimp only
    split
    · exact pl_ref _
    · rename_i sc e
      obtain ⟨s, c⟩ := sc
      obtain ⟨i, hi⟩ := wi.at e
      dsimp only
      rw [SS.wth_of hi]; rfl
theorem SS.run_pl1 {S : SS} (gs : List Dg) (ok : S.Ok) (wi : S.Wi) : pls 1 (S.run gs).1 = true := by
  induction gs generalizing S with
  | nil => rfl
  | cons g gs ih =>
    obtain ⟨a, b, _⟩ := SS.tell_ok ok wi g
    show (pl 1 (S.tell g).1 && ((S.tell g).2.run gs).1.all (pl 1)) = true
    rw [pl_tell1 ok wi g]
    exact ih a b
theorem SS.run_pl {S : SS} (gs : List Dg) (ok : S.Ok) (wi : S.Wi) : pls 8 (S.run gs).1 = true := by
  induction gs generalizing S with
  | nil => rfl
  | cons g gs ih =>
    obtain ⟨a, b, _⟩ := SS.tell_ok ok wi g
    show (pl 8 (S.tell g).1 && ((S.tell g).2.run gs).1.all (pl 8)) = true
    rw [pl_tell ok wi g]
    exact ih a b
theorem SS.run_get {S : SS} : ∀ (gs : List Dg) (j : Nat) (hj : j < gs.length), (S.run (gs.take (j + 1))) = ((S.run (gs.take j)).1 ++ [((S.run (gs.take j)).2.tell gs[j]).1], ((S.run (gs.take j)).2.tell gs[j]).2) := fun gs j hj => by
  rw [← List.take_append_getElem hj, SS.run_snoc]
section
variable {X : Cx} {D : DL} {iter : Expr} {σ : St} {L : As} {pos p1 : Pos} {z : Str} {body : List Stmt} {ix : Nat}
/-- for z in a list whose values are known (it is not changed by the body) -/
theorem sl_forV (po : PassesOwn (model X.prog X.w) X.A X.env X.xe) (hc : X.calm = true) (nd : X.N.Nodup) (nl : Nl X.N X.env X.fn ix z)
    (q : EL X iter σ L fun x L1 => ∃ (lp : Addr) (xs : List V), x = .ref lp ∧ pt lp (.lst xs) ∈ L1 ∧ ∃ (α : Type) (I : Nat → LI α), (I 0).at σ L1 ∧ (∀ j x, (I j).ok x → pt lp (.lst xs) ∈ (I j).as x) ∧
      (∀ (j : Nat) x y, xs[j]? = some y → (I j).ok x → BL X body (D.loop (I (j + 1)).at) (((I j).st x).set ix (some y)) ((I j).as x)) ∧ ∀ x, (I xs.length).ok x → D.nx ((I xs.length).st x) ((I xs.length).as x))
    (hs : ∀ x, foldedSetIterable iter X.env x = pure x := by intro _; rfl) : SL X (.For (.Name z p1) iter body [] pos) D σ L := by
  refine ⟨fun H o => ws_forL po hc nd nl (we_imp (q.run H o) fun x H1 hh => ?_) hs⟩
  obtain ⟨L1, o1, lp, xs, ex, hm, α, I, h0, hl, hj, hE⟩ := hh
  refine ⟨lp, xs, ex, SqL.of (o1.pt hm), fun j σ H => dnS (I j).at σ H, ⟨_, o1, h0⟩, fun j σ H _ hh => ?_, fun j y σ H hy hh => ?_, fun σ H hh => ?_⟩
  · obtain ⟨L, o, x, ok, rfl, im⟩ := hh
    exact SqL.of ((im.own o).pt (hl j x ok))
  · obtain ⟨L, o, x, ok, rfl, im⟩ := hh
    exact wb_imp ((hj j x y hy ok).run H (im.own o)) ⟨fun _ _ z => z, fun _ _ z => z, fun _ _ z => z, fun _ _ z => z⟩
  · obtain ⟨L, o, x, ok, rfl, im⟩ := hh
    exact ⟨_, im.own o, hE x ok⟩
end
theorem ixN_last (n : Nat) : ixN (n + 1) (-1) = some n := by
  unfold ixN
  simp
  omega
theorem atI_last {α : Type} (ds : List α) (d : α) : atI (ds ++ [d]) (-1) = some d := by
  unfold atI
  rw [List.length_append, List.length_singleton, ixN_last]
  simp
end Sh
namespace Sh
open PySem PySem.Spec L2 PyProof.Rows
theorem pl_wth (S : SS) (s : Int) (k : Nat) : pl k (S.wth s) = true := by
  unfold SS.wth
  split <;> cases k <;> rfl
theorem pls_ids (k : Nat) (xs : List Int) : pls k (ids xs) = true := by
  unfold pls ids
  rw [List.all_map]
  exact List.all_eq_true.mpr fun x _ => by cases k <;> rfl
theorem pl_setD (n r : Int) (la rn : Bool) (k : Nat) : pl (k + 1) (setD n r la rn) = true := by
  have hs : ∀ z, PyData.canLay0 (.str z) = true → pl k (.str z) = true := fun z h => by cases k <;> exact h
  have h1 : ∀ b, pl k (.str (ordS b)) = true := fun b => hs _ (by cases b <;> decide +kernel)
  have h2 : ∀ b, pl k (.str (endS b)) = true := fun b => hs _ (by cases b <;> decide +kernel)
  have h3 : ∀ i, pl k (.int i) = true := fun i => by cases k <;> rfl
  show (pl k (.int n) && (pl k (.int r) && (pl k (.str (ordS la)) && (pl k (.str (endS rn)) && true)))) = true
  rw [h1, h2, h3, h3]; rfl
theorem pl_saved (S : SS) (k : Nat) : pl (k + 3) S.savedD = true := by
  have h1 : ∀ xs, pl (k + 2) (.tuple (ids xs)) = true := fun xs => pls_ids (k + 1) xs
  have h2 : pl (k + 2) (.tuple (S.keys.map fun s => .tuple [.int s, S.wth s])) = true := by
    show (S.keys.map fun s => PyData.tuple [.int s, S.wth s]).all (pl (k + 1)) = true
    rw [List.all_map]
    refine List.all_eq_true.mpr fun s _ => ?_
    show (pl k (.int s) && (pl k (S.wth s) && true)) = true
    rw [pl_wth]
    cases k <;> rfl
  show (pl (k + 2) (setD S.n S.r S.last S.rnd) && (pl (k + 2) (.tuple (ids S.cs)) && (pl (k + 2) (.tuple (S.keys.map fun s => .tuple [.int s, S.wth s])) && (pl (k + 2) (.tuple (ids S.ln)) && (pl (k + 2) (.tuple (ids S.gn)) && true))))) = true
  rw [h1, h1, h1, h2, pl_setD]; rfl
end Sh
namespace Sh
open PySem PySem.Spec L2 PyProof.Rows
theorem ite_nqr {A B : Prop} {d : PyData} (h : B) : if (!dq d d) = true then A else B := by rw [dq_self]; exact h
theorem ite_qr {A B : Prop} {d : PyData} (h : A) : if dq d d = true then A else B := by rw [dq_self]; exact h
end Sh
namespace Sh
open PySem PySem.Spec L2 PyProof.Rows
section
variable {X : Cx} {L : As} {Q : LK} {v : V} {h : Int × Int} {e : Er} {i : Int} {z : Str} {S : SS} {g : Dg}
theorem xl_h0 (m : dt v (hD h) ∈ L) (q : Q (.int h.1) L) : XL X v (.int 0) L Q := xl_vS (ds := [.int h.1, .int h.2]) (i := 0) m rfl rfl q
theorem xl_h1 (m : dt v (hD h) ∈ L) (q : Q (.int h.2) L) : XL X v (.int 1) L Q := xl_vS (ds := [.int h.1, .int h.2]) (i := 1) m rfl rfl q
theorem xl_r0 (m : dt v (refD e) ∈ L) (q : Q (.str "refused") L) : XL X v (.int 0) L Q := xl_vS (ds := [.str "refused", .int (erI e)]) (i := 0) m rfl rfl q
theorem xl_r1 (m : dt v (refD e) ∈ L) (q : Q (.int (erI e)) L) : XL X v (.int 1) L Q := xl_vS (ds := [.str "refused", .int (erI e)]) (i := 1) m rfl rfl q
theorem ol_neIS (q : Q (.bl true) L) : OL X (compareOp .NotEq) (.int i) (.str z) L Q := ⟨fun H o => wop_ne rfl (by rw [decide_eq_false (fun z => by cases z)]; exact ⟨L, o, q⟩)⟩
theorem ol_eqIS (q : Q (.bl false) L) : OL X (compareOp .Eq) (.int i) (.str z) L Q := ⟨fun H o => wop_eq rfl (by rw [decide_eq_false (fun z => by cases z)]; exact ⟨L, o, q⟩)⟩
theorem tell_cases (ok : S.Ok) (wi : S.Wi) (g : Dg) : (∃ i, (S.tell g).1 = .int i) ∨ (∃ h, (S.tell g).1 = hD h ∧ InR S.n S.r h) ∨ ∃ e, (S.tell g).1 = refD e := by
  cases g with
  | put d =>
    unfold SS.tell
    dsimp only
    split
    · split
      · rename_i h S' e
        exact .inr (.inl ⟨_, rfl, SS.put_inR ok e⟩)
      · exact .inr (.inr ⟨_, rfl⟩)
    · exact .inr (.inr ⟨_, rfl⟩)
  | get d =>
    unfold SS.tell
    dsimp only
    split
    · rename_i sc e
      obtain ⟨s, c⟩ := sc
      obtain ⟨i, hi⟩ := wi.at e
      dsimp only
      rw [SS.wth_of hi]; exact .inl ⟨_, rfl⟩
    · exact .inr (.inr ⟨_, rfl⟩)
  | change d w =>
    unfold SS.tell
    dsimp only
    split
    · exact .inr (.inr ⟨_, rfl⟩)
    · rename_i sc e
      obtain ⟨s, c⟩ := sc
      obtain ⟨i, hi⟩ := wi.at e
      split
      · dsimp only
        rw [SS.wth_of hi]; exact .inl ⟨_, rfl⟩
      · exact .inr (.inr ⟨_, rfl⟩)
  | drop d =>
    unfold SS.tell
    dsimp only
    split
    · exact .inr (.inr ⟨_, rfl⟩)
    · rename_i sc e
      obtain ⟨s, c⟩ := sc
      obtain ⟨i, hi⟩ := wi.at e
      dsimp only
      rw [SS.wth_of hi]; exact .inl ⟨_, rfl⟩
end
end Sh
namespace Sh
open PySem PySem.Spec L2 PyProof.Rows
section
variable {X : Cx} {L : As} {Q : LK} {v : V} {ds : List PyData} {i : Int} {h : Int × Int} {e : Er}
theorem cl_isTt (h : Dsc X.K L v (.tuple ds)) (q : Q (.bl true) L) : CL X (.builtin "isinstance") [v, .ty "tuple"] L Q := cl_isi h rfl q
theorem cl_isTi (q : Q (.bl false) L) : CL X (.builtin "isinstance") [.int i, .ty "tuple"] L Q := cl_isi (d := .int i) (Dsi.dsc Dsi.int) rfl q
theorem cl_isTd (m : dt v (.int i) ∈ L) (q : Q (.bl false) L) : CL X (.builtin "isinstance") [v, .ty "tuple"] L Q := cl_isi (d := .int i) (Dsi.dsc (Dsi.dt m)) rfl q
theorem cl_isTh (m : dt v (hD h) ∈ L) (q : Q (.bl true) L) : CL X (.builtin "isinstance") [v, .ty "tuple"] L Q := cl_isi (Dsi.dsc (Dsi.dt m)) rfl q
theorem cl_isTr (m : dt v (refD e) ∈ L) (q : Q (.bl true) L) : CL X (.builtin "isinstance") [v, .ty "tuple"] L Q := cl_isi (Dsi.dsc (Dsi.dt m)) rfl q
end
end Sh
namespace Sh
theorem ite_ffi {A B : Prop} {inst : Decidable (false = true)} (h : B) : @ite Prop (false = true) inst A B := by rw [if_neg Bool.false_ne_true]; exact h
theorem ite_tti {A B : Prop} {inst : Decidable (true = true)} (h : A) : @ite Prop (true = true) inst A B := by rw [if_pos rfl]; exact h
theorem ite_ntti {A B : Prop} {inst : Decidable ((!true) = true)} (h : B) : @ite Prop ((!true) = true) inst A B := by rw [if_neg (fun z => by cases z)]; exact h
theorem ite_nffi {A B : Prop} {inst : Decidable ((!false) = true)} (h : A) : @ite Prop ((!false) = true) inst A B := by rw [if_pos (show (!false) = true from rfl)]; exact h
end Sh
namespace Sh
open PySem PySem.Spec L2 PyProof.Rows
def sBadH (K : PySem.W.Frag) : SpL := fun vs L Q _ => ∃ (a t s : Addr) (N : Nat) (n r : Int) (la rn : Bool) (L1 : As), vs = [.ref a, .ref t, .ref s] ∧ Rm (dr K a t N) L L1 ∧ N ≤ 999900 ∧ tp s (setV n r la rn) ∈ L1 ∧
  ∀ v d, isHandle n r d = false → Q v (dl v d :: dr K a t (N + 1) :: L1)
theorem sBadH.i {K : PySem.W.Frag} {L L1 : As} {Q : LK} {E : Er → As → Prop} {a t s : Addr} {N : Nat} {n r : Int} {la rn : Bool} (rm : Rm (dr K a t N) L L1) (h1 : N ≤ 999900) (m : tp s (setV n r la rn) ∈ L1)
    (q : ∀ v d, isHandle n r d = false → Q v (dl v d :: dr K a t (N + 1) :: L1)) : sBadH K [.ref a, .ref t, .ref s] L Q E := ⟨a, t, s, N, n, r, la, rn, L1, rfl, rm, h1, m, q⟩
theorem sBadH.h {K : PySem.W.Frag} {C : Cl} (vs : List V) (H : Hp) (Q : VK) (E : XK) (h : lsp C (sBadH K) vs H Q E) : spBadH K vs H Q E := by
  obtain ⟨L, Q', E', o, ⟨a, t, s, N, n, r, la, rn, L1, rfl, rm, hN, m, q⟩, q1, q2⟩ := h
  obtain ⟨ns, k, hk, o1⟩ := dr.op (o.front rm)
  refine ⟨a, t, s, ns, k, n, r, la, rn, L1, rfl, o1, m, by omega, fun v d H' hh o' => q1 _ _ _ ?_ (q v d hh)⟩
  have o2 := Own.pq (G := sq K a (iv ns) :: town t (k + 1) :: dl v d :: L1) (.cons (.there .here) (.cons (.there .here) .refl)) o'
  exact Own.pq (G := dl v d :: dr K a t (N + 1) :: L1) (.cons (.there .here) .refl) (dr.cl o2 (by omega))
end Sh
namespace Sh
open PySem PySem.Spec L2 PyProof.Rows
section
variable {S : SS} {s c : Int} {d dw : PyData} {h : Int × Int}
theorem mem_live : h ∈ S.live ↔ S.holds h.1 h.2 = true := by
  unfold SS.live SS.keys SS.holds
  rw [List.mem_map, Bool.and_eq_true, valV_mem, decide_eq_true_iff]
  constructor
  · rintro ⟨s, hs, rfl⟩
    exact ⟨mem_srt.mp hs, rfl⟩
  · rintro ⟨h1, h2⟩
    exact ⟨h.1, mem_srt.mpr h1, by rw [h2]⟩
theorem mem_hD {hs : List (Int × Int)} : hD h ∈ hs.map hD ↔ h ∈ hs := by
  rw [List.mem_map]
  constructor
  · rintro ⟨k, hk, e⟩
    rw [← hD_inj.mp e]; exact hk
  · exact fun z => ⟨h, z, rfl⟩
theorem at_no (hh : isHandle S.n S.r d = false) : S.at d = .error .NoHandle := by
  unfold SS.at
  rw [asH_none hh]
theorem tell_put_no (hw : isWhole d 0 9999 = false) : S.tell (.put d) = (refD .NoWorth, S) := by
  unfold SS.tell
  dsimp only
  rw [if_neg (by rw [hw]; exact Bool.false_ne_true)]
theorem tell_get_no (hh : isHandle S.n S.r d = false) : S.tell (.get d) = (refD .NoHandle, S) := by
  unfold SS.tell
  dsimp only
  rw [at_no hh]
theorem tell_drop_no (hh : isHandle S.n S.r d = false) : S.tell (.drop d) = (refD .NoHandle, S) := by
  unfold SS.tell
  dsimp only
  rw [at_no hh]
theorem tell_change_no (hh : isHandle S.n S.r d = false) : S.tell (.change d dw) = (refD .NoHandle, S) := by
  unfold SS.tell
  dsimp only
  rw [at_no hh]
theorem tell_change_nw (hr : InR S.n S.r h) (hw : isWhole dw 0 9999 = false) : S.tell (.change (hD h) dw) = (if S.holds h.1 h.2 = true then refD .NoWorth else refD .Stale, S) := by
  unfold SS.tell
  dsimp only
  rw [SS.at_hD hr]
  by_cases z : S.holds h.1 h.2 = true
  · rw [if_pos z, if_pos z]
    dsimp only
    rw [if_neg (by rw [hw]; exact Bool.false_ne_true)]
  · rw [if_neg z, if_neg z]
end
section
variable {X : Cx} {K : PySem.W.Frag} {C : Cl} {L L1 G L' : As} {Q : LK} {QS : SK} {E : Er → As → Prop} {p t l : Addr} {v w : V} {xs : List V} {ds : List PyData} {S : SS} {d dw : PyData} {g : Dg} {e : Er} {tg : Expr} {σ : St}
theorem GL.sub (h : Imp L L') (q : GL X tg v σ L' QS) : GL X tg v σ L QS := ⟨fun H o => q.run H (h.own o)⟩
theorem imp_dl (q : Dsi L v d) (k : Imp L G) : Imp L (dl v d :: G) := imp_add (fun T h s => .inl (q T h s)) k
theorem imp_dlL (r : Rm (pt l (.lst xs)) L L1) (q : DsiA L xs ds) (k : Imp L1 G) : Imp L (dl (.ref l) (.list ds) :: G) := fun T h s => by
  have dd := q.all s
  obtain ⟨h1, h2, d, l1, l2, a, s⟩ := s.front r
  exact ⟨h1, h2, d, l1, l2, .inr ⟨l, xs, ds, rfl, rfl, a, dd⟩, k T h2 s⟩
/-! deeds that are written -/
theorem sDo.put (r1 : Rm (StoreAt C.Store p S) L L1) (hd : dt v (.tuple [.str "put", d]) ∈ L) (ok : S.Ok) (wi : S.Wi) (q : (S.tell (.put d)).2.Ok → (S.tell (.put d)).2.Wi → ∀ r, Q r (dt r (S.tell (.put d)).1 :: StoreAt C.Store p (S.tell (.put d)).2 :: L1)) : sDo K C [.ref p, v] L Q E := sDo.i (g := .put d) r1 hd ok wi q
theorem sDo.get (r1 : Rm (StoreAt C.Store p S) L L1) (hd : dt v (.tuple [.str "get", d]) ∈ L) (ok : S.Ok) (wi : S.Wi) (q : (S.tell (.get d)).2.Ok → (S.tell (.get d)).2.Wi → ∀ r, Q r (dt r (S.tell (.get d)).1 :: StoreAt C.Store p (S.tell (.get d)).2 :: L1)) : sDo K C [.ref p, v] L Q E := sDo.i (g := .get d) r1 hd ok wi q
theorem sDo.drop (r1 : Rm (StoreAt C.Store p S) L L1) (hd : dt v (.tuple [.str "drop", d]) ∈ L) (ok : S.Ok) (wi : S.Wi) (q : (S.tell (.drop d)).2.Ok → (S.tell (.drop d)).2.Wi → ∀ r, Q r (dt r (S.tell (.drop d)).1 :: StoreAt C.Store p (S.tell (.drop d)).2 :: L1)) : sDo K C [.ref p, v] L Q E := sDo.i (g := .drop d) r1 hd ok wi q
theorem sDo.change (r1 : Rm (StoreAt C.Store p S) L L1) (hd : dt v (.tuple [.str "change", d, dw]) ∈ L) (ok : S.Ok) (wi : S.Wi) (q : (S.tell (.change d dw)).2.Ok → (S.tell (.change d dw)).2.Wi → ∀ r, Q r (dt r (S.tell (.change d dw)).1 :: StoreAt C.Store p (S.tell (.change d dw)).2 :: L1)) : sDo K C [.ref p, v] L Q E := sDo.i (g := .change d dw) r1 hd ok wi q
/-- the store is as before -/
theorem sDo.same {a : PyData} (g : Dg) (ht : S.tell g = (a, S)) (ok : S.Ok) (wi : S.Wi) (r1 : Rm (StoreAt C.Store p S) L L1) (m2 : tp t xs ∈ L) (hd : DscA K L xs g.args) (q : ∀ r, Q r (dt r a :: StoreAt C.Store p S :: L1)) : sDo K C [.ref p, .ref t] L Q E :=
  ⟨p, .ref t, S, g, L1, rfl, ok, wi, r1, .inr ⟨t, xs, rfl, m2, hd⟩, fun _ _ r => by rw [ht]; exact q r⟩
theorem sDo.sameV {a : PyData} (ht : S.tell g = (a, S)) (ok : S.Ok) (wi : S.Wi) (r1 : Rm (StoreAt C.Store p S) L L1) (hd : dt v g.d ∈ L) (q : ∀ r, Q r (dt r a :: StoreAt C.Store p S :: L1)) : sDo K C [.ref p, v] L Q E :=
  ⟨p, v, S, g, L1, rfl, ok, wi, r1, .inl hd, fun _ _ r => by rw [ht]; exact q r⟩
theorem GL.dl {φ : PyData → Prop} (L0 : As) (h : ∃ d, φ d ∧ Imp L (Sh.dl v d :: L0)) (q : ∀ d, φ d → GL X tg v σ (Sh.dl v d :: L0) QS) : GL X tg v σ L QS := by
  obtain ⟨d, hd, im⟩ := h
  exact GL.sub im (q d hd)
end
end Sh
namespace Sh
open PySem PySem.Spec L2 PyProof.Rows
section
variable {A B : Prop} {e : Er} {i j : Int} {h : Int × Int} {z : Str}
theorem ite_nq1 (k : erI e = i) (q : B) : if (!dq (refD e) (.tuple [.str "refused", .int i])) = true then A else B := by subst k; exact ite_nqr q
theorem ite_nq2 (k : erI e ≠ i) (q : A) : if (!dq (refD e) (.tuple [.str "refused", .int i])) = true then A else B := ite_nq (fun _ => q) fun z => absurd (by injection z with z; injection z with _ z; injection z with z; injection z) k
theorem ite_q1 (k : erI e = i) (q : A) : if dq (refD e) (.tuple [.str "refused", .int i]) = true then A else B := by subst k; exact ite_qr q
theorem ite_q2 (k : erI e ≠ i) (q : B) : if dq (refD e) (.tuple [.str "refused", .int i]) = true then A else B := ite_q (fun z => absurd (by injection z with z; injection z with _ z; injection z with z; injection z) k) fun _ => q
theorem ite_nq3 (q : A) : if (!dq (hD h) (.tuple [.str "refused", .int i])) = true then A else B := ite_nq (fun _ => q) fun z => by injection z with z; injection z with z; cases z
theorem ite_q3 (q : B) : if dq (hD h) (.tuple [.str "refused", .int i]) = true then A else B := ite_q (fun z => by injection z with z; injection z with z; cases z) fun _ => q
theorem ite_nq4 (q : A) : if (!dq (.int j) (.tuple [.str "refused", .int i])) = true then A else B := ite_nq (fun _ => q) fun z => by cases z
theorem ite_q4 (q : B) : if dq (.int j) (.tuple [.str "refused", .int i]) = true then A else B := ite_q (fun z => by cases z) fun _ => q
end
end Sh
namespace Sh
open PySem PySem.Spec L2 PyProof.Rows
/-! ### plain laws of a store: which handles are held -/
section
variable {S S' : SS} {s c t : Int} {v : V} {h k : Int × Int}
def SS.lvU (S : SS) : List (Int × Int) := S.ws.map fun p => (p.1, S.cnt p.1)
theorem lvU_keys : S.lvU.map (·.1) = S.ws.map (·.1) := by unfold SS.lvU; rw [List.map_map]; rfl
theorem lvU_eq : S.lvU = (S.ws.map (·.1)).map fun s => (s, S.cnt s) := by unfold SS.lvU; rw [List.map_map]; rfl
theorem live_perm : S.live.Perm S.lvU := by
  rw [lvU_eq]
  exact (srt_perm _).map _
theorem live_srt : S.live = srtH S.lvU := by
  refine srtH_eq live_perm ?_
  unfold SS.live SS.keys
  rw [List.pairwise_map]
  refine (srt_sorted _).imp fun {a b} hab => ?_
  unfold leH
  dsimp only
  by_cases e : a = b
  · subst e; exact .inr ⟨rfl, Int.le_refl _⟩
  · exact .inl (by omega)
theorem mem_lvU : h ∈ S.lvU ↔ S.holds h.1 h.2 = true := live_perm.mem_iff.symm.trans mem_live
theorem lvU_nd (ok : S.Ok) : S.lvU.Nodup := by
  have := ok.ndW
  rw [← lvU_keys] at this
  exact List.Pairwise.of_map _ (fun a b h z => h (by rw [z])) this
theorem lvU_new {n r : Int} {la rn : Bool} : (SS.new n r la rn).lvU = [] := rfl
theorem cnt_app {cs : List Int} (h0 : 0 ≤ t) (h1 : t < cs.length) (x : Int) : (cs ++ [x]).getD t.toNat 0 = cs.getD t.toNat 0 := by
  rw [List.getD_eq_getElem?_getD, List.getD_eq_getElem?_getD, List.getElem?_append_left (by omega)]
theorem cnt_set {cs : List Int} (h0 : 0 ≤ t) (hs : 0 ≤ s) (ne : t ≠ s) (x : Int) : (cs.set s.toNat x).getD t.toNat 0 = cs.getD t.toNat 0 := by
  rw [List.getD_eq_getElem?_getD, List.getD_eq_getElem?_getD, List.getElem?_set_ne (by omega)]
theorem cnt_set_self {cs : List Int} (h0 : 0 ≤ s) (h1 : s < cs.length) (x : Int) : (cs.set s.toNat x).getD s.toNat 0 = x := by
  rw [List.getD_eq_getElem?_getD, List.getElem?_set_self (by omega)]; rfl
theorem SS.Ok.cntR (ok : S.Ok) (h0 : 0 ≤ t) (h1 : t < S.cs.length) : 0 ≤ S.cnt t ∧ S.cnt t < S.r := by
  have hk : t.toNat < S.cs.length := by omega
  unfold SS.cnt
  rw [List.getD_eq_getElem?_getD, List.getElem?_eq_getElem hk]
  exact ok.cr _ (List.getElem_mem hk)
/-- what comes -/
theorem put_ws (ok : S.Ok) (e : S.putIn v = .ok (h, S')) : S'.ws = S.ws ++ [(h.1, v)] ∧ h.1 ∉ S.ws.map (·.1) := by
  obtain ⟨s, c⟩ := h
  rcases SS.put_cases ok e with ⟨h1, h2, ln', pe, rfl, -, -⟩ | ⟨h1, rfl, h3, h4, rfl⟩
  · exact ⟨rfl, ok.notW (.inl h1)⟩
  · exact ⟨rfl, fun z => by have := ok.rngW z; omega⟩
theorem put_cnt (ok : S.Ok) (e : S.putIn v = .ok (h, S')) : S'.cnt h.1 = h.2 ∧ ∀ t : Int, 0 ≤ t → t < S.cs.length → S'.cnt t = S.cnt t := by
  obtain ⟨s, c⟩ := h
  rcases SS.put_cases ok e with ⟨h1, h2, ln', pe, rfl, -, -⟩ | ⟨h1, rfl, h3, h4, rfl⟩
  · exact ⟨h2.symm, fun t _ _ => rfl⟩
  · refine ⟨?_, fun t h0 h1 => cnt_app h0 h1 _⟩
    show (S.cs ++ [0]).getD ((S.cs.length : Int)).toNat 0 = c
    rw [Int.toNat_natCast, List.getD_eq_getElem?_getD, List.getElem?_append_right (Nat.le_refl _), Nat.sub_self, h3]; rfl
theorem put_lvU (ok : S.Ok) (e : S.putIn v = .ok (h, S')) : S'.lvU = S.lvU ++ [h] := by
  obtain ⟨e1, e2⟩ := put_ws ok e
  obtain ⟨e3, e4⟩ := put_cnt ok e
  unfold SS.lvU
  rw [e1, List.map_append, List.map_cons, List.map_nil]
  dsimp only
  rw [e3]
  refine congrArg (· ++ [h]) ?_
  refine List.map_congr_left fun p hp => ?_
  have := ok.rngW (List.mem_map_of_mem hp)
  rw [e4 _ this.1 this.2]
theorem put_cs (ok : S.Ok) (e : S.putIn v = .ok (h, S')) : S'.n = S.n ∧ S'.r = S.r ∧ S'.last = S.last ∧ S'.rnd = S.rnd ∧ S'.gn = S.gn ∧ ((S'.cs = S.cs ∧ (S'.ln.length : Int) + 1 = S.ln.length) ∨ (S'.cs = S.cs ++ [0] ∧ S.ln = [] ∧ S'.ln = [] ∧ (S.cs.length : Int) < S.n)) := by
  obtain ⟨s, c⟩ := h
  rcases SS.put_cases ok e with ⟨h1, h2, ln', pe, rfl, -, -⟩ | ⟨h1, rfl, h3, h4, rfl⟩
  · refine ⟨rfl, rfl, rfl, rfl, rfl, .inl ⟨rfl, ?_⟩⟩
    have := pe.length_eq
    rw [List.length_cons] at this
    show (ln'.length : Int) + 1 = _
    omega
  · exact ⟨rfl, rfl, rfl, rfl, rfl, .inr ⟨rfl, h1, h1, h4⟩⟩
/-- what goes -/
theorem drop_ws : (S.dropAt s).ws = dropK S.ws s := by
  unfold SS.dropAt
  split
  · rfl
  · split <;> rfl
theorem drop_same : (S.dropAt s).n = S.n ∧ (S.dropAt s).r = S.r ∧ (S.dropAt s).last = S.last ∧ (S.dropAt s).rnd = S.rnd ∧ (S.dropAt s).cs.length = S.cs.length := by
  unfold SS.dropAt
  split
  · exact ⟨rfl, rfl, rfl, rfl, List.length_set⟩
  · split
    · exact ⟨rfl, rfl, rfl, rfl, List.length_set⟩
    · exact ⟨rfl, rfl, rfl, rfl, rfl⟩
theorem drop_cnt (h0 : 0 ≤ t) (hs : 0 ≤ s) (ne : t ≠ s) : (S.dropAt s).cnt t = S.cnt t := by
  unfold SS.dropAt
  split
  · exact cnt_set h0 hs ne _
  · split
    · exact cnt_set h0 hs ne _
    · rfl
theorem drop_lvU (ok : S.Ok) (hs : s ∈ S.ws.map (·.1)) : (S.dropAt s).lvU = S.lvU.filter fun k => decide (k.1 ≠ s) := by
  have r0 := ok.rngW hs
  unfold SS.lvU
  rw [drop_ws, List.filter_map]
  unfold dropK
  have : ((fun k : Int × Int => decide (k.1 ≠ s)) ∘ fun p : Int × V => (p.1, S.cnt p.1)) = fun kv : Int × V => decide (kv.1 ≠ s) := rfl
  rw [this]
  refine List.map_congr_left fun p hp => ?_
  obtain ⟨hp1, hp2⟩ := List.mem_filter.mp hp
  have r1 := ok.rngW (List.mem_map_of_mem hp1)
  have hp2 : p.1 ≠ s := by simpa using hp2
  rw [drop_cnt r1.1 r0.1 hp2]
theorem filter_ne_perm {l : List (Int × Int)} (nd : (l.map (·.1)).Nodup) (hk : k ∈ l) : l.Perm (k :: l.filter fun x => decide (x.1 ≠ k.1)) := by
  induction l with
  | nil => cases hk
  | cons a l ih =>
    rw [List.map_cons, List.nodup_cons] at nd
    rcases List.mem_cons.mp hk with e | hk
    · subst e
      have : l.filter (fun x => decide (x.1 ≠ k.1)) = l := by
        refine List.filter_eq_self.mpr fun x hx => ?_
        simp only [ne_eq, decide_not, Bool.not_eq_true', decide_eq_false_iff_not]
        exact fun z => nd.1 (by rw [← z]; exact List.mem_map_of_mem hx)
      rw [List.filter_cons, if_neg (by simp), this]
    · have ne : a.1 ≠ k.1 := fun z => nd.1 (by rw [z]; exact List.mem_map_of_mem hk)
      rw [List.filter_cons, if_pos (by simpa using ne)]
      exact ((ih nd.2 hk).cons a).trans (List.Perm.swap _ _ _)
theorem drop_perm (ok : S.Ok) (hh : S.holds h.1 h.2 = true) : S.lvU.Perm (h :: (S.dropAt h.1).lvU) := by
  rw [drop_lvU ok (SS.holds_in hh).1]
  refine filter_ne_perm ?_ (mem_lvU.mpr hh)
  rw [lvU_keys]; exact ok.ndW
theorem chg_lvU (hs : s ∈ S.ws.map (·.1)) : (S.chg s v).lvU = S.lvU := by
  rw [lvU_eq, lvU_eq]
  rw [show (S.chg s v).ws = putK S.ws s v from rfl, keys_put_old S.ws hs]; rfl
/-- the worn ones -/
def SS.Gw (S : SS) : Prop := ∀ s ∈ S.gn, S.rnd = false ∧ S.cnt s = S.r - 1
theorem Gw.new {n r : Int} {la rn : Bool} : (SS.new n r la rn).Gw := fun s hs => by cases hs
theorem Gw.put (ok : S.Ok) (g : S.Gw) (e : S.putIn v = .ok (h, S')) : S'.Gw := fun t ht => by
  obtain ⟨_, e2, _, e4, e5, _⟩ := put_cs ok e
  obtain ⟨_, e6⟩ := put_cnt ok e
  rw [e5] at ht
  have := ok.rngG ht
  rw [e4, e6 t this.1 this.2, e2]
  exact g t ht
theorem Gw.drop (ok : S.Ok) (g : S.Gw) (hs : s ∈ S.ws.map (·.1)) : (S.dropAt s).Gw := by
  have r0 := ok.rngW hs
  have cr := ok.cntR r0.1 r0.2
  have ng : ∀ t ∈ S.gn, t ≠ s := fun t ht z => by
    have := (List.nodup_append.mp ok.nd).2.2 s hs t (List.mem_append_right _ ht)
    exact this z.symm
  intro t ht
  have hc : t ∈ S.gn → (S.dropAt s).rnd = false ∧ (S.dropAt s).cnt t = (S.dropAt s).r - 1 := fun ht => by
    have r1 := ok.rngG ht
    obtain ⟨_, e2, _, e4, _⟩ := drop_same (S := S) (s := s)
    rw [drop_cnt r1.1 r0.1 (ng t ht), e2, e4]
    exact g t ht
  by_cases h1 : S.cnt s + 1 < S.r
  · have : (S.dropAt s).gn = S.gn := by unfold SS.dropAt; rw [if_pos h1]
    rw [this] at ht; exact hc ht
  · by_cases h2 : S.rnd = true
    · have : (S.dropAt s).gn = S.gn := by unfold SS.dropAt; rw [if_neg h1, if_pos h2]
      rw [this] at ht; exact hc ht
    · have e : S.dropAt s = { S with gn := S.gn ++ [s], ws := dropK S.ws s } := by unfold SS.dropAt; rw [if_neg h1, if_neg h2]
      have : (S.dropAt s).gn = S.gn ++ [s] := by rw [e]
      rw [this] at ht
      rcases List.mem_append.mp ht with ht | ht
      · exact hc ht
      · rw [List.mem_singleton.mp ht, e]
        refine ⟨by cases hh : S.rnd with | true => exact absurd hh h2 | false => rfl, ?_⟩
        show S.cnt s = S.r - 1
        omega
theorem Gw.chg (g : S.Gw) : (S.chg s v).Gw := g
/-! ### how many came -/
def SS.used (S : SS) : Int := (S.cs.map (· + 1)).sum - S.ln.length
theorem left_eq (h : S.rnd = false) : S.left = .int (S.n * S.r - S.used) := by unfold SS.left SS.used; rw [h]; rfl
theorem used_new {n r : Int} {la rn : Bool} : (SS.new n r la rn).used = 0 := rfl
theorem sum_snoc (l : List Int) (x : Int) : (l ++ [x]).sum = l.sum + x := by simp
theorem used_put (ok : S.Ok) (e : S.putIn v = .ok (h, S')) : S'.used = S.used + 1 := by
  obtain ⟨_, _, _, _, _, ⟨e1, e2⟩ | ⟨e1, e2, e3, _⟩⟩ := put_cs ok e
  · unfold SS.used; rw [e1]; omega
  · unfold SS.used; rw [e1, e2, e3, List.map_append, List.map_cons, List.map_nil, sum_snoc]; simp
theorem sum_set : ∀ (l : List Int) (i : Nat), i < l.length → ((l.set i (l.getD i 0 + 1)).map (· + 1)).sum = (l.map (· + 1)).sum + 1
  | a :: l, 0, _ => by simp; omega
  | a :: l, i + 1, h => by
    have := sum_set l i (by simpa using h)
    simp only [List.set_cons_succ, List.map_cons, List.sum_cons, List.getD_cons_succ]
    omega
theorem used_drop (ok : S.Ok) (hr : S.rnd = false) (hs : s ∈ S.ws.map (·.1)) : (S.dropAt s).used = S.used := by
  have r0 := ok.rngW hs
  unfold SS.dropAt
  split
  · unfold SS.used
    dsimp only
    rw [show S.cnt s = S.cs.getD s.toNat 0 from rfl, sum_set _ _ (by omega), List.length_append, List.length_singleton]
    omega
  · rw [if_neg (by rw [hr]; exact Bool.false_ne_true)]; rfl
theorem sum_all {l : List Int} {r : Int} (h : ∀ c ∈ l, c = r - 1) : (l.map (· + 1)).sum = l.length * r := by
  induction l with
  | nil => simp
  | cons a l ih =>
    rw [List.map_cons, List.sum_cons, ih fun c hc => h c (List.mem_cons_of_mem _ hc), h a List.mem_cons_self, List.length_cons, Int.natCast_add, Int.add_mul]
    omega
theorem all_worn (ok : S.Ok) (g : S.Gw) (hw : S.ws = []) (hl : S.ln = []) : S.used = S.cs.length * S.r := by
  unfold SS.used
  rw [hl, List.length_nil]
  rw [sum_all (r := S.r)]
  · simp
  · intro c hc
    obtain ⟨i, hi, rfl⟩ := List.getElem_of_mem hc
    have hp := ok.parts
    rw [hw, hl] at hp
    have : (i : Int) ∈ S.gn := by
      have h2 : (i : Int) ∈ slots S.cs.length := mem_slots.mpr ⟨by omega, by omega⟩
      simpa using hp.mem_iff.mpr h2
    have h3 := (g _ this).2
    unfold SS.cnt at h3
    rw [Int.toNat_natCast, List.getD_eq_getElem?_getD, List.getElem?_eq_getElem hi] at h3
    exact h3
end
end Sh
namespace Sh
open PySem PySem.Spec L2 PyProof.Rows
/-! ### further methods of lists -/
theorem eqV_int (a b : Int) : eqV (.int a) (.int b) = decide (a = b) := by
  show (a == b) = decide (a = b)
  rfl
theorem flat_iv (ns : List Int) : (iv ns).all flatV = true := by
  unfold iv
  rw [List.all_map]
  exact List.all_eq_true.mpr fun _ _ => rfl
theorem count_iv (ns : List Int) (i : Int) : ((iv ns).countP fun z => eqV z (.int i)) = ns.count i := by
  unfold iv
  rw [List.countP_map]
  unfold List.count
  congr 1
section
variable {X : Cx} {C : Cl} {E : EK} {a b c e o : Expr} {es rest : List Expr} {σ : St} {L L' L1 G : As} {Q : LK} {D : DL} {pos p1 p2 p3 apos : Pos} {v x y : V} {i : Int} {n k l j : Nat} {p q : Addr} {xs ys : List V} {d f : PyData} {ds fs : List PyData} {ns : List Int}
def CntL (K : PySem.W.Frag) (p : Addr) (y : V) (L : As) (Q : LK) : Prop := ∀ H, Own H L → ∃ xs, SqL K H p xs ∧ flatV y = true ∧ xs.all flatV = true ∧ ∃ L', Own H L' ∧ Q (.int (xs.countP fun z => eqV z y : Nat)) L'
theorem cnt_li {K : PySem.W.Frag} (m : pt p (.lst (iv ns)) ∈ L) (q : Q (.int (ns.count i : Nat)) L) : CntL K p (.int i) L Q := fun H o => ⟨_, SqL.of (o.pt m), rfl, flat_iv ns, L, o, by rw [count_iv]; exact q⟩
theorem cntL_id {K : PySem.W.Frag} (h : CntL K p y L Q) : CntL K p y L Q := h
theorem el_count (q : EL X o σ L fun x L1 => ∃ p, x = .ref p ∧ IsLs X.K L1 p ∧ EL X e σ L1 fun y L2 => CntL X.K p y L2 Q)
    (hbase : attributeBase o "count" X.env (eval o X.env) = eval o X.env := by rfl)
    (hfew : ((backTo pos (starEach [e] X.env)).all (fun w => !w.1) && (backToKw pos (keywordEach [] X.env)).all (fun w => w.1.isSome)
      && decide (([e] : List Expr).length + ([] : List Keyword).length + (if ([] : List Keyword).isEmpty then 0 else 1) < 30)) = true := by rfl)
    (hline : (apos.endLine == pos.line) = true := by rfl) (hs : starEach [e] X.env = (false, eval e X.env) :: starEach [] X.env := by rfl) : EL X (.Call (.Attribute o "count" apos) [e] [] pos) σ L Q :=
  ⟨fun H oo => we_count (we_imp (q.run H oo) fun x H1 ⟨L1, o1, p, ex, il, q1⟩ => ⟨p, ex, il H1 o1, we_imp (q1.run H1 o1) fun y H2 ⟨L2, o2, q2⟩ => q2 H2 o2⟩) hbase hfew hline hs⟩
end
end Sh
namespace Sh
theorem map_erase {α β : Type} (f : α → β) : ∀ (l : List α) (j : Nat), (l.map f).eraseIdx j = (l.eraseIdx j).map f
  | [], _ => rfl
  | _ :: _, 0 => rfl
  | a :: l, j + 1 => by
    rw [List.map_cons, List.eraseIdx_cons_succ, List.eraseIdx_cons_succ, List.map_cons, map_erase f l j]
theorem erase_perm {α : Type} : ∀ (l : List α) (j : Nat) (hj : j < l.length), l.Perm (l[j] :: l.eraseIdx j)
  | [], _, h => by simp at h
  | a :: l, 0, _ => List.Perm.refl _
  | a :: l, j + 1, h => by
    have hj : j < l.length := by simpa using h
    exact ((erase_perm l j hj).cons a).trans (List.Perm.swap _ _ _)
end Sh
namespace Sh
open PySem PySem.Spec L2 PyProof.Rows
/-! ### the law: wider stores -/
def SS.wN (S : SS) (m : Int) : SS := ⟨m, S.r, S.last, S.rnd, S.cs, S.ws, S.ln, S.gn⟩
def SS.wR (S : SS) (m : Int) : SS := ⟨S.n, m, S.last, S.rnd, S.cs, S.ws, S.ln, S.gn⟩
def SS.wB (S : SS) (b : Bool) : SS := ⟨S.n, S.r, S.last, b, S.cs, S.ws, S.ln, S.gn⟩
section
variable {S : SS} {n' r' : Int} {b : Bool} {g : Dg}
theorem putIn_ln {v : V} (h : S.ln ≠ []) : S.putIn v = .ok ((if S.last then S.ln.getLastD 0 else S.ln.headD 0, S.cnt (if S.last then S.ln.getLastD 0 else S.ln.headD 0)), ⟨S.n, S.r, S.last, S.rnd, S.cs, putK S.ws (if S.last then S.ln.getLastD 0 else S.ln.headD 0) v, if S.last then S.ln.dropLast else S.ln.tail, S.gn⟩) := by
  unfold SS.putIn
  rw [if_pos h]
theorem putIn_new {v : V} (h : S.ln = []) (hc : (S.cs.length : Int) < S.n) : S.putIn v = .ok ((S.cs.length, 0), ⟨S.n, S.r, S.last, S.rnd, S.cs ++ [0], putK S.ws (S.cs.length : Int) v, S.ln, S.gn⟩) := by
  unfold SS.putIn
  rw [if_neg (by rw [h]; simp), if_pos hc]
theorem putIn_full {v : V} (h : S.ln = []) (hc : ¬ (S.cs.length : Int) < S.n) : S.putIn v = .error .Full := by
  unfold SS.putIn
  rw [if_neg (by rw [h]; simp), if_neg hc]
theorem left_worn (h : S.rnd = false) : S.left = .int (S.n * S.r - ((S.cs.map (· + 1)).sum - S.ln.length)) := by unfold SS.left; rw [h]; rfl
theorem good_up {n r n' r' : Int} (h : g.good n r) (h1 : n ≤ n') (h2 : r ≤ r') : g.good n' r' := by
  cases g with
  | put w => exact h
  | get d => obtain ⟨k, e, a, b, c, d⟩ := h; exact ⟨k, e, a, by omega, c, by omega⟩
  | change d w => obtain ⟨⟨k, e, a, b, c, d⟩, z⟩ := h; exact ⟨⟨k, e, a, by omega, c, by omega⟩, z⟩
  | drop d => obtain ⟨k, e, a, b, c, d⟩ := h; exact ⟨k, e, a, by omega, c, by omega⟩
theorem inR_up {n r n' r' : Int} {h : Int × Int} (q : InR n r h) (h1 : n ≤ n') (h2 : r ≤ r') : InR n' r' h := by
  obtain ⟨a, b, c, d⟩ := q; exact ⟨a, by omega, c, by omega⟩
theorem tellN (hg : g.good S.n S.r) (h : S.n ≤ n') (nf : (S.tell g).1 ≠ refD .Full) : (S.wN n').tell g = ((S.tell g).1, (S.tell g).2.wN n') := by
  cases g with
  | put w =>
    obtain ⟨i, rfl, i0, i1⟩ := hg
    rw [SS.tell_put i0 i1] at nf ⊢
    rw [SS.tell_put i0 i1]
    by_cases hl : S.ln = []
    · by_cases hc : (S.cs.length : Int) < S.n
      · rw [putIn_new hl hc, putIn_new (S := S.wN n') hl (show (S.cs.length : Int) < n' by omega)]; rfl
      · rw [putIn_full hl hc] at nf; exact absurd rfl nf
    · rw [putIn_ln hl, putIn_ln (S := S.wN n') hl]; rfl
  | get w =>
    obtain ⟨k, rfl, hk⟩ := hg
    rw [SS.tell_get hk, SS.tell_get (S := S.wN n') (inR_up hk h (Int.le_refl _))]
    show (if S.holds k.1 k.2 = true then _ else _) = _
    split <;> rfl
  | change w v =>
    obtain ⟨⟨k, rfl, hk⟩, i, rfl, i0, i1⟩ := hg
    rw [SS.tell_change hk i0 i1, SS.tell_change (S := S.wN n') (inR_up hk h (Int.le_refl _)) i0 i1]
    show (if S.holds k.1 k.2 = true then _ else _) = _
    split <;> rfl
  | drop w =>
    obtain ⟨k, rfl, hk⟩ := hg
    rw [SS.tell_drop hk, SS.tell_drop (S := S.wN n') (inR_up hk h (Int.le_refl _))]
    show (if S.holds k.1 k.2 = true then _ else _) = _
    split
    · unfold SS.dropAt
      dsimp only [SS.wN]
      show (_, if S.cnt k.1 + 1 < S.r then _ else if S.rnd = true then _ else _) = _
      split
      · rfl
      · split <;> rfl
    · rfl
/-- no slot comes to its last count -/
def Early (S : SS) (g : Dg) : Prop := ∀ h, g = .drop (hD h) → S.holds h.1 h.2 = true → h.2 ≠ S.r - 1
noncomputable abbrev lateB (S : SS) (g : Dg) : Bool := @decide (¬ Early S g) (Classical.propDecidable _)
theorem late_f (h : Early S g) : lateB S g = false := @decide_eq_false _ (Classical.propDecidable _) fun z => z h
theorem late_t (h : ¬ Early S g) : lateB S g = true := (@decide_eq_true_iff _ (Classical.propDecidable _)).mpr h
theorem late_iff : lateB S g = true ↔ ¬ Early S g := @decide_eq_true_iff _ (Classical.propDecidable _)
theorem early_lt {h : Int × Int} (ok : S.Ok) (e : Early S (.drop (hD h))) (hh : S.holds h.1 h.2 = true) : S.cnt h.1 + 1 < S.r := by
  have h1 := e h rfl hh
  have hc : S.cnt h.1 = h.2 := (SS.holds_in hh).2
  have rg := ok.rngW (SS.holds_in hh).1
  have hk : h.1.toNat < S.cs.length := by omega
  have : 0 ≤ S.cnt h.1 ∧ S.cnt h.1 < S.r := by
    unfold SS.cnt
    rw [List.getD_eq_getElem?_getD, List.getElem?_eq_getElem hk]
    exact ok.cr _ (List.getElem_mem hk)
  omega
theorem tellR (ok : S.Ok) (hg : g.good S.n S.r) (h : S.r ≤ r') (ea : Early S g) : (S.wR r').tell g = ((S.tell g).1, (S.tell g).2.wR r') := by
  cases g with
  | put w =>
    obtain ⟨i, rfl, i0, i1⟩ := hg
    rw [SS.tell_put i0 i1, SS.tell_put i0 i1]
    by_cases hl : S.ln = []
    · by_cases hc : (S.cs.length : Int) < S.n
      · rw [putIn_new hl hc, putIn_new (S := S.wR r') hl hc]; rfl
      · rw [putIn_full hl hc, putIn_full (S := S.wR r') hl hc]
    · rw [putIn_ln hl, putIn_ln (S := S.wR r') hl]; rfl
  | get w =>
    obtain ⟨k, rfl, hk⟩ := hg
    rw [SS.tell_get hk, SS.tell_get (S := S.wR r') (inR_up hk (Int.le_refl _) h)]
    show (if S.holds k.1 k.2 = true then _ else _) = _
    split <;> rfl
  | change w v =>
    obtain ⟨⟨k, rfl, hk⟩, i, rfl, i0, i1⟩ := hg
    rw [SS.tell_change hk i0 i1, SS.tell_change (S := S.wR r') (inR_up hk (Int.le_refl _) h) i0 i1]
    show (if S.holds k.1 k.2 = true then _ else _) = _
    split <;> rfl
  | drop w =>
    obtain ⟨k, rfl, hk⟩ := hg
    rw [SS.tell_drop hk, SS.tell_drop (S := S.wR r') (inR_up hk (Int.le_refl _) h)]
    show (if S.holds k.1 k.2 = true then _ else _) = _
    by_cases hh : S.holds k.1 k.2 = true
    · have lt := early_lt ok ea hh
      rw [if_pos hh, if_pos hh]
      unfold SS.dropAt
      dsimp only [SS.wR, SS.wB]
      rw [if_pos lt]
      show (_, if S.cnt k.1 + 1 < r' then _ else _) = _
      rw [if_pos (show S.cnt k.1 + 1 < r' by omega)]; rfl
    · rw [if_neg hh, if_neg hh]
theorem tellB (ok : S.Ok) (hg : g.good S.n S.r) (ea : Early S g) : (S.wB b).tell g = ((S.tell g).1, (S.tell g).2.wB b) := by
  cases g with
  | put w =>
    obtain ⟨i, rfl, i0, i1⟩ := hg
    rw [SS.tell_put i0 i1, SS.tell_put i0 i1]
    by_cases hl : S.ln = []
    · by_cases hc : (S.cs.length : Int) < S.n
      · rw [putIn_new hl hc, putIn_new (S := S.wB b) hl hc]; rfl
      · rw [putIn_full hl hc, putIn_full (S := S.wB b) hl hc]
    · rw [putIn_ln hl, putIn_ln (S := S.wB b) hl]; rfl
  | get w =>
    obtain ⟨k, rfl, hk⟩ := hg
    rw [SS.tell_get hk, SS.tell_get (S := S.wB b) hk]
    show (if S.holds k.1 k.2 = true then _ else _) = _
    split <;> rfl
  | change w v =>
    obtain ⟨⟨k, rfl, hk⟩, i, rfl, i0, i1⟩ := hg
    rw [SS.tell_change hk i0 i1, SS.tell_change (S := S.wB b) hk i0 i1]
    show (if S.holds k.1 k.2 = true then _ else _) = _
    split <;> rfl
  | drop w =>
    obtain ⟨k, rfl, hk⟩ := hg
    rw [SS.tell_drop hk, SS.tell_drop (S := S.wB b) hk]
    show (if S.holds k.1 k.2 = true then _ else _) = _
    by_cases hh : S.holds k.1 k.2 = true
    · have lt := early_lt ok ea hh
      rw [if_pos hh, if_pos hh]
      unfold SS.dropAt
      dsimp only [SS.wR, SS.wB]
      rw [if_pos lt]
      show (_, if S.cnt k.1 + 1 < S.r then _ else _) = _
      rw [if_pos lt]; rfl
    · rw [if_neg hh, if_neg hh]
theorem tell_full (wi : S.Wi) (ok : S.Ok) (hg : g.good S.n S.r) (h : (S.tell g).1 = refD .Full) : (∃ i, g = .put (.int i) ∧ 0 ≤ i ∧ i ≤ 9999) ∧ S.ln = [] ∧ (S.cs.length : Int) = S.n := by
  have hw : ∀ {k : Int × Int}, S.holds k.1 k.2 = true → InR S.n S.r k → S.wth k.1 ≠ refD .Full := fun {k} hh hr z => by
    obtain ⟨i, hi⟩ := wi.at (d := hD k) (s := k.1) (c := k.2) (by rw [SS.at_hD hr, if_pos hh])
    rw [SS.wth_of hi] at z
    exact int_ne_ref z
  cases g with
  | put w =>
    obtain ⟨i, rfl, i0, i1⟩ := hg
    rw [SS.tell_put i0 i1] at h
    refine ⟨⟨i, rfl, i0, i1⟩, ?_⟩
    cases e : S.putIn (.int i) with
    | ok p => rw [e] at h; exact absurd h hD_ne_ref
    | error er =>
      obtain ⟨_, a, b⟩ := SS.put_err e
      have := ok.len
      exact ⟨a, by omega⟩
  | get w =>
    obtain ⟨k, rfl, hk⟩ := hg
    rw [SS.tell_get hk] at h
    split at h
    · exact absurd h (hw (by assumption) hk)
    · exact absurd h (refD_ne (by decide))
  | change w v =>
    obtain ⟨⟨k, rfl, hk⟩, i, rfl, i0, i1⟩ := hg
    rw [SS.tell_change hk i0 i1] at h
    split at h
    · exact absurd h (hw (by assumption) hk)
    · exact absurd h (refD_ne (by decide))
  | drop w =>
    obtain ⟨k, rfl, hk⟩ := hg
    rw [SS.tell_drop hk] at h
    split at h
    · exact absurd h (hw (by assumption) hk)
    · exact absurd h (refD_ne (by decide))
theorem fullN (wi : S.Wi) (ok : S.Ok) (hg : g.good S.n S.r) (h : (S.tell g).1 = refD .Full) (hn : S.n < n') : ((S.wN n').tell g).1 ≠ refD .Full := by
  obtain ⟨⟨i, rfl, i0, i1⟩, a, b⟩ := tell_full wi ok hg h
  rw [SS.tell_put i0 i1]
  rw [putIn_new (S := S.wN n') a (show (S.cs.length : Int) < n' by omega)]
  exact hD_ne_ref
theorem tell_new {w : PyData} (ok : S.Ok) (hg : (Dg.put w).good S.n S.r) (nf : (S.tell (.put w)).1 ≠ refD .Full) : ∃ h, (S.tell (.put w)).1 = hD h ∧ InR S.n S.r h := by
  obtain ⟨i, rfl, i0, i1⟩ := hg
  rw [SS.tell_put i0 i1] at nf ⊢
  cases e : S.putIn (.int i) with
  | ok p => exact ⟨p.1, rfl, SS.put_inR ok e⟩
  | error er =>
    obtain ⟨rfl, _⟩ := SS.put_err e
    rw [e] at nf
    exact absurd rfl nf
theorem okN (ok : S.Ok) (h : S.n ≤ n') (h2 : n' ≤ 60) : (S.wN n').Ok := ⟨by have := ok.n1; show 1 ≤ n'; omega, h2, ok.r1, ok.rk, by have := ok.len; show (S.cs.length : Int) ≤ n'; omega, ok.cr, ok.parts⟩
theorem okR (ok : S.Ok) (h : S.r ≤ r') (h2 : r' ≤ 1000) : (S.wR r').Ok := ⟨ok.n1, ok.n60, by have := ok.r1; show 1 ≤ r'; omega, h2, ok.len, fun c hc => by have := ok.cr c hc; show 0 ≤ c ∧ c < r'; omega, ok.parts⟩
theorem okB (ok : S.Ok) : (S.wB b).Ok := ⟨ok.n1, ok.n60, ok.r1, ok.rk, ok.len, ok.cr, ok.parts⟩
end
end Sh
namespace Sh
open PySem PySem.Spec L2 PyProof.Rows
/-! ### methods of lists -/
section
variable {X : Cx} {C : Cl} {E : EK} {a b c e e2 o : Expr} {es rest : List Expr} {σ : St} {L L' L1 G : As} {Q : LK} {D : DL} {pos p1 p2 p3 apos : Pos} {v x y : V} {i : Int} {n k l j : Nat} {p q : Addr} {xs ys : List V} {d f : PyData} {ds fs : List PyData} {ns : List Int} {r : V → List V → Hp → VK → Prop}
def LR (r : V → List V → Hp → VK → Prop) (p : Addr) (ys : List V) (L : As) (Q : LK) : Prop := ∀ H, Own H L → r (.ref p) ys H (dn Q)
theorem lr_id (h : LR r p ys L Q) : LR r p ys L Q := h
theorem el_lm0 {m : Str} {id : String} (slot : Slot "list" m id) (hty : typeOf (.builtin id) = pure (.type "method_descriptor")) (hm : MtR X id r)
    (q : EL X o σ L fun x L1 => ∃ p, x = .ref p ∧ IsLs X.K L1 p ∧ LR r p [] L1 Q)
    (hbase : attributeBase o m X.env (eval o X.env) = eval o X.env := by rfl) (hline : (apos.endLine == pos.line) = true := by rfl) : EL X (.Call (.Attribute o m apos) [] [] pos) σ L Q :=
  ⟨fun H oo => we_bm0 PySem.F.plainAttrs_list slot hty hm (we_imp (q.run H oo) fun x H1 ⟨L1, o1, p, ex, il, q1⟩ => ex ▸ ⟨.inl ⟨rfl, il H1 o1⟩, q1 H1 o1⟩) hbase hline⟩
theorem el_lm1 {m : Str} {id : String} (slot : Slot "list" m id) (hty : typeOf (.builtin id) = pure (.type "method_descriptor")) (hm : MtR X id r)
    (q : EL X o σ L fun x L1 => ∃ p, x = .ref p ∧ IsLs X.K L1 p ∧ EL X e σ L1 fun y L2 => LR r p [y] L2 Q)
    (hbase : attributeBase o m X.env (eval o X.env) = eval o X.env := by rfl)
    (hfew : ((backTo pos (starEach [e] X.env)).all (fun w => !w.1) && (backToKw pos (keywordEach [] X.env)).all (fun w => w.1.isSome)
      && decide (([e] : List Expr).length + ([] : List Keyword).length + (if ([] : List Keyword).isEmpty then 0 else 1) < 30)) = true := by rfl)
    (hline : (apos.endLine == pos.line) = true := by rfl) (hs : starEach [e] X.env = (false, eval e X.env) :: starEach [] X.env := by rfl) : EL X (.Call (.Attribute o m apos) [e] [] pos) σ L Q :=
  ⟨fun H oo => we_bm PySem.F.plainAttrs_list slot hty hm (we_imp (q.run H oo) fun x H1 ⟨L1, o1, p, ex, il, q1⟩ => ex ▸ ⟨.inl ⟨rfl, il H1 o1⟩,
    wa_cons (we_imp (q1.run H1 o1) fun y H2 ⟨L2, o2, q2⟩ => wa_nil (q2 H2 o2)) hs⟩) hbase hfew hline hs rfl⟩
theorem el_lm2 {m : Str} {id : String} (slot : Slot "list" m id) (hty : typeOf (.builtin id) = pure (.type "method_descriptor")) (hm : MtR X id r)
    (q : EL X o σ L fun x L1 => ∃ p, x = .ref p ∧ IsLs X.K L1 p ∧ EL X e σ L1 fun y L2 => EL X e2 σ L2 fun z L3 => LR r p [y, z] L3 Q)
    (hbase : attributeBase o m X.env (eval o X.env) = eval o X.env := by rfl)
    (hfew : ((backTo pos (starEach [e, e2] X.env)).all (fun w => !w.1) && (backToKw pos (keywordEach [] X.env)).all (fun w => w.1.isSome)
      && decide (([e, e2] : List Expr).length + ([] : List Keyword).length + (if ([] : List Keyword).isEmpty then 0 else 1) < 30)) = true := by rfl)
    (hline : (apos.endLine == pos.line) = true := by rfl) (hs : starEach [e, e2] X.env = (false, eval e X.env) :: starEach [e2] X.env := by rfl) (hs2 : starEach [e2] X.env = (false, eval e2 X.env) :: starEach [] X.env := by rfl)
    (hpl : (backTo pos (starEach [e2] X.env)).any (·.1) = false := by rfl) : EL X (.Call (.Attribute o m apos) [e, e2] [] pos) σ L Q :=
  ⟨fun H oo => we_bm PySem.F.plainAttrs_list slot hty hm (we_imp (q.run H oo) fun x H1 ⟨L1, o1, p, ex, il, q1⟩ => ex ▸ ⟨.inl ⟨rfl, il H1 o1⟩,
    wa_cons (we_imp (q1.run H1 o1) fun y H2 ⟨L2, o2, q2⟩ => wa_cons (we_imp (q2.run H2 o2) fun z H3 ⟨L3, o3, q3⟩ => wa_nil (q3 H3 o3)) hs2) hs⟩) hbase hfew hline hs hpl⟩
/-! remove (ints), insert, clear, pop() -/
theorem first_ix {α : Type} [DecidableEq α] {x : α} : ∀ {l : List α}, x ∈ l → ∃ j, l[j]? = some x ∧ (∀ m : Nat, m < j → l[m]? ≠ some x) ∧ l.erase x = l.eraseIdx j
  | [], h => by cases h
  | y :: l, h => by
    by_cases e : y = x
    · subst e
      exact ⟨0, rfl, fun m hm => by omega, by simp⟩
    · obtain ⟨j, h1, h2, h3⟩ := first_ix ((List.mem_cons.mp h).resolve_left fun z => e z.symm)
      refine ⟨j + 1, h1, fun m hm => ?_, ?_⟩
      · cases m with
        | zero => intro z; exact e (Option.some.inj z)
        | succ m => exact h2 m (by omega)
      · rw [List.erase_cons_tail (by simpa using e), List.eraseIdx_cons_succ, h3]
theorem rem_li (r1 : Rp (pt p (.lst (iv ns))) (pt p (.lst (iv (ns.erase i)))) L L') (h : i ∈ ns) (q : Q .non L') : LR rRemI p [.int i] L Q := fun H o => by
  obtain ⟨j, h1, h2, h3⟩ := first_ix h
  refine ⟨p, ns, i, j, rfl, rfl, o.pt r1.mem, h1, h2, L', ?_, q⟩
  rw [h3] at r1
  exact o.wr r1 ntL
theorem pop_li (r1 : Rp (pt p (.lst (iv ns))) (pt p (.lst (iv (ns.eraseIdx k)))) L L') (h : k < ns.length) (h2 : k < 10000000) (q : Q (.int (ns.getD k 0)) L') : PopL p (.int (k : Int)) L Q := fun H o =>
  ⟨(k : Int), iv ns, k, .int (ns.getD k 0), rfl, o.pt r1.mem, by omega, by omega, by rw [iv_len]; exact seqIx h, iv_get h, fun H3 e => ⟨L', by rw [e, iv_erase]; exact o.wr r1 ntL, q⟩⟩
theorem clr_ld (r1 : Rp (ld p ds) (ld p []) L L') (q : Q .non L') : LR rClear p [] L Q := fun H o => by
  obtain ⟨vs, e1, e2, w⟩ := upd_ld o r1
  exact ⟨p, vs, rfl, rfl, e1, L', w [] .nil, q⟩
theorem pop0_ld (r1 : Rp (ld p (ds ++ [d])) (ld p ds) L L') (q : ∀ v, Q v (dt v d :: L')) : LR rPop p [] L Q := fun H o => by
  obtain ⟨vs, e1, e2, w⟩ := upd_ld o r1
  have el := DtAll.len e2
  rw [List.length_append, List.length_singleton] at el
  obtain ⟨v, h1, h2⟩ := e2.get' (j := ds.length) (d := d) (by simp)
  have hl : vs.length - 1 = ds.length := by omega
  refine ⟨p, vs, v, rfl, rfl, e1, by rw [hl]; exact h1, _, (w vs.dropLast ?_).addD (h2.mono ?_), q v⟩
  · have := e2.take ds.length
    rw [List.take_left', List.dropLast_eq_take, hl] at *
    · exact this
    · rfl
  · intro b ys hb
    have ne : b ≠ p := fun z => by rw [z, e1] at hb; cases hb
    rw [upd_ne ne]; exact hb
/-! stores into lists -/
/-- xs[i] = w -/
theorem sl_lset (q : EL X e σ L fun w L1 => EL X a σ L1 fun x L2 => EL X b σ L2 fun y L3 => ∀ H, Own H L3 → rSetL x y w H fun H4 => ∃ L4, Own H4 L4 ∧ D.nx σ L4)
    (hs : swapsWithSole [.Subscript a b p1] e pos.line X.env = pure false := by rfl) (hw : swappedStores [.Subscript a b p1] e X.env = pure none := by rfl)
    (ha : ∀ w, assign (.Subscript a b p1) X.env w = (do
      let rv ← holding [w] (eval a X.env)
      let jv ← holding [w, rv] (eval b X.env)
      standAt p1
      holding [w, rv, jv] (setItem rv jv w)
      release [w, rv, jv] []) := by intro _; rfl) : SL X (.Assign [.Subscript a b p1] e pos) D σ L :=
  ⟨fun H o => ws_lset (we_imp (q.run H o) fun w H1 ⟨_, o1, q1⟩ => we_imp (q1.run H1 o1) fun x H2 ⟨_, o2, q2⟩ => we_imp (q2.run H2 o2) fun y H3 ⟨_, o3, q3⟩ => q3 H3 o3) hs hw ha⟩
theorem set_li {R : As → Prop} {w : Int} (r1 : Rp (pt p (.lst (iv ns))) (pt p (.lst (iv (ns.set k w)))) L L') (h : k < ns.length) (q : R L') : ∀ H, Own H L → rSetL (.ref p) (.int (k : Int)) (.int w) H fun H4 => ∃ L4, Own H4 L4 ∧ R L4 := fun H o =>
  ⟨p, iv ns, (k : Int), k, rfl, rfl, o.pt r1.mem, by rw [ixN_of (by rw [iv_len]; omega)]; rfl, L', by rw [iv_set]; exact o.wr r1 ntL, q⟩
theorem set_ld {R : As → Prop} (r1 : Rp (ld p ds) (ld p (ds.set k d)) L L') (hd : Dsi L v d) (h : k < ds.length) (q : R L') : ∀ H, Own H L → rSetL (.ref p) (.int (k : Int)) v H fun H4 => ∃ L4, Own H4 L4 ∧ R L4 := fun H o => by
  obtain ⟨vs, e1, e2, w⟩ := upd_ld o r1
  have el := DtAll.len e2
  exact ⟨p, vs, (k : Int), k, rfl, rfl, e1, by rw [ixN_of (by omega)]; rfl, L', w _ (DtAll.set (hd H H o.s) k e2), q⟩
/-- d[k] = w -/
theorem sl_dset (hu : X.A.units + 1 < cLine) (q : EL X e σ L fun w L1 => EL X a σ L1 fun x L2 => EL X b σ L2 fun y L3 => ∀ H, Own H L3 → ∃ d H4, x = .ref d ∧ DPut H d y w H4 ∧ ∃ L4, Own H4 L4 ∧ D.nx σ L4)
    (hs : swapsWith e (some (.Subscript a b p1)) pos.line X.env = pure false := by rfl) : SL X (.Assign [.Subscript a b p1] e pos) D σ L :=
  ⟨fun H o => ws_dput hu (we_imp (q.run H o) fun w H1 ⟨_, o1, q1⟩ => we_imp (q1.run H1 o1) fun x H2 ⟨_, o2, q2⟩ => we_imp (q2.run H2 o2) fun y H3 ⟨_, o3, q3⟩ => q3 H3 o3) hs⟩
theorem set_liZ {R : As → Prop} {w s : Int} (r1 : Rp (pt p (.lst (iv ns))) (pt p (.lst (iv (ns.set s.toNat w)))) L L') (h0 : 0 ≤ s) (h : s < ns.length) (q : R L') : ∀ H, Own H L → rSetL (.ref p) (.int s) (.int w) H fun H4 => ∃ L4, Own H4 L4 ∧ R L4 := by
  obtain ⟨k, rfl⟩ : ∃ k : Nat, s = k := ⟨s.toNat, by omega⟩
  exact set_li r1 (by omega) q
theorem set_ldZ {R : As → Prop} {s : Int} (r1 : Rp (ld p ds) (ld p (ds.set s.toNat d)) L L') (hd : Dsi L v d) (h0 : 0 ≤ s) (h : s < ds.length) (q : R L') : ∀ H, Own H L → rSetL (.ref p) (.int s) v H fun H4 => ∃ L4, Own H4 L4 ∧ R L4 := by
  obtain ⟨k, rfl⟩ : ∃ k : Nat, s = k := ⟨s.toNat, by omega⟩
  exact set_ld r1 hd (by omega) q
theorem xl_liZ {s : Int} (m : pt p (.lst (iv ns)) ∈ L) (h0 : 0 ≤ s) (h : s < ns.length) (q : Q (.int (ns.getD s.toNat 0)) L) : XL X (.ref p) (.int s) L Q := by
  obtain ⟨k, rfl⟩ : ∃ k : Nat, s = k := ⟨s.toNat, by omega⟩
  exact xl_L m (atI_nat (iv_get (by omega))) q
theorem xl_ldZ {s : Int} (m : ld p ds ∈ L) (h0 : 0 ≤ s) (h : ds[s.toNat]? = some d) (q : ∀ v, Q v (dt v d :: L)) : XL X (.ref p) (.int s) L Q := by
  obtain ⟨k, rfl⟩ : ∃ k : Nat, s = k := ⟨s.toNat, by omega⟩
  refine xl_ld m ?_ q
  rw [Int.toNat_natCast] at h
  have hk := (List.getElem?_eq_some_iff.mp h).1
  unfold atI
  rw [ixN_of (by omega), Int.toNat_natCast]
  exact h
end
end Sh
namespace Sh
open PySem PySem.Spec L2 PyProof.Rows
/-! ### dicts whose keys are handles -/
abbrev HK := List ((Int × Int) × V)
def kk (h : Int × Int) : List Key := [.inl h.1, .inl h.2]
def kt (kvs : HK) : List (List Key × V) := kvs.map fun e => (kk e.1, e.2)
theorem kk_inj {a b : Int × Int} : kk a = kk b ↔ a = b := by
  unfold kk
  constructor
  · intro h
    injection h with h1 h2
    injection h2 with h2
    injection h1 with h1
    injection h2 with h2
    exact Prod.ext h1 h2
  · exact fun h => by rw [h]
section
variable {kvs : HK} {h : Int × Int} {v : V}
theorem kt_val : valV (kt kvs) (kk h) = valV kvs h := by
  unfold valV kt
  rw [List.find?_map, Option.map_map]
  have : ((fun kv : List Key × V => decide (kv.1 = kk h)) ∘ fun e : (Int × Int) × V => (kk e.1, e.2)) = fun e => decide (e.1 = h) := by
    funext e
    exact decide_eq_decide.mpr kk_inj
  rw [this]; rfl
theorem kt_drop : dropK (kt kvs) (kk h) = kt (dropK kvs h) := by
  unfold dropK kt
  rw [List.filter_map]
  congr 2
  funext e
  exact decide_eq_decide.mpr (not_congr kk_inj)
theorem kt_any : ((kt kvs).any fun kv => decide (kv.1 = kk h)) = kvs.any fun kv => decide (kv.1 = h) := by
  unfold kt
  rw [List.any_map]
  congr 1
  funext e
  exact decide_eq_decide.mpr kk_inj
theorem kt_put : putK (kt kvs) (kk h) v = kt (putK kvs h v) := by
  unfold putK
  rw [kt_any]
  split
  · unfold kt
    rw [List.map_map, List.map_map]
    congr 1
    funext e
    show (if kk e.1 = kk h then (kk e.1, v) else (kk e.1, e.2)) = (kk (if e.1 = h then (e.1, v) else e).1, (if e.1 = h then (e.1, v) else e).2)
    by_cases z : e.1 = h
    · rw [if_pos (kk_inj.mpr z), if_pos z]
    · rw [if_neg (fun q => z (kk_inj.mp q)), if_neg z]
  · unfold kt
    rw [List.map_append]; rfl
theorem kt_len : (kt kvs).length = kvs.length := List.length_map _
end
/-- what a handle is in the heap -/
theorem dt_h {T : Hp} {v : V} {h : Int × Int} (q : Dt T v (hD h)) : ∃ b, v = .ref b ∧ T b = some (.tup ((kk h).map kV)) := by
  unfold hD at q
  cases q with
  | tup e a =>
    cases a with
    | cons a1 a =>
      cases a with
      | cons a2 a =>
        cases a
        cases a1
        cases a2
        exact ⟨_, rfl, e⟩
section
variable {X : Cx} {C : Cl} {E : EK} {a b c e o : Expr} {es rest : List Expr} {σ : St} {L L' L1 G : As} {Q : LK} {D : DL} {pos p1 p2 apos : Pos} {v x y w : V} {n k l j : Nat} {p q : Addr} {xs : List V} {d : PyData} {ds : List PyData} {kvs : HK} {h : Int × Int}
theorem Own.hget {H : Hp} (oo : Own H L) (m : Sh.pt p (.dT (kt kvs)) ∈ L) (hd : Dsi L y (hD h)) : DGet H p y (valV kvs h) := by
  obtain ⟨b, rfl, hb⟩ := dt_h (hd H H oo.s)
  rw [← kt_val]
  exact DGet.t (oo.pt m) hb
theorem xl_hd (hu : X.A.units + 1 < cLine) (m : pt p (.dT (kt kvs)) ∈ L) (hd : Dsi L y (hD h)) (hv : valV kvs h = some v) (q : Q v L) : XL X (.ref p) y L Q := ⟨fun H o => ws_dict hu (by rw [← hv]; exact o.hget m hd) ⟨L, o, q⟩⟩
theorem ol_inH (hu : X.A.units + 1 < cLine) (m : pt p (.dT (kt kvs)) ∈ L) (hd : Dsi L y (hD h)) (q : Q (.bl (valV kvs h).isSome) L) : OL X (compareOp .In) y (.ref p) L Q := ⟨fun H o => wop_in hu (o.hget m hd) ⟨L, o, q⟩⟩
theorem ol_ninH (hu : X.A.units + 1 < cLine) (m : pt p (.dT (kt kvs)) ∈ L) (hd : Dsi L y (hD h)) (q : Q (.bl (!(valV kvs h).isSome)) L) : OL X (compareOp .NotIn) y (.ref p) L Q := ⟨fun H o => wop_nin hu (o.hget m hd) ⟨L, o, q⟩⟩
/-- d[y] = w -/
def DPL (x y w : V) (L : As) (R : As → Prop) : Prop := ∀ H, Own H L → ∃ d H4, x = .ref d ∧ DPut H d y w H4 ∧ ∃ L4, Own H4 L4 ∧ R L4
theorem dput_h {R : As → Prop} (r : Rp (pt p (.dT (kt kvs))) (pt p (.dT (kt (putK kvs h w)))) L L') (hd : Dsi L y (hD h)) (hl : kvs.length < 10000000) (q : R L') : DPL (.ref p) y w L R := fun H o => by
  obtain ⟨b, rfl, hb⟩ := dt_h (hd H H o.s)
  rw [← kt_put] at r
  exact ⟨p, _, rfl, DPut.t (o.pt r.mem) hb (szl (by rw [kt_len]; exact hl)), L', o.wr r ntT, q⟩
theorem dput_i {R : As → Prop} {ws : List (Int × V)} {i : Int} (r : Rp (pt p (.dK (kw ws))) (pt p (.dK (kw (putK ws i w)))) L L') (hl : ws.length < 10000000) (q : R L') : DPL (.ref p) (.int i) w L R := fun H o => by
  rw [← putK_kw] at r
  exact ⟨p, _, rfl, DPut.k (k := .inl i) (o.pt r.mem) (szl (by rw [kw_len]; exact hl)), L', o.wr r ntK, q⟩
theorem dput_s {R : As → Prop} {kvs : List (Key × V)} {z : Str} (r : Rp (pt p (.dK kvs)) (pt p (.dK (putK kvs (.inr z) w))) L L') (hl : kvs.length < 10000000) (q : R L') : DPL (.ref p) (.str z) w L R := fun H o =>
  ⟨p, _, rfl, DPut.k (k := .inr z) (o.pt r.mem) (szl hl), L', o.wr r ntK, q⟩
theorem sl_dput (hu : X.A.units + 1 < cLine) (q : EL X e σ L fun w L1 => EL X a σ L1 fun x L2 => EL X b σ L2 fun y L3 => DPL x y w L3 fun L4 => D.nx σ L4)
    (hs : swapsWith e (some (.Subscript a b p1)) pos.line X.env = pure false := by rfl) : SL X (.Assign [.Subscript a b p1] e pos) D σ L := sl_dset hu q hs
theorem cl_lenH (m : pt p (.dT (kt kvs)) ∈ L) (q : Q (.int (kvs.length : Nat)) L) : CL X (.builtin "len") [.ref p] L Q := of_cl call_len_dT fun H o => ⟨p, kt kvs, rfl, o.pt m, by rw [kt_len]; exact ⟨L, o, q⟩⟩
theorem cl_lenK {ws : List (Int × V)} (m : pt p (.dK (kw ws)) ∈ L) (q : Q (.int (ws.length : Nat)) L) : CL X (.builtin "len") [.ref p] L Q := cl_lenD m (by rw [kw_len]; exact q)
theorem keys_dt {H : Hp} : ∀ {kvs : HK} {bs : List Addr}, IsKeys H (kt kvs) bs → DtAll H (bs.map V.ref) ((kvs.map (·.1)).map hD)
  | [], bs, q => by
    cases q
    exact .nil
  | e :: kvs, bs, q => by
    cases q with
    | cons q1 q2 => exact .cons (.tup q1 (.cons (.int _) (.cons (.int _) .nil))) (keys_dt q2)
theorem cl_listH (hc : X.calm = true) (m : pt p (.dT (kt kvs)) ∈ L) (q : ∀ l, Q (.ref l) (ld l ((kvs.map (·.1)).map hD) :: L)) : CL X (.type "list") [.ref p] L Q := of_cl (call_list_dT hc) fun H o =>
  ⟨p, kt kvs, rfl, .inl (o.pt m), fun l bs hn hk => ⟨_, new_ld o hn rfl (keys_dt hk), q l⟩⟩
end
/-! ### d.pop(key), the key a tuple that is there -/
section
variable {prog : Program} {w : World} {κ : Type} [DecidableEq κ] {kd : HeapKind prog w κ}
theorem meetsPop1 {d b : Addr} {k : κ} : MeetsIn prog w (Builtin.«dict.pop» ⟨[.ref d, .ref b], []⟩) (fun A R s => ∃ xs p, kd.room A.in1 ∧ kd.is s.heap k b ∧ s.heap.DictOfH kd d xs ∧ xs.length ≤ sizeLine ∧ atKey xs k = some p ∧
      ∀ h' tk, h'.DictOfH kd d (DT.dropH xs k) → Heap.SameBut d s.heap h' → R (.ok (.ret p.2)) { s with heap := h', toks := tk }) :=
  .of_wp fun A R s ⟨xs, p, hu, hk, hm, hz, hp, hq⟩ => by
    obtain ⟨o, es, ep, ho, hc, hdat, he, his, hn⟩ := id hm
    have hs : es.size = xs.length := size_of_entries he
    have hpt : (keyPart (Value.ref b)).isSome = false := rfl
    unfold Builtin.«dict.pop»
    refine wpAny_bind ?_
    unfold Builtin.Dict.keyAndDefault
    refine wpAny_bind (wpAny_notOrdered_dict hm.typeIs ?_)
    show wpAny _ _ (pure (d, Value.ref b, none)) _ _ s
    refine wpAny_pure ?_
    simp only [hpt, Bool.false_eq_true, if_false]
    refine wpAny_bind (wpAny_dictEntries ho hdat (wpAny_bind (wpAny_pure ?_)))
    have hne : es.isEmpty = false := by
      cases q : es.isEmpty with
      | false => rfl
      | true =>
        have z : es.size = 0 := by simpa using q
        have h0 : xs = [] := List.length_eq_zero_iff.mp (by omega)
        rw [h0] at hp
        cases hp
    rw [hne]
    simp only [Bool.false_eq_true, if_false]
    refine wpAny_bind (DT.takeH hu hk hm hz (fun no => ?_) fun p' e hp' hev h' hm' hs' => ?_)
    · rw [hp] at no; cases no
    · rw [hp] at hp'
      cases hp'
      simp only [Option.isNone_some, Bool.false_eq_true, if_false]
      exact wpAny_bind (wpAny_letGo (wpAny_pure ⟨e.val, rfl, by rw [hev]; exact hq h' _ hm' hs'⟩))
end
section
variable {X : Cx}
def rPop1 : V → List V → Hp → VK → Prop := fun x xs H Q => ∃ (a : Addr) (kvs : List (List Key × V)) (k : List Key) (b : Addr) (v : V), x = .ref a ∧ xs = [.ref b] ∧ H a = some (.dT kvs) ∧ H b = some (.tup (k.map kV)) ∧ valV kvs k = some v ∧ Q v (upd H a (.dT (dropK kvs k)))
theorem mt_pop1 (hu : X.A.units + 1 < cLine) : MtR X "dict.pop" rPop1 := by
  intro pins s σ H x xs v us Q I rx rxs h
  obtain ⟨a, kvs, k, b, v0, rfl, rfl, ha, hb, ev, q1⟩ := h
  cases rx
  obtain ⟨u1, rfl, r1⟩ := rxs.one
  cases r1
  obtain ⟨z, hd, ys, rel, dd⟩ := dt_of I.hok ha
  have hz : ys.length ≤ sizeLine := by have := Paired.length rel; omega
  have r := rel.val k
  rw [ev] at r
  obtain ⟨p, hp, rv⟩ : ∃ p, atKey ys k = some p ∧ RelV v0 p.2 := by
    cases e : atKey ys k with
    | none => rw [e] at r; exact (show False from r).elim
    | some p => rw [e] at r; exact ⟨p, rfl, r⟩
  refine call_meetsIn PySem.F.slot_dict_pop dd.typeIs PySem.F.entry_dict_pop (PySem.F.args_dict_pop_2 _ _) (meetsPop1 (kd := tupleKind (mixKind X.prog X.w)) (k := k)) ⟨ys, p, tupleKind_room_in1 hu, key_of I.hok hb, dd, hz, hp, fun h' tk dd' hs => ?_⟩
  obtain ⟨ob, es, ep, hq, h2, h3, h4, _, h5⟩ := dd'
  have kp : ∀ c zs, H c = some (.tup zs) → upd H a (.dT (dropK kvs k)) c = some (.tup zs) := fun c zs ec => by rw [upd_ne (ne_of ec ha (fun z => nomatch z))]; exact ec
  have I2 : Inv X pins σ (upd H a (.dT (dropK kvs k))) { s with heap := h', toks := tk } :=
    d_write I (by rw [ha]; exact True.intro) hs ⟨ob, hq⟩ ⟨Nat.le_trans (dropK_le kvs k) z, hd, _, (L2.DX.KT_drop k rel).keeps kp, ob, es, ep, hq, h2, h3, h4, h5⟩
  exact ⟨v0, _, I2, rv, q1⟩
end
section
variable {X : Cx} {C : Cl} {E : EK} {a b c e e2 o : Expr} {es rest : List Expr} {σ : St} {L L' L1 G : As} {Q : LK} {D : DL} {pos p1 p2 apos : Pos} {v x y w : V} {n k l j : Nat} {p q : Addr} {xs : List V} {d : PyData} {ds : List PyData} {kvs : HK} {h : Int × Int} {r : V → List V → Hp → VK → Prop}
/-- it is a dict -/
def IsDc (L : As) (p : Addr) : Prop := ∀ H, Own H L → (∃ kvs, H p = some (.dK kvs)) ∨ ∃ kvs, H p = some (.dT kvs)
theorem IsDc.t (m : pt p (.dT (kt kvs)) ∈ L) : IsDc L p := fun H o => .inr ⟨_, o.pt m⟩
theorem IsDc.i {ws : List (Key × V)} (m : pt p (.dK ws) ∈ L) : IsDc L p := fun H o => .inl ⟨_, o.pt m⟩
theorem isdc_id {φ : Prop} (z : IsDc L p ∧ φ) : IsDc L p ∧ φ := z
theorem el_dm1 {m : Str} {id : String} (slot : Slot "dict" m id) (hty : typeOf (.builtin id) = pure (.type "method_descriptor")) (hm : MtR X id r)
    (q : EL X o σ L fun x L1 => ∃ p, x = .ref p ∧ IsDc L1 p ∧ EL X e σ L1 fun y L2 => LR r p [y] L2 Q)
    (hbase : attributeBase o m X.env (eval o X.env) = eval o X.env := by rfl)
    (hfew : ((backTo pos (starEach [e] X.env)).all (fun w => !w.1) && (backToKw pos (keywordEach [] X.env)).all (fun w => w.1.isSome)
      && decide (([e] : List Expr).length + ([] : List Keyword).length + (if ([] : List Keyword).isEmpty then 0 else 1) < 30)) = true := by rfl)
    (hline : (apos.endLine == pos.line) = true := by rfl) (hs : starEach [e] X.env = (false, eval e X.env) :: starEach [] X.env := by rfl) : EL X (.Call (.Attribute o m apos) [e] [] pos) σ L Q :=
  ⟨fun H oo => we_bm PySem.F.plainAttrs_dict slot hty hm (we_imp (q.run H oo) fun x H1 ⟨L1, o1, p, ex, il, q1⟩ => ex ▸ ⟨.inr (.inr (.inl ⟨rfl, il H1 o1⟩)),
    wa_cons (we_imp (q1.run H1 o1) fun y H2 ⟨L2, o2, q2⟩ => wa_nil (q2 H2 o2)) hs⟩) hbase hfew hline hs rfl⟩
theorem pop_h (r1 : Rp (pt p (.dT (kt kvs))) (pt p (.dT (kt (dropK kvs h)))) L L') (hd : Dsi L y (hD h)) (hv : valV kvs h = some v) (q : Q v L') : LR rPop1 p [y] L Q := fun H o => by
  obtain ⟨b, rfl, hb⟩ := dt_h (hd H H o.s)
  rw [← kt_drop] at r1
  exact ⟨p, kt kvs, kk h, b, v, rfl, rfl, o.pt r1.mem, hb, by rw [kt_val]; exact hv, L', o.wr r1 ntT, q⟩
/-! ### a dict that is written out -/
def DisL (X : Cx) : List (Option Expr) → List Expr → St → As → (List (V × V) → As → Prop) → Prop
  | some k :: ks, v :: vs, σ, L, QP => EL X k σ L fun x L1 => EL X v σ L1 fun y L2 => DisL X ks vs σ L2 fun ps L3 => QP ((x, y) :: ps) L3
  | [], [], _, L, QP => QP [] L
  | _, _, _, _, _ => False
theorem dis_cons {k v : Expr} {ks : List (Option Expr)} {vs : List Expr} {QP : List (V × V) → As → Prop} (q : EL X k σ L fun x L1 => EL X v σ L1 fun y L2 => DisL X ks vs σ L2 fun ps L3 => QP ((x, y) :: ps) L3) : DisL X (some k :: ks) (v :: vs) σ L QP := q
theorem dis_nil {QP : List (V × V) → As → Prop} (q : QP [] L) : DisL X [] [] σ L QP := q
theorem dis_id {ks : List (Option Expr)} {vs : List Expr} {QP : List (V × V) → As → Prop} (q : DisL X ks vs σ L QP) : DisL X ks vs σ L QP := q
def trsOf (X : Cx) : List (Option Expr) → List Expr → List (TE × TE)
  | some k :: ks, v :: vs => (We X k, We X v) :: trsOf X ks vs
  | _, _ => []
theorem trs_pps : ∀ (ks : List (Option Expr)) (vs : List Expr), ks.all (·.isSome) = true → ks.length = vs.length → PPs X pos ks vs (trsOf X ks vs)
  | [], [], _, _ => pps_nil
  | some k :: ks, v :: vs, h1, h2 => pps_cons We.pe We.pe (trs_pps ks vs (by simpa using h1) (by simpa using h2))
  | none :: ks, _, h1, _ => by simp at h1
theorem dis_run : ∀ (ks : List (Option Expr)) (vs : List Expr) (L : As) (QP : List (V × V) → As → Prop) (QH : List (V × V) → Hp → Prop) (H : Hp), (∀ ps H' L', Own H' L' → QP ps L' → QH ps H') → Own H L → DisL X ks vs σ L QP → tPairs (trsOf X ks vs) σ H QH
  | [], [], L, QP, QH, H, hi, o, q => hi _ _ _ o q
  | some k :: ks, v :: vs, L, QP, QH, H, hi, o, q => we_imp (EL.run q H o) fun x H1 ⟨L1, o1, q1⟩ => we_imp (EL.run q1 H1 o1) fun y H2 ⟨L2, o2, q2⟩ =>
    dis_run ks vs L2 _ _ H2 (fun ps H' L' o' z => hi _ _ _ o' z) o2 q2
  | none :: _, _, _, _, _, _, _, _, q => False.elim q
  | some _ :: _, [], _, _, _, _, _, _, q => False.elim q
  | [], _ :: _, _, _, _, _, _, _, q => False.elim q
theorem el_disp {ks : List (Option Expr)} {vs : List Expr} (h1 : ks.all (·.isSome) = true) (h2 : ks.length = vs.length) (h3 : ks ≠ []) (h4 : ks.length ≤ 15)
    (q : ∀ p, DisL X ks vs σ (pt p (.dK []) :: L) fun ps L2 => ∃ kvs L3, ps = kvs.map (fun kv => (kV kv.1, kv.2)) ∧ kvs.length ≤ 15 ∧ Rp (pt p (.dK [])) (pt p (.dK (mergeK [] kvs))) L2 L3 ∧ Q (.ref p) L3) : EL X (.Dict ks vs pos) σ L Q :=
  ⟨fun H o => of_pe (pe_disp (trs_pps ks vs h1 h2) h1 h2 h3 h4) fun p hp => dis_run ks vs _ _ _ _ (fun ps H' L' o' ⟨kvs, L3, e1, e2, r, z⟩ => ⟨o'.pt r.mem, kvs, e1, e2, L3, o'.wr r ntK, z⟩) (o.new hp) (q p)⟩
end
end Sh
namespace Sh
open PySem PySem.Spec L2 PyProof.Rows
/-! ### a law's own model of a store -/
section
variable {S S' : SS} {h k : Int × Int} {v w : V} {s : Int}
def liveD (S : SS) : HK := S.ws.map fun p => ((p.1, S.cnt p.1), p.2)
theorem liveD_keys : (liveD S).map (·.1) = S.lvU := by unfold liveD SS.lvU; rw [List.map_map]; rfl
theorem liveD_len : (liveD S).length = S.ws.length := List.length_map _
theorem valV_kn : ∀ {kvs : HK}, valV kvs h = none ↔ h ∉ kvs.map (·.1)
  | [] => by simp [valV]
  | e :: kvs => by
    unfold valV
    rw [List.find?_cons]
    by_cases z : e.1 = h
    · rw [decide_eq_true z]; simp [z]
    · rw [decide_eq_false z]
      have := valV_kn (kvs := kvs)
      unfold valV at this
      rw [List.map_cons, List.mem_cons]
      dsimp only
      rw [this]
      constructor
      · intro q r
        rcases r with r | r
        · exact z r.symm
        · exact q r
      · exact fun q r => q (.inr r)
theorem find_map_key (ws : List (Int × V)) (f : Int → Int) (h : Int × Int) (e : f h.1 = h.2) : valV (ws.map fun p => ((p.1, f p.1), p.2)) h = valV ws h.1 := by
  unfold valV
  rw [List.find?_map, Option.map_map]
  have : ((fun kv : (Int × Int) × V => decide (kv.1 = h)) ∘ fun p : Int × V => ((p.1, f p.1), p.2)) = fun p => decide (p.1 = h.1) := by
    funext p
    refine decide_eq_decide.mpr ⟨fun z => ?_, fun z => ?_⟩
    · show p.1 = h.1
      rw [← z]
    · show (p.1, f p.1) = h
      rw [z, e]
  rw [this]; rfl
theorem liveD_val (hh : S.holds h.1 h.2 = true) : valV (liveD S) h = valV S.ws h.1 := find_map_key _ _ _ (SS.holds_in hh).2
theorem liveD_no (hh : S.holds h.1 h.2 = false) : valV (liveD S) h = none := by
  rw [valV_kn, liveD_keys, mem_lvU, hh]
  exact Bool.false_ne_true
theorem liveD_isSome : (valV (liveD S) h).isSome = S.holds h.1 h.2 := by
  cases e : S.holds h.1 h.2 with
  | true =>
    rw [liveD_val e]
    exact (valV_mem _ _).mpr (SS.holds_in e).1
  | false => rw [liveD_no e]; rfl
theorem liveD_put (ok : S.Ok) (e : S.putIn v = .ok (h, S')) : liveD S' = putK (liveD S) h v := by
  obtain ⟨e1, e2⟩ := put_ws ok e
  obtain ⟨e3, e4⟩ := put_cnt ok e
  have hn : valV (liveD S) h = none := by
    rw [valV_kn, liveD_keys]
    intro z
    exact e2 (SS.holds_in (mem_lvU.mp z)).1
  rw [putK_new v hn]
  unfold liveD
  rw [e1, List.map_append, List.map_cons, List.map_nil]
  dsimp only
  rw [e3]
  refine congrArg (· ++ [(h, v)]) ?_
  refine List.map_congr_left fun p hp => ?_
  have := ok.rngW (List.mem_map_of_mem hp)
  rw [e4 _ this.1 this.2]
theorem liveD_drop (ok : S.Ok) (hh : S.holds h.1 h.2 = true) : liveD (S.dropAt h.1) = dropK (liveD S) h := by
  obtain ⟨hs, hc⟩ := SS.holds_in hh
  have r0 := ok.rngW hs
  unfold liveD
  rw [drop_ws]
  unfold dropK
  rw [List.filter_map]
  have : ((fun kv : (Int × Int) × V => decide (kv.1 ≠ h)) ∘ fun p : Int × V => ((p.1, S.cnt p.1), p.2)) = fun p => decide (p.1 ≠ h.1) := by
    funext p
    refine decide_eq_decide.mpr (not_congr ⟨fun z => ?_, fun z => ?_⟩)
    · show p.1 = h.1
      rw [← z]
    · show (p.1, S.cnt p.1) = h
      rw [z, hc]
  rw [this]
  refine List.map_congr_left fun p hp => ?_
  obtain ⟨hp1, hp2⟩ := List.mem_filter.mp hp
  have r1 := ok.rngW (List.mem_map_of_mem hp1)
  have hp2 : p.1 ≠ h.1 := by simpa using hp2
  rw [drop_cnt r1.1 r0.1 hp2]
theorem liveD_chg (hh : S.holds h.1 h.2 = true) : liveD (S.chg h.1 v) = putK (liveD S) h v := by
  obtain ⟨hs, hc⟩ := SS.holds_in hh
  have a1 : ((liveD S).any fun kv => decide (kv.1 = h)) = true := by
    rw [List.any_eq_true]
    have hm : h ∈ (liveD S).map (·.1) := by rw [liveD_keys]; exact mem_lvU.mpr hh
    obtain ⟨e, he, rfl⟩ := List.mem_map.mp hm
    exact ⟨e, he, by simp⟩
  have a2 : (S.ws.any fun kv => decide (kv.1 = h.1)) = true := by
    rw [List.any_eq_true]
    obtain ⟨e, he, z⟩ := List.mem_map.mp hs
    exact ⟨e, he, by simpa using z⟩
  unfold putK
  rw [if_pos a1]
  unfold liveD
  rw [show (S.chg h.1 v).ws = putK S.ws h.1 v from rfl]
  unfold putK
  rw [if_pos a2, List.map_map, List.map_map]
  refine List.map_congr_left fun p hp => ?_
  have cc : ∀ x, (S.chg h.1 v).cnt x = S.cnt x := fun _ => rfl
  dsimp only [Function.comp]
  by_cases z : p.1 = h.1
  · rw [if_pos z, if_pos (show (p.1, S.cnt p.1) = h by rw [z, hc])]; rfl
  · rw [if_neg z, if_neg (fun q => z (by rw [← q]))]; rfl
end
structure MdAd where
  (s c l g v : Addr)
def mdK (q : MdAd) : List (Key × V) := [(.inr "settings", .ref q.s), (.inr "counts", .ref q.c), (.inr "line", .ref q.l), (.inr "gone", .ref q.g), (.inr "live", .ref q.v)]
theorem md1 (q : MdAd) : valV (mdK q) (.inr "settings" : Key) = some (.ref q.s) := rfl
theorem md2 (q : MdAd) : valV (mdK q) (.inr "counts" : Key) = some (.ref q.c) := rfl
theorem md3 (q : MdAd) : valV (mdK q) (.inr "line" : Key) = some (.ref q.l) := rfl
theorem md4 (q : MdAd) : valV (mdK q) (.inr "gone" : Key) = some (.ref q.g) := rfl
theorem md5 (q : MdAd) : valV (mdK q) (.inr "live" : Key) = some (.ref q.v) := rfl
theorem mdM (q : MdAd) : mergeK [] (mdK q) = mdK q := rfl
def mdCells (m : Addr) (S : SS) (q : MdAd) : List Asn := [pt m (.dK (mdK q)), pt q.c (.lst (iv S.cs)), pt q.l (.lst (iv S.ln)), pt q.g (.lst (iv S.gn)), pt q.v (.dT (kt (liveD S))), tp q.s S.sets]
def MdAt (m : Addr) (S : SS) : Asn := ex fun q => cj (mdCells m S q)
section
variable {X : Cx} {C : Cl} {E : EK} {e : Expr} {σ : St} {L L' L1 L2 L3 L4 L5 G : As} {Q : LK} {D : DL} {m : Addr} {S : SS}
theorem BL.openM {st : List Stmt} (r : Rm (MdAt m S) L L1) (q : ∀ q : MdAd, BL X st D σ (pt m (.dK (mdK q)) :: pt q.c (.lst (iv S.cs)) :: pt q.l (.lst (iv S.ln)) :: pt q.g (.lst (iv S.gn)) :: pt q.v (.dT (kt (liveD S))) :: tp q.s S.sets :: L1)) : BL X st D σ L :=
  ⟨fun H o => by
    obtain ⟨w, o1⟩ := Own.exI (o.front r)
    exact (q w).run H (Own.cjI (L1 := mdCells m S w) o1)⟩
theorem imp_mdC (q : MdAd) : Imp (pt m (.dK (mdK q)) :: pt q.c (.lst (iv S.cs)) :: pt q.l (.lst (iv S.ln)) :: pt q.g (.lst (iv S.gn)) :: pt q.v (.dT (kt (liveD S))) :: tp q.s S.sets :: L) (MdAt m S :: L) := fun T h s => by
  obtain ⟨h1, h2, d, l1, l2, a, s⟩ := SLs.cjE (L1 := mdCells m S q) s
  exact ⟨h1, h2, d, l1, l2, ⟨q, a⟩, s⟩
theorem imp_md (q : MdAd) (r1 : Rm (pt m (.dK (mdK q))) L L1) (r2 : Rm (pt q.c (.lst (iv S.cs))) L1 L2) (r3 : Rm (pt q.l (.lst (iv S.ln))) L2 L3) (r4 : Rm (pt q.g (.lst (iv S.gn))) L3 L4) (r5 : Rm (pt q.v (.dT (kt (liveD S)))) L4 L5) (mm : tp q.s S.sets ∈ L5)
    (k : Imp L5 G) : Imp L (MdAt m S :: G) := (imp_cons r1 (imp_cons r2 (imp_cons r3 (imp_cons r4 (imp_cons r5 (imp_tp mm k)))))).trans (imp_mdC q)
variable {p : Addr} {w : MdAd}
theorem xl_m1 (hu : X.A.units + 1 < cLine) (m : pt p (.dK (mdK w)) ∈ L) (q : Q (.ref w.s) L) : XL X (.ref p) (.str "settings") L Q := xl_Ds hu m (md1 w) q
theorem xl_m2 (hu : X.A.units + 1 < cLine) (m : pt p (.dK (mdK w)) ∈ L) (q : Q (.ref w.c) L) : XL X (.ref p) (.str "counts") L Q := xl_Ds hu m (md2 w) q
theorem xl_m3 (hu : X.A.units + 1 < cLine) (m : pt p (.dK (mdK w)) ∈ L) (q : Q (.ref w.l) L) : XL X (.ref p) (.str "line") L Q := xl_Ds hu m (md3 w) q
theorem xl_m4 (hu : X.A.units + 1 < cLine) (m : pt p (.dK (mdK w)) ∈ L) (q : Q (.ref w.g) L) : XL X (.ref p) (.str "gone") L Q := xl_Ds hu m (md4 w) q
theorem xl_m5 (hu : X.A.units + 1 < cLine) (m : pt p (.dK (mdK w)) ∈ L) (q : Q (.ref w.v) L) : XL X (.ref p) (.str "live") L Q := xl_Ds hu m (md5 w) q
end
/-! promises -/
def SS.tellP (S : SS) (v : V) : PyData × SS := match S.putIn v with
  | .ok (h, S') => (hD h, S')
  | .error e => (refD e, S)
def SS.tellD (S : SS) (h : Int × Int) : PyData × SS := if S.holds h.1 h.2 = true then (S.wth h.1, S.dropAt h.1) else (refD .Stale, S)
theorem tell_P {S : SS} {i : Int} (h1 : 0 ≤ i) (h2 : i ≤ 9999) : S.tell (.put (.int i)) = S.tellP (.int i) := SS.tell_put h1 h2
theorem tell_D {S : SS} {h : Int × Int} (hr : InR S.n S.r h) : S.tell (.drop (hD h)) = S.tellD h := SS.tell_drop hr
def sMNew : SpL := fun vs L Q _ => ∃ (s : Addr) (n r : Int) (la rn : Bool), vs = [.ref s] ∧ tp s (setV n r la rn) ∈ L ∧ ∀ m, Q (.ref m) (MdAt m (SS.new n r la rn) :: L)
def sMPut : SpL := fun vs L Q _ => ∃ (m : Addr) (v : V) (S : SS) (L1 : As), vs = [.ref m, v] ∧ S.Ok ∧ Rm (MdAt m S) L L1 ∧ ∀ r, Q r (dt r (S.tellP v).1 :: MdAt m (S.tellP v).2 :: L1)
def sMDrop : SpL := fun vs L Q _ => ∃ (m : Addr) (v : V) (S : SS) (h : Int × Int) (L1 : As), vs = [.ref m, v] ∧ S.Ok ∧ S.Wi ∧ Rm (MdAt m S) L L1 ∧ Dsi L v (hD h) ∧ ∀ r, Q r (dt r (S.tellD h).1 :: MdAt m (S.tellD h).2 :: L1)
def sMOwn : SpL := fun vs L Q _ => ∃ (m : Addr) (v : V) (S : SS) (g : Dg) (L1 : As), vs = [.ref m, v] ∧ S.Ok ∧ S.Wi ∧ Rm (MdAt m S) L L1 ∧ dt v g.d ∈ L ∧ g.good S.n S.r ∧ ∀ r, Q r (dt r (S.tell g).1 :: MdAt m (S.tell g).2 :: L1)
section
variable {L L1 : As} {Q : LK} {E : Er → As → Prop} {m s : Addr} {v : V} {S : SS} {g : Dg} {h : Int × Int} {n r : Int} {la rn : Bool}
theorem sMNew.i (m1 : tp s (setV n r la rn) ∈ L) (q : ∀ m, Q (.ref m) (MdAt m (SS.new n r la rn) :: L)) : sMNew [.ref s] L Q E := ⟨s, n, r, la, rn, rfl, m1, q⟩
theorem sMPut.i (r1 : Rm (MdAt m S) L L1) (ok : S.Ok) (q : ∀ r, Q r (dt r (S.tellP v).1 :: MdAt m (S.tellP v).2 :: L1)) : sMPut [.ref m, v] L Q E := ⟨m, v, S, L1, rfl, ok, r1, q⟩
theorem sMDrop.i (r1 : Rm (MdAt m S) L L1) (hd : Dsi L v (hD h)) (ok : S.Ok) (wi : S.Wi) (q : ∀ r, Q r (dt r (S.tellD h).1 :: MdAt m (S.tellD h).2 :: L1)) : sMDrop [.ref m, v] L Q E := ⟨m, v, S, h, L1, rfl, ok, wi, r1, hd, q⟩
theorem sMOwn.i (r1 : Rm (MdAt m S) L L1) (hd : dt v g.d ∈ L) (ok : S.Ok) (wi : S.Wi) (hg : g.good S.n S.r) (q : ∀ r, Q r (dt r (S.tell g).1 :: MdAt m (S.tell g).2 :: L1)) : sMOwn [.ref m, v] L Q E := ⟨m, v, S, g, L1, rfl, ok, wi, r1, hd, hg, q⟩
end
/-- what comes out of the line -/
theorem put_line {S : SS} {v : V} (ok : S.Ok) (hl : S.ln ≠ []) : ∃ s ln', S.putIn v = .ok ((s, S.cnt s), { S with ln := ln', ws := S.ws ++ [(s, v)] }) ∧ s ∈ S.ln ∧ S.ln.erase s = ln' ∧ 0 ≤ s ∧ s < S.cs.length ∧
    (S.last = false → (iv S.ln)[0]? = some (.int s)) ∧ (S.last = true → (iv S.ln)[S.ln.length - 1]? = some (.int s)) := by
  have hp : 0 < S.ln.length := List.length_pos_iff.mpr hl
  cases e : S.putIn v with
  | error er => exact absurd (SS.put_err e).2.1 hl
  | ok p =>
    obtain ⟨⟨s, c⟩, S'⟩ := p
    rcases SS.put_cases ok e with ⟨h1, h2, ln', pe, rfl, q1, q2⟩ | ⟨h1, _⟩
    · have ndl : S.ln.Nodup := (List.nodup_append.mp (List.nodup_append.mp ok.nd).2.1).1
      have rl := ok.rngL h1
      refine ⟨s, ln', by rw [h2], h1, ?_, rl.1, rl.2, fun z => ?_, fun z => ?_⟩
      · cases hla : S.last with
        | false => rw [q1 hla]; simp
        | true =>
          have e1 := q2 hla
          rw [e1] at ndl ⊢
          rw [List.erase_append_right _ fun z => (List.nodup_append.mp ndl).2.2 s z s List.mem_cons_self rfl]
          simp
      · rw [q1 z]; rfl
      · rw [q2 z]
        unfold iv
        rw [List.length_append, List.length_singleton, Nat.add_sub_cancel, List.map_append, List.getElem?_append_right (by rw [List.length_map]; omega), List.length_map, Nat.sub_self]; rfl
    · exact absurd h1 hl
theorem dec_first (b : Bool) : decide (ordS b = "first") = !b := by cases b <;> decide
theorem dec_lastS (b : Bool) : decide (ordS b = "last") = b := by cases b <;> decide
theorem dec_worn (b : Bool) : decide (endS b = "worn") = !b := by cases b <;> decide
theorem dec_round (b : Bool) : decide (endS b = "round") = b := by cases b <;> decide
theorem atI_neg1 {xs : List V} {v : V} (h : xs[xs.length - 1]? = some v) : atI xs (-1) = some v := by
  have hp : 0 < xs.length := by have := (List.getElem?_eq_some_iff.mp h).1; omega
  unfold atI
  obtain ⟨n, hn⟩ : ∃ n, xs.length = n + 1 := ⟨xs.length - 1, by omega⟩
  rw [hn, ixN_last]
  rw [hn] at h
  exact h
theorem atI_0 {xs : List V} {v : V} (h : xs[0]? = some v) : atI xs 0 = some v := atI_nat (j := 0) h
end Sh
namespace Sh
open PySem PySem.Spec L2 PyProof.Rows
/-! ### loops and comprehensions over anything -/
structure IL (X : Cx) (tg iter : Expr) (σ : St) (L : As) (R : It → As → Prop) : Prop where
  run : ∃ wi, PI X tg iter wi ∧ ∀ H, Own H L → ∀ R' : It → Hp → Prop, (∀ J H1 L1, Own H1 L1 → R J L1 → R' J H1) → wi σ H R'
/-- n things come, the i-th with what Yl tells, while Al stands -/
def Src (J : It) (n : Nat) (Al : As) (Yl : Nat → V → As → Prop) : Prop :=
  ∃ (G : Hp → Prop) (Y : Nat → Hp → V → Hp → Prop), Walk J n G Y ∧ (∀ H L, Own H L → (∀ A ∈ Al, A ∈ L) → G H) ∧ ∀ i H x H' L, i < n → Own H L → (∀ A ∈ Al, A ∈ L) → Y i H x H' → ∃ Lx, Yl i x Lx ∧ Own H' (Lx ++ L)
/-- pairs -/
def Y2 (Yl : Nat → V → V → As → Prop) : Nat → V → As → Prop := fun i y Lx => ∃ T x1 x2 Ly, y = .ref T ∧ Lx = tp T [x1, x2] :: Ly ∧ Yl i x1 x2 Ly
structure Bk where
  (s : Shared) (Hs : Hp) (C : Addr) (cl : List (Str × Addr)) (fp : List Addr)
abbrev Bk.x (b : Bk) (X : Cx) (scope : Scope) : Cx := blk X scope b.s b.Hs b.C b.cl b.fp
section
variable {X : Cx} {C : Cl} {E : EK} {e e2 iter elt tg : Expr} {ifs : List Expr} {σ : St} {L L' L1 : As} {Q : LK} {D : DL} {pos p1 p2 p3 spos q1 q2 tpos : Pos} {z zy z1 z2 : Str} {body : List Stmt} {scope : Scope} {ix iy i1 i2 kk l : Nat} {R : It → As → Prop}
theorem Wk.bk (W : Wk X C l E) (b : Bk) : Wk (b.x X scope) C l (fun _ _ _ => False) := W.blk b.s b.Hs b.cl b.fp
theorem sl_forG (po : PassesOwn (model X.prog X.w) X.A X.env X.xe) (hc : X.calm = true)
    (q : IL X tg iter σ L fun J L1 => ∃ (n : Nat) (Al : As) (Yl : Nat → V → As → Prop) (α : Type) (I : Nat → LI α), Src J n Al Yl ∧ (I 0).at σ L1 ∧ (∀ j x, j ≤ n → (I j).ok x → ∀ A ∈ Al, A ∈ (I j).as x) ∧
      (∀ j x y Lx, j < n → (I j).ok x → Yl j y Lx → GL X tg y ((I j).st x) (Lx ++ (I j).as x) fun σ' L' => BL X body (D.loop (I (j + 1)).at) σ' L') ∧ ∀ x, (I n).ok x → D.nx ((I n).st x) ((I n).as x))
    (hs : ∀ x, foldedSetIterable iter X.env x = pure x := by intro _; rfl) : SL X (.For tg iter body [] pos) D σ L := by
  obtain ⟨wi, hpi, hw⟩ := q.run
  refine ⟨fun H o => of_ps (ps_for po hc hpi Wg.pg Wb.pss hs) (hw H o _ fun J H1 L1 o1 hh => ?_)⟩
  obtain ⟨n, Al, Yl, α, I, ⟨G, Y, wk, g1, g2⟩, h0, hal, hst, hE⟩ := hh
  refine for_it wk (fun j => dnS (I j).at) ⟨L1, o1, h0⟩ (fun j σ H hj hh => ?_) (fun j y σ H H' hj hh hy => ?_) fun σ H hh => ?_
  · obtain ⟨L, o, x, ok, rfl, im⟩ := hh
    exact g1 H _ (im.own o) (hal j x hj ok)
  · obtain ⟨L, o, x, ok, rfl, im⟩ := hh
    obtain ⟨Lx, hy, o2⟩ := g2 j H y H' _ hj (im.own o) (hal j x (by omega) ok) hy
    exact wg_imp ((hst j x y Lx hj ok hy).run H' o2) fun σ' H'' ⟨L'', o'', b⟩ => wb_imp (b.run H'' o'') ⟨fun _ _ z => z, fun _ _ z => z, fun _ _ z => z, fun _ _ z => z⟩
  · obtain ⟨L, o, x, ok, rfl, im⟩ := hh
    exact ⟨_, im.own o, hE x ok⟩
/-- the tests of a comprehension -/
def Tb (X : Cx) (scope : Scope) (ifs : List Expr) (σ : St) (L : As) (QB : Bool → As → Prop) : Prop := match ifs with
  | [] => QB true L
  | [c] => ∀ b : Bk, TL (b.x X scope) c σ L QB
  | _ => False
theorem tb_nil {QB : Bool → As → Prop} (q : QB true L) : Tb X scope [] σ L QB := q
theorem tb_one {c : Expr} {QB : Bool → As → Prop} (q : ∀ b : Bk, TL (b.x X scope) c σ L QB) : Tb X scope [c] σ L QB := q
def ttB (X : Cx) (scope : Scope) (ifs : List Expr) : TT := fun σ H Q => match ifs with
  | [] => Q true H
  | [c] => ∀ b : Bk, Wt (b.x X scope) c σ H Q
  | _ => False
theorem tt_pts (b : Bk) : ∀ ifs : List Expr, PTs (b.x X scope) ifs (ttB X scope ifs)
  | [] => pts_nil
  | [c] => pts_one ⟨fun pins s σ H Q I h => (h b).run pins s I⟩
  | _ :: _ :: _ => ⟨fun pins s σ H Q I h => h.elim⟩
theorem tb_run {QB : Bool → As → Prop} {QH : Bool → Hp → Prop} {H : Hp} (o : Own H L) : ∀ {ifs : List Expr}, (∀ t H' L', Own H' L' → QB t L' → QH t H') → Tb X scope ifs σ L QB → ttB X scope ifs σ H QH
  | [], hi, q => hi _ _ _ o q
  | [c], hi, q => fun b => wt_imp ((q b).run H o) fun t H' ⟨L', o', z⟩ => hi t H' L' o' z
  | _ :: _ :: _, _, q => False.elim q
/-- one turn of a comprehension -/
def LcStep (X : Cx) (scope : Scope) (ifs : List Expr) (elt : Expr) (α : Type) (I : Nat → LC α) (j : Nat) (x : α) (dl : Addr) (σ' : St) (Lx : As) : Prop :=
  Tb X scope ifs σ' (Lx ++ ld dl ((I j).rs x) :: (I j).as x) fun t L2 => if t = true then ∀ b : Bk, EL (b.x X scope) elt σ' L2 fun v L' => ∃ d x', (I (j + 1)).ok x' ∧ (I (j + 1)).rs x' = (I j).rs x ++ [d] ∧ Imp L' (ld dl ((I j).rs x) :: dt v d :: (I (j + 1)).as x')
    else ∃ x', (I (j + 1)).ok x' ∧ (I (j + 1)).rs x' = (I j).rs x ∧ Imp L2 (ld dl ((I j).rs x) :: (I (j + 1)).as x')
def LcN (X : Cx) (scope : Scope) (tg iter elt : Expr) (ifs : List Expr) (gt : V → As → (St → Prop) → Prop) (σ : St) (L : As) (Q : LK) : Prop :=
  IL X tg iter σ L fun J L1 => ∃ (n : Nat) (Al : As) (Yl : Nat → V → As → Prop) (α : Type) (I : Nat → LC α), Src J n Al Yl ∧ n < 10000000 ∧ (∃ x, (I 0).ok x ∧ (I 0).rs x = [] ∧ Imp L1 ((I 0).as x)) ∧
    (∀ j x, j ≤ n → (I j).ok x → ∀ A ∈ Al, A ∈ (I j).as x) ∧ (∀ j x dl y Lx, j < n → (I j).ok x → Yl j y Lx → gt y Lx fun σ' => LcStep X scope ifs elt α I j x dl σ' Lx) ∧ ∀ x lp, (I n).ok x → Q (.ref lp) (ld lp ((I n).rs x) :: (I n).as x)
theorem wipe2 (σ : St) (i1 i2 : Nat) (a b : Option V) : wipe (((wipe σ [i1, i2]).set i1 a).set i2 b) [i1, i2] = wipe σ [i1, i2] := by
  show (((((σ.set i2 none).set i1 none).set i1 a).set i2 b).set i2 none).set i1 none = (σ.set i2 none).set i1 none
  apply List.ext_getElem?
  intro k
  simp only [List.getElem?_set, List.length_set]
  by_cases h1 : i1 = k
  · simp [h1]
  · by_cases h2 : i2 = k
    · simp [h1, h2]
    · simp [h1, h2]
/-- what the loop of a comprehension asks -/
theorem lcN_go {vs : List Nat} {gt : V → As → (St → Prop) → Prop} {g : TG} {wi : TI} {H : Hp} (J : It) (L1 : As) (H1 : Hp) (o1 : Own H1 L1)
    (hg : ∀ y Lx (ψ : St → Prop) H' L', gt y Lx ψ → Own H' (Lx ++ L') → ∃ σ', ψ σ' ∧ wipe σ' vs = wipe σ vs ∧ ∀ k : St → Hp → Prop, k σ' H' → g y (wipe σ vs) H' k)
    (hh : ∃ (n : Nat) (Al : As) (Yl : Nat → V → As → Prop) (α : Type) (I : Nat → LC α), Src J n Al Yl ∧ n < 10000000 ∧ (∃ x, (I 0).ok x ∧ (I 0).rs x = [] ∧ Imp L1 ((I 0).as x)) ∧
    (∀ j x, j ≤ n → (I j).ok x → ∀ A ∈ Al, A ∈ (I j).as x) ∧ (∀ j x dl y Lx, j < n → (I j).ok x → Yl j y Lx → gt y Lx fun σ' => LcStep X scope ifs elt α I j x dl σ' Lx) ∧ ∀ x lp, (I n).ok x → Q (.ref lp) (ld lp ((I n).rs x) :: (I n).as x)) :
    ∀ dl, H1 dl = none → ∃ W : Nat → Nat → Hp → Prop, (∃ m, W 0 m (upd H1 dl (.lst []))) ∧ ∀ i m H, W i m H →
      (J.stop i H ∧ dn Q (.ref dl) H) ∨ (J.go i H ∧ ∃ Nx : Hp → Prop, (∀ H', Nx H' → ∃ m', m' < m ∧ W (i + 1) m' H') ∧ ∀ x H', J.yld i H x H' → g x (wipe σ vs) H' fun σ2 H2 => wipe σ2 vs = wipe σ vs ∧ ttB X scope ifs σ2 H2 fun b H3 =>
        if b = true then teB X scope elt σ2 H3 fun y H4 => ∃ acc, H4 dl = some (.lst acc) ∧ acc.length < sizeLine ∧ Nx (upd H4 dl (.lst (acc ++ [y]))) else Nx H3) := by
  obtain ⟨n, Al, Yl, α, I, ⟨G, Y, wk, g1, g2⟩, hn9, ⟨x0, ok0, r0, im0⟩, hal, hst, hE⟩ := hh
  intro dl hn
  refine lc_it wk (fun j H => ∃ x, (I j).ok x ∧ ((I j).rs x).length ≤ j ∧ Own H (ld dl ((I j).rs x) :: (I j).as x)) ⟨x0, ok0, by rw [r0]; exact Nat.le_refl 0, ?_⟩ (fun j H hj hh => ?_) (fun j y H H' hj hh hy => ?_) fun H hh => ?_
  · rw [r0]
    exact ld.cl (vs := []) ((((im0.own o1).newE hn rfl).addDs .nil).pq (.cons (.there .here) (.cons .here .refl)))
  · obtain ⟨x, ok, _, o⟩ := hh
    exact g1 H _ o fun A hA => List.mem_cons_of_mem _ (hal j x hj ok A hA)
  · obtain ⟨x, ok, rl, o⟩ := hh
    obtain ⟨Lx, hy, o2⟩ := g2 j H y H' _ hj o (fun A hA => List.mem_cons_of_mem _ (hal j x (by omega) ok A hA)) hy
    obtain ⟨σ', hψ, hwp, hk⟩ := hg y Lx _ H' _ (hst j x dl y Lx hj ok hy) o2
    refine hk _ ⟨hwp, tb_run o2 (fun t H3 L3 o3 q3 => ?_) hψ⟩
    cases t with
    | false =>
      rw [if_neg Bool.false_ne_true] at q3
      rw [if_neg Bool.false_ne_true]
      obtain ⟨x', ok', er, im⟩ := q3
      exact ⟨x', ok', by rw [er]; omega, by rw [er]; exact im.own o3⟩
    | true =>
      rw [if_pos rfl] at q3
      rw [if_pos rfl]
      intro s Hs C cl fp
      refine we_imp ((q3 ⟨s, Hs, C, cl, fp⟩).run H3 o3) fun v H4 hh => ?_
      obtain ⟨L', o', d, x', ok', er, im⟩ := hh
      obtain ⟨vs, oa⟩ := (im.own o').exI
      have ob := Own.cjI (L1 := [pt dl (.lst vs), dts vs ((I j).rs x)]) oa
      have hvl := DtAll.len (ob.dts (vs := vs) (ds := (I j).rs x) (.tail _ (.head _)))
      refine ⟨vs, ob.pt (.head _), szl (by omega), x', ok', by rw [er, List.length_append, List.length_singleton]; omega, ?_⟩
      have hd := DtAll.snoc (ob.dts (vs := vs) (ds := (I j).rs x) (.tail _ (.head _))) (ob.dt (v := v) (d := d) (.tail _ (.tail _ (.head _))))
      have oc := (ob.addDs hd).wr (o' := .lst (vs ++ [v])) (.there .here) ntL
      rw [er]
      exact ld.cl (vs := vs ++ [v]) ((Own.pq (.cons (.there .here) (.cons .here (.cons .here (.cons .here .refl)))) oc).sub (.cons .here (.cons .here (.skip (.skip .refl)))))
  · obtain ⟨x, ok, _, o⟩ := hh
    exact ⟨_, o, hE x dl ok⟩
/-- one name -/
abbrev gt1 (σ : St) (ix : Nat) : V → As → (St → Prop) → Prop := fun y _ ψ => ψ ((σ.set ix none).set ix (some y))
/-- two names -/
abbrev gt2 (σ : St) (i1 i2 : Nat) : V → As → (St → Prop) → Prop := fun y Lx ψ => ∃ T x1 x2, y = .ref T ∧ tp T [x1, x2] ∈ Lx ∧ ψ ((((σ.set i2 none).set i1 none).set i1 (some x1)).set i2 (some x2))
theorem gt1_run (y : V) (Lx : As) (ψ : St → Prop) (H' : Hp) (L' : As) (h : gt1 σ ix y Lx ψ) (o : Own H' (Lx ++ L')) : ∃ σ', ψ σ' ∧ wipe σ' [ix] = wipe σ [ix] ∧ ∀ k : St → Hp → Prop, k σ' H' → gName ix y (wipe σ [ix]) H' k := ⟨_, h, wipe1 σ ix _, fun k hk => hk⟩
theorem el_lcG (hc : X.calm = true) (nd : X.N.Nodup) (no : X.N[ix]? = some z) (ok : BlkOk X.N X.env.scope scope [(z, ix)]) (hz : scope.names.lookup z = some .local) (q : LcN X scope (.Name z p1) iter elt ifs (gt1 σ ix) σ L Q)
    (hs : ∀ x, foldedSetIterable iter X.env x = pure x := by intro _; rfl) : EL X (.ListComp elt [⟨.Name z p1, iter, ifs, 0⟩] scope pos) σ L Q := by
  obtain ⟨wi, hpi, hw⟩ := IL.run q
  refine ⟨fun H o => of_pe (pe_lc hc nd hpi ok (fun s Hs C cl fp => lcT nd no hz s Hs C cl fp) (fun s Hs C cl fp => tt_pts ⟨s, Hs, C, cl, fp⟩ ifs) (fun s Hs C cl fp => lcE s Hs C cl fp) hs) (hw H o _ fun J H1 L1 o1 hh => ?_)⟩
  exact lcN_go (wi := wi) (H := H) J L1 H1 o1 gt1_run hh
theorem sl_lcG (hc : X.calm = true) (nd : X.N.Nodup) (ny : X.N[iy]? = some zy) (hy : X.env.scope.names.lookup zy = some .local) (hw : swapsWith (.ListComp elt [⟨.Name z p1, iter, ifs, 0⟩] scope pos) (some (.Name zy p2)) spos.line X.env = pure true)
    (no : X.N[ix]? = some z) (ok : BlkOk X.N X.env.scope scope [(z, ix)]) (hz : scope.names.lookup z = some .local) (q : LcN X scope (.Name z p1) iter elt ifs (gt1 σ ix) σ L fun v L1 => D.nx (σ.set iy (some v)) L1)
    (hs : ∀ x, foldedSetIterable iter X.env x = pure x := by intro _; rfl) : SL X (.Assign [.Name zy p2] (.ListComp elt [⟨.Name z p1, iter, ifs, 0⟩] scope pos) spos) D σ L := by
  obtain ⟨wi, hpi, hwi⟩ := IL.run q
  refine ⟨fun H o => of_ps (ps_setLc hc nd ny hy hw hpi ok (fun s Hs C cl fp => lcT nd no hz s Hs C cl fp) (fun s Hs C cl fp => tt_pts ⟨s, Hs, C, cl, fp⟩ ifs) (fun s Hs C cl fp => lcE s Hs C cl fp) hs) (hwi H o _ fun J H1 L1 o1 hh => ?_)⟩
  exact lcN_go (wi := wi) (H := H) (Q := fun v L1 => D.nx (σ.set iy (some v)) L1) J L1 H1 o1 gt1_run hh
/-- for z1, z2 in .. -/
theorem lcT2 (b : Bk) (hc : X.calm = true) (nd : X.N.Nodup) (n1 : X.N[i1]? = some z1) (n2 : X.N[i2]? = some z2) (h1 : scope.names.lookup z1 = some .local) (h2 : scope.names.lookup z2 = some .local) :
    PG (b.x X scope) (.Tuple [.Name z1 q1, .Name z2 q2] kk tpos) (gTup X.K 2 (gCons (gName i1) (gCons (gName i2) gNil))) :=
  pg_tup (X := b.x X scope) (n := 2) hc (pgs_cons (lcT nd n1 h1 b.s b.Hs b.C b.cl b.fp) (pgs_cons (lcT nd n2 h2 b.s b.Hs b.C b.cl b.fp) pgs_nil))
theorem gt2_run (y : V) (Lx : As) (ψ : St → Prop) (H' : Hp) (L' : As) (h : gt2 σ i1 i2 y Lx ψ) (o : Own H' (Lx ++ L')) : ∃ σ', ψ σ' ∧ wipe σ' [i1, i2] = wipe σ [i1, i2] ∧ ∀ k : St → Hp → Prop, k σ' H' → gTup X.K 2 (gCons (gName i1) (gCons (gName i2) gNil)) y (wipe σ [i1, i2]) H' k := by
  obtain ⟨T, x1, x2, rfl, m, hψ⟩ := h
  refine ⟨_, hψ, wipe2 σ i1 i2 _ _, fun k hk => ⟨T, [x1, x2], rfl, SqT.of (o.tp (List.mem_append_left _ m)), rfl, ?_⟩⟩
  exact ⟨_, _, rfl, _, _, rfl, rfl, hk⟩
theorem el_lcG2 (hc : X.calm = true) (nd : X.N.Nodup) (n1 : X.N[i1]? = some z1) (n2 : X.N[i2]? = some z2) (ok : BlkOk X.N X.env.scope scope [(z1, i1), (z2, i2)]) (h1 : scope.names.lookup z1 = some .local) (h2 : scope.names.lookup z2 = some .local)
    (q : LcN X scope (.Tuple [.Name z1 q1, .Name z2 q2] kk tpos) iter elt ifs (gt2 σ i1 i2) σ L Q)
    (hs : ∀ x, foldedSetIterable iter X.env x = pure x := by intro _; rfl) : EL X (.ListComp elt [⟨.Tuple [.Name z1 q1, .Name z2 q2] kk tpos, iter, ifs, 0⟩] scope pos) σ L Q := by
  obtain ⟨wi, hpi, hw⟩ := IL.run q
  refine ⟨fun H o => of_pe (pe_lc hc nd hpi ok (fun s Hs C cl fp => lcT2 ⟨s, Hs, C, cl, fp⟩ hc nd n1 n2 h1 h2) (fun s Hs C cl fp => tt_pts ⟨s, Hs, C, cl, fp⟩ ifs) (fun s Hs C cl fp => lcE s Hs C cl fp) hs) (hw H o _ fun J H1 L1 o1 hh => ?_)⟩
  exact lcN_go (wi := wi) (H := H) J L1 H1 o1 gt2_run hh
theorem sl_lcG2 (hc : X.calm = true) (nd : X.N.Nodup) (ny : X.N[iy]? = some zy) (hy : X.env.scope.names.lookup zy = some .local)
    (hw : swapsWith (.ListComp elt [⟨.Tuple [.Name z1 q1, .Name z2 q2] kk tpos, iter, ifs, 0⟩] scope pos) (some (.Name zy p2)) spos.line X.env = pure true)
    (n1 : X.N[i1]? = some z1) (n2 : X.N[i2]? = some z2) (ok : BlkOk X.N X.env.scope scope [(z1, i1), (z2, i2)]) (h1 : scope.names.lookup z1 = some .local) (h2 : scope.names.lookup z2 = some .local)
    (q : LcN X scope (.Tuple [.Name z1 q1, .Name z2 q2] kk tpos) iter elt ifs (gt2 σ i1 i2) σ L fun v L1 => D.nx (σ.set iy (some v)) L1)
    (hs : ∀ x, foldedSetIterable iter X.env x = pure x := by intro _; rfl) : SL X (.Assign [.Name zy p2] (.ListComp elt [⟨.Tuple [.Name z1 q1, .Name z2 q2] kk tpos, iter, ifs, 0⟩] scope pos) spos) D σ L := by
  obtain ⟨wi, hpi, hwi⟩ := IL.run q
  refine ⟨fun H o => of_ps (ps_setLc hc nd ny hy hw hpi ok (fun s Hs C cl fp => lcT2 ⟨s, Hs, C, cl, fp⟩ hc nd n1 n2 h1 h2) (fun s Hs C cl fp => tt_pts ⟨s, Hs, C, cl, fp⟩ ifs) (fun s Hs C cl fp => lcE s Hs C cl fp) hs) (hwi H o _ fun J H1 L1 o1 hh => ?_)⟩
  exact lcN_go (wi := wi) (H := H) (Q := fun v L1 => D.nx (σ.set iy (some v)) L1) J L1 H1 o1 gt2_run hh
/-! ### where things come from -/
theorem il_list (q : EL X iter σ L fun x L1 => ∃ l, x = .ref l ∧ IsLs X.K L1 l ∧ R (Itl X.K l) L1) : IL X tg iter σ L R :=
  ⟨_, pi_list We.pe, fun H o R' hR => we_imp (q.run H o) fun x H1 ⟨L1, o1, l, ex, il, r⟩ => ⟨l, ex, il H1 o1, hR _ _ _ o1 r⟩⟩
theorem il_range (g : Bn X.env X.mg "range" (.type "range")) (q : EL X e σ L fun x L1 => ∃ m : Int, x = .int m ∧ -(2 ^ 62) ≤ m ∧ m < 2 ^ 62 ∧ R (Itr 0 m.toNat) L1)
    (h1 : starEach [e] X.env = [(false, eval e X.env)] := by rfl) : IL X tg (.Call (.Name "range" p2) [e] [] p3) σ L R :=
  ⟨_, pi_range1 g.gl g.mg (pa_cons We.pe pa_nil h1) h1, fun H o R' hR => we_imp (q.run H o) fun x H1 ⟨L1, o1, m, ex, b1, b2, r⟩ => ⟨m, by rw [ex], b1, b2, hR _ _ _ o1 r⟩⟩
theorem il_enum {elts : List Expr} (g : Bn X.env X.mg "enumerate" (.type "enumerate")) (q : EL X e σ L fun x L1 => ∃ l, x = .ref l ∧ IsLs X.K L1 l ∧ R (Ite X.K l) L1)
    (h1 : starEach [e] X.env = [(false, eval e X.env)] := by rfl) : IL X (.Tuple elts kk tpos) (.Call (.Name "enumerate" p2) [e] [] p3) σ L R :=
  ⟨_, pi_enum g.gl g.mg (pa_cons We.pe pa_nil h1) h1, fun H o R' hR => we_imp (q.run H o) fun x H1 ⟨L1, o1, l, ex, il, r⟩ => by
    obtain ⟨xs, hx⟩ := il H1 o1
    exact ⟨l, xs, by rw [ex], hx, hR _ _ _ o1 r⟩⟩
theorem il_zip {elts : List Expr} (g : Bn X.env X.mg "zip" (.type "zip")) (q : EL X e σ L fun x L1 => EL X e2 σ L1 fun y L2 => ∃ l m, x = .ref l ∧ y = .ref m ∧ IsLs X.K L2 l ∧ IsLs X.K L2 m ∧ R (Itz X.K l m) L2)
    (h1 : starEach [e, e2] X.env = (false, eval e X.env) :: starEach [e2] X.env := by rfl) (h2 : starEach [e2] X.env = (false, eval e2 X.env) :: starEach [] X.env := by rfl) (hpl : (backTo p3 (starEach [e2] X.env)).any (·.1) = false := by rfl) :
    IL X (.Tuple elts kk tpos) (.Call (.Name "zip" p2) [e, e2] [] p3) σ L R :=
  ⟨_, pi_zip g.gl g.mg (pa_cons We.pe (pa_cons We.pe pa_nil h2) h1) h1 hpl, fun H o R' hR => we_imp (q.run H o) fun x H1 ⟨L1, o1, q1⟩ => we_imp (q1.run H1 o1) fun y H2 ⟨L2, o2, l, m, ex, ey, il, im, r⟩ => by
    obtain ⟨xs, hx⟩ := il H2 o2
    obtain ⟨ys, hy⟩ := im H2 o2
    exact ⟨l, m, xs, ys, by rw [ex, ey], hx, hy, hR _ _ _ o2 r⟩⟩
theorem il_keysH {d : Addr} {od : Obj} {kvs : HK} (q : EL X iter σ L fun x L1 => x = .ref d ∧ pt d (.frz od (.dT (kt kvs))) ∈ L1 ∧ R (Itkt d od (kt kvs)) L1) : IL X tg iter σ L R :=
  ⟨_, pi_keys We.pe, fun H o R' hR => we_imp (q.run H o) fun x H1 ⟨L1, o1, ex, m, r⟩ => ⟨d, od, ex, .inr ⟨kt kvs, o1.pt m, hR _ _ _ o1 r⟩⟩⟩
theorem il_keysI {d : Addr} {od : Obj} {ws : List (Int × V)} (q : EL X iter σ L fun x L1 => x = .ref d ∧ pt d (.frz od (.dK (kw ws))) ∈ L1 ∧ R (Itk d od (kw ws)) L1) : IL X tg iter σ L R :=
  ⟨_, pi_keys We.pe, fun H o R' hR => we_imp (q.run H o) fun x H1 ⟨L1, o1, ex, m, r⟩ => ⟨d, od, ex, .inl ⟨kw ws, o1.pt m, hR _ _ _ o1 r⟩⟩⟩
/-! what they give -/
theorem src_lv {K : PySem.W.Frag} {l : Addr} {vs : List V} {ds : List PyData} (hl : vs.length = ds.length) : Src (Itl K l) ds.length [lv l vs ds] fun i y Lx => ∃ d, ds[i]? = some d ∧ Lx = [dt y d] := by
  refine ⟨_, _, hl ▸ walk_list (xs := vs), fun H L o h => SqL.of (lvP (o.get (A := lv l vs ds) (h _ List.mem_cons_self))).1, fun i H x H' L hi o h hy => ?_⟩
  obtain ⟨rfl, hy⟩ := hy
  obtain ⟨d, hd, hx⟩ := (lvP (o.get (A := lv l vs ds) (h _ List.mem_cons_self))).2.get hy
  exact ⟨_, ⟨d, hd, rfl⟩, o.addD hx⟩
theorem src_val {K : PySem.W.Frag} {l : Addr} {xs : List V} : Src (Itl K l) xs.length [pt l (.lst xs)] fun i y Lx => xs[i]? = some y ∧ Lx = [] := by
  refine ⟨_, _, walk_list (xs := xs), fun H L o h => SqL.of (o.pt (h _ List.mem_cons_self)), fun i H x H' L hi o h hy => ?_⟩
  obtain ⟨rfl, hy⟩ := hy
  exact ⟨[], ⟨hy, rfl⟩, o⟩
theorem src_range {n : Nat} : Src (Itr 0 n) n [] fun i y Lx => y = .int (i : Int) ∧ Lx = [] := by
  refine ⟨_, _, walk_range, fun H L o h => trivial, fun i H x H' L hi o h hy => ?_⟩
  obtain ⟨rfl, hy⟩ := hy
  exact ⟨[], ⟨by rw [hy]; show V.int (0 + (i : Int)) = _; rw [Int.zero_add], rfl⟩, o⟩
theorem src_keysH {d : Addr} {od : Obj} {kvs : HK} : Src (Itkt d od (kt kvs)) kvs.length [pt d (.frz od (.dT (kt kvs)))] fun i y Lx => ∃ h, (kvs.map (·.1))[i]? = some h ∧ Lx = [dt y (hD h)] := by
  refine ⟨_, _, kt_len (kvs := kvs) ▸ walk_keysT (kvs := kt kvs), fun H L o h => o.pt (h _ List.mem_cons_self), fun i H x H' L hi o h hy => ?_⟩
  obtain ⟨rfl, k, v, q, hk, rfl, hq⟩ := hy
  unfold kt at hk
  rw [List.getElem?_map] at hk
  obtain ⟨e, he, hk⟩ := Option.map_eq_some_iff.mp hk
  cases hk
  refine ⟨_, ⟨e.1, by rw [List.getElem?_map, he]; rfl, rfl⟩, o.addD (.tup hq (.cons (.int _) (.cons (.int _) .nil)))⟩
theorem src_keysI {d : Addr} {od : Obj} {ws : List (Int × V)} : Src (Itk d od (kw ws)) ws.length [pt d (.frz od (.dK (kw ws)))] fun i y Lx => ∃ s, (ws.map (·.1))[i]? = some s ∧ y = .int s ∧ Lx = [] := by
  refine ⟨_, _, kw_len ws ▸ walk_keys (kvs := kw ws), fun H L o h => o.pt (h _ List.mem_cons_self), fun i H x H' L hi o h hy => ?_⟩
  obtain ⟨rfl, k, v, hk, rfl⟩ := hy
  unfold kw at hk
  rw [List.getElem?_map] at hk
  obtain ⟨e, he, hk⟩ := Option.map_eq_some_iff.mp hk
  cases hk
  exact ⟨_, ⟨e.1, by rw [List.getElem?_map, he]; rfl, rfl, rfl⟩, o⟩
theorem src_enum {K : PySem.W.Frag} {l : Addr} {vs : List V} {ds : List PyData} (hl : vs.length = ds.length) : Src (Ite K l) ds.length [lv l vs ds] (Y2 fun i x1 x2 Ly => x1 = .int (i : Int) ∧ ∃ d, ds[i]? = some d ∧ Ly = [dt x2 d]) := by
  refine ⟨_, _, hl ▸ walk_enum (xs := vs), fun H L o h => SqL.of (lvP (o.get (A := lv l vs ds) (h _ List.mem_cons_self))).1, fun i H x H' L hi o h hy => ?_⟩
  obtain ⟨T, x1, x2, rfl, hn, rfl, e1, e2⟩ := hy
  obtain ⟨d, hd, hx⟩ := (lvP (o.get (A := lv l vs ds) (h _ List.mem_cons_self))).2.get e2
  cases e1
  refine ⟨_, ⟨T, _, x2, _, rfl, rfl, rfl, d, hd, rfl⟩, ?_⟩
  exact Own.pq (G := tp T [.int (i : Nat), x2] :: dt x2 d :: L) (.cons (.there .here) .refl) ((o.newT hn).addD (hx.mono (tle_new hn)))
theorem src_zip {K : PySem.W.Frag} {l m : Addr} {vs ws : List V} {ds es : List PyData} (hl : vs.length = ds.length) (hm : ws.length = es.length) : Src (Itz K l m) (min ds.length es.length) [lv l vs ds, lv m ws es] (Y2 fun i x1 x2 Ly => ∃ d f, ds[i]? = some d ∧ es[i]? = some f ∧ Ly = [dt x1 d, dt x2 f]) := by
  refine ⟨_, _, walk_zip (xs := vs) (ys := ws) (by rw [hl, hm]), fun H L o h => ⟨SqL.of (lvP (o.get (A := lv l vs ds) (h _ (.head _)))).1, SqL.of (lvP (o.get (A := lv m ws es) (h _ (.tail _ (.head _))))).1⟩, fun i H x H' L hi o h hy => ?_⟩
  obtain ⟨T, x1, x2, rfl, hn, rfl, e1, e2⟩ := hy
  obtain ⟨d, hd, hx⟩ := (lvP (o.get (A := lv l vs ds) (h _ (.head _)))).2.get e1
  obtain ⟨f, hf, hx2⟩ := (lvP (o.get (A := lv m ws es) (h _ (.tail _ (.head _))))).2.get e2
  refine ⟨_, ⟨T, x1, x2, _, rfl, rfl, d, f, hd, hf, rfl⟩, ?_⟩
  have o2 := ((o.newT (xs := [x1, x2]) hn).addD (hx2.mono (tle_new hn))).addD (hx.mono (tle_new hn))
  exact Own.pq (G := tp T [x1, x2] :: dt x1 d :: dt x2 f :: L) (.cons (.there (.there .here)) .refl) o2
/-! ### a dict stays as it is while one walks over it -/
theorem el_lock {d : Addr} {u : HO} (mu : Mut (some u)) (r : ∀ od, ∃ L', Rp (pt d u) (pt d (.frz od u)) L L' ∧ EL X e σ L' fun v L1 => ∃ L2, Rp (pt d (.frz od u)) (pt d u) L1 L2 ∧ Q v L2) (m : pt d u ∈ L) (nt : ∀ ys, u ≠ .tup ys) : EL X e σ L Q :=
  ⟨fun H o => of_pe (pe_lock We.pe) ⟨d, u, o.pt m, mu, fun od => by
    obtain ⟨L', r1, q⟩ := r od
    refine we_imp (q.run _ (o.wr r1 nt)) fun v H1 ⟨L1, o1, L2, r2, z⟩ => ⟨o1.pt r2.mem, L2, o1.wr r2 (fun ys e => by cases e), z⟩⟩⟩
theorem Own.hgetF {H : Hp} {p : Addr} {od : Obj} {kvs : HK} {y : V} {h : Int × Int} (oo : Own H L) (m : Sh.pt p (.frz od (.dT (kt kvs))) ∈ L) (hd : Dsi L y (hD h)) : DGet H p y (valV kvs h) := by
  obtain ⟨b, rfl, hb⟩ := dt_h (hd H H oo.s)
  rw [← kt_val]
  exact .inr ⟨kt kvs, kk h, b, .inr ⟨od, oo.pt m⟩, rfl, hb, rfl⟩
theorem xl_hdF {p : Addr} {od : Obj} {kvs : HK} {y v : V} {h : Int × Int} (hu : X.A.units + 1 < cLine) (m : pt p (.frz od (.dT (kt kvs))) ∈ L) (hd : Dsi L y (hD h)) (hv : valV kvs h = some v) (q : Q v L) : XL X (.ref p) y L Q := ⟨fun H o => ws_dict hu (by rw [← hv]; exact o.hgetF m hd) ⟨L, o, q⟩⟩
theorem dtAll_bl {T : Hp} : ∀ {vs : List V} {bs : List Bool}, DtAll T vs (bs.map PyData.bool) → vs = bs.map V.bl
  | [], [], _ => rfl
  | v :: vs, b :: bs, .cons h t => by
    cases h
    rw [dtAll_bl t]
    rfl
theorem cl_all {p : Addr} {bs : List Bool} (hc : X.calm = true) (m : ld p (bs.map PyData.bool) ∈ L) (q : Q (.bl (bs.all id)) L) : CL X (.builtin "all") [.ref p] L Q := of_cl (cr_all hc) fun H o => by
  obtain ⟨vs, e1, e2⟩ := get_ld o m
  exact ⟨p, bs, rfl, by rw [← dtAll_bl e2]; exact SqL.of e1, L, o, q⟩
theorem Dsi.bool {b : Bool} : Dsi L (.bl b) (.bool b) := Dsi.bl
end
end Sh
namespace Sh
open PySem PySem.Spec L2 PyProof.Rows
/-! ### a dict of handles against an empty one -/
section
variable {prog : Program} {w : World} {A : Around} {E : Value → Shared → Prop} {s : Shared}
theorem same0 {id : String} {a b : Addr} {oa ob : Obj} {es fs : Array DictEntry} {ep eq : Nat} {Q : Bool → Shared → Prop} (ha : (a == sysModules) = false) (hb : (b == sysModules) = false) (ga : s.heap.get? a = some oa) (da : oa.data = .dict es ep)
    (gb : s.heap.get? b = some ob) (db : ob.data = .dict fs eq) (h0 : fs.size = 0) (q : Q (decide (es.size = 0)) s) : wpAny (model prog w) A (Builtin.Dict.samePairs id a b) Q E s := by
  have nf : ∀ {c : Addr}, (c == sysModules) = false → ¬ (c == sysModules) = true := fun z => by rw [z]; exact Bool.false_ne_true
  unfold Builtin.Dict.samePairs
  unfold Builtin.Dict.showsAll
  rw [if_neg (nf ha), if_neg (nf hb)]
  refine wpAny_bind (wpAny_pure ?_)
  refine wpAny_bind (wpAny_pure ?_)
  refine wpAny_bind (wpAny_dictEntries ga da ?_)
  dsimp only
  refine wpAny_bind (wpAny_dictEntries gb db ?_)
  by_cases z : es.size = 0
  · rw [if_neg (by rw [z, h0]; simp)]
    refine wpAny_bind (wpAny_dictEpoch ga da ?_)
    refine wpAny_bind ?_
    rw [Std.Legacy.Range.forIn_eq_forIn_range']
    simp only [Std.Legacy.Range.size, Nat.sub_zero, Nat.add_sub_cancel, Nat.div_one]
    rw [z]
    rw [decide_eq_true z] at q
    exact wpAny_pure (wpAny_pure q)
  · rw [if_pos (by rw [h0]; simpa using z)]
    rw [decide_eq_false z] at q
    exact wpAny_bind (wpAny_rule (wpAny_pure q))
theorem ne0 {a b : Addr} {oa ob : Obj} {es fs : Array DictEntry} {ep eq : Nat} {Q : Value → Shared → Prop} (ha : (a == sysModules) = false) (hb : (b == sysModules) = false) (ta : s.TypeIs (.ref a) "dict") (tb : s.TypeIs (.ref b) "dict") (ga : s.heap.get? a = some oa) (da : oa.data = .dict es ep)
    (gb : s.heap.get? b = some ob) (db : ob.data = .dict fs eq) (h0 : fs.size = 0) (hu : A.units < cLine) (q : Q (.bool (!decide (es.size = 0))) s) : wpAny (model prog w) A (compareOp .NotEq (.ref a) (.ref b)) Q E s := by
  refine wpAny_richCompare_same_room (op := .NotEq) ta tb PySem.F.slot_dict_ne (wpAny_call_entry PySem.F.slot_dict_ne ta PySem.F.entry_dict_ne ?_ (PySem.F.args_dict_ne_2 _ _)) hu
  show wpAny _ _ (Builtin.Dict.dictSlotArgs _ _ >>= _) _ _ s
  refine wpAny_bind ?_
  unfold Builtin.Dict.dictSlotArgs
  refine wpAny_bind (wpAny_notOrdered_dict ta ?_)
  show wpAny _ _ (pure (_, _)) _ _ s
  refine wpAny_pure (wpAny_bind (wpAny_isInstance (T := "dict") tb PySem.F.sub_dict_dict ?_))
  simp only [Bool.not_true, Bool.false_eq_true, if_false]
  refine wpAny_bind (wpAny_pure ?_)
  refine wpAny_bind (wpAny_pure ?_)
  refine wpAny_bind (same0 ha hb ga da gb db h0 ?_)
  exact wpAny_pure ⟨_, rfl, (fun x => nomatch x), by simpa using q⟩
end
section
variable {X : Cx}
def rNe0 : R2 := fun x y H Q => ∃ a b kvs, x = .ref a ∧ y = .ref b ∧ H a = some (.dT kvs) ∧ H b = some (.dK []) ∧ Q (.bl (!decide (kvs = []))) H
theorem op_ne0 (hu : X.A.units < cLine) : OpR X (compareOp .NotEq) rNe0 := by
  intro pins s σ H x y v u Q I rx ry h
  obtain ⟨a, b, kvs, rfl, rfl, ea, eb, q⟩ := h
  obtain rfl : v = Value.ref a := rx
  obtain rfl : u = Value.ref b := ry
  obtain ⟨z, ya, xs, rel, dd⟩ := dt_of I.hok ea
  obtain ⟨_, yb, vb, rb, db⟩ := dk_of I.hok eb
  obtain ⟨oa, es, ep, ga, _, da, he, _⟩ := id dd
  obtain ⟨ob, fs, eq, gb, _, dbb, _, hp, _⟩ := id db
  have hes : es.size = xs.length := size_of_entries he
  have hl := Paired.length rel
  have hvb : vb.length = 0 := by have := rb.length; simpa using this.symm
  have hf : fs.size = 0 := by have := hp.length; rw [hvb] at this; simpa using this
  refine ne0 ya yb dd.typeIs db.typeIs ga da gb dbb hf hu (fin_bl I q ?_)
  congr 1
  rw [hes, ← hl]
  exact decide_eq_decide.mpr List.length_eq_zero_iff.symm
variable {L : As} {Q : LK} {p q : Addr} {kvs : HK} {l : Nat} {C : Cl} {E : EK}
theorem ol_ne0 (hu : X.A.units + 1 < cLine) (m : pt p (.dT (kt kvs)) ∈ L) (m2 : pt q (.dK []) ∈ L) (k : Q (.bl (!decide (kvs = []))) L) : OL X (compareOp .NotEq) (.ref p) (.ref q) L Q := of_ol (op_ne0 (by omega)) fun H o => by
  refine ⟨p, q, kt kvs, rfl, rfl, o.pt m, o.pt m2, ?_⟩
  have : decide (kt kvs = []) = decide (kvs = []) := decide_eq_decide.mpr List.map_eq_nil_iff
  rw [this]
  exact ⟨L, o, k⟩
end
/-! ### while -/
section
variable {X : Cx} {D : DL} {σ : St} {L : As} {c : Expr} {body : List Stmt} {pos : Pos}
/-- n: how many turns there are at most -/
theorem sl_while (po : PassesOwn (model X.prog X.w) X.A X.env X.xe) (α : Type) (I : Nat → LI α) (n : Nat) (h0 : (I n).at σ L)
    (hs : ∀ m x, (I m).ok x → TL X c ((I m).st x) ((I m).as x) fun b L1 => if b = true then ∃ m', m = m' + 1 ∧ BL X body (D.loop (I m').at) ((I m).st x) L1 else D.nx ((I m).st x) L1) : SL X (.While c body [] pos) D σ L := by
  refine ⟨fun H o => of_ps (ps_while po Wt.pt Wb.pss) ⟨fun m σ H => dnS (I m).at σ H, ⟨n, L, o, h0⟩, fun m σ H hh => ?_⟩⟩
  obtain ⟨L, o, x, ok, rfl, im⟩ := hh
  refine wt_imp ((hs m x ok).run H (im.own o)) fun b H1 ⟨L1, o1, q⟩ => ?_
  cases b with
  | false =>
    rw [if_neg Bool.false_ne_true] at q ⊢
    exact ⟨L1, o1, q⟩
  | true =>
    rw [if_pos rfl] at q ⊢
    obtain ⟨m', rfl, q⟩ := q
    exact ⟨dnS (I m').at, fun σ' H' z => ⟨m', by omega, z⟩, wb_imp (q.run H1 o1) ⟨fun _ _ z => z, fun _ _ z => z, fun _ _ z => z, fun _ _ z => z⟩⟩
end
end Sh
namespace Sh
open PySem
def ifBody : Stmt → List Stmt
  | .If _ b _ _ => b
  | _ => []
def ifElse : Stmt → List Stmt
  | .If _ _ b _ => b
  | _ => []
def whBody : Stmt → List Stmt
  | .While _ b _ _ => b
  | _ => []
end Sh
namespace Sh
open PySem PySem.Spec L2 PyProof.Rows
section
variable {X : Cx} {e e2 iter tg : Expr} {σ : St} {L : As} {p2 p3 tpos : Pos} {kk : Nat} {R : It → As → Prop} {elts : List Expr}
/-- over a list of data -/
theorem il_ld (q : EL X iter σ L fun x L1 => ∃ (l : Addr) (ds : List PyData) (L2 : As), x = .ref l ∧ Rm (ld l ds) L1 L2 ∧ ∀ vs, vs.length = ds.length → R (Itl X.K l) (lv l vs ds :: L2)) : IL X tg iter σ L R :=
  ⟨_, pi_list We.pe, fun H o R' hR => we_imp (q.run H o) fun x H1 ⟨L1, o1, l, ds, L2, ex, rm, r⟩ => by
    obtain ⟨vs, s1⟩ := ld_split (o1.s.front rm)
    obtain ⟨a1, a2⟩ := lvP (s1.get (A := lv l vs ds) List.mem_cons_self)
    exact ⟨l, ex, ⟨vs, SqL.of a1⟩, hR _ _ _ ⟨s1⟩ (r vs (DtAll.len a2))⟩⟩
theorem il_enumL (g : Bn X.env X.mg "enumerate" (.type "enumerate")) (q : EL X e σ L fun x L1 => ∃ (l : Addr) (ds : List PyData) (L2 : As), x = .ref l ∧ Rm (ld l ds) L1 L2 ∧ ∀ vs, vs.length = ds.length → R (Ite X.K l) (lv l vs ds :: L2))
    (h1 : starEach [e] X.env = [(false, eval e X.env)] := by rfl) : IL X (.Tuple elts kk tpos) (.Call (.Name "enumerate" p2) [e] [] p3) σ L R :=
  ⟨_, pi_enum g.gl g.mg (pa_cons We.pe pa_nil h1) h1, fun H o R' hR => we_imp (q.run H o) fun x H1 ⟨L1, o1, l, ds, L2, ex, rm, r⟩ => by
    obtain ⟨vs, s1⟩ := ld_split (o1.s.front rm)
    obtain ⟨a1, a2⟩ := lvP (s1.get (A := lv l vs ds) List.mem_cons_self)
    exact ⟨l, vs, by rw [ex], SqL.of a1, hR _ _ _ ⟨s1⟩ (r vs (DtAll.len a2))⟩⟩
theorem il_zipL (g : Bn X.env X.mg "zip" (.type "zip")) (q : EL X e σ L fun x L1 => EL X e2 σ L1 fun y L2 => ∃ (l m : Addr) (ds fs : List PyData) (L3 L4 : As), x = .ref l ∧ y = .ref m ∧ Rm (ld l ds) L2 L3 ∧ Rm (ld m fs) L3 L4 ∧ ∀ vs ws, vs.length = ds.length → ws.length = fs.length → R (Itz X.K l m) (lv m ws fs :: lv l vs ds :: L4))
    (h1 : starEach [e, e2] X.env = (false, eval e X.env) :: starEach [e2] X.env := by rfl) (h2 : starEach [e2] X.env = (false, eval e2 X.env) :: starEach [] X.env := by rfl) (hpl : (backTo p3 (starEach [e2] X.env)).any (·.1) = false := by rfl) :
    IL X (.Tuple elts kk tpos) (.Call (.Name "zip" p2) [e, e2] [] p3) σ L R :=
  ⟨_, pi_zip g.gl g.mg (pa_cons We.pe (pa_cons We.pe pa_nil h2) h1) h1 hpl, fun H o R' hR => we_imp (q.run H o) fun x H1 ⟨L1, o1, q1⟩ => we_imp (q1.run H1 o1) fun y H2 ⟨L2, o2, l, m, ds, fs, L3, L4, ex, ey, r1, r2, r⟩ => by
    obtain ⟨vs, s1⟩ := ld_split (o2.s.front r1)
    obtain ⟨a1, a2⟩ := lvP (s1.get (A := lv l vs ds) List.mem_cons_self)
    obtain ⟨ws, s2⟩ := ld_split (s1.front (.there r2))
    obtain ⟨b1, b2⟩ := lvP (s2.get (A := lv m ws fs) List.mem_cons_self)
    exact ⟨l, m, vs, ws, by rw [ex, ey], SqL.of a1, SqL.of b1, hR _ _ _ ⟨s2⟩ (r vs ws (DtAll.len a2) (DtAll.len b2))⟩⟩
end
end Sh
namespace Sh
theorem cutG_mem {α : Type} {xs : List α} {lo hi : Option Int} {x : α} (h : x ∈ cutG xs lo hi) : x ∈ xs := by
  unfold cutG at h
  exact List.mem_of_mem_drop (List.mem_of_mem_take h)
end Sh
namespace Sh
open PySem PySem.Spec L2 PyProof.Rows
section
variable {X : Cx} {L : As} {Q : LK} {p : Addr} {x : V} {d : PyData} {r : Int} {vs : List V} {ds : List PyData}
theorem dtAll_rep {T : Hp} (h : Dt T x d) : ∀ n, DtAll T (List.replicate n x) (List.replicate n d)
  | 0 => .nil
  | n + 1 => .cons h (dtAll_rep h n)
theorem flat_rep (x : V) : ∀ n, (List.replicate n [x]).flatten = List.replicate n x
  | 0 => rfl
  | n + 1 => by rw [List.replicate_succ, List.flatten_cons, flat_rep x n]; rfl
theorem ol_repD (m : pt p (.lst [x]) ∈ L) (hd : Dsi L x d) (h1 : -(2 ^ 63) ≤ r) (h2 : r < 10000000) (k : ∀ l, Q (.ref l) (ld l (List.replicate r.toNat d) :: L)) : OL X (binaryOp .Mult) (.ref p) (.int r) L Q :=
  of_ol op_rep fun H o => ⟨p, r, [x], rfl, rfl, o.pt m, h1, by omega, sz (by show 1 * r.toNat ≤ _; omega), fun l hn => ⟨_, new_ld o hn rfl (by rw [flat_rep]; exact dtAll_rep (hd H H o.s) _), k l⟩⟩
theorem cl_lenlv (m : lv p vs ds ∈ L) (q : Q (.int ds.length) L) : CL X (.builtin "len") [.ref p] L Q := ⟨fun H o => by
  obtain ⟨e1, e2⟩ := lvP (o.get (A := lv p vs ds) m)
  exact wc_lenL (SqL.of e1) (by rw [DtAll.len e2]; exact ⟨L, o, q⟩)⟩
end
theorem pls_rep {j n : Nat} {d : PyData} (h : pl j d = true) : pls j (List.replicate n d) = true := by
  unfold pls
  exact List.all_eq_true.mpr fun x hx => by rw [(List.mem_replicate.mp hx).2]; exact h
end Sh
namespace Sh
open PySem PySem.Spec L2 PyProof.Rows
section
variable {X : Cx} {σ : St} {L : As} {Q : LK} {a e : Expr} {p1 p2 p3 pos : Pos}
theorem rgV_slots (n : Nat) : rgV 0 (n : Int) = iv (slots n) := by
  unfold rgV iv slots
  rw [List.map_map]
  simp
/-- list(range(a)) -/
theorem el_listRg (hc : X.calm = true) (gl : Bn X.env X.mg "list" (.type "list")) (gr : Bn X.env X.mg "range" (.type "range")) (q : EL X a σ L fun x L1 => ∃ n : Nat, x = .int (n : Int) ∧ n < 10000000 ∧ ∀ l, Q (.ref l) (pt l (.lst (iv (slots n))) :: L1))
    (na : starEach [a] X.env = (false, eval a X.env) :: starEach [] X.env := by rfl) (nb : starEach [.Call (.Name "range" p1) [a] [] p2] X.env = (false, eval (.Call (.Name "range" p1) [a] [] p2) X.env) :: starEach [] X.env := by rfl) :
    EL X (.Call (.Name "list" p3) [.Call (.Name "range" p1) [a] [] p2] [] pos) σ L Q :=
  ⟨fun H o => of_pe (pe_listRg hc gl.gl gl.mg (prg_1 gr.gl gr.mg We.pe na) nb) (we_imp (q.run H o) fun x H1 ⟨L1, o1, n, ex, hn, q1⟩ => ⟨n, ex, RgOk.of_le (by decide) (by omega) (by decide) (by omega), fun l hn => ⟨_, o1.newE hn (by rw [rgV_slots]), q1 l⟩⟩)⟩
end
end Sh
namespace Sh
open PySem PySem.Spec L2 PyProof.Rows
/-! ### numbers of handles -/
def sNum (K : PySem.W.Frag) : SpL := fun vs L Q _ => ∃ (s : Addr) (v : V) (n r : Int) (la rn : Bool) (h : Int × Int), vs = [.ref s, v] ∧ tp s (setV n r la rn) ∈ L ∧ 1 ≤ n ∧ n ≤ 60 ∧ 1 ≤ r ∧ r ≤ 1000 ∧ Dsi L v (hD h) ∧ InR n r h ∧ Q (.int (h.2 * n + h.1)) L
def sHan (K : PySem.W.Frag) : SpL := fun vs L Q _ => ∃ (s : Addr) (n r : Int) (la rn : Bool) (k : Int), vs = [.ref s, .int k] ∧ tp s (setV n r la rn) ∈ L ∧ 1 ≤ n ∧ n ≤ 60 ∧ 1 ≤ r ∧ r ≤ 1000 ∧ 0 ≤ k ∧ k < n * r ∧ ∀ t, Q (.ref t) (dt (.ref t) (hD (k % n, k / n)) :: L)
section
variable {K : PySem.W.Frag} {C : Cl} {L : As} {Q : LK} {E : Er → As → Prop} {s : Addr} {v : V} {n r k : Int} {la rn : Bool} {h : Int × Int}
theorem sNum.i (m : tp s (setV n r la rn) ∈ L) (hd : Dsi L v (hD h)) (h1 : 1 ≤ n) (h2 : n ≤ 60) (h3 : 1 ≤ r) (h4 : r ≤ 1000) (hr : InR n r h) (q : Q (.int (h.2 * n + h.1)) L) : sNum K [.ref s, v] L Q E := ⟨s, v, n, r, la, rn, h, rfl, m, h1, h2, h3, h4, hd, hr, q⟩
theorem sHan.i (m : tp s (setV n r la rn) ∈ L) (h1 : 1 ≤ n) (h2 : n ≤ 60) (h3 : 1 ≤ r) (h4 : r ≤ 1000) (k0 : 0 ≤ k) (k1 : k < n * r) (q : ∀ t, Q (.ref t) (dt (.ref t) (hD (k % n, k / n)) :: L)) : sHan K [.ref s, .int k] L Q E := ⟨s, n, r, la, rn, k, rfl, m, h1, h2, h3, h4, k0, k1, q⟩
theorem asH_hD (hr : InR n r h) : asH n r (hD h) = some h := by
  obtain ⟨a, b, c, d⟩ := hr
  show (if 0 ≤ h.1 ∧ h.1 ≤ n - 1 ∧ 0 ≤ h.2 ∧ h.2 ≤ r - 1 then some (h.1, h.2) else none) = _
  rw [if_pos ⟨a, by omega, c, by omega⟩]
theorem sNum_h (vs : List V) (H : Hp) (Q : VK) (E : XK) (z : lsp C (sNum K) vs H Q E) : spNumberOf K C vs H Q E := by
  obtain ⟨L, Q', E', o, ⟨s, v, n, r, la, rn, h, rfl, m, h1, h2, h3, h4, hd, hr, q⟩, q1, q2⟩ := z
  have ea := asH_hD hr
  refine ⟨_, v, hD h, rfl, (hd H H o.s).dp, .inl ⟨s, n, r, la, rn, rfl, SqT.of (o.tp m), h1, h2, h3, h4, fun z => ?_, fun x c z => ?_⟩⟩
  · rw [ea] at z; cases z
  · rw [ea] at z
    cases z
    exact q1 _ _ _ o q
theorem sHan_h (vs : List V) (H : Hp) (Q : VK) (E : XK) (z : lsp C (sHan K) vs H Q E) : spHandleOf K C vs H Q E := by
  obtain ⟨L, Q', E', o, ⟨s, n, r, la, rn, k, rfl, m, h1, h2, h3, h4, k0, k1, q⟩, q1, q2⟩ := z
  have hw : isWhole (.int k) 0 (n * r - 1) = true := by
    show (decide (0 ≤ k) && decide (k ≤ n * r - 1)) = true
    rw [decide_eq_true k0, decide_eq_true (by omega)]; rfl
  refine ⟨_, _, .int k, rfl, .int k, .inl ⟨s, n, r, la, rn, rfl, SqT.of (o.tp m), h1, h2, h3, h4, fun z => ?_, fun k' z _ p H' hn e => ?_⟩⟩
  · rw [hw] at z; cases z
  · cases z
    have o2 := o.newTE hn e
    exact q1 _ _ _ (o2.drop.addD (.tup (o2.tp List.mem_cons_self) (.cons (.int _) (.cons (.int _) .nil)))) (q p)
end
/-- len(set(ints)), all unlike -/
theorem el_lenSet {X : Cx} {σ : St} {L : As} {Q : LK} {a : Expr} {p1 p2 p3 pos : Pos} (hc : X.calm = true) (g1 : Bn X.env X.mg "len" (.builtin "len")) (g2 : Bn X.env X.mg "set" (.type "set"))
    (q : EL X a σ L fun x L1 => ∃ (l : Addr) (ns : List Int), x = .ref l ∧ pt l (.lst (iv ns)) ∈ L1 ∧ ns.length < 64 ∧ ns.Nodup ∧ Q (.int (ns.length : Nat)) L1)
    (na : starEach [a] X.env = (false, eval a X.env) :: starEach [] X.env := by rfl) :
    EL X (.Call (.Name "len" p1) [.Call (.Name "set" p2) [a] [] p3] [] pos) σ L Q :=
  ⟨fun H o => of_pe (RZ.pe_lenSetI g1.gl g1.mg g2.gl g2.mg We.pe hc na) (we_imp (q.run H o) fun x H1 ⟨L1, o1, l, ns, ex, m, h1, h2, q1⟩ => ⟨l, ns, ex, SqL.of (o1.pt m), h2, by omega, L1, o1, q1⟩)⟩
end Sh
namespace Sh
open PySem PySem.Spec L2 PyProof.Rows
theorem TL.wk {X : Cx} {C : Cl} {l : Nat} {E : EK} {e : Expr} {σ : St} {L : As} {Q : Bool → As → Prop} (W : Wk X C l E) (q : Wk X C l E → TL X e σ L Q) : TL X e σ L Q := q W
end Sh
namespace Sh
open PySem PySem.Spec L2 PyProof.Rows
theorem Nf.swf {X : Cx} {N : List Str} {sc : Scope} {elt : Expr} {scope : Scope} {gs : List Comprehension} {py pos : Pos} {yn : Str} {l : Nat} (B : Nf X N sc) (hy : sc.names.lookup yn = some .cell) : swapsWithSole [.Name yn py] (.ListComp elt gs scope pos) l X.env = pure false := by
  have ky : X.env.kindOf yn = some .cell := by
    show X.env.scope.names.lookup yn = _
    rw [B.hs]; exact hy
  have kc : (NameKind.cell == NameKind.local) = false := by decide
  unfold swapsWithSole swapsWith
  simp only [ky]
  simp [kc]
end Sh
namespace Sh
open PySem PySem.Spec L2 PyProof.Rows
/-! ### things side by side -/
/-- P keeps the places of what S keeps -/
structure Pl (S P : SS) (row : List (Int × Int)) : Prop where
  eq : P = { S with ws := P.ws }
  keys : P.ws.map (·.1) = S.ws.map (·.1)
  pm : row.Perm S.lvU
  place : ∀ (j : Nat) (h : Int × Int), row[j]? = some h → valV P.ws h.1 = some (.int (j : Int))
section
variable {S S' P P' : SS} {row : List (Int × Int)} {h k : Int × Int} {v : V} {s : Int}
theorem Pl.en (p : Pl S P row) : P.n = S.n ∧ P.r = S.r ∧ P.last = S.last ∧ P.rnd = S.rnd ∧ P.cs = S.cs ∧ P.ln = S.ln ∧ P.gn = S.gn := by
  have e := p.eq
  refine ⟨?_, ?_, ?_, ?_, ?_, ?_, ?_⟩ <;> rw [e]
theorem Pl.cnt (p : Pl S P row) : P.cnt s = S.cnt s := by unfold SS.cnt; rw [p.en.2.2.2.2.1]
theorem Pl.ok (p : Pl S P row) (ok : S.Ok) : P.Ok := by
  obtain ⟨e1, e2, e3, e4, e5, e6, e7⟩ := p.en
  refine ⟨by rw [e1]; exact ok.n1, by rw [e1]; exact ok.n60, by rw [e2]; exact ok.r1, by rw [e2]; exact ok.rk, by rw [e5, e1]; exact ok.len, by rw [e5, e2]; exact ok.cr, ?_⟩
  rw [p.keys, e5, e6, e7]
  exact ok.parts
theorem Pl.holds (p : Pl S P row) : P.holds k.1 k.2 = S.holds k.1 k.2 := by
  have e : (valV P.ws k.1).isSome = (valV S.ws k.1).isSome := by
    rw [Bool.eq_iff_iff, valV_mem, valV_mem, p.keys]
  unfold SS.holds
  rw [e, p.cnt]
theorem Pl.at (p : Pl S P row) (d : PyData) : P.at d = S.at d := by
  obtain ⟨e1, e2, _⟩ := p.en
  unfold SS.at
  rw [e1, e2]
  split
  · rfl
  · rename_i s c _
    rw [show P.holds s c = S.holds s c from p.holds (k := (s, c))]
theorem Pl.mem (p : Pl S P row) : h ∈ row ↔ S.holds h.1 h.2 = true := p.pm.mem_iff.trans mem_lvU
theorem Pl.nd (p : Pl S P row) (ok : S.Ok) : (row.map (·.1)).Nodup := by
  have : (row.map (·.1)).Perm (S.lvU.map (·.1)) := p.pm.map _
  rw [lvU_keys] at this
  exact this.nodup_iff.mpr ok.ndW
theorem Pl.len (p : Pl S P row) (ok : S.Ok) : row.length ≤ 60 := by
  have h1 := p.pm.length_eq
  unfold SS.lvU at h1
  rw [List.length_map] at h1
  have := ok.lenW
  omega
/-- a handle has one place -/
theorem Pl.inj (p : Pl S P row) {i j : Nat} {h k : Int × Int} (h1 : row[i]? = some h) (h2 : row[j]? = some k) (e : h.1 = k.1) : i = j := by
  have a := p.place i h h1
  have b := p.place j k h2
  rw [e, b] at a
  injection a with a
  injection a with a
  omega
theorem Pl.new {n r : Int} {la rn : Bool} : Pl (SS.new n r la rn) (SS.new n r la rn) [] := ⟨rfl, rfl, List.Perm.refl _, fun j h e => by simp at e⟩
theorem Pl.put (p : Pl S P row) (ok : S.Ok) (e : S.putIn v = .ok (h, S')) : ∃ P', P.putIn (.int (row.length : Int)) = .ok (h, P') ∧ Pl S' P' (row ++ [h]) := by
  obtain ⟨e1, e2, e3, e4, e5, e6, e7⟩ := p.en
  have okP := p.ok ok
  have hcn : ∀ x, P.cnt x = S.cnt x := fun x => p.cnt
  have hex : ∃ P', P.putIn (.int (row.length : Int)) = .ok (h, P') ∧ P' = { S' with ws := P'.ws } ∧ P'.ws = P.ws ++ [(h.1, .int (row.length : Int))] := by
    obtain ⟨w1, w2⟩ := put_ws ok e
    have hn : valV P.ws h.1 = none := valV_none _ (by rw [p.keys]; exact w2)
    by_cases hl : S.ln = []
    · by_cases hc : (S.cs.length : Int) < S.n
      · rw [putIn_new hl hc] at e
        cases e
        refine ⟨_, putIn_new (by rw [e6]; exact hl) (by rw [e5, e1]; exact hc) |>.trans (by rw [e5]), ?_, ?_⟩
        · rw [e1, e2, e3, e4, e6, e7]
        · exact putK_new _ hn
      · rw [putIn_full hl hc] at e
        cases e
    · rw [putIn_ln hl] at e
      cases e
      refine ⟨_, (putIn_ln (by rw [e6]; exact hl)).trans (by rw [e3, e6, hcn]), ?_, ?_⟩
      · rw [e1, e2, e4, e5, e7]
      · exact putK_new _ hn
  obtain ⟨P', q1, q2, q3⟩ := hex
  obtain ⟨w1, w2⟩ := put_ws ok e
  refine ⟨P', q1, ⟨q2, ?_, ?_, fun j k hj => ?_⟩⟩
  · rw [q3, w1, List.map_append, List.map_append, p.keys]; rfl
  · rw [put_lvU ok e]
    exact p.pm.append_right _
  · rw [q3]
    have hv : ∀ t, valV (P.ws ++ [(h.1, V.int (row.length : Int))]) t = if t = h.1 then some (.int (row.length : Int)) else valV P.ws t := fun t => by
      rw [← putK_new (k := h.1) _ (valV_none _ (by rw [p.keys]; exact w2)), valV_put]
    rw [hv]
    rcases Nat.lt_or_ge j row.length with hlt | hge
    · rw [List.getElem?_append_left hlt] at hj
      have hk := p.mem.mp (List.mem_of_getElem? hj)
      rw [if_neg (fun z : k.1 = h.1 => w2 (by rw [← z]; exact (SS.holds_in hk).1))]
      exact p.place j k hj
    · have : j = row.length := by
        have := (List.getElem?_eq_some_iff.mp hj).1
        rw [List.length_append, List.length_singleton] at this
        omega
      subst this
      rw [List.getElem?_append_right (Nat.le_refl _), Nat.sub_self] at hj
      cases hj
      rw [if_pos rfl]
theorem Pl.full (p : Pl S P row) {er : Er} (e : S.putIn v = .error er) (w : V) : P.putIn w = .error er := by
  obtain ⟨e1, e2, e3, e4, e5, e6, e7⟩ := p.en
  obtain ⟨rfl, hl, hc⟩ := SS.put_err e
  exact putIn_full (by rw [e6]; exact hl) (by rw [e5, e1]; exact hc)
theorem Pl.chg (p : Pl S P row) (hs : s ∈ S.ws.map (·.1)) : Pl (S.chg s v) P row := by
  have e := p.eq
  refine ⟨by rw [e]; rfl, ?_, ?_, p.place⟩
  · rw [p.keys]
    exact (keys_put_old S.ws hs).symm
  · rw [chg_lvU hs]; exact p.pm
theorem Pl.dropE (p : Pl S P row) : P.dropAt s = { S.dropAt s with ws := dropK P.ws s } := by
  obtain ⟨e1, e2, e3, e4, e5, e6, e7⟩ := p.en
  have e8 : P.cnt s = S.cnt s := p.cnt
  unfold SS.dropAt
  rw [e1, e2, e3, e4, e5, e6, e7, e8]
  split
  · rfl
  · split <;> rfl
theorem keys_dropK {ws us : List (Int × V)} (h : ws.map (·.1) = us.map (·.1)) : (dropK ws s).map (·.1) = (dropK us s).map (·.1) := by rw [keys_drop, keys_drop, h]
theorem row_at (p : Pl S P row) (hh : S.holds h.1 h.2 = true) : ∃ j : Nat, row[j]? = some h ∧ valV P.ws h.1 = some (.int (j : Int)) := by
  obtain ⟨j, hj, e⟩ := List.getElem_of_mem (p.mem.mpr hh)
  have := List.getElem?_eq_some_iff.mpr ⟨hj, e⟩
  exact ⟨j, this, p.place j h this⟩
/-- the last one goes -/
theorem Pl.dropL (p : Pl S P (row ++ [h])) (ok : S.Ok) (hh : S.holds h.1 h.2 = true) : Pl (S.dropAt h.1) (P.dropAt h.1) row := by
  refine ⟨p.dropE.trans (by rw [drop_ws]), ?_, ?_, fun j k hj => ?_⟩
  · rw [drop_ws, drop_ws]
    exact keys_dropK p.keys
  · have h1 : (row ++ [h]).Perm (h :: row) := List.perm_append_comm
    exact (List.perm_cons h).mp ((h1.symm.trans p.pm).trans (drop_perm ok hh))
  · rw [drop_ws, valV_drop']
    have hj' : (row ++ [h])[j]? = some k := by rw [List.getElem?_append_left (List.getElem?_eq_some_iff.mp hj).1]; exact hj
    have hl : (row ++ [h])[row.length]? = some h := by simp
    rw [if_neg (fun z => ?_)]
    · exact p.place j k hj'
    · have := p.inj hj' hl z
      have := (List.getElem?_eq_some_iff.mp hj).1
      omega
/-- another one goes, the last one comes to its place -/
theorem Pl.dropM {l : Int × Int} {j : Nat} (p : Pl S P (row ++ [l])) (ok : S.Ok) (hj : row[j]? = some h) (hh : S.holds h.1 h.2 = true) :
    Pl (S.dropAt h.1) { P.dropAt h.1 with ws := putK (dropK P.ws h.1) l.1 (.int (j : Int)) } (row.set j l) := by
  have jl : j < row.length := (List.getElem?_eq_some_iff.mp hj).1
  have hj' : (row ++ [l])[j]? = some h := by rw [List.getElem?_append_left jl]; exact hj
  have hl : (row ++ [l])[row.length]? = some l := by simp
  have ne : l.1 ≠ h.1 := fun z => by have := p.inj hl hj' z; omega
  have hlk : l.1 ∈ (dropK P.ws h.1).map (·.1) := by
    rw [keys_drop, List.mem_filter, p.keys]
    exact ⟨(SS.holds_in (p.mem.mp (List.mem_of_getElem? hl))).1, by simpa using ne⟩
  refine ⟨?_, ?_, ?_, fun i k hi => ?_⟩
  · rw [p.dropE]
  · rw [keys_put_old _ hlk, drop_ws]
    exact keys_dropK p.keys
  · refine (List.perm_cons h).mp (List.Perm.trans ?_ ((p.pm).trans (drop_perm ok hh)))
    have e : row = row.take j ++ h :: row.drop (j + 1) := by
      have := (List.take_append_drop j row).symm
      rw [List.drop_eq_getElem_cons jl] at this
      rw [(List.getElem?_eq_some_iff.mp hj).2] at this
      exact this
    have e2 : row.set j l = row.take j ++ l :: row.drop (j + 1) := by
      rw [List.set_eq_take_append_cons_drop, if_pos jl]
    rw [e2]
    conv => rhs; rw [e]
    have a1 : (h :: (row.take j ++ l :: row.drop (j + 1))).Perm (h :: l :: (row.take j ++ row.drop (j + 1))) := List.Perm.cons h List.perm_middle
    have a2 : ((row.take j ++ h :: row.drop (j + 1)) ++ [l]).Perm (l :: h :: (row.take j ++ row.drop (j + 1))) := List.perm_append_comm.trans (List.Perm.cons l List.perm_middle)
    exact (a1.trans (List.Perm.swap _ _ _)).trans a2.symm
  · rw [valV_put]
    rw [List.getElem?_set] at hi
    by_cases z : j = i
    · subst z
      rw [if_pos rfl, if_pos jl] at hi
      cases hi
      rw [if_pos rfl]
    · rw [if_neg z] at hi
      have hi' : (row ++ [l])[i]? = some k := by rw [List.getElem?_append_left (List.getElem?_eq_some_iff.mp hi).1]; exact hi
      rw [if_neg (fun q => by have := p.inj hi' hl q; have := (List.getElem?_eq_some_iff.mp hi).1; omega), valV_drop', if_neg (fun q => z (p.inj hj' hi' q.symm))]
      exact p.place i k hi'
/-- two change places -/
theorem Pl.swap {i j : Nat} {a b : Int × Int} (p : Pl S P row) (hi : row[i]? = some a) (hj : row[j]? = some b) :
    Pl S { P with ws := putK (putK P.ws b.1 (.int (i : Int))) a.1 (.int (j : Int)) } ((row.set i b).set j a) := by
  have il := (List.getElem?_eq_some_iff.mp hi).1
  have jl := (List.getElem?_eq_some_iff.mp hj).1
  have ka : a.1 ∈ P.ws.map (·.1) := by rw [p.keys]; exact (SS.holds_in (p.mem.mp (List.mem_of_getElem? hi))).1
  have kb : b.1 ∈ P.ws.map (·.1) := by rw [p.keys]; exact (SS.holds_in (p.mem.mp (List.mem_of_getElem? hj))).1
  refine ⟨by rw [p.eq], ?_, ?_, fun k c hk => ?_⟩
  · rw [keys_put_old _ (by rw [keys_put_old _ kb]; exact ka), keys_put_old _ kb]
    exact p.keys
  · refine List.Perm.trans ?_ p.pm
    have hab : b = row[j] := (List.getElem?_eq_some_iff.mp hj).2.symm
    have haa : a = row[i] := (List.getElem?_eq_some_iff.mp hi).2.symm
    rw [hab, haa]
    exact List.set_set_perm il jl
  · rw [valV_put, valV_put]
    rw [List.getElem?_set, List.length_set] at hk
    by_cases z : j = k
    · subst z
      rw [if_pos rfl, if_pos jl] at hk
      cases hk
      rw [if_pos rfl]
    · rw [if_neg z, List.getElem?_set] at hk
      by_cases z2 : i = k
      · subst z2
        rw [if_pos rfl, if_pos il] at hk
        cases hk
        rw [if_neg (fun q => z (p.inj hj hi q)), if_pos rfl]
      · rw [if_neg z2] at hk
        rw [if_neg (fun q => z2 (p.inj hk hi q).symm), if_neg (fun q => z (p.inj hk hj q).symm)]
        exact p.place k c hk
end
end Sh
namespace Sh
open PySem PySem.Spec L2 PyProof.Rows
structure DnAd where
  (dx st ro he : Addr)
def dflds (q : DnAd) : List (Str × V) := [("store", .ref q.st), ("row", .ref q.ro), ("here", .ref q.he)]
theorem df1 {q : DnAd} : (dflds q).lookup ("store" : Str) = some (.ref q.st) := by rfl
theorem df2 {q : DnAd} : (dflds q).lookup ("row" : Str) = some (.ref q.ro) := by rfl
theorem df3 {q : DnAd} : (dflds q).lookup ("here" : Str) = some (.ref q.he) := by rfl
def wI (S : SS) (s : Int) : Int := match valV S.ws s with
  | some (.int i) => i
  | _ => 0
def hereOf (S : SS) (row : List (Int × Int)) : List Int := row.map fun h => wI S h.1
/-- a dense store: S as a store of worths, row the handles side by side -/
def DenseAt (C : Cl) (p : Addr) (S : SS) (row : List (Int × Int)) : Asn := ex fun x : DnAd × SS => cj [pr (Pl S x.2 row), pt p (.ins C.Dense x.1.dx (dflds x.1)), StoreAt C.Store x.1.st x.2, ld x.1.ro (row.map hD), pt x.1.he (.lst (iv (hereOf S row)))]
section
variable {X : Cx} {C : Cl} {σ : St} {L L' L1 L2 L3 L4 G : As} {Q : LK} {D : DL} {p : Addr} {S P : SS} {row : List (Int × Int)} {s : Int} {h : Int × Int} {i : Int}
theorem BL.openD {st : List Stmt} (r : Rm (DenseAt C p S row) L L1) (q : ∀ (q : DnAd) (P : SS), Pl S P row → BL X st D σ (pt p (.ins C.Dense q.dx (dflds q)) :: StoreAt C.Store q.st P :: ld q.ro (row.map hD) :: pt q.he (.lst (iv (hereOf S row))) :: L1)) : BL X st D σ L :=
  ⟨fun H o => by
    obtain ⟨⟨w, P⟩, o1⟩ := Own.exI (o.front r)
    obtain ⟨pl, o2⟩ := Own.prI (Own.cjI (L1 := [pr (Pl S P row), pt p (.ins C.Dense w.dx (dflds w)), StoreAt C.Store w.st P, ld w.ro (row.map hD), pt w.he (.lst (iv (hereOf S row)))]) o1)
    exact (q w P pl).run H o2⟩
theorem imp_dnC (q : DnAd) (pl : Pl S P row) : Imp (pt p (.ins C.Dense q.dx (dflds q)) :: StoreAt C.Store q.st P :: ld q.ro (row.map hD) :: pt q.he (.lst (iv (hereOf S row))) :: L) (DenseAt C p S row :: L) := fun T h s => by
  have s2 : SLs T h ([pr (Pl S P row), pt p (.ins C.Dense q.dx (dflds q)), StoreAt C.Store q.st P, ld q.ro (row.map hD), pt q.he (.lst (iv (hereOf S row)))] ++ L) := ⟨fun _ => none, h, fun _ => .inl rfl, fun _ _ e => (by cases e), HLe.rfl, pl, s⟩
  obtain ⟨h1, h2, d, l1, l2, a, s⟩ := SLs.cjE s2
  exact ⟨h1, h2, d, l1, l2, ⟨(q, P), a⟩, s⟩
theorem imp_dn (q : DnAd) (pl : Pl S P row) (r1 : Rm (pt p (.ins C.Dense q.dx (dflds q))) L L1) (r2 : Rm (StoreAt C.Store q.st P) L1 L2) (r3 : Rm (ld q.ro (row.map hD)) L2 L3) (r4 : Rm (pt q.he (.lst (iv (hereOf S row)))) L3 L4) (k : Imp L4 G) : Imp L (DenseAt C p S row :: G) :=
  (imp_cons r1 (imp_cons r2 (imp_cons r3 (imp_cons r4 k)))).trans (imp_dnC q pl)
theorem Rc.dense {n : Str} (m : DenseAt C p S row ∈ L) (hl : ∀ q : DnAd, (dflds q).lookup n = none) : Rc L p C.Dense n := fun H o => by
  obtain ⟨L1, r⟩ := mem_rm m
  obtain ⟨⟨w, P⟩, o1⟩ := Own.exI (o.front r)
  have o2 := Own.cjI (L1 := [pr (Pl S P row), pt p (.ins C.Dense w.dx (dflds w)), StoreAt C.Store w.st P, ld w.ro (row.map hD), pt w.he (.lst (iv (hereOf S row)))]) o1
  exact ⟨_, _, o2.pt (.tail _ (.head _)), hl w⟩
/-! worths -/
theorem wI_of (h : valV S.ws s = some (.int i)) : wI S s = i := by unfold wI; rw [h]
theorem wI_wth (wi : S.Wi) (hh : S.holds h.1 h.2 = true) : valV S.ws h.1 = some (.int (wI S h.1)) ∧ S.wth h.1 = .int (wI S h.1) := by
  obtain ⟨y, hy⟩ := Option.isSome_iff_exists.mp ((valV_mem _ _).mpr (SS.holds_in hh).1)
  obtain ⟨i, rfl⟩ := wi _ _ hy
  rw [wI_of hy]
  exact ⟨hy, SS.wth_of hy⟩
theorem here_len : (hereOf S row).length = row.length := List.length_map _
theorem here_get {j : Nat} (hj : row[j]? = some h) : (hereOf S row).getD j 0 = wI S h.1 := by
  unfold hereOf
  rw [List.getD_eq_getElem?_getD, List.getElem?_map, hj]; rfl
theorem here_congr {S' : SS} (e : ∀ h ∈ row, wI S' h.1 = wI S h.1) : hereOf S' row = hereOf S row := List.map_congr_left e
end
/-! promises -/
def sDInit (C : Cl) : SpL := fun vs L Q _ => ∃ (x dx a : Addr) (n r : Int) (la rn : Bool) (L1 : As), vs = [.ref x, .ref a] ∧ L = pt x (.ins C.Dense dx []) :: L1 ∧ tp a (setV n r la rn) ∈ L1 ∧ 1 ≤ n ∧ n ≤ 60 ∧ 1 ≤ r ∧ r ≤ 1000 ∧ (SS.Ok (SS.new n r la rn) → Q .non (DenseAt C x (SS.new n r la rn) [] :: L1))
def sDPut (K : PySem.W.Frag) (C : Cl) : SpL := fun vs L Q E => ∃ (p : Addr) (S : SS) (row : List (Int × Int)) (v : V) (d : PyData) (L1 : As), vs = [.ref p, v] ∧ S.Ok ∧ Rm (DenseAt C p S row) L L1 ∧ Dsc K L v d ∧
  (isWhole d 0 9999 = false → E .NoWorth L) ∧ (isWhole d 0 9999 = true → ∀ h S', S.putIn v = .ok (h, S') → S'.Ok → ∀ t, Q (.ref t) (dt (.ref t) (hD h) :: DenseAt C p S' (row ++ [h]) :: L1)) ∧ (isWhole d 0 9999 = true → ∀ e, S.putIn v = .error e → E e L)
def sDGet (K : PySem.W.Frag) (C : Cl) : SpL := fun vs L Q E => ∃ (p : Addr) (S : SS) (row : List (Int × Int)) (v : V) (d : PyData), vs = [.ref p, v] ∧ S.Ok ∧ S.Wi ∧ DenseAt C p S row ∈ L ∧ Dsc K L v d ∧ (∀ sc, S.at d = .ok sc → Q (.int (wI S sc.1)) L) ∧ (∀ e, S.at d = .error e → E e L)
def sDPlace (K : PySem.W.Frag) (C : Cl) : SpL := fun vs L Q E => ∃ (p : Addr) (S : SS) (row : List (Int × Int)) (v : V) (d : PyData), vs = [.ref p, v] ∧ S.Ok ∧ DenseAt C p S row ∈ L ∧ Dsc K L v d ∧ (∀ (sc : Int × Int) (j : Nat), S.at d = .ok sc → row[j]? = some sc → Q (.int (j : Int)) L) ∧ (∀ e, S.at d = .error e → E e L)
def sDChange (K : PySem.W.Frag) (C : Cl) : SpL := fun vs L Q E => ∃ (p : Addr) (S : SS) (row : List (Int × Int)) (v w : V) (d dw : PyData) (L1 : As), vs = [.ref p, v, w] ∧ S.Ok ∧ S.Wi ∧ Rm (DenseAt C p S row) L L1 ∧ Dsc K L v d ∧ Dsc K L w dw ∧
  (∀ e, S.at d = .error e → E e L) ∧ (∀ sc, S.at d = .ok sc → isWhole dw 0 9999 = false → E .NoWorth L) ∧ (∀ sc, S.at d = .ok sc → isWhole dw 0 9999 = true → (S.chg sc.1 w).Ok → Q (.int (wI S sc.1)) (DenseAt C p (S.chg sc.1 w) row :: L1))
def sDMany (C : Cl) : SpL := fun vs L Q _ => ∃ (p : Addr) (S : SS) (row : List (Int × Int)), vs = [.ref p] ∧ DenseAt C p S row ∈ L ∧ Q (.int (row.length : Int)) L
def sDAt (K : PySem.W.Frag) (C : Cl) : SpL := fun vs L Q E => ∃ (p : Addr) (S : SS) (row : List (Int × Int)) (v : V) (d : PyData), vs = [.ref p, v] ∧ DenseAt C p S row ∈ L ∧ Dsc K L v d ∧
  (isWhole d 0 ((row.length : Int) - 1) = false → E .NoPlace L) ∧ (∀ (j : Nat) h, d = .int (j : Int) → row[j]? = some h → ∀ r, Q r (dt r (hD h) :: L))
def sDNeedP (K : PySem.W.Frag) (C : Cl) : SpL := fun vs L Q E => ∃ (p : Addr) (S : SS) (row : List (Int × Int)) (v : V) (d : PyData), vs = [.ref p, v] ∧ DenseAt C p S row ∈ L ∧ Dsc K L v d ∧
  (isWhole d 0 ((row.length : Int) - 1) = false → E .NoPlace L) ∧ (isWhole d 0 ((row.length : Int) - 1) = true → Q .non L)
end Sh
namespace Sh
open PySem PySem.Spec L2 PyProof.Rows
def sNeedW (K : PySem.W.Frag) : SpL := fun vs L Q E => ∃ (v : V) (d : PyData), vs = [v] ∧ Dsc K L v d ∧ (isWhole d 0 9999 = true → Q .non L) ∧ (isWhole d 0 9999 = false → E .NoWorth L)
theorem sNeedW.h {K : PySem.W.Frag} {C : Cl} (vs : List V) (H : Hp) (Q : VK) (E : XK) (h : lsp C (sNeedW K) vs H Q E) : spNeedWorth K C vs H Q E := by
  obtain ⟨L, Q', E', o, ⟨v, d, rfl, hd, e1, e2⟩, q1, q2⟩ := h
  exact ⟨v, d, rfl, hd H o, fun z => q1 _ _ _ o (e1 z), fun z => q2 _ _ _ o (e2 z)⟩
section
variable {K : PySem.W.Frag} {C : Cl} {L L1 : As} {Q : LK} {E : Er → As → Prop} {v : V} {d : PyData} {p : Addr} {S S' : SS} {s c lo hi : Int}
theorem sNeedW.i (hd : Dsc K L v d) (e1 : isWhole d 0 9999 = true → Q .non L) (e2 : isWhole d 0 9999 = false → E .NoWorth L) : sNeedW K [v] L Q E := ⟨v, d, rfl, hd, e1, e2⟩
theorem sWhole.i (hd : Dsc K L v d) (q : Q (.bl (isWhole d lo hi)) L) : sWhole K [v, .int lo, .int hi] L Q E := ⟨v, d, lo, hi, rfl, hd, q⟩
theorem sPutIn_ok (ok0 : S.Ok) (r : Rm (StoreAt C.Store p S) L L1) (es : S.putIn v = .ok ((s, c), S')) (q : S'.Ok → ∀ t, Q (.ref t) (dt (.ref t) (hD (s, c)) :: StoreAt C.Store p S' :: L1)) : sPutIn C [.ref p, v] L Q E :=
  ⟨p, S, v, L1, rfl, ok0, r, fun s1 c1 S1 e1 ok1 t => by rw [es] at e1; cases e1; exact q ok1 t, fun e e1 => by rw [es] at e1; cases e1⟩
theorem sPutIn_err {er : Er} (ok0 : S.Ok) (r : Rm (StoreAt C.Store p S) L L1) (es : S.putIn v = .error er) (q : E er L) : sPutIn C [.ref p, v] L Q E :=
  ⟨p, S, v, L1, rfl, ok0, r, fun s1 c1 S1 e1 ok1 t => (by rw [es] at e1; cases e1), fun e e1 => by rw [es] at e1; cases e1; exact q⟩
end
end Sh
namespace Sh
open PySem PySem.Spec L2 PyProof.Rows
/-- a method of what a field holds -/
theorem el_iMA {X : Cx} {a : Expr} {f m : Str} {pz py pos : Pos} {es : List Expr} {k : List Keyword} {σ : St} {L : As} {Q : LK} (h : EL X (.Call (.Attribute (.Attribute a f py) m pz) es k pos) σ L Q) : EL X (.Call (.Attribute (.Attribute a f py) m pz) es k pos) σ L Q := h
end Sh
namespace Sh
open PySem PySem.Spec L2 PyProof.Rows
/-! ### list(zip(xs, ys)) -/
theorem zip_no_len : typeLookup (.type "zip") "__len__" = pure none := by rw [typeLookup_type, builtinLookup_eq_fast]; kernel_rfl
theorem zip_no_hint : typeLookup (.type "zip") "__length_hint__" = pure none := by rw [typeLookup_type, builtinLookup_eq_fast]; kernel_rfl
section
variable {prog : Program} {w : World} {A : Around} {z TI TO i1 i2 l1 l2 S : Addr} {xs ys : Array Value} {n b0 : Nat}
/-- the pairs that were told -/
def Told (h : Heap) (b0 : Nat) (xs ys acc : Array Value) (i : Nat) : Prop := acc.size = i ∧ acc.toList.Nodup ∧ ∀ (j : Nat) (v : Value), acc[j]? = some v → ∃ a x y, v = .ref a ∧ b0 ≤ a ∧ xs[j]? = some x ∧ ys[j]? = some y ∧ PySem.IsPair h a x y
structure ZSt (h : Heap) (z TI TO i1 i2 l1 l2 S : Addr) (b0 : Nat) (xs ys : Array Value) (i : Nat) : Prop where
  zp : (PySem.IsZip h z TI TO .none ∧ ∃ a b, PySem.IsPair h TO a b) ∨ ∃ T f oT, IsZipHeld h z TI TO T f ∧ h.get? T = some oT ∧ b0 ≤ T
  ti : PySem.IsPair h TI (.ref i1) (.ref i2)
  h1 : h.IsListIter i1 l1 i
  h2 : h.IsListIter i2 l2 i
  k1 : h.IsList l1 xs
  k2 : h.IsList l2 ys
  sz : b0 ≤ h.objs.size
theorem ZSt.upd {h h' : Heap} {i : Nat} (Z : ZSt h z TI TO i1 i2 l1 l2 S b0 xs ys i) (hb : S < b0) (a1 : S ≠ z) (a2 : S ≠ TI) (a3 : S ≠ TO) (a4 : S ≠ i1) (a5 : S ≠ i2) (a6 : S ≠ l1) (a7 : S ≠ l2) (hk : ∀ c o, c ≠ S → h.get? c = some o → h'.get? c = some o) (hs : h.objs.size ≤ h'.objs.size) : ZSt h' z TI TO i1 i2 l1 l2 S b0 xs ys i where
  zp := by
    rcases Z.zp with ⟨p, a, b, q⟩ | ⟨T, f, oT, p, q, r⟩
    · exact .inl ⟨hk _ _ (Ne.symm a1) p, a, b, hk _ _ (Ne.symm a3) q⟩
    · exact .inr ⟨T, f, oT, hk _ _ (Ne.symm a1) p, hk _ _ (Nat.ne_of_gt (Nat.lt_of_lt_of_le hb r)) q, r⟩
  ti := hk _ _ (Ne.symm a2) Z.ti
  h1 := Z.h1.at fun o e => hk _ o (Ne.symm a4) e
  h2 := Z.h2.at fun o e => hk _ o (Ne.symm a5) e
  k1 := Z.k1.at fun o e => hk _ o (Ne.symm a6) e
  k2 := Z.k2.at fun o e => hk _ o (Ne.symm a7) e
  sz := Nat.le_trans Z.sz hs
theorem Told.keep {h h' : Heap} {acc : Array Value} {i : Nat} (t : Told h b0 xs ys acc i) (hk : ∀ c o, b0 ≤ c → h.get? c = some o → h'.get? c = some o) : Told h' b0 xs ys acc i :=
  ⟨t.1, t.2.1, fun j v hj => by
    obtain ⟨a, x, y, e, l, ex, ey, p⟩ := t.2.2 j v hj
    exact ⟨a, x, y, e, l, ex, ey, hk _ _ l p⟩⟩
theorem Told.push {h : Heap} {acc : Array Value} {i : Nat} {a : Addr} {x y : Value} (t : Told h b0 xs ys acc i) (l : b0 ≤ a) (ex : xs[i]? = some x) (ey : ys[i]? = some y) (p : PySem.IsPair h a x y) (hn : Value.ref a ∉ acc.toList) : Told h b0 xs ys (acc.push (.ref a)) (i + 1) :=
  ⟨by rw [Array.size_push, t.1], by rw [Array.toList_push]; exact List.nodup_append.mpr ⟨t.2.1, List.nodup_cons.mpr ⟨by simp, .nil⟩, fun u hu v hv e => by rw [List.mem_singleton] at hv; exact hn (by rw [← hv, ← e]; exact hu)⟩, fun j v hj => by
    rw [Array.getElem?_push] at hj
    by_cases e : j = acc.size
    · rw [if_pos e] at hj
      cases hj
      rw [t.1] at e
      subst e
      exact ⟨a, x, y, rfl, l, ex, ey, p⟩
    · rw [if_neg e] at hj
      exact t.2.2 j v hj⟩
theorem zip_step {i : Nat} {s : Shared} {x y : Value} {Q : Option Value → Shared → Prop} {E : Value → Shared → Prop} (D : ZipApart z TI TO i1 i2 l1 l2) (Z : ZSt s.heap z TI TO i1 i2 l1 l2 S b0 xs ys i)
    (b1 : z < b0) (b2 : TO < b0) (b3 : i1 < b0) (b4 : i2 < b0) (hx : xs[i]? = some x) (hy : ys[i]? = some y)
    (q : ∀ h', ZSt h' z TI TO i1 i2 l1 l2 S b0 xs ys (i + 1) → PySem.IsPair h' s.heap.objs.size x y → (∀ c o, c ≠ z → c ≠ TO → c ≠ i1 → c ≠ i2 → s.heap.get? c = some o → h'.get? c = some o) → s.heap.objs.size ≤ h'.objs.size → Q (some (.ref s.heap.objs.size)) { s with heap := h' }) :
    wpAny (model prog w) A (pyNext (.ref z)) Q E s := by
  rcases Z.zp with ⟨p, a, b, q0⟩ | ⟨T, f, oT, p, q0, r⟩
  · refine wpAny_pyNext_zip_item D p Z.ti q0 Z.h1 Z.h2 Z.k1 Z.k2 hx hy fun h' c1 c2 c3 c4 c5 c6 c7 => ?_
    refine q h' ⟨.inr ⟨_, false, _, c1, c5, Z.sz⟩, c7 _ _ D.TIz D.TITO D.TIi1 D.TIi2 Z.ti, c3, c4, Z.k1.at fun o e => c7 _ o D.l1z D.l1TO D.l1i1 D.l1i2 e, Z.k2.at fun o e => c7 _ o D.l2z D.l2TO D.l2i1 D.l2i2 e, ?_⟩ c5 c7 (by omega)
    have := Z.sz; omega
  · refine wpAny_pyNext_zip_item_held D p q0 Z.ti Z.h1 Z.h2 Z.k1 Z.k2 hx hy fun h' c1 c3 c4 c5 c6 c7 => ?_
    refine q h' ⟨.inr ⟨T, true, oT, c1, c7 _ _ (Nat.ne_of_gt (Nat.lt_of_lt_of_le b1 r)) (Nat.ne_of_gt (Nat.lt_of_lt_of_le b3 r)) (Nat.ne_of_gt (Nat.lt_of_lt_of_le b4 r)) q0, r⟩, c7 _ _ D.TIz D.TIi1 D.TIi2 Z.ti, c3, c4, Z.k1.at fun o e => c7 _ o D.l1z D.l1i1 D.l1i2 e, Z.k2.at fun o e => c7 _ o D.l2z D.l2i1 D.l2i2 e, ?_⟩ c5 (fun c o d1 _ d3 d4 e => c7 c o d1 d3 d4 e) (by omega)
    have := Z.sz; omega
theorem zip_stop {i : Nat} {s : Shared} {Q : Option Value → Shared → Prop} {E : Value → Shared → Prop} (hh : A.handled = none) (D : ZipApart z TI TO i1 i2 l1 l2) (Z : ZSt s.heap z TI TO i1 i2 l1 l2 S b0 xs ys i) (he : xs[i]? = none)
    (q : ∀ h', (∀ c o, c ≠ z → c ≠ TO → c ≠ i1 → c ≠ i2 → s.heap.get? c = some o → h'.get? c = some o) → Q none { s with heap := h' }) :
    wpAny (model prog w) A (pyNext (.ref z)) Q E s := by
  rcases Z.zp with ⟨p, a, b, q0⟩ | ⟨T, f, oT, p, q0, r⟩
  · exact wpAny_pyNext_zip_end hh D p Z.ti q0 Z.h1 Z.h2 Z.k1 Z.k2 (.inl he) q
  · exact wpAny_pyNext_zip_end_held hh D p q0 Z.ti Z.h1 Z.h2 Z.k1 Z.k2 (.inl he) fun h' hk => q h' fun c o d1 _ d3 d4 e => hk c o d1 d3 d4 e
theorem loop_zip {R : Result → Shared → Prop} (hh : A.in1.handled = none) (D : ZipApart z TI TO i1 i2 l1 l2) (b1 : z < b0) (b2 : TO < b0) (b3 : i1 < b0) (b4 : i2 < b0) (b5 : S < b0)
    (a1 : S ≠ z) (a2 : S ≠ TI) (a3 : S ≠ TO) (a4 : S ≠ i1) (a5 : S ≠ i2) (a6 : S ≠ l1) (a7 : S ≠ l2) (res : Value) (n1 : xs.size = n) (n2 : ys.size = n) (hn : n ≤ sizeLine) :
    ∀ (k i : Nat) (s : Shared) (acc : Array Value) (c : Nat), n - i = k → i ≤ n → ZSt s.heap z TI TO i1 i2 l1 l2 S b0 xs ys i → s.heap.get? S = some { cls := .type "list", dict := none, data := .seq acc c, slots := #[] } → Told s.heap b0 xs ys acc i →
    (∀ h' acc' c', (∀ c o, c ≠ S → c ≠ z → c ≠ TO → c ≠ i1 → c ≠ i2 → s.heap.get? c = some o → h'.get? c = some o) → h'.get? S = some { cls := .type "list", dict := none, data := .seq acc' c', slots := #[] } → Told h' b0 xs ys acc' n → R (.ok (.ret res)) { s with heap := h' }) →
    codeAny (model prog w) A (.builtin "list.extend.loop" ⟨[.ref S, .ref z, res], []⟩) R s := by
  intro k
  induction k with
  | zero =>
    intro i s acc c hk hi Z hS ht hR
    have hin : i = n := by omega
    subst hin
    refine codeAny_builtin F.entry_extend_loop ?_
    rw [Around.under_plainId F.plain_extend_loop _]
    show wpAny _ A.in1 (pyNext (.ref z) >>= _) _ _ s
    refine wpAny_bind (zip_stop hh D Z (Array.getElem?_eq_none (by omega)) fun h' hk' => ?_)
    exact wpAny_pure (hR h' acc c (fun c o _ e1 e2 e3 e4 e => hk' c o e1 e2 e3 e4 e) (hk' _ _ a1 a3 a4 a5 hS) (ht.keep fun c o hc e => hk' c o (Nat.ne_of_gt (Nat.lt_of_lt_of_le b1 hc)) (Nat.ne_of_gt (Nat.lt_of_lt_of_le b2 hc)) (Nat.ne_of_gt (Nat.lt_of_lt_of_le b3 hc)) (Nat.ne_of_gt (Nat.lt_of_lt_of_le b4 hc)) e))
  | succ k ih =>
    intro i s acc c hk hi Z hS ht hR
    have hlt : i < n := by omega
    have hx : xs[i]? = some (xs[i]'(by omega)) := Array.getElem?_eq_getElem _
    have hy : ys[i]? = some (ys[i]'(by omega)) := Array.getElem?_eq_getElem _
    refine codeAny_builtin F.entry_extend_loop ?_
    rw [Around.under_plainId F.plain_extend_loop _]
    show wpAny _ A.in1 (pyNext (.ref z) >>= _) _ _ s
    refine wpAny_bind (zip_step D Z b1 b2 b3 b4 hx hy fun h' Z' hp hk' hz => ?_)
    have hS' := hk' _ _ a1 a3 a4 a5 hS
    have ht' : Told h' b0 xs ys acc i := ht.keep fun c o hc e => hk' c o (Nat.ne_of_gt (Nat.lt_of_lt_of_le b1 hc)) (Nat.ne_of_gt (Nat.lt_of_lt_of_le b2 hc)) (Nat.ne_of_gt (Nat.lt_of_lt_of_le b3 hc)) (Nat.ne_of_gt (Nat.lt_of_lt_of_le b4 hc)) e
    have ht2 := ht'.push Z.sz hx hy hp (fun hm => by
      obtain ⟨j, hj, e⟩ := List.getElem_of_mem hm
      obtain ⟨a, x, y, e1, l, ex, ey, p⟩ := ht.2.2 j _ (show acc[j]? = some acc.toList[j] by rw [← Array.getElem?_toList]; exact List.getElem?_eq_getElem hj)
      rw [e] at e1
      cases e1
      exact Nat.lt_irrefl _ (Heap.lt_size p))
    show wpAny _ A.in1 (updateSeq S (·.push (.ref s.heap.objs.size)) >>= _) _ _ _
    refine wpAny_bind ?_
    have hou : ∀ c o, c ≠ S → h'.get? c = some o → (h'.update S (Obj.mapSeq (·.push (.ref s.heap.objs.size)))).get? c = some o := fun c o hc e => (Heap.get?_update_other _ _ (Ne.symm hc)).trans e
    refine wpAny_updateSeq hS' rfl (wpAny_pure ⟨plainId_quiet F.plain_extend_loop _, ih (i + 1) _ (acc.push (.ref s.heap.objs.size)) _ (by omega) hlt (Z'.upd b5 a1 a2 a3 a4 a5 a6 a7 hou ?_) (Heap.get?_update_self _ hS' rfl) (ht2.keep fun c o hc e => hou c o (Nat.ne_of_gt (Nat.lt_of_lt_of_le b5 hc)) e) fun h'' acc' c' hm'' hS'' hacc' => ?_⟩)
      (by rw [ht.1]; omega) (by show (acc.push _).size ≤ sizeLine + 1; rw [Array.size_push, ht.1]; omega)
    · first | exact Nat.le_refl _ | exact Nat.le_of_eq (Heap.size_update ..).symm
    · exact hR h'' acc' c' (fun c o e0 e1 e2 e3 e4 e => hm'' c o e0 e1 e2 e3 e4 (hou c o e0 (hk' c o e1 e2 e3 e4 e))) hS'' hacc'
theorem extend_zip {R : Result → Shared → Prop} {s : Shared} (hh : A.in1.handled = none) (D : ZipApart z TI TO i1 i2 l1 l2) (b1 : z < b0) (b2 : TO < b0) (b3 : i1 < b0) (b4 : i2 < b0) (b5 : S < b0)
    (a1 : S ≠ z) (a2 : S ≠ TI) (a3 : S ≠ TO) (a4 : S ≠ i1) (a5 : S ≠ i2) (a6 : S ≠ l1) (a7 : S ≠ l2) (res : Value) (n1 : xs.size = n) (n2 : ys.size = n) (hn : n ≤ sizeLine) (c₀ : Nat)
    (Z : ZSt s.heap z TI TO i1 i2 l1 l2 S b0 xs ys 0) (hz : PySem.IsZip s.heap z TI TO .none) (hS : s.heap.get? S = some { cls := .type "list", data := .seq #[] c₀ })
    (hR : ∀ h' acc' c', (∀ c o, c ≠ S → c ≠ z → c ≠ TO → c ≠ i1 → c ≠ i2 → s.heap.get? c = some o → h'.get? c = some o) → h'.get? S = some { cls := .type "list", dict := none, data := .seq acc' c', slots := #[] } → Told h' b0 xs ys acc' n → R (.ok (.ret res)) { s with heap := h' }) :
    wpAny (model prog w) A.in1 (Builtin.List.listExtendWith (.ref S) (.ref z) res)
      (fun fin s' => match fin with | .done f => R (.ok f) s' | .again c' => c'.quiet = true ∧ codeAny (model prog w) A c' R s') (fun e s' => R (.error e) s') s := by
  have hT : s.TypeIs (.ref z) "zip" := ⟨_, hz, rfl⟩
  unfold Builtin.List.listExtendWith
  refine wpAny_bind (wpAny_typeOf hT ?_)
  have h1 : Builtin.List.listSameRef (.ref S) (.ref z) = false := by simp [Builtin.List.listSameRef, a1]
  have h2 : (Value.type "zip" == Value.type "list") = false := by decide
  have h3 : (Value.type "zip" == Value.type "tuple") = false := by decide
  simp only [h1, h2, h3, Bool.or_false, Bool.false_eq_true, if_false]
  refine wpAny_bind (wpAny_pyIter_zip hz ?_)
  refine wpAny_bind (wpAny_holding ?_)
  unfold Builtin.List.listLengthHint
  refine wpAny_bind (wpAny_specialOf hT zip_no_len ?_)
  show wpAny _ A.in1 (specialOf (Value.ref z) (Str.ofString "__length_hint__") >>= _) _ _ _
  refine wpAny_bind (wpAny_specialOf hT zip_no_hint ?_)
  refine wpAny_pure ?_
  show wpAny _ A.in1 (rule "list.extend.makes-room" >>= fun _ => Builtin.List.listTouch (.ref S) >>= fun _ =>
    again (.builtin "list.extend.loop" ⟨[.ref S, .ref z, res], []⟩)) _ _ _
  refine wpAny_bind (wpAny_rule ?_)
  refine wpAny_bind ?_
  show wpAny _ A.in1 (updateSeq S (·.push .none) >>= fun _ => updateSeq S (·.pop)) _ _ _
  refine wpAny_bind (wpAny_updateSeq hS rfl ?_)
  have hS₂ := Heap.get?_update_self (Obj.mapSeq (·.push Value.none)) hS rfl
  refine wpAny_updateSeq (hz := by seq_fits) hS₂ rfl ?_
  have hS₃ := Heap.get?_update_self (Obj.mapSeq (·.pop)) hS₂ rfl
  have oth : ∀ b o, b ≠ S → s.heap.get? b = some o → ((s.heap.update S (Obj.mapSeq (·.push Value.none))).update S (Obj.mapSeq (·.pop))).get? b = some o :=
    fun b o hb e => (Heap.get?_update_other _ _ (Ne.symm hb)).trans ((Heap.get?_update_other _ _ (Ne.symm hb)).trans e)
  refine wpAny_pure ⟨plainId_quiet F.plain_extend_loop _, loop_zip hh D b1 b2 b3 b4 b5 a1 a2 a3 a4 a5 a6 a7 res n1 n2 hn n 0 _ _ _ rfl (Nat.zero_le _)
    (Z.upd b5 a1 a2 a3 a4 a5 a6 a7 oth (by first | exact Nat.le_refl _ | exact Nat.le_of_eq (by rw [Heap.size_update, Heap.size_update]))) hS₃ ⟨rfl, .nil, fun j v e => by simp at e⟩ fun h' acc' c' hm hS' hacc => ?_⟩
  exact hR h' acc' c' (fun c o e0 e1 e2 e3 e4 e => hm c o e0 e1 e2 e3 e4 (oth c o e0 e)) hS' hacc
theorem init_zip {R : Result → Shared → Prop} {s : Shared} (hh : A.in1.handled = none) (D : ZipApart z TI TO i1 i2 l1 l2) (b1 : z < b0) (b2 : TO < b0) (b3 : i1 < b0) (b4 : i2 < b0) (b5 : S < b0)
    (a1 : S ≠ z) (a2 : S ≠ TI) (a3 : S ≠ TO) (a4 : S ≠ i1) (a5 : S ≠ i2) (a6 : S ≠ l1) (a7 : S ≠ l2) (n1 : xs.size = n) (n2 : ys.size = n) (hn : n ≤ sizeLine)
    (Z : ZSt s.heap z TI TO i1 i2 l1 l2 S b0 xs ys 0) (hz : PySem.IsZip s.heap z TI TO .none) (hS : s.heap.get? S = some { cls := .type "list", data := .seq #[] })
    (hR : ∀ h' acc' c', (∀ c o, c ≠ S → c ≠ z → c ≠ TO → c ≠ i1 → c ≠ i2 → s.heap.get? c = some o → h'.get? c = some o) → h'.get? S = some { cls := .type "list", dict := none, data := .seq acc' c', slots := #[] } → Told h' b0 xs ys acc' n → R (.ok (.ret .none)) { s with heap := h' }) :
    wpAny (model prog w) A.in1 (Builtin.«list.__init__» ⟨[.ref S, .ref z], []⟩)
      (fun fin s' => match fin with | .done f => R (.ok f) s' | .again c' => c'.quiet = true ∧ codeAny (model prog w) A c' R s') (fun e s' => R (.error e) s') s := by
  show wpAny _ A.in1 (do let old ← Builtin.List.listItems (.ref S); Builtin.List.listUpdate (.ref S) (fun _ => #[]); letGo old.toList.reverse; Builtin.List.listExtendWith (.ref S) (.ref z) .none) _ _ s
  refine wpAny_bind ?_
  unfold Builtin.List.listItems
  refine wpAny_bind (wpAny_seqItems hS rfl (wpAny_pure ?_))
  show wpAny _ A.in1 (updateSeq S (fun _ => #[]) >>= fun _ => letGo (#[] : Array Value).toList.reverse >>= fun _ => Builtin.List.listExtendWith (.ref S) (.ref z) .none) _ _ s
  refine wpAny_bind (wpAny_updateSeq hS rfl ?_)
  have hS₂ := Heap.get?_update_self (Obj.mapSeq (fun _ => (#[] : Array Value))) hS rfl
  have oth : ∀ b o, b ≠ S → s.heap.get? b = some o → (s.heap.update S (Obj.mapSeq (fun _ => (#[] : Array Value)))).get? b = some o :=
    fun b o hb e => (Heap.get?_update_other _ _ (Ne.symm hb)).trans e
  refine wpAny_bind (wpAny_letGo ?_)
  refine extend_zip hh D b1 b2 b3 b4 b5 a1 a2 a3 a4 a5 a6 a7 .none n1 n2 hn _ (Z.upd b5 a1 a2 a3 a4 a5 a6 a7 oth (by first | exact Nat.le_refl _ | exact Nat.le_of_eq (by rw [Heap.size_update]))) (oth _ _ (Ne.symm a1) hz) hS₂ fun h' acc' c' hm hS' hacc => ?_
  exact hR h' acc' c' (fun c o e0 e1 e2 e3 e4 e => hm c o e0 e1 e2 e3 e4 (oth c o e0 e)) hS' hacc
end
end Sh
namespace Sh
open PySem PySem.Spec L2 PyProof.Rows
theorem Un.more {fs ex : List Addr} {H H1 : Hp} {h h1 : Heap} {a : Addr} {o : HO} (u : Un fs ex H H1 h h1) (hp : h.get? a = none) (hn : H a = none) : Un fs ex H (upd H1 a o) h h1 where
  keep := u.keep
  slot := u.slot
  there := u.there
  free := fun b ob e n x => by
    rw [upd_ne (fun z => by rw [z, hp] at e; cases e)]
    exact u.free b ob e n x
  tups := fun b xs e => by
    rw [upd_ne (fun z => by rw [z, hn] at e; cases e)]
    exact u.tups b xs e
  frzs := fun b ob w e => by
    rw [upd_ne (fun z => by rw [z, hn] at e; cases e)]
    exact u.frzs b ob w e
  tbls := fun b ps e => by
    rw [upd_ne (fun z => by rw [z, hn] at e; cases e)]
    exact u.tbls b ps e
/-- new pairs are laid -/
inductive TupNew : Hp → Hp → List Addr → List V → List V → Prop
  | nil {H : Hp} : TupNew H H [] [] []
  | cons {H H' : Hp} {a : Addr} {as : List Addr} {x y : V} {xs ys : List V} (n : H a = none) (t : TupNew (upd H a (.tup [x, y])) H' as xs ys) : TupNew H H' (a :: as) (x :: xs) (y :: ys)
theorem grow {P : Program} {w : World} {fs : List Addr} {H : Hp} {h h' : Heap} {b0 : Nat} (hf : ∀ a, b0 ≤ a → H a = none ∧ h.get? a = none) :
    ∀ {us us1 us2 : List Value} {xs ys : List V} {H1 : Hp}, Vals xs us1 → Vals ys us2 → us.length = us1.length → us.length = us2.length →
    (∀ (j : Nat) v, us[j]? = some v → ∃ a x y, v = .ref a ∧ b0 ≤ a ∧ us1[j]? = some x ∧ us2[j]? = some y ∧ PySem.IsPair h' a x y) → us.Nodup → (∀ a, Value.ref a ∈ us → H1 a = none) → Un fs [] H H1 h h' → HOk P w H1 h' →
    ∃ as H2, us = as.map Value.ref ∧ TupNew H1 H2 as xs ys ∧ Un fs [] H H2 h h' ∧ HOk P w H2 h' ∧ ∀ c, Value.ref c ∉ us → H2 c = H1 c := by
  intro us
  induction us with
  | nil =>
    intro us1 us2 xs ys H1 v1 v2 e1 e2 hp nd hn u k
    cases us1 with
    | cons _ _ => simp at e1
    | nil =>
      cases us2 with
      | cons _ _ => simp at e2
      | nil =>
        cases v1
        cases v2
        exact ⟨[], H1, rfl, .nil, u, k, fun _ _ => rfl⟩
  | cons w0 us ih =>
    intro us1 us2 xs ys H1 v1 v2 e1 e2 hp nd hn u k
    cases us1 with
    | nil => simp at e1
    | cons u1 us1 =>
      cases us2 with
      | nil => simp at e2
      | cons u2 us2 =>
        cases v1 with
        | cons r1 v1 =>
          cases v2 with
          | cons r2 v2 =>
            rename_i x xs y ys
            obtain ⟨a, x', y', rfl, l, ex, ey, p⟩ := hp 0 _ rfl
            cases ex
            cases ey
            obtain ⟨n1, n2⟩ := List.nodup_cons.mp nd
            have hna := hn a List.mem_cons_self
            have k2 := HOk.laidN (o := .tup [x, y]) k (fun _ _ e => e) hna ⟨by show 2 ≤ sizeLine; decide, [u1, u2], .cons r1 (.cons r2 .nil), ⟨_, p, rfl, _, rfl⟩⟩
            obtain ⟨as, H2, q1, q2, q3, q4, q5⟩ := ih (H1 := upd H1 a (.tup [x, y])) v1 v2 (by simpa using e1) (by simpa using e2) (fun j v hj => hp (j + 1) v hj) n2
              (fun c hc => by rw [upd_ne (fun z => n1 (by rw [← z]; exact hc))]; exact hn c (List.mem_cons_of_mem _ hc)) (Un.more u (hf a l).2 (hf a l).1) k2
            refine ⟨a :: as, H2, by rw [q1]; rfl, .cons hna q2, q3, q4, fun c hc => ?_⟩
            rw [q5 c (fun z => hc (List.mem_cons_of_mem _ z)), upd_ne (fun z => hc (by rw [z]; exact List.mem_cons_self))]
end Sh
namespace Sh
open PySem PySem.Spec L2 PyProof.Rows
def tLstZip (K : PySem.W.Frag) (ta : TA) : TE := fun σ H Q => ta σ H fun vs H1 => ∃ a b xs ys, vs = [.ref a, .ref b] ∧ SqL K H1 a xs ∧ SqL K H1 b ys ∧ xs.length = ys.length ∧ xs.length ≤ sizeLine ∧ ∀ H2 as p, TupNew H1 H2 as xs ys → H2 p = none → Q (.ref p) (upd H2 p (.lst (as.map V.ref)))
theorem zipNums (I : Nat) : I + 4 < I + 5 + 1 ∧ I + 3 < I + 5 + 1 ∧ I < I + 5 + 1 ∧ I + 1 < I + 5 + 1 ∧ I + 5 < I + 5 + 1 ∧ I + 5 ≠ I + 4 ∧ I + 5 ≠ I + 2 ∧ I + 5 ≠ I + 3 ∧ I + 5 ≠ I ∧ I + 5 ≠ I + 1 := by omega
theorem zipLess (I c : Nat) (h : c < I) : c ≠ I + 5 ∧ c ≠ I + 4 ∧ c ≠ I + 3 ∧ c ≠ I ∧ c ≠ I + 1 := by omega
theorem call_list_zip {prog : Program} {w : World} {A : Around} {E : Value → Shared → Prop} {s : Shared} {Q : Value → Shared → Prop} {a b : Addr} {xs ys : Array Value} {n : Nat} (hh : A.in1.in1.handled = none) (hl1 : s.heap.IsList a xs) (hl2 : s.heap.IsList b ys) (n1 : xs.size = n) (n2 : ys.size = n) (hn : n ≤ sizeLine)
    (hQ : ∀ h' l acc c', (∀ c o, s.heap.get? c = some o → h'.get? c = some o) → s.heap.objs.size ≤ l → h'.get? l = some { cls := .type "list", dict := none, data := .seq acc c', slots := #[] } → Told h' (l + 1) xs ys acc n → Q (.ref l) { s with heap := h' }) :
    wpAny (model prog w) A (call (.type "zip") [.ref a, .ref b]) (fun v s1 => wpAny (model prog w) A (call (.type "list") [v]) Q E s1) E s := by
  have la : a < s.heap.objs.size := by obtain ⟨o, e, _⟩ := hl1; exact Heap.lt_size e
  have lb : b < s.heap.objs.size := by obtain ⟨o, e, _⟩ := hl2; exact Heap.lt_size e
  refine call_zip_2 hl1 hl2 fun h' hz hTI hTO h1 h2 hsz hk => ?_
  have D := PySem.W.ktu_apart s.heap.objs.size a b la lb
  refine callType_codes (Q₁ := fun obj s₁ => obj = .ref h'.objs.size ∧ s₁ = { s with heap := h'.push { cls := .type "list", data := .seq #[] } }) F.called_list (F.typeCall_list_1 _) F.entry_list_init
    (code_list_new _ ⟨rfl, rfl⟩) fun obj s₁ h₁ => ?_
  obtain ⟨rfl, rfl⟩ := h₁
  have hS : (h'.push { cls := .type "list", data := .seq #[] }).get? h'.objs.size = some { cls := .type "list", data := .seq #[] } := Heap.get?_push_size _ rfl
  have pk : ∀ c o, h'.get? c = some o → (h'.push { cls := .type "list", data := .seq #[] }).get? c = some o := fun c o e => Heap.get?_push_of_some _ e
  have hz5 : (h'.push { cls := .type "list", data := .seq #[] }).objs.size = h'.objs.size + 1 := Heap.size_push ..
  rw [hsz] at hS hz5 ⊢
  generalize h'.push { cls := .type "list", data := .seq #[] } = hp at hS pk hz5 ⊢
  have Z : ZSt hp (s.heap.objs.size + 4) (s.heap.objs.size + 2) (s.heap.objs.size + 3) s.heap.objs.size (s.heap.objs.size + 1) a b (s.heap.objs.size + 5) (s.heap.objs.size + 5 + 1) xs ys 0 :=
    ⟨.inl ⟨pk _ _ hz, _, _, pk _ _ hTO⟩, pk _ _ hTI, h1.at fun o e => pk _ o e, h2.at fun o e => pk _ o e, hl1.at fun o e => pk _ o (hk _ o e), hl2.at fun o e => pk _ o (hk _ o e), by rw [hz5]; exact Nat.le_refl _⟩
  obtain ⟨m1, m2, m3, m4, m5, m6, m7, m8, m9, m10⟩ := zipNums s.heap.objs.size
  obtain ⟨la1, la2, la3, la4, la5⟩ := zipLess s.heap.objs.size a la
  obtain ⟨lb1, lb2, lb3, lb4, lb5⟩ := zipLess s.heap.objs.size b lb
  refine ⟨⟨_, hS, rfl⟩, F.args_list_init_2 _ _, init_zip (A := A.in1) (S := s.heap.objs.size + 5) (b0 := s.heap.objs.size + 5 + 1) hh D m1 m2 m3 m4 m5 m6 m7 m8 m9 m10 (Ne.symm la1) (Ne.symm lb1) n1 n2 hn Z (pk _ _ hz) hS fun h'' acc' c' hm hS' hacc => ⟨rfl, ?_⟩⟩
  refine hQ h'' _ acc' c' (fun c o e => ?_) (Nat.le_add_right _ _) hS' hacc
  obtain ⟨lc1, lc2, lc3, lc4, lc5⟩ := zipLess s.heap.objs.size c (Heap.lt_size e)
  exact hm c o lc1 lc2 lc3 lc4 lc5 (pk _ _ (hk _ _ e))
theorem pe_listZip {X : Cx} {e e2 : Expr} {ta : TA} {p1 p2 p3 pos : Pos} (hc : X.calm = true) (gl : Gl X "list") (ml : X.mg "list" = none) (hg : Gl X "zip") (hm : X.mg "zip" = none) (ha : PA X [e, e2] ta)
    (hs : starEach [e, e2] X.env = (false, eval e X.env) :: starEach [e2] X.env := by rfl) (hpl : (backTo p2 (starEach [e2] X.env)).any (·.1) = false := by rfl)
    (na : starEach [.Call (.Name "zip" p1) [e, e2] [] p2] X.env = (false, eval (.Call (.Name "zip" p1) [e, e2] [] p2) X.env) :: starEach [] X.env := by rfl) :
    PE X (.Call (.Name "list" p3) [.Call (.Name "zip" p1) [e, e2] [] p2] [] pos) (tLstZip X.K ta) := by
  refine ⟨fun pins s σ H Q I h => ?_⟩
  refine Call_ (ld_blt I gl ml boot_list (PyProof.Rows.callWith_type1 (args_cons (Call_ (ld_blt I hg hm PyProof.Rows.boot_zip (PyProof.Rows.callWith_type1 (thn (ha.run p2 pins s σ H _ I h) fun us s1 ⟨vs, H1, I1, r1, q1⟩ => ?_) hs hpl))) na) na))
  obtain ⟨a, b, xs, ys, ex, hqx, hqy, hl, hn, q⟩ := q1
  subst ex
  cases r1 with
  | cons r rr =>
    cases rr with
    | cons r' rr =>
      cases rr
      cases r
      cases r'
      obtain ⟨its, rv, p1, _⟩ := I1.list hqx
      obtain ⟨its2, rv2, p2, _⟩ := I1.list hqy
      have e1 := rv.length
      have e2 := rv2.length
      refine thn (call_list_zip (n := xs.length) (I1.ok.hd hc) p1.isList p2.isList (by simp; omega) (by simp; omega) hn fun h' l acc c' hk hle hS ht => ?_) fun v s2 z => args_nil z
      have hle' : ∀ c, l + 1 ≤ c → s1.heap.objs.size ≤ c := fun c hc => Nat.le_trans hle (Nat.le_of_succ_le hc)
      have hno : ∀ c, s1.heap.objs.size ≤ c → s1.heap.get? c = none := fun c hc => by
        cases z : s1.heap.get? c with
        | none => rfl
        | some o => exact absurd (Heap.lt_size z) (Nat.not_lt.mpr hc)
      have el : acc.toList.length = acc.size := by simp
      obtain ⟨as, H2, q1, q2, q3, q4, q5⟩ := grow (P := X.prog) (w := X.w) (fs := X.fs) (H := H1) (h := s1.heap) (h' := h') (b0 := l + 1) (fun c hc => ⟨I1.hok.fresh (hle' c hc), hno c (hle' c hc)⟩) (us := acc.toList) rv rv2 (by rw [el, ht.1, e1]) (by rw [el, ht.1, hl, e2])
        (fun j v hj => by
          obtain ⟨a, x, y, z1, z2, z3, z4, z5⟩ := ht.2.2 j v (by rw [← Array.getElem?_toList]; exact hj)
          exact ⟨a, x, y, z1, z2, by simpa using z3, by simpa using z4, z5⟩) ht.2.1
        (fun c hc => by
          obtain ⟨j, hj, z⟩ := List.getElem_of_mem hc
          obtain ⟨a, x, y, z1, z2, _⟩ := ht.2.2 j _ (show acc[j]? = some acc.toList[j] by rw [← Array.getElem?_toList]; exact List.getElem?_eq_getElem hj)
          rw [z] at z1
          cases z1
          exact I1.hok.fresh (hle' _ z2)) (Un.kept hk) (I1.hok.kept hk)
      have hnl : H2 l = none := by
        rw [q5 l (fun hc => by
          obtain ⟨j, hj, z⟩ := List.getElem_of_mem hc
          obtain ⟨a, x, y, z1, z2, _⟩ := ht.2.2 j _ (show acc[j]? = some acc.toList[j] by rw [← Array.getElem?_toList]; exact List.getElem?_eq_getElem hj)
          rw [z] at z1
          cases z1
          exact Nat.lt_irrefl _ z2)]
        exact I1.hok.fresh hle
      have al : as.length = xs.length := by rw [← ht.1, ← el, q1, List.length_map]
      refine ⟨.ref l, upd H2 l (.lst (as.map V.ref)), I1.un (t' := s1.toks) (Un.more q3 (hno l hle) (I1.hok.fresh hle)) (HOk.laidN q4 (fun _ _ z => z) hnl ⟨by rw [List.length_map, al]; exact hn, acc.toList, c', ?_, ?_⟩), rfl, q H2 as l q2 hnl⟩
      · rw [q1]; exact vals_refs as
      · rw [Array.toArray_toList]; exact hS
end Sh
namespace Sh
open PySem PySem.Spec L2 PyProof.Rows
def zipD (ds : List PyData) (ns : List Int) : List PyData := List.zipWith (fun d i => .tuple [d, .int i]) ds ns
theorem TupNew.tle {H H' : Hp} {as : List Addr} {xs ys : List V} (t : TupNew H H' as xs ys) : TLe H H' := by
  induction t with
  | nil => exact fun _ _ e => e
  | cons n _ ih => exact fun b zs e => ih b zs (tle_new n b zs e)
theorem TupNew.own {H H' : Hp} {as : List Addr} {xs ys : List V} (t : TupNew H H' as xs ys) : ∀ {L : As} {ds : List PyData} {ns : List Int}, Own H L → DtAll H xs ds → ys = iv ns → Own H' L ∧ DtAll H' (as.map V.ref) (zipD ds ns) := by
  induction t with
  | nil =>
    intro L ds ns o d e
    cases d
    exact ⟨o, .nil⟩
  | cons n t ih =>
    intro L ds ns o d e
    cases d with
    | cons d1 d2 =>
      cases ns with
      | nil => cases e
      | cons i ns =>
        cases e
        obtain ⟨o2, a2⟩ := ih (o.newT n).drop (d2.mono (tle_new n)) rfl
        refine ⟨o2, .cons (.tup (t.tle _ _ upd_same) (.cons ((d1.mono (tle_new n)).mono t.tle) (.cons (.int i) .nil))) a2⟩
/-- list(zip(a, b)): things beside numbers -/
theorem el_listZip {X : Cx} {σ : St} {L : As} {Q : LK} {e e2 : Expr} {p1 p2 p3 pos : Pos} (hc : X.calm = true) (gl : Bn X.env X.mg "list" (.type "list")) (gz : Bn X.env X.mg "zip" (.type "zip"))
    (q : EL X e σ L fun x L1 => EL X e2 σ L1 fun y L2 => ∃ (l m : Addr) (ds : List PyData) (ns : List Int), x = .ref l ∧ y = .ref m ∧ ld l ds ∈ L2 ∧ pt m (.lst (iv ns)) ∈ L2 ∧ ds.length = ns.length ∧ ds.length < 10000000 ∧ ∀ p, Q (.ref p) (ld p (zipD ds ns) :: L2))
    (h1 : starEach [e, e2] X.env = (false, eval e X.env) :: starEach [e2] X.env := by rfl) (h2 : starEach [e2] X.env = (false, eval e2 X.env) :: starEach [] X.env := by rfl) (hpl : (backTo p2 (starEach [e2] X.env)).any (·.1) = false := by rfl)
    (na : starEach [.Call (.Name "zip" p1) [e, e2] [] p2] X.env = (false, eval (.Call (.Name "zip" p1) [e, e2] [] p2) X.env) :: starEach [] X.env := by rfl) :
    EL X (.Call (.Name "list" p3) [.Call (.Name "zip" p1) [e, e2] [] p2] [] pos) σ L Q :=
  ⟨fun H o => of_pe (pe_listZip hc gl.gl gl.mg gz.gl gz.mg (pa_cons We.pe (pa_cons We.pe pa_nil h2) h1) h1 hpl na) (we_imp (q.run H o) fun x H1 ⟨L1, o1, q1⟩ => we_imp (q1.run H1 o1) fun y H2 ⟨L2, o2, l, m, ds, ns, ex, ey, m1, m2, el, hl, q2⟩ => by
    obtain ⟨vs, a1, a2⟩ := get_ld o2 m1
    have hv := DtAll.len a2
    refine ⟨l, m, vs, iv ns, by rw [ex, ey], SqL.of a1, SqL.of (o2.pt m2), by rw [iv_len]; omega, by rw [sizeLine_eq]; omega, fun H3 as p t hp => ?_⟩
    obtain ⟨o3, a3⟩ := t.own o2 a2 rfl
    exact ⟨_, new_ld o3 hp rfl a3, q2 p⟩)⟩
end Sh
namespace Sh
open PySem PySem.Spec L2 PyProof.Rows
/-! ### over a tuple; pairs that come out of a list -/
section
variable {X : Cx} {iter tg : Expr} {σ : St} {L : As} {R : It → As → Prop}
theorem il_tup (q : EL X iter σ L fun x L1 => ∃ l xs, x = .ref l ∧ tp l xs ∈ L1 ∧ R (Itt X.K l) L1) : IL X tg iter σ L R :=
  ⟨_, pi_tup We.pe, fun H o R' hR => we_imp (q.run H o) fun x H1 ⟨L1, o1, l, xs, ex, m, r⟩ => ⟨l, ex, ⟨xs, SqT.of (o1.tp m)⟩, hR _ _ _ o1 r⟩⟩
theorem src_tup {K : PySem.W.Frag} {l : Addr} {xs : List V} : Src (Itt K l) xs.length [tp l xs] fun i y Lx => xs[i]? = some y ∧ Lx = [] := by
  refine ⟨_, _, walk_tup (xs := xs), fun H L o h => SqT.of (o.tp (h _ List.mem_cons_self)), fun i H x H' L hi o h hy => ?_⟩
  obtain ⟨rfl, hy⟩ := hy
  exact ⟨[], ⟨hy, rfl⟩, o⟩
theorem src_pr {K : PySem.W.Frag} {l : Addr} {vs : List V} {ds : List PyData} (hl : vs.length = ds.length) (hd : ∀ d ∈ ds, ∃ a b, d = .tuple [a, b]) :
    Src (Itl K l) ds.length [lv l vs ds] (Y2 fun i x1 x2 Ly => ∃ a b, ds[i]? = some (.tuple [a, b]) ∧ Ly = [dt x1 a, dt x2 b]) := by
  refine ⟨_, _, hl ▸ walk_list (xs := vs), fun H L o h => SqL.of (lvP (o.get (A := lv l vs ds) (h _ List.mem_cons_self))).1, fun i H x H' L hi o h hy => ?_⟩
  obtain ⟨rfl, hy⟩ := hy
  obtain ⟨d, hd1, hx⟩ := (lvP (o.get (A := lv l vs ds) (h _ List.mem_cons_self))).2.get hy
  obtain ⟨a, b, rfl⟩ := hd d (List.mem_of_getElem? hd1)
  cases hx with
  | tup h1 h2 =>
    cases h2 with
    | cons h3 h2 =>
    cases h2 with
    | cons h4 h2 =>
    cases h2
    exact ⟨_, ⟨_, _, _, _, rfl, rfl, a, b, hd1, rfl⟩, ((o.addD h4).addD h3).addT h1⟩
end
section
variable {K : PySem.W.Frag} {l : Addr} {vs : List V}
theorem src_enumV {xs : List V} : Src (Ite K l) xs.length [pt l (.lst xs)] (Y2 fun i x1 x2 Ly => x1 = .int (i : Int) ∧ xs[i]? = some x2 ∧ Ly = []) := by
  refine ⟨_, _, walk_enum (xs := xs), fun H L o h => SqL.of (o.pt (h _ List.mem_cons_self)), fun i H x H' L hi o h hy => ?_⟩
  obtain ⟨T, x1, x2, rfl, hn, rfl, e1, e2⟩ := hy
  cases e1
  exact ⟨_, ⟨T, _, x2, _, rfl, rfl, rfl, e2, rfl⟩, o.newT hn⟩
theorem dtAll_two {T : Hp} {xs : List V} {a b : PyData} (h : DtAll T xs [a, b]) : ∃ x1 x2, xs = [x1, x2] ∧ Dt T x1 a ∧ Dt T x2 b := by
  cases h with
  | cons h3 h2 =>
  cases h2 with
  | cons h4 h2 =>
  cases h2
  exact ⟨_, _, rfl, h3, h4⟩
/-- pairs of numbers -/
theorem src_prI {hs : List (Int × Int)} (hl : vs.length = (hs.map hD).length) : Src (Itl K l) hs.length [lv l vs (hs.map hD)] (Y2 fun i x1 x2 Ly => ∃ h, hs[i]? = some h ∧ x1 = .int h.1 ∧ x2 = .int h.2 ∧ Ly = []) := by
  refine ⟨_, _, (by have := walk_list (K := K) (a := l) (xs := vs); rwa [hl, List.length_map] at this : Walk (Itl K l) hs.length _ _), fun H L o h => SqL.of (lvP (o.get (A := lv l vs (hs.map hD)) (h _ List.mem_cons_self))).1, fun i H x H' L hi o h hy => ?_⟩
  obtain ⟨rfl, hy⟩ := hy
  obtain ⟨d, hd1, hx⟩ := (lvP (o.get (A := lv l vs (hs.map hD)) (h _ List.mem_cons_self))).2.get hy
  rw [List.getElem?_map] at hd1
  obtain ⟨u, hu, rfl⟩ := Option.map_eq_some_iff.mp hd1
  cases hx with
  | tup h1 h2 =>
    obtain ⟨x1, x2, rfl, k1, k2⟩ := dtAll_two h2
    cases k1
    cases k2
    exact ⟨_, ⟨_, _, _, _, rfl, rfl, u, hu, rfl, rfl, rfl⟩, o.addT h1⟩
/-- pairs of a thing and a number -/
theorem src_prW {α : Type} {us : List α} {F : α → PyData} {f : α → Int} (hl : vs.length = (us.map fun u => PyData.tuple [F u, .int (f u)]).length) :
    Src (Itl K l) us.length [lv l vs (us.map fun u => PyData.tuple [F u, .int (f u)])] (Y2 fun i x1 x2 Ly => ∃ u, us[i]? = some u ∧ x2 = .int (f u) ∧ Ly = [dt x1 (F u)]) := by
  refine ⟨_, _, (by have := walk_list (K := K) (a := l) (xs := vs); rwa [hl, List.length_map] at this : Walk (Itl K l) us.length _ _), fun H L o h => SqL.of (lvP (o.get (A := lv l vs (us.map fun u => PyData.tuple [F u, .int (f u)])) (h _ List.mem_cons_self))).1, fun i H x H' L hi o h hy => ?_⟩
  obtain ⟨rfl, hy⟩ := hy
  obtain ⟨d, hd1, hx⟩ := (lvP (o.get (A := lv l vs (us.map fun u => PyData.tuple [F u, .int (f u)])) (h _ List.mem_cons_self))).2.get hy
  rw [List.getElem?_map] at hd1
  obtain ⟨u, hu, rfl⟩ := Option.map_eq_some_iff.mp hd1
  cases hx with
  | tup h1 h2 =>
    obtain ⟨x1, x2, rfl, k1, k2⟩ := dtAll_two h2
    cases k2
    exact ⟨_, ⟨_, _, _, _, rfl, rfl, u, hu, rfl, rfl⟩, (o.addD k1).addT h1⟩
end
theorem IsLs.lv {K : PySem.W.Frag} {L : As} {p : Addr} {vs : List V} {ds : List PyData} (m : Sh.lv p vs ds ∈ L) : IsLs K L p := fun H o => ⟨_, SqL.of (lvP (o.get (A := Sh.lv p vs ds) m)).1⟩
/-! ### put in order -/
def ixOf (ns : List Int) : List (Int × Int) := (List.range ns.length).map fun i => (ns.getD i 0, (i : Int))
def ordIx (ns : List Int) : List (Int × Int) := srtH (ixOf ns)
def ordRow (S : SS) (row : List (Int × Int)) : List (Int × Int) := (ordIx (hereOf S row)).map fun x => row.getD x.2.toNat (0, 0)
section
variable {S P : SS} {row : List (Int × Int)} {ns : List Int} {x : Int × Int}
theorem ixOf_len : (ixOf ns).length = ns.length := by unfold ixOf; rw [List.length_map, List.length_range]
theorem ixOf_get {j : Nat} (h : j < ns.length) : (ixOf ns)[j]? = some (ns.getD j 0, (j : Int)) := by
  unfold ixOf
  rw [List.getElem?_map, List.getElem?_range h]; rfl
theorem ixOf_mem (h : x ∈ ixOf ns) : ∃ j : Nat, j < ns.length ∧ x = (ns.getD j 0, (j : Int)) := by
  unfold ixOf at h
  obtain ⟨j, hj, e⟩ := List.mem_map.mp h
  exact ⟨j, List.mem_range.mp hj, e.symm⟩
theorem ordIx_perm : (ordIx ns).Perm (ixOf ns) := srtH_perm _
theorem ordIx_len : (ordIx ns).length = ns.length := ordIx_perm.length_eq.trans ixOf_len
theorem ordIx_mem (h : x ∈ ordIx ns) : ∃ j : Nat, j < ns.length ∧ x = (ns.getD j 0, (j : Int)) := ixOf_mem (ordIx_perm.mem_iff.mp h)
theorem ordRow_len : (ordRow S row).length = row.length := by unfold ordRow; rw [List.length_map, ordIx_len, here_len]
theorem ixOf_row : (ixOf (hereOf S row)).map (fun x => row.getD x.2.toNat (0, 0)) = row := by
  apply List.ext_getElem?
  intro j
  rw [List.getElem?_map]
  rcases Nat.lt_or_ge j row.length with h | h
  · rw [ixOf_get (by rw [here_len]; exact h), Option.map_some, Int.toNat_natCast, List.getD_eq_getElem?_getD, List.getElem?_eq_getElem h]; rfl
  · rw [List.getElem?_eq_none (by rw [ixOf_len, here_len]; exact h), List.getElem?_eq_none h]; rfl
theorem ordRow_perm : (ordRow S row).Perm row := by
  have h := ordIx_perm (ns := hereOf S row).map (fun x => row.getD x.2.toNat (0, 0))
  rw [ixOf_row] at h
  exact h
theorem ordRow_here : hereOf S (ordRow S row) = (ordIx (hereOf S row)).map (·.1) := by
  unfold ordRow
  rw [show hereOf S (List.map (fun x => row.getD x.2.toNat (0, 0)) (ordIx (hereOf S row))) = (ordIx (hereOf S row)).map (fun x => wI S (row.getD x.2.toNat (0, 0)).1) from List.map_map ..]
  refine List.map_congr_left fun x hx => ?_
  obtain ⟨j, hj, rfl⟩ := ordIx_mem hx
  rw [here_len] at hj
  dsimp only
  rw [Int.toNat_natCast]
  have e := List.getElem?_eq_getElem hj
  rw [here_get e, List.getD_eq_getElem?_getD, e]; rfl
/-- all places are told -/
def plAll (ws : List (Int × V)) (row : List (Int × Int)) : Nat → List (Int × V)
  | 0 => ws
  | j + 1 => putK (plAll ws row j) (row.getD j (0, 0)).1 (.int (j : Int))
theorem plAll_keys {ws : List (Int × V)} (h : ∀ k ∈ row, k.1 ∈ ws.map (·.1)) : ∀ {j : Nat}, j ≤ row.length → (plAll ws row j).map (·.1) = ws.map (·.1)
  | 0, _ => rfl
  | j + 1, hj => by
    have ih := plAll_keys h (j := j) (by omega)
    show (putK (plAll ws row j) (row.getD j (0, 0)).1 (.int (j : Int))).map (·.1) = _
    rw [keys_put_old _ ?_, ih]
    rw [ih]
    refine h _ ?_
    rw [List.getD_eq_getElem?_getD, List.getElem?_eq_getElem (show j < row.length by omega)]
    exact List.getElem_mem _
theorem plAll_len {ws : List (Int × V)} (h : ∀ k ∈ row, k.1 ∈ ws.map (·.1)) {j : Nat} (hj : j ≤ row.length) : (plAll ws row j).length = ws.length := by
  have := congrArg List.length (plAll_keys h hj)
  rwa [List.length_map, List.length_map] at this
theorem plAll_val {ws : List (Int × V)} (nd : (row.map (·.1)).Nodup) : ∀ {j i : Nat} {k : Int × Int}, i < j → j ≤ row.length → row[i]? = some k → valV (plAll ws row j) k.1 = some (.int (i : Int))
  | 0, _, _, h, _, _ => by omega
  | j + 1, i, k, h, hj, hk => by
    show valV (putK (plAll ws row j) (row.getD j (0, 0)).1 (.int (j : Int))) k.1 = _
    rw [valV_put]
    have jl : j < row.length := by omega
    by_cases e : i = j
    · subst e
      rw [List.getD_eq_getElem?_getD, hk]
      exact if_pos rfl
    · rw [if_neg, plAll_val nd (by omega) (by omega) hk]
      intro z
      rw [List.getD_eq_getElem?_getD, List.getElem?_eq_getElem jl] at z
      have il := (List.getElem?_eq_some_iff.mp hk).1
      have hk' := (List.getElem?_eq_some_iff.mp hk).2
      have a1 : (row.map (·.1))[i]'(by rw [List.length_map]; exact il) = (row.map (·.1))[j]'(by rw [List.length_map]; exact jl) := by
        rw [List.getElem_map, List.getElem_map, hk']; exact z
      exact e ((List.getElem_inj nd).mp a1)
theorem Pl.ord (p : Pl S P row) (ok : S.Ok) : Pl S { P with ws := plAll P.ws (ordRow S row) (ordRow S row).length } (ordRow S row) := by
  have hk : ∀ k ∈ ordRow S row, k.1 ∈ P.ws.map (·.1) := fun k hk => by
    rw [p.keys]
    exact (SS.holds_in (p.mem.mp (ordRow_perm.mem_iff.mp hk))).1
  have nd : ((ordRow S row).map (·.1)).Nodup := (ordRow_perm.map (·.1)).nodup_iff.mpr (p.nd ok)
  refine ⟨by rw [p.eq], ?_, ordRow_perm.trans p.pm, fun j h hj => ?_⟩
  · rw [plAll_keys hk (Nat.le_refl _)]
    exact p.keys
  · exact plAll_val nd (List.getElem?_eq_some_iff.mp hj).1 (Nat.le_refl _) hj
end
def sDOrd (C : Cl) : SpL := fun vs L Q _ => ∃ (p : Addr) (S : SS) (row : List (Int × Int)) (L1 : As), vs = [.ref p] ∧ S.Ok ∧ Rm (DenseAt C p S row) L L1 ∧ Q .non (DenseAt C p S (ordRow S row) :: L1)
end Sh
namespace Sh
open PySem PySem.Spec L2 PyProof.Rows
/-! ### worths side by side -/
theorem BL.dint {X : Cx} {D : DL} {σ : St} {L : As} {st : List Stmt} {v : V} {i : Int} (hd : Dsc X.K L v (.int i)) (q : v = .int i → BL X st D σ L) : BL X st D σ L := ⟨fun H o => (q (by cases hd H o; rfl)).run H o⟩
theorem iv_snoc (ns : List Int) (i : Int) : iv ns ++ [V.int i] = iv (ns ++ [i]) := by unfold iv; rw [List.map_append]; rfl
section
variable {S P S' : SS} {row : List (Int × Int)} {h l a b : Int × Int} {i s t : Int} {j k : Nat}
theorem wI_put (e : S.putIn (.int i) = .ok (h, S')) : wI S' t = if t = h.1 then i else wI S t := by
  unfold wI
  rw [(SS.put_same e).1, valV_put]
  by_cases z : t = h.1
  · rw [if_pos z, if_pos z]
  · rw [if_neg z, if_neg z]
theorem wI_chg : wI (S.chg s (.int i)) t = if t = s then i else wI S t := by
  unfold wI
  rw [show (S.chg s (.int i)).ws = putK S.ws s (.int i) from rfl, valV_put]
  by_cases z : t = s
  · rw [if_pos z, if_pos z]
  · rw [if_neg z, if_neg z]
theorem wI_drop (ne : t ≠ s) : wI (S.dropAt s) t = wI S t := by
  unfold wI
  rw [drop_ws, valV_drop', if_neg ne]
theorem here_put (p : Pl S P row) (ok : S.Ok) (e : S.putIn (.int i) = .ok (h, S')) : hereOf S' (row ++ [h]) = hereOf S row ++ [i] := by
  have w2 := (put_ws ok e).2
  unfold hereOf
  rw [List.map_append, List.map_singleton, wI_put e, if_pos rfl]
  congr 1
  exact List.map_congr_left fun k hk => by rw [wI_put e, if_neg (fun z : k.1 = h.1 => w2 (by rw [← z]; exact (SS.holds_in (p.mem.mp hk)).1))]
theorem here_chg (p : Pl S P row) (hj : row[j]? = some h) : hereOf (S.chg h.1 (.int i)) row = (hereOf S row).set j i := by
  apply List.ext_getElem?
  intro k
  unfold hereOf
  rw [List.getElem?_set, List.getElem?_map, List.getElem?_map, List.length_map]
  have jl := (List.getElem?_eq_some_iff.mp hj).1
  by_cases z : j = k
  · subst z
    rw [if_pos rfl, if_pos jl, hj, Option.map_some, wI_chg, if_pos rfl]
  · rw [if_neg z]
    cases hk : row[k]? with
    | none => rfl
    | some x =>
      rw [Option.map_some, Option.map_some, wI_chg, if_neg (fun q => z (p.inj hj hk q.symm))]
theorem here_dropL (p : Pl S P (row ++ [h])) : hereOf (S.dropAt h.1) row = hereOf S row := by
  refine List.map_congr_left fun k hk => wI_drop fun z => ?_
  obtain ⟨j, hj, e⟩ := List.getElem_of_mem hk
  have h1 : (row ++ [h])[j]? = some k := by rw [List.getElem?_append_left hj]; exact List.getElem?_eq_some_iff.mpr ⟨hj, e⟩
  have := p.inj h1 (j := row.length) (k := h) (by simp) z
  omega
theorem here_dropM (p : Pl S P (row ++ [l])) (hj : row[j]? = some h) : hereOf (S.dropAt h.1) (row.set j l) = (hereOf S row).set j (wI S l.1) := by
  have jl := (List.getElem?_eq_some_iff.mp hj).1
  have hj' : (row ++ [l])[j]? = some h := by rw [List.getElem?_append_left jl]; exact hj
  apply List.ext_getElem?
  intro k
  unfold hereOf
  rw [List.getElem?_set, List.getElem?_map, List.getElem?_set, List.getElem?_map, List.length_map]
  by_cases z : j = k
  · subst z
    rw [if_pos rfl, if_pos jl, if_pos rfl, if_pos jl, Option.map_some, wI_drop fun q => by
      have := p.inj (i := row.length) (h := l) (by simp) hj' q
      omega]
  · rw [if_neg z, if_neg z]
    cases hk : row[k]? with
    | none => rfl
    | some x =>
      have hk' : (row ++ [l])[k]? = some x := by rw [List.getElem?_append_left (List.getElem?_eq_some_iff.mp hk).1]; exact hk
      rw [Option.map_some, Option.map_some, wI_drop fun q => z (p.inj hk' hj' q).symm]
theorem here_swap : hereOf S ((row.set j b).set k a) = ((hereOf S row).set j (wI S b.1)).set k (wI S a.1) := by
  unfold hereOf
  rw [List.map_set, List.map_set]
theorem here_snoc : hereOf S (row ++ [l]) = hereOf S row ++ [wI S l.1] := by unfold hereOf; rw [List.map_append]; rfl
end
theorem whole_intG {d : PyData} {lo hi : Int} (h : isWhole d lo hi = true) : ∃ i, d = .int i ∧ lo ≤ i ∧ i ≤ hi := by
  cases d with
  | int i => exact ⟨i, rfl, by simpa [isWhole] using h⟩
  | _ => simp [isWhole] at h
theorem pop0_li {L L' : As} {Q : LK} {p : Addr} {ns : List Int} {i : Int} (r1 : Rp (pt p (.lst (iv (ns ++ [i])))) (pt p (.lst (iv ns))) L L') (q : Q (.int i) L') : LR rPop p [] L Q := fun H o =>
  ⟨p, iv (ns ++ [i]), .int i, rfl, rfl, o.pt r1.mem, by rw [← iv_snoc]; simp, L', by rw [← iv_snoc, List.dropLast_concat]; exact o.wr r1 ntL, q⟩
/-- one goes, the last one comes to its place -/
def dropRow (row : List (Int × Int)) (j : Nat) : List (Int × Int) := (row.set j (row.getLastD (0, 0))).dropLast
theorem dropRow_last {r0 : List (Int × Int)} {l : Int × Int} : dropRow (r0 ++ [l]) r0.length = r0 := by
  unfold dropRow
  rw [List.set_append_right _ _ (Nat.le_refl _), Nat.sub_self]
  simp
theorem dropRow_mid {r0 : List (Int × Int)} {l : Int × Int} {j : Nat} (h : j < r0.length) : dropRow (r0 ++ [l]) j = r0.set j l := by
  unfold dropRow
  rw [List.set_append_left _ _ h]
  simp
def sDDrop (K : PySem.W.Frag) (C : Cl) : SpL := fun vs L Q E => ∃ (p : Addr) (S : SS) (row : List (Int × Int)) (v : V) (d : PyData) (L1 : As), vs = [.ref p, v] ∧ S.Ok ∧ S.Wi ∧ Rm (DenseAt C p S row) L L1 ∧ Dsc K L v d ∧ (∀ sc, S.at d = .ok sc → dt v d ∈ L1) ∧
  (∀ e, S.at d = .error e → E e L) ∧ (∀ (sc : Int × Int) (j : Nat), S.at d = .ok sc → row[j]? = some sc → (S.dropAt sc.1).Ok → Q (.int (wI S sc.1)) (DenseAt C p (S.dropAt sc.1) (dropRow row j) :: L1))
theorem BL.imp {X : Cx} {D : DL} {σ : St} {L L' : As} {st : List Stmt} (im : Imp L L') (q : BL X st D σ L') : BL X st D σ L := ⟨fun H o => q.run H (im.own o)⟩
def sDSet (C : Cl) : SpL := fun vs L Q _ => ∃ (p : Addr) (S : SS) (row : List (Int × Int)) (i j : Nat) (a b : Int × Int) (va vb : V) (L1 : As), vs = [.ref p, .int i, vb, .int (wI S b.1), .int j, va, .int (wI S a.1)] ∧ S.Ok ∧ Imp L (DenseAt C p S row :: L1) ∧
  row[i]? = some a ∧ row[j]? = some b ∧ dt va (hD a) ∈ L1 ∧ dt vb (hD b) ∈ L1 ∧ Q .non (DenseAt C p S ((row.set i b).set j a) :: L1)
def sDSwap (K : PySem.W.Frag) (C : Cl) : SpL := fun vs L Q E => ∃ (p : Addr) (S : SS) (row : List (Int × Int)) (v1 v2 : V) (d1 d2 : PyData) (L1 : As), vs = [.ref p, v1, v2] ∧ S.Ok ∧ Rm (DenseAt C p S row) L L1 ∧ Dsc K L v1 d1 ∧ Dsc K L v2 d2 ∧
  (isWhole d1 0 ((row.length : Int) - 1) = false → E .NoPlace L) ∧ (isWhole d1 0 ((row.length : Int) - 1) = true → isWhole d2 0 ((row.length : Int) - 1) = false → E .NoPlace L) ∧
  (∀ (i j : Nat) a b, d1 = .int (i : Int) → d2 = .int (j : Int) → row[i]? = some a → row[j]? = some b → Q .non (DenseAt C p S ((row.set i b).set j a) :: L1))

end Sh
namespace Sh
open PySem PySem.Spec L2 PyProof.Rows
/-! ### deeds at a dense store -/
abbrev pairsD (S : SS) (row : List (Int × Int)) : List PyData := row.map fun h => .tuple [hD h, .int (wI S h.1)]
theorem zipD_row {S : SS} : ∀ row : List (Int × Int), zipD (row.map hD) (hereOf S row) = pairsD S row
  | [] => rfl
  | h :: r => by
    show .tuple [hD h, .int (wI S h.1)] :: zipD (r.map hD) (hereOf S r) = _
    rw [zipD_row r]; rfl
def sDPairs (C : Cl) : SpL := fun vs L Q _ => ∃ (p : Addr) (S : SS) (row : List (Int × Int)), vs = [.ref p] ∧ S.Ok ∧ DenseAt C p S row ∈ L ∧ ∀ l, Q (.ref l) (ld l (pairsD S row) :: L)
inductive Dq where
  | dg (g : Dg)
  | place (d : PyData)
  | at (d : PyData)
  | swap (d e : PyData)
def Dq.wd : Dq → Str
  | .dg g => g.wd
  | .place _ => "place"
  | .at _ => "at"
  | .swap _ _ => "swap"
def Dq.a1 : Dq → PyData
  | .dg (.put w) => w
  | .dg (.get h) => h
  | .dg (.change h _) => h
  | .dg (.drop h) => h
  | .place d => d
  | .at d => d
  | .swap d _ => d
def Dq.a2 : Dq → PyData
  | .dg (.change _ w) => w
  | .swap _ e => e
  | _ => .none
def rowAfter (S : SS) (row : List (Int × Int)) : Dg → List (Int × Int)
  | .put d => if isWhole d 0 9999 = true then (match S.putIn (vOf d) with
      | .ok (h, _) => row ++ [h]
      | .error _ => row) else row
  | .drop d => match S.at d with
      | .ok sc => dropRow row (row.idxOf sc)
      | .error _ => row
  | _ => row
def swapRow (row : List (Int × Int)) (i j : Nat) : List (Int × Int) := (row.set i (row.getD j (0, 0))).set j (row.getD i (0, 0))
def natD : PyData → Nat
  | .int i => i.toNat
  | _ => 0
def Dq.tell (S : SS) (row : List (Int × Int)) : Dq → PyData × SS × List (Int × Int)
  | .dg g => ((S.tell g).1, (S.tell g).2, rowAfter S row g)
  | .place d => match S.at d with
      | .ok sc => (.int (row.idxOf sc : Nat), S, row)
      | .error e => (refD e, S, row)
  | .at d => if isWhole d 0 ((row.length : Int) - 1) = true then (hD (row.getD (natD d) (0, 0)), S, row) else (refD .NoPlace, S, row)
  | .swap d e => if isWhole d 0 ((row.length : Int) - 1) = true then (if isWhole e 0 ((row.length : Int) - 1) = true then (.none, S, swapRow row (natD d) (natD e)) else (refD .NoPlace, S, row)) else (refD .NoPlace, S, row)
def sDTry (K : PySem.W.Frag) (C : Cl) : SpL := fun vs L Q _ => ∃ (p : Addr) (S : SS) (row : List (Int × Int)) (dq : Dq) (v1 v2 : V) (L1 : As), vs = [.ref p, .str dq.wd, v1, v2] ∧ S.Ok ∧ S.Wi ∧ Rm (DenseAt C p S row) L L1 ∧ Dsc K L v1 dq.a1 ∧ Dsc K L v2 dq.a2 ∧
  (∀ d sc, dq = .dg (.drop d) → S.at d = .ok sc → dt v1 d ∈ L1) ∧ ∀ r, Q r (dt r (dq.tell S row).1 :: DenseAt C p (dq.tell S row).2.1 (dq.tell S row).2.2 :: L1)
section
variable {K : PySem.W.Frag} {C : Cl} {L L1 : As} {Q : LK} {E : Er → As → Prop} {p : Addr} {S : SS} {row : List (Int × Int)} {dq : Dq} {v1 v2 : V} {a : PyData} {S' : SS} {row' : List (Int × Int)}
theorem sDMany.i (m : DenseAt C p S row ∈ L) (q : Q (.int (row.length : Int)) L) : sDMany C [.ref p] L Q E := ⟨p, S, row, rfl, m, q⟩
theorem sDPairs.i (m : DenseAt C p S row ∈ L) (ok : S.Ok) (q : ∀ l, Q (.ref l) (ld l (pairsD S row) :: L)) : sDPairs C [.ref p] L Q E := ⟨p, S, row, rfl, ok, m, q⟩
theorem sDOrd.i (r : Rm (DenseAt C p S row) L L1) (ok : S.Ok) (q : Q .non (DenseAt C p S (ordRow S row) :: L1)) : sDOrd C [.ref p] L Q E := ⟨p, S, row, L1, rfl, ok, r, q⟩
theorem DenseAt.pl {H : Hp} (o : Own H L) (m : DenseAt C p S row ∈ L) : row.Perm S.lvU := by
  obtain ⟨L1, r⟩ := mem_rm m
  obtain ⟨⟨w, P⟩, o1⟩ := Own.exI (o.front r)
  obtain ⟨pl, o2⟩ := Own.prI (Own.cjI (L1 := [pr (Pl S P row), pt p (.ins C.Dense w.dx (dflds w)), StoreAt C.Store w.st P, ld w.ro (row.map hD), pt w.he (.lst (iv (hereOf S row)))]) o1)
  exact pl.pm
theorem sDTry.i (dq : Dq) (ht : dq.tell S row = (a, S', row')) (ok : S.Ok) (wi : S.Wi) (rm : Rm (DenseAt C p S row) L L1) (h1 : Dsc K L v1 dq.a1) (h2 : Dsc K L v2 dq.a2) (hd : ∀ d sc, dq = .dg (.drop d) → S.at d = .ok sc → dt v1 d ∈ L1)
    (q : ∀ r, Q r (dt r a :: DenseAt C p S' row' :: L1)) : sDTry K C [.ref p, .str dq.wd, v1, v2] L Q E := ⟨p, S, row, dq, v1, v2, L1, rfl, ok, wi, rm, h1, h2, hd, fun r => by rw [ht]; exact q r⟩
end
section
variable {S : SS} {row : List (Int × Int)} {d e : PyData} {h sc : Int × Int}
theorem rows_nd (ok : S.Ok) (pm : row.Perm S.lvU) : row.Nodup := pm.nodup_iff.mpr (lvU_nd ok)
theorem idx_of (nd : row.Nodup) {j : Nat} (h : row[j]? = some sc) : row.idxOf sc = j := by
  have hj := (List.getElem?_eq_some_iff.mp h).1
  have e := (List.getElem?_eq_some_iff.mp h).2
  rw [← e]
  exact nd.idxOf_getElem j hj
theorem Dq.tell_put {i : Int} (i0 : 0 ≤ i) (i1 : i ≤ 9999) : (Dq.dg (.put (.int i))).tell S row = match S.putIn (.int i) with
    | .ok (h, S') => (hD h, S', row ++ [h])
    | .error e => (refD e, S, row) := by
  unfold Dq.tell rowAfter
  dsimp only
  rw [SS.tell_put i0 i1, if_pos (isW i0 i1)]
  show (_, _, (match S.putIn (.int i) with | .ok (h, _) => row ++ [h] | .error _ => row)) = _
  cases S.putIn (.int i) <;> rfl
theorem Dq.tell_put_no (hw : isWhole d 0 9999 = false) : (Dq.dg (.put d)).tell S row = (refD .NoWorth, S, row) := by
  unfold Dq.tell rowAfter
  dsimp only
  rw [Sh.tell_put_no hw, if_neg (by rw [hw]; exact Bool.false_ne_true)]
theorem Dq.tell_get (hr : InR S.n S.r h) : (Dq.dg (.get (hD h))).tell S row = if S.holds h.1 h.2 = true then (S.wth h.1, S, row) else (refD .Stale, S, row) := by
  unfold Dq.tell rowAfter
  dsimp only
  rw [SS.tell_get hr]
  split <;> rfl
theorem Dq.tell_drop (hr : InR S.n S.r h) : (Dq.dg (.drop (hD h))).tell S row = if S.holds h.1 h.2 = true then (S.wth h.1, S.dropAt h.1, dropRow row (row.idxOf h)) else (refD .Stale, S, row) := by
  unfold Dq.tell rowAfter
  dsimp only
  rw [SS.tell_drop hr, SS.at_hD hr]
  by_cases z : S.holds h.1 h.2 = true
  · rw [if_pos z, if_pos z, if_pos z]
  · rw [if_neg z, if_neg z, if_neg z]
theorem Dq.tell_change {i : Int} (hr : InR S.n S.r h) (i0 : 0 ≤ i) (i1 : i ≤ 9999) : (Dq.dg (.change (hD h) (.int i))).tell S row = if S.holds h.1 h.2 = true then (S.wth h.1, S.chg h.1 (.int i), row) else (refD .Stale, S, row) := by
  unfold Dq.tell rowAfter
  dsimp only
  rw [SS.tell_change hr i0 i1]
  split <;> rfl
theorem Dq.tell_change_nw (hr : InR S.n S.r h) (hw : isWhole d 0 9999 = false) : (Dq.dg (.change (hD h) d)).tell S row = (if S.holds h.1 h.2 = true then refD .NoWorth else refD .Stale, S, row) := by
  unfold Dq.tell rowAfter
  dsimp only
  rw [Sh.tell_change_nw hr hw]
theorem Dq.tell_get_no (hh : isHandle S.n S.r d = false) : (Dq.dg (.get d)).tell S row = (refD .NoHandle, S, row) := by
  unfold Dq.tell rowAfter
  dsimp only
  rw [Sh.tell_get_no hh]
theorem Dq.tell_drop_no (hh : isHandle S.n S.r d = false) : (Dq.dg (.drop d)).tell S row = (refD .NoHandle, S, row) := by
  unfold Dq.tell rowAfter
  dsimp only
  rw [Sh.tell_drop_no hh, at_no hh]
theorem Dq.tell_change_no (hh : isHandle S.n S.r d = false) : (Dq.dg (.change d e)).tell S row = (refD .NoHandle, S, row) := by
  unfold Dq.tell rowAfter
  dsimp only
  rw [Sh.tell_change_no hh]
theorem Dq.tell_place_no (hh : isHandle S.n S.r d = false) : (Dq.place d).tell S row = (refD .NoHandle, S, row) := by
  unfold Dq.tell
  dsimp only
  rw [at_no hh]
theorem Dq.tell_place (hr : InR S.n S.r h) : (Dq.place (hD h)).tell S row = if S.holds h.1 h.2 = true then (.int (row.idxOf h : Nat), S, row) else (refD .Stale, S, row) := by
  unfold Dq.tell
  dsimp only
  rw [SS.at_hD hr]
  by_cases z : S.holds h.1 h.2 = true
  · rw [if_pos z, if_pos z]
  · rw [if_neg z, if_neg z]
theorem Dq.tell_at_no (hw : isWhole d 0 ((row.length : Int) - 1) = false) : (Dq.at d).tell S row = (refD .NoPlace, S, row) := by
  unfold Dq.tell
  dsimp only
  rw [if_neg (by rw [hw]; exact Bool.false_ne_true)]
theorem Dq.tell_swap_no (hw : isWhole d 0 ((row.length : Int) - 1) = false) : (Dq.swap d e).tell S row = (refD .NoPlace, S, row) := by
  unfold Dq.tell
  dsimp only
  rw [if_neg (by rw [hw]; exact Bool.false_ne_true)]
theorem Dq.tell_swap_no2 (hw : isWhole e 0 ((row.length : Int) - 1) = false) : (Dq.swap d e).tell S row = (refD .NoPlace, S, row) := by
  unfold Dq.tell
  dsimp only
  split
  · rw [if_neg (by rw [hw]; exact Bool.false_ne_true)]
  · rfl
theorem wh_nat {k m : Nat} (h : k < m) : isWhole (.int (k : Int)) 0 ((m : Int) - 1) = true := by
  show (decide ((0 : Int) ≤ k) && decide ((k : Int) ≤ (m : Int) - 1)) = true
  rw [decide_eq_true (by omega), decide_eq_true (by omega)]; rfl
theorem wh_nat_no {k m : Nat} (h : ¬ k < m) : isWhole (.int (k : Int)) 0 ((m : Int) - 1) = false := by
  show (decide ((0 : Int) ≤ k) && decide ((k : Int) ≤ (m : Int) - 1)) = false
  rw [decide_eq_false (show ¬ (k : Int) ≤ (m : Int) - 1 by omega), Bool.and_false]
theorem Dq.tell_swap {i j : Nat} (hi : i < row.length) (hj : j < row.length) : (Dq.swap (.int (i : Int)) (.int (j : Int))).tell S row = (.none, S, swapRow row i j) := by
  unfold Dq.tell
  dsimp only
  rw [if_pos (wh_nat hi), if_pos (wh_nat hj)]
  show (PyData.none, S, swapRow row ((i : Int)).toNat ((j : Int)).toNat) = _
  rw [Int.toNat_natCast, Int.toNat_natCast]
theorem pl_pairs (k : Nat) (S : SS) (row : List (Int × Int)) : pls (k + 2) (pairsD S row) = true := by
  unfold pls
  rw [List.all_map]
  refine List.all_eq_true.mpr fun x _ => ?_
  show (pl (k + 1) (hD x) && (pl (k + 1) (.int (wI S x.1)) && true)) = true
  rw [pl_hD]
  rfl
theorem mem_row (pm : row.Perm S.lvU) : h ∈ row ↔ S.holds h.1 h.2 = true := pm.mem_iff.trans mem_lvU
end
end Sh
namespace Sh
open PySem PySem.Spec L2 PyProof.Rows
section
variable {K : PySem.W.Frag} {C : Cl} {L L1 : As} {Q : LK} {E : Er → As → Prop} {p : Addr} {S : SS} {row : List (Int × Int)} {v1 v2 : V} {a d e : PyData} {S' : SS} {row' : List (Int × Int)}
theorem sDTry.put (ht : (Dq.dg (.put d)).tell S row = (a, S', row')) (ok : S.Ok) (wi : S.Wi) (rm : Rm (DenseAt C p S row) L L1) (h1 : Dsc K L v1 d) (h2 : Dsc K L v2 .none) (q : ∀ r, Q r (dt r a :: DenseAt C p S' row' :: L1)) : sDTry K C [.ref p, .str "put", v1, v2] L Q E :=
  sDTry.i (.dg (.put d)) ht ok wi rm h1 h2 (fun d sc ed _ => by cases ed) q
theorem sDTry.get (ht : (Dq.dg (.get d)).tell S row = (a, S', row')) (ok : S.Ok) (wi : S.Wi) (rm : Rm (DenseAt C p S row) L L1) (h1 : Dsc K L v1 d) (h2 : Dsc K L v2 .none) (q : ∀ r, Q r (dt r a :: DenseAt C p S' row' :: L1)) : sDTry K C [.ref p, .str "get", v1, v2] L Q E :=
  sDTry.i (.dg (.get d)) ht ok wi rm h1 h2 (fun d sc ed _ => by cases ed) q
theorem sDTry.change (ht : (Dq.dg (.change d e)).tell S row = (a, S', row')) (ok : S.Ok) (wi : S.Wi) (rm : Rm (DenseAt C p S row) L L1) (h1 : Dsc K L v1 d) (h2 : Dsc K L v2 e) (q : ∀ r, Q r (dt r a :: DenseAt C p S' row' :: L1)) : sDTry K C [.ref p, .str "change", v1, v2] L Q E :=
  sDTry.i (.dg (.change d e)) ht ok wi rm h1 h2 (fun d sc ed _ => by cases ed) q
theorem sDTry.drop (ht : (Dq.dg (.drop d)).tell S row = (a, S', row')) (ok : S.Ok) (wi : S.Wi) (rm : Rm (DenseAt C p S row) L L1) (h1 : dt v1 d ∈ L1) (h2 : Dsc K L v2 .none) (q : ∀ r, Q r (dt r a :: DenseAt C p S' row' :: L1)) : sDTry K C [.ref p, .str "drop", v1, v2] L Q E :=
  sDTry.i (.dg (.drop d)) ht ok wi rm (fun H o => (((imp_rm rm).own o).dt (.tail _ h1)).dp) h2 (fun d sc ed _ => by cases ed; exact h1) q
theorem sDTry.drop_no (hh : isHandle S.n S.r d = false) (ok : S.Ok) (wi : S.Wi) (rm : Rm (DenseAt C p S row) L L1) (h1 : Dsc K L v1 d) (h2 : Dsc K L v2 .none) (q : ∀ r, Q r (dt r (refD .NoHandle) :: DenseAt C p S row :: L1)) : sDTry K C [.ref p, .str "drop", v1, v2] L Q E :=
  sDTry.i (.dg (.drop d)) (Dq.tell_drop_no hh) ok wi rm h1 h2 (fun d sc ed z => by cases ed; rw [at_no hh] at z; cases z) q
theorem sDTry.place (ht : (Dq.place d).tell S row = (a, S', row')) (ok : S.Ok) (wi : S.Wi) (rm : Rm (DenseAt C p S row) L L1) (h1 : Dsc K L v1 d) (h2 : Dsc K L v2 .none) (q : ∀ r, Q r (dt r a :: DenseAt C p S' row' :: L1)) : sDTry K C [.ref p, .str "place", v1, v2] L Q E :=
  sDTry.i (.place d) ht ok wi rm h1 h2 (fun d sc ed _ => by cases ed) q
theorem sDTry.at (ht : (Dq.at d).tell S row = (a, S', row')) (ok : S.Ok) (wi : S.Wi) (rm : Rm (DenseAt C p S row) L L1) (h1 : Dsc K L v1 d) (h2 : Dsc K L v2 .none) (q : ∀ r, Q r (dt r a :: DenseAt C p S' row' :: L1)) : sDTry K C [.ref p, .str "at", v1, v2] L Q E :=
  sDTry.i (.at d) ht ok wi rm h1 h2 (fun d sc ed _ => by cases ed) q
theorem sDTry.swap (ht : (Dq.swap d e).tell S row = (a, S', row')) (ok : S.Ok) (wi : S.Wi) (rm : Rm (DenseAt C p S row) L L1) (h1 : Dsc K L v1 d) (h2 : Dsc K L v2 e) (q : ∀ r, Q r (dt r a :: DenseAt C p S' row' :: L1)) : sDTry K C [.ref p, .str "swap", v1, v2] L Q E :=
  sDTry.i (.swap d e) ht ok wi rm h1 h2 (fun d sc ed _ => by cases ed) q
end
end Sh
namespace Sh
open PySem PySem.Spec L2 PyProof.Rows
/-! ### a dense store asked by handles that hold -/
theorem holds_R {S : SS} {h : Int × Int} (ok : S.Ok) (hh : S.holds h.1 h.2 = true) : InR S.n S.r h := by
  obtain ⟨hw, hc⟩ := SS.holds_in hh
  have r0 := ok.rngW hw
  have rc := ok.cntR r0.1 r0.2
  have := ok.len
  rw [hc] at rc
  exact ⟨r0.1, by omega, rc.1, rc.2⟩
theorem at_holds {S : SS} {h : Int × Int} (ok : S.Ok) (hh : S.holds h.1 h.2 = true) : S.at (hD h) = .ok h := by
  rw [SS.at_hD (holds_R ok hh), if_pos hh]
section
variable {K : PySem.W.Frag} {C : Cl} {L L1 : As} {Q : LK} {E : Er → As → Prop} {p : Addr} {S S' : SS} {row : List (Int × Int)} {v : V} {h : Int × Int} {i : Int} {j k : Nat}
theorem sDPut.ok (ok : S.Ok) (r : Rm (DenseAt C p S row) L L1) (i0 : 0 ≤ i) (i1 : i ≤ 9999) (es : S.putIn (.int i) = .ok (h, S')) (q : S'.Ok → ∀ t, Q (.ref t) (dt (.ref t) (hD h) :: DenseAt C p S' (row ++ [h]) :: L1)) : sDPut K C [.ref p, .int i] L Q E :=
  ⟨p, S, row, .int i, .int i, L1, rfl, ok, r, Dsi.dsc Dsi.int, fun z => (by rw [isW i0 i1] at z; cases z), fun _ h1 S1 e1 ok1 t => by rw [es] at e1; cases e1; exact q ok1 t, fun _ e e1 => by rw [es] at e1; cases e1⟩
theorem sDPlace.ok (ok : S.Ok) (m : DenseAt C p S row ∈ L) (pm : row.Perm S.lvU) (hd : Dsc K L v (hD h)) (hj : row[j]? = some h) (q : Q (.int (j : Int)) L) : sDPlace K C [.ref p, v] L Q E := by
  have hh := (mem_row pm).mp (List.mem_of_getElem? hj)
  refine ⟨p, S, row, v, hD h, rfl, ok, m, hd, fun sc j' e1 hj' => ?_, fun e e1 => by rw [at_holds ok hh] at e1; cases e1⟩
  rw [at_holds ok hh] at e1
  cases e1
  have nd := rows_nd ok pm
  have : j' = j := (idx_of nd hj').symm.trans (idx_of nd hj)
  rw [this]
  exact q
theorem sDGet.ok (ok : S.Ok) (wi : S.Wi) (m : DenseAt C p S row ∈ L) (hh : S.holds h.1 h.2 = true) (hd : Dsc K L v (hD h)) (q : Q (.int (wI S h.1)) L) : sDGet K C [.ref p, v] L Q E :=
  ⟨p, S, row, v, hD h, rfl, ok, wi, m, hd, fun sc e1 => by rw [at_holds ok hh] at e1; cases e1; exact q, fun e e1 => by rw [at_holds ok hh] at e1; cases e1⟩
theorem sDAt.ok (m : DenseAt C p S row ∈ L) (hj : row[j]? = some h) (q : ∀ r, Q r (dt r (hD h) :: L)) : sDAt K C [.ref p, .int (j : Int)] L Q E := by
  have jl := (List.getElem?_eq_some_iff.mp hj).1
  refine ⟨p, S, row, _, .int (j : Int), rfl, m, Dsi.dsc Dsi.int, fun z => (by rw [wh_nat jl] at z; cases z), fun j' h' e1 hj' r => ?_⟩
  have : j = j' := by injection e1 with e1; omega
  subst this
  rw [hj] at hj'
  cases hj'
  exact q r
theorem sDDrop.ok (ok : S.Ok) (wi : S.Wi) (r : Rm (DenseAt C p S row) L L1) (pm : row.Perm S.lvU) (m : dt v (hD h) ∈ L1) (hj : row[j]? = some h) (q : (S.dropAt h.1).Ok → Q (.int (wI S h.1)) (DenseAt C p (S.dropAt h.1) (dropRow row j) :: L1)) : sDDrop K C [.ref p, v] L Q E := by
  have hh := (mem_row pm).mp (List.mem_of_getElem? hj)
  refine ⟨p, S, row, v, hD h, L1, rfl, ok, wi, r, (fun H o => (((imp_rm r).own o).dt (.tail _ m)).dp), fun _ _ => m, fun e e1 => (by rw [at_holds ok hh] at e1; cases e1), fun sc j' e1 hj' ok' => ?_⟩
  rw [at_holds ok hh] at e1
  cases e1
  have nd := rows_nd ok pm
  have : j' = j := (idx_of nd hj').symm.trans (idx_of nd hj)
  rw [this]
  exact q ok'
theorem sDSwap.ok (ok : S.Ok) (r : Rm (DenseAt C p S row) L L1) (hi : k < row.length) (hj : j < row.length) (q : Q .non (DenseAt C p S (swapRow row k j) :: L1)) : sDSwap K C [.ref p, .int (k : Int), .int (j : Int)] L Q E := by
  refine ⟨p, S, row, _, _, .int (k : Int), .int (j : Int), L1, rfl, ok, r, Dsi.dsc Dsi.int, Dsi.dsc Dsi.int, fun z => (by rw [wh_nat hi] at z; cases z), fun _ z => (by rw [wh_nat hj] at z; cases z), fun k' j' a b e1 e2 h1 h2 => ?_⟩
  have : k = k' := by injection e1 with e1; omega
  subst this
  have : j = j' := by injection e2 with e2; omega
  subst this
  have e : (row.set k b).set j a = swapRow row k j := by
    unfold swapRow
    rw [List.getD_eq_getElem?_getD, List.getD_eq_getElem?_getD, h1, h2]; rfl
  rw [e]
  exact q
end
theorem sDInit.i {C : Cl} {L : As} {Q : LK} {E : Er → As → Prop} {x dx a : Addr} {n r : Int} {la rn : Bool} (m : tp a (setV n r la rn) ∈ L) (h1 : 1 ≤ n) (h2 : n ≤ 60) (h3 : 1 ≤ r) (h4 : r ≤ 1000) (q : SS.Ok (SS.new n r la rn) → Q .non (DenseAt C x (SS.new n r la rn) [] :: L)) : sDInit C [.ref x, .ref a] (pt x (.ins C.Dense dx []) :: L) Q E :=
  ⟨x, dx, a, n, r, la, rn, L, rfl, rfl, m, h1, h2, h3, h4, q⟩
theorem sDSwap.okZ {K : PySem.W.Frag} {C : Cl} {L L1 : As} {Q : LK} {E : Er → As → Prop} {p : Addr} {S : SS} {row : List (Int × Int)} {x y : Int} (ok : S.Ok) (r : Rm (DenseAt C p S row) L L1) (x0 : 0 ≤ x) (x1 : x < row.length) (y0 : 0 ≤ y) (y1 : y < row.length) (q : Q .non (DenseAt C p S (swapRow row x.toNat y.toNat) :: L1)) :
    sDSwap K C [.ref p, .int x, .int y] L Q E := by
  obtain ⟨i, rfl⟩ : ∃ k : Nat, x = k := ⟨x.toNat, by omega⟩
  obtain ⟨j, rfl⟩ : ∃ k : Nat, y = k := ⟨y.toNat, by omega⟩
  exact sDSwap.ok ok r (by omega) (by omega) q
theorem sDAt.okZ {K : PySem.W.Frag} {C : Cl} {L : As} {Q : LK} {E : Er → As → Prop} {p : Addr} {S : SS} {row : List (Int × Int)} {h : Int × Int} {x : Int} (m : DenseAt C p S row ∈ L) (x0 : 0 ≤ x) (hj : row[x.toNat]? = some h) (q : ∀ r, Q r (dt r (hD h) :: L)) : sDAt K C [.ref p, .int x] L Q E := by
  obtain ⟨i, rfl⟩ : ∃ k : Nat, x = k := ⟨x.toNat, by omega⟩
  exact sDAt.ok m hj q
/-! ### what stands side by side, when one goes -/
section
variable {S P : SS} {row r0 : List (Int × Int)} {h l : Int × Int} {j : Nat} {ns : List Int}
theorem dropped_ne (ok : S.Ok) (pm : row.Perm (S.dropAt h.1).lvU) {k : Int × Int} (hk : k ∈ row) : k.1 ≠ h.1 := fun z => by
  have := (SS.holds_in ((mem_row pm).mp hk)).1
  rw [drop_ws, keys_drop, List.mem_filter, z] at this
  simp at this
theorem pairs_drop (ok : S.Ok) (pm : row.Perm (S.dropAt h.1).lvU) : pairsD (S.dropAt h.1) row = pairsD S row :=
  List.map_congr_left fun k hk => by rw [wI_drop (dropped_ne ok pm hk)]
theorem pairs_set {a : Int × Int} {k : Nat} : pairsD S (row.set k a) = (pairsD S row).set k (.tuple [hD a, .int (wI S a.1)]) := by
  unfold pairsD
  rw [List.map_set]
theorem pairs_get (hj : row[j]? = some h) : (pairsD S row)[j]? = some (.tuple [hD h, .int (wI S h.1)]) := by
  unfold pairsD
  rw [List.getElem?_map, hj]; rfl
theorem pairs_len : (pairsD S row).length = row.length := List.length_map _
theorem pairs_swap {i : Nat} {a b : Int × Int} (hi : row[i]? = some a) (hj : row[j]? = some b) : pairsD S (swapRow row i j) = ((pairsD S row).set i (.tuple [hD b, .int (wI S b.1)])).set j (.tuple [hD a, .int (wI S a.1)]) := by
  unfold swapRow
  rw [pairs_set, pairs_set, List.getD_eq_getElem?_getD, List.getD_eq_getElem?_getD, hi, hj]; rfl
theorem swap_perm {i : Nat} (hi : i < row.length) (hj : j < row.length) : (swapRow row i j).Perm row := by
  unfold swapRow
  rw [List.getD_eq_getElem?_getD, List.getD_eq_getElem?_getD, List.getElem?_eq_getElem hi, List.getElem?_eq_getElem hj]
  exact List.set_set_perm hi hj
theorem swap_len {i : Nat} : (swapRow row i j).length = row.length := by
  unfold swapRow
  rw [List.length_set, List.length_set]
theorem swap_swap {i : Nat} (hi : i < row.length) (hj : j < row.length) : swapRow (swapRow row i j) j i = row := by
  apply List.ext_getElem?
  intro k
  unfold swapRow
  simp only [List.getD_eq_getElem?_getD, List.getElem?_set, List.length_set, hi, hj, if_true]
  by_cases h1 : i = k
  · subst h1
    by_cases h2 : j = i
    · subst h2; simp [hj]
    · simp [hi, h2]
  · by_cases h2 : j = k
    · subst h2
      have h3 : ¬ j = i := fun z => h1 z.symm
      simp [hj, h1, h3]
    · simp [h1, h2]
/-- by worths alone -/
theorem here_take (hj : row[j]? = some h) : ids ((hereOf S row).take (j + 1)) = ids ((hereOf S row).take j) ++ [.int (wI S h.1)] := by
  have jl := (List.getElem?_eq_some_iff.mp hj).1
  have e : (hereOf S row)[j]? = some (wI S h.1) := by
    unfold hereOf
    rw [List.getElem?_map, hj]; rfl
  unfold ids
  rw [List.take_add_one, e, List.map_append]; rfl
theorem ixOf_fst : (ixOf ns).map (·.1) = ns := by
  apply List.ext_getElem?
  intro j
  rw [List.getElem?_map]
  rcases Nat.lt_or_ge j ns.length with h | h
  · rw [ixOf_get h, Option.map_some, List.getD_eq_getElem?_getD, List.getElem?_eq_getElem h]; rfl
  · rw [List.getElem?_eq_none (by rw [ixOf_len]; exact h), List.getElem?_eq_none h]; rfl
theorem ord_fst : (ordIx ns).map (·.1) = srt ns := by
  refine srt_eq ?_ ?_
  · have h := (ordIx_perm (ns := ns)).map (·.1)
    rw [ixOf_fst] at h
    exact h
  · refine List.pairwise_map.mpr ((srtH_sorted (ixOf ns)).imp fun {a b} h => ?_)
    unfold leH at h
    omega
theorem ordRow_srt : hereOf S (ordRow S row) = srt (hereOf S row) := ordRow_here.trans ord_fst
theorem srt_of_perm {xs ys : List Int} (h : xs.Perm ys) : srt xs = srt ys := srt_eq ((srt_perm xs).trans h) (srt_sorted xs)
theorem here_perm {row' : List (Int × Int)} (h : row.Perm row') : (hereOf S row).Perm (hereOf S row') := h.map _
end
end Sh
namespace Sh
open PySem PySem.Spec L2 PyProof.Rows
/-! ### sorted of pairs of a handle and a number -/
abbrev P3 := (Int × Int) × Int
def lt3 (p q : P3) : Bool := if p.1 = q.1 then decide (p.2 < q.2) else SrtO.lexB p.1 q.1
theorem lt3_iff {p q : P3} : lt3 p q = true ↔ p.1.1 < q.1.1 ∨ (p.1.1 = q.1.1 ∧ (p.1.2 < q.1.2 ∨ (p.1.2 = q.1.2 ∧ p.2 < q.2))) := by
  obtain ⟨⟨a, b⟩, c⟩ := p
  obtain ⟨⟨x, y⟩, z⟩ := q
  unfold lt3
  by_cases e : ((a, b) : Int × Int) = (x, y)
  · rw [if_pos e, decide_eq_true_eq]
    injection e with e1 e2
    subst e1 e2
    simp
  · rw [if_neg e, SrtO.lexB_iff]
    have : ¬ (a = x ∧ b = y) := fun ⟨h1, h2⟩ => e (by rw [h1, h2])
    dsimp only
    omega
theorem lt3_no {p q : P3} : lt3 p q = false ↔ ¬ (p.1.1 < q.1.1 ∨ (p.1.1 = q.1.1 ∧ (p.1.2 < q.1.2 ∨ (p.1.2 = q.1.2 ∧ p.2 < q.2)))) := by
  rw [← lt3_iff]
  cases lt3 p q <;> simp
theorem swo3 {α : Type} (k : α → P3) : SrtO.Swo fun v u => lt3 (k v) (k u) := by
  refine ⟨fun x y h => ?_, fun x y z h1 h2 => ?_⟩
  · have a := lt3_iff.mp h
    refine lt3_no.mpr ?_
    omega
  · have a := lt3_no.mp h1
    have b := lt3_no.mp h2
    refine lt3_no.mpr ?_
    omega
section
variable {prog : Program} {w : World} {A : Around} {E : Value → Shared → Prop} {s : Shared}
/-- a tuple of a pair of ints and an int -/
def IsP3 (h : Heap) (v : Value) (k : P3) : Prop := ∃ a o b u n, v = .ref a ∧ h.get? a = some o ∧ o.cls = .type "tuple" ∧ o.data = .seq #[.ref b, .int k.2 u] n ∧ Srt.IsPair h (.ref b) k.1.1 k.1.2
theorem IsP3.keeps {h h' : Heap} {v : Value} {k : P3} (p : IsP3 h v k) (q : ∀ b o, h.get? b = some o → o.cls = .type "tuple" → h'.get? b = some o) : IsP3 h' v k := by
  obtain ⟨a, o, b, u, n, e, ho, hc, hd, hp⟩ := p
  exact ⟨a, o, b, u, n, e, q _ _ ho hc, hc, hd, hp.keeps q⟩
theorem pair_isT {h : Heap} {b : Addr} {x y : Int} (p : Srt.IsPair h (.ref b) x y) : ∃ t u, h.IsTuple b #[.int x t, .int y u] := by
  obtain ⟨a, o, t, u, n, e, ho, hc, hd⟩ := p
  cases e
  exact ⟨t, u, o, ho, hc, n, hd⟩
/-- two pairs of ints: whether they are equal -/
theorem eq_pair {b c : Addr} {x y x' y' : Int} (p : Srt.IsPair s.heap (.ref b) x y) (q : Srt.IsPair s.heap (.ref c) x' y') (hu : A.units < cLine) : SeqAt.EqAt A s (.ref b) (.ref c) (decide ((x, y) = (x', y'))) := by
  obtain ⟨t, u, h1⟩ := pair_isT p
  obtain ⟨t', u', h2⟩ := pair_isT q
  by_cases e : b = c
  · subst e
    obtain ⟨o, ho, hc, n, hd⟩ := h1
    obtain ⟨o', ho', hc', n', hd'⟩ := h2
    rw [ho] at ho'
    cases ho'
    rw [hd] at hd'
    injection hd' with e1 e2
    injection e1 with e1
    injection e1 with e3 e4
    injection e4 with e4 _
    injection e3 with e3 _
    injection e4 with e4 _
    subst e3 e4
    rw [decide_eq_true rfl]
    exact SeqAt.EqAt.same _
  · have h := SeqAt.RcAt.tuples (A := A) (e := fun j => if j = 0 then x == x' else y == y') h1 h2 hu (fun j j1 j2 => by
      have hj : j = 0 ∨ j = 1 := by simp at j1; omega
      rcases hj with rfl | rfl
      · exact SeqAt.EqAt.int_int _ _ _ _
      · exact SeqAt.EqAt.int_int _ _ _ _)
    have ee : ((List.range (min (#[Value.int x t, Value.int y u] : Array Value).size (#[Value.int x' t', Value.int y' u'] : Array Value).size)).all (fun j => if j = 0 then x == x' else y == y') && (#[Value.int x t, Value.int y u] : Array Value).size == (#[Value.int x' t', Value.int y' u'] : Array Value).size) = decide ((x, y) = (x', y')) := by
      show ((List.range 2).all (fun j => if j = 0 then x == x' else y == y') && true) = _
      rw [show List.range 2 = [0, 1] from rfl]
      simp [Prod.mk.injEq]
      rfl
    rw [ee] at h
    exact SeqAt.EqAt.of_refs e h
/-- which one is ahead -/
theorem lt_pair {b c : Addr} {x y x' y' : Int} {Q : Bool → Shared → Prop} (p : Srt.IsPair s.heap (.ref b) x y) (q : Srt.IsPair s.heap (.ref c) x' y') (hu : A.units < cLine) (h : Q (SrtO.lexB (x, y) (x', y')) s) :
    wpAny (model prog w) A (compareOp .Lt (.ref b) (.ref c)) (PySem.W.BoolBack Q) E s := by
  obtain ⟨t, u, h1⟩ := pair_isT p
  obtain ⟨t', u', h2⟩ := pair_isT q
  have hh := Ob.RcOp.tuples_lt (A := A) (e := fun j => if j = 0 then x == x' else y == y') (r := fun j => if j = 0 then decide (x < x') else decide (y < y')) h1 h2 hu (fun j j1 j2 => by
      have hj : j = 0 ∨ j = 1 := by simp at j1; omega
      rcases hj with rfl | rfl
      · exact SeqAt.EqAt.int_int _ _ _ _
      · exact SeqAt.EqAt.int_int _ _ _ _) (fun j j1 j2 _ => by
      have hj : j = 0 ∨ j = 1 := by simp at j1; omega
      rcases hj with rfl | rfl
      · exact Ob.RcOp.lt_int _ _ _ _
      · exact Ob.RcOp.lt_int _ _ _ _)
  have ee : Ob.lexAt (fun j => if j = 0 then x == x' else y == y') (fun j => if j = 0 then decide (x < x') else decide (y < y')) (decide ((#[Value.int x t, Value.int y u] : Array Value).size < (#[Value.int x' t', Value.int y' u'] : Array Value).size)) 0 (min (#[Value.int x t, Value.int y u] : Array Value).size (#[Value.int x' t', Value.int y' u'] : Array Value).size) = SrtO.lexB (x, y) (x', y') := by
    show (if (x == x') = true then (if (y == y') = true then decide (2 < 2) else decide (y < y')) else decide (x < x')) = _
    unfold SrtO.lexB
    dsimp only
    by_cases e1 : x = x'
    · subst e1
      rw [if_pos (beq_self_eq_true x), if_pos rfl]
      by_cases e2 : y = y'
      · subst e2
        rw [if_pos (beq_self_eq_true y)]
        simp
      · rw [if_neg (by simpa using e2)]
    · rw [if_neg (by simpa using e1), if_neg e1]
  rw [ee] at hh
  exact hh prog w E _ h
theorem p3_cmp {vs : List Value} {k : Value → P3} (hu : A.units < cLine) (hp : ∀ v ∈ vs, IsP3 s.heap v (k v)) : SrtO.Cmp prog w A s (tuples' false) (fun p => p.1 ∈ vs) (SrtO.lt2 fun v u => lt3 (k v) (k u)) := by
  intro p q hm hm'
  have h1 := hp _ hm
  have h2 := hp _ hm'
  show wpAny (model prog w) A (keyLt' (tuples' false) p.1 q.1) (fun r s' => s' = s ∧ r = lt3 (k p.1) (k q.1)) (fun _ _ => False) s
  generalize k p.1 = kp at h1 ⊢
  generalize k q.1 = kq at h2 ⊢
  obtain ⟨⟨x, y⟩, z⟩ := kp
  obtain ⟨⟨x', y'⟩, z'⟩ := kq
  obtain ⟨a, o, b, u, n, e, ho, hc, hd, hb⟩ := h1
  obtain ⟨a', o', b', u', n', e', ho', hc', hd', hb'⟩ := h2
  dsimp only at hb hb' hd hd'
  rw [e, e']
  refine PySem.W.kat_lt ho hd ho' hd' ?_
  show PySem.W.KatLex prog w A false (decide (2 < 2)) _ [(.ref b, .ref b'), (.int z u, .int z' u')] 0 s
  refine PySem.W.kat_cons (eq_pair hb hb' hu prog w _ _ ?_)
  unfold lt3
  dsimp only
  refine PySem.W.kat_go (fun e1 => ?_) (fun e1 => ?_)
  · have ex : ((x, y) : Int × Int) = (x', y') := of_decide_eq_true e1
    refine PySem.W.kat_yes (PySem.W.kat_cons (SeqAt.EqAt.int_int z u z' u' prog w _ _ ?_))
    refine PySem.W.kat_go (fun e2 => ?_) (fun e2 => ?_)
    · have ey : z = z' := by simpa using e2
      refine PySem.W.kat_yes (PySem.W.kat_nil ⟨rfl, ?_⟩)
      rw [if_pos ex, ey]
      simp
    · refine PySem.W.kat_no (PySem.W.kat_one _ _ (PyProof.Rows.lt_int ?_))
      exact (show s = s ∧ decide (z < z') = (if (x, y) = (x', y') then decide (z < z') else SrtO.lexB (x, y) (x', y')) from ⟨rfl, by rw [if_pos ex]⟩)
  · have ex : ¬ ((x, y) : Int × Int) = (x', y') := of_decide_eq_false e1
    refine PySem.W.kat_no ?_
    show wpAny _ _ (oneLt' false _ _) _ _ _
    exact PySem.W.kat_one _ _ (lt_pair hb hb' hu ⟨rfl, by rw [if_neg ex]⟩)
theorem firsts3 {h : Heap} : ∀ {vs : List Value}, (∀ v ∈ vs, ∃ k, IsP3 h v k) → ∃ fs : List Value, PySem.W.KatTups h vs fs ∧ fs.length = vs.length ∧ ∀ f ∈ fs, ∃ (q : Addr) (o : Obj), f = Value.ref q ∧ h.get? q = some o ∧ o.cls = .type "tuple"
  | [], _ => ⟨[], PySem.W.KatTups.nil, rfl, fun _ hm => by simp at hm⟩
  | v :: vs, hp => by
    obtain ⟨fs, h1, h2, h3⟩ := firsts3 (vs := vs) fun v' hm => hp v' (List.mem_cons_of_mem _ hm)
    obtain ⟨k, a, o, b, u, n, e, ho, hc, hd, c, o2, t2, u2, n2, e2, ho2, hc2, hd2⟩ := hp v (List.mem_cons_self ..)
    subst e
    cases e2
    refine ⟨.ref b :: fs, PySem.W.KatTups.cons ho hc hd rfl h1, by rw [List.length_cons, List.length_cons, h2], fun f hm => ?_⟩
    rcases List.mem_cons.mp hm with rfl | hm
    · exact ⟨b, o2, rfl, ho2, hc2⟩
    · exact h3 f hm
theorem p3_sortable {a : Addr} {vs : List Value} {k : Value → P3} (hu : A.units < cLine) (h0 : 0 < vs.length) (hp : ∀ v ∈ vs, IsP3 s.heap v (k v)) (ha : ∀ o, s.heap.get? a = some o → o.cls ≠ .type "tuple") : SrtO.SortableO prog w A s a vs fun v u => lt3 (k v) (k u) := by
  intro h' keep
  have hp' : ∀ v ∈ vs, IsP3 h' v (k v) := fun v hm => (hp v hm).keeps fun b o e c => keep b o (fun z => by subst z; exact ha o e c) e
  obtain ⟨fs, h1, h2, h3⟩ := firsts3 fun v hm => ⟨_, hp' v hm⟩
  refine ⟨tuples' false, fun Q E hq => ?_, p3_cmp hu hp'⟩
  refine PySem.W.kat_kind (T := .type "tuple") h1 (by omega) (fun f hm => ?_) (by rfl) ?_
  · obtain ⟨q, o, rfl, ho, hc⟩ := h3 f hm
    have z : PySem.W.Looks (model prog w) h' (typeOf (.ref q)) o.cls := (PySem.W.Looks.ld ho).andThen .now
    rw [hc] at z
    exact z
  · have e : (Value.type "tuple" != Value.type "tuple") = false := by first | decide +kernel | rfl | decide | simp
    rw [e]
    exact hq
theorem sorted_p3 {l : Addr} {vs : List Value} {k : Value → P3} {Q : Value → Shared → Prop} (hu : A.units + 2 < cLine) (hl : s.heap.IsList l vs.toArray) (hz : vs.length ≤ sizeLine) (hp : ∀ v ∈ vs, IsP3 s.heap v (k v))
    (h : ∀ (h' : Heap) (d : Addr) (out : List Value), SrtO.Srtd (fun v u => lt3 (k v) (k u)) out → SrtO.Stb (fun v u => lt3 (k v) (k u)) out vs → (∀ b o, s.heap.get? b = some o → h'.get? b = some o) → s.heap.objs.size ≤ d → (∃ n, h'.get? d = some (seqObj "list" out.toArray n)) → Q (.ref d) { s with heap := h' }) :
    wpAny (model prog w) A (call (.builtin "sorted") [.ref l]) Q E s := by
  refine SrtO.sorted_ord (swo3 k) hl hz (fun h2 h₁ a ha kk => ?_) fun out hs hb => ?_
  · refine p3_sortable (s := { s with heap := h₁ }) (by show A.units + 1 + 1 < cLine; omega) (by omega) (fun v hm => (hp v hm).keeps fun b o e _ => (kk b o e).2) fun o e => ?_
    have e' : some o = some (seqObj "list" vs.toArray 0) := e.symm.trans ha
    cases e'
    intro c
    exact absurd (Value.type.inj c) (by decide)
  · exact h _ _ out hs hb (fun b o e => PyProof.Rows.sortedAll_old e) (Nat.le_succ _) (PyProof.Rows.sortedAll_at s.heap vs out.toArray)
end

/-! as a rule of the layer -/
abbrev ltV3 (k : V → P3) (x y : V) : Bool := lt3 (k x) (k y)
def rSorted3 (K : PySem.W.Frag) : List V → Hp → VK → Prop := fun vs H Q => ∃ (a : Addr) (xs : List V) (k : V → P3), vs = [V.ref a] ∧ SqL K H a xs ∧ (∀ x ∈ xs, ∃ t b, x = V.ref t ∧ H t = some (.tup [.ref b, .int (k x).2]) ∧ H b = some (.tup [.int (k x).1.1, .int (k x).1.2])) ∧
  ∀ ys p, SrtO.Srtd (ltV3 k) ys → SrtO.Stb (ltV3 k) ys xs → H p = none → Q (.ref p) (upd H p (.lst ys))
theorem cr_sorted3 {X : Cx} (hu : X.A.units + 2 < cLine) : CallR X (.builtin "sorted") (rSorted3 X.K) := by
  intro pins s σ H vs us Q I r h
  obtain ⟨a, xs, k, rfl, hs, hx, q⟩ := h
  obtain ⟨its, rv, hl, hz⟩ := I.list hs
  obtain ⟨u, rfl, ru⟩ := vals1 r
  obtain rfl : u = Value.ref a := ru
  obtain ⟨e1, e2⟩ := refs_back rv fun x m => by
    obtain ⟨t, b, e, _⟩ := hx x m
    exact ⟨t, e⟩
  refine sorted_p3 (k := fun u => k (backV u)) hu hl.isList (by rw [← rv.length]; exact hz) (fun v hv => ?_) fun h' d out h1 h2 kp hd hn => ?_
  · obtain ⟨t, rfl⟩ := e2 v hv
    have hm : V.ref t ∈ xs := by rw [e1]; exact List.mem_map.mpr ⟨_, hv, rfl⟩
    obtain ⟨t', b, e, ht, hb⟩ := hx _ hm
    cases e
    obtain ⟨_, its2, r2, o, ho, hc, n, hd⟩ := I.hok _ _ ht
    obtain ⟨u1, u2, rfl, ri, rj⟩ := vals2 r2
    obtain rfl : u1 = Value.ref b := ri
    obtain ⟨t2, rfl⟩ := rj
    obtain ⟨_, its3, r3, o3, ho3, hc3, n3, hd3⟩ := I.hok _ _ hb
    obtain ⟨w1, w2, rfl, si, sj⟩ := vals2 r3
    obtain ⟨t3, rfl⟩ := si
    obtain ⟨t4, rfl⟩ := sj
    exact ⟨t, o, b, t2, n, rfl, ho, hc, hd, b, o3, t3, t4, n3, rfl, ho3, hc3, hd3⟩
  · have h3 : ∀ u ∈ out, ∃ a, u = Value.ref a := fun u hu => e2 u (h2.perm.mem_iff.mp hu)
    obtain ⟨n, hn⟩ := hn
    have hb : SrtO.Stb (ltV3 k) (out.map backV) xs := by
      rw [e1]
      exact SrtO.Stb.map (swo3 k) backV h2
    refine ⟨.ref d, upd H d (.lst (out.map backV)), I.laid (t' := s.toks) kp hd ⟨?_, out, n, vals_back h3, hn⟩, rfl, q _ d (SrtO.srtd_map h1) hb (I.hok.fresh hd)⟩
    rw [hb.len]
    exact hz
/-! over assertions -/
def pD (u : P3) : PyData := .tuple [hD u.1, .int u.2]
def le3 (a b : P3) : Prop := lt3 b a = false
instance (a b : P3) : Decidable (le3 a b) := by unfold le3; exact inferInstance
def srt3 (xs : List P3) : List P3 := xs.mergeSort fun a b => decide (le3 a b)
theorem srt3_perm (xs : List P3) : (srt3 xs).Perm xs := List.mergeSort_perm xs _
theorem le3_trans {a b c : P3} (h1 : le3 a b) (h2 : le3 b c) : le3 a c := (swo3 (fun x : P3 => x)).tr a b c h1 h2
theorem le3_total (a b : P3) : le3 a b ∨ le3 b a := by
  unfold le3
  cases h : lt3 b a with
  | false => exact .inl rfl
  | true => exact .inr ((swo3 (fun x : P3 => x)).asym b a h)
theorem srt3_sorted (xs : List P3) : (srt3 xs).Pairwise le3 := by
  have h := List.pairwise_mergeSort (le := fun (a b : P3) => decide (le3 a b)) (fun a b c h1 h2 => decide_eq_true (le3_trans (of_decide_eq_true h1) (of_decide_eq_true h2))) (fun a b => by rw [Bool.or_eq_true, decide_eq_true_eq, decide_eq_true_eq]; exact le3_total a b) xs
  exact h.imp fun h => by simpa using h
theorem srt3_eq {ys xs : List P3} (p : ys.Perm xs) (s : ys.Pairwise le3) : ys = srt3 xs :=
  List.Perm.eq_of_pairwise (fun a b _ _ h1 h2 => by
    obtain ⟨⟨a1, a2⟩, a3⟩ := a
    obtain ⟨⟨b1, b2⟩, b3⟩ := b
    have k1 := lt3_no.mp h1
    have k2 := lt3_no.mp h2
    dsimp only at k1 k2
    have e1 : a1 = b1 := by omega
    have e2 : a2 = b2 := by omega
    have e3 : a3 = b3 := by omega
    rw [e1, e2, e3]) s (srt3_sorted xs) (p.trans (srt3_perm xs).symm)
theorem srt3_of_perm {xs ys : List P3} (h : xs.Perm ys) : srt3 xs = srt3 ys := srt3_eq ((srt3_perm xs).trans h) (srt3_sorted xs)
theorem dt3 {T : Hp} {v : V} {p : P3} (h : Dt T v (pD p)) : ∃ t b, v = .ref t ∧ T t = some (.tup [.ref b, .int p.2]) ∧ T b = some (.tup [.int p.1.1, .int p.1.2]) := by
  cases h with
  | tup h1 h2 =>
    obtain ⟨x1, x2, rfl, k1, k2⟩ := dtAll_two h2
    obtain ⟨b, rfl, hb⟩ := dtH k1
    cases k2
    exact ⟨_, b, rfl, h1, hb⟩
def key3 (H : Hp) (v : V) : P3 := match v with
  | .ref t => (match H t with
    | some (.tup [.ref b, .int j]) => (keyH H (.ref b), j)
    | _ => ((0, 0), 0))
  | _ => ((0, 0), 0)
theorem key3_of {H : Hp} {v : V} {p : P3} (h : Dt H v (pD p)) : key3 H v = p := by
  obtain ⟨t, b, rfl, e, eb⟩ := dt3 h
  show (match H t with | some (.tup [.ref b, .int j]) => (keyH H (.ref b), j) | _ => ((0, 0), 0)) = p
  rw [e]
  show (keyH H (.ref b), p.2) = p
  have : keyH H (.ref b) = p.1 := by
    show (match H b with | some (.tup [.int i, .int j]) => (i, j) | _ => (0, 0)) = p.1
    rw [eb]
  rw [this]
theorem keys3_of {H : Hp} : ∀ {vs : List V} {hs : List P3}, DtAll H vs (hs.map pD) → vs.map (key3 H) = hs
  | [], [], _ => rfl
  | [], _ :: _, h => by cases h
  | _ :: _, [], h => by cases h
  | v :: vs, p :: hs, h => by
    rw [List.map_cons] at h
    cases h with
    | cons a b => rw [List.map_cons, key3_of a, keys3_of b]
theorem mem_dt3 {H : Hp} : ∀ {vs : List V} {hs : List P3}, DtAll H vs (hs.map pD) → ∀ v ∈ vs, Dt H v (pD (key3 H v))
  | [], _, _, v, hv => by cases hv
  | _ :: _, [], h, _, _ => by cases h
  | v :: vs, p :: hs, h, w, hw => by
    rw [List.map_cons] at h
    cases h with
    | cons a b =>
      rcases List.mem_cons.mp hw with rfl | hw
      · rw [key3_of a]; exact a
      · exact mem_dt3 b w hw
theorem dtAll_keys3 {H : Hp} : ∀ {vs : List V}, (∀ v ∈ vs, Dt H v (pD (key3 H v))) → DtAll H vs ((vs.map (key3 H)).map pD)
  | [], _ => .nil
  | v :: vs, h => .cons (h v List.mem_cons_self) (dtAll_keys3 fun w hw => h w (List.mem_cons_of_mem _ hw))
theorem cl_sorted3 {X : Cx} {L : As} {Q : LK} {p : Addr} {us : List P3} (hu : X.A.units + 2 < cLine) (m : ld p (us.map pD) ∈ L) (q : ∀ l, Q (.ref l) (ld l ((srt3 us).map pD) :: L)) : CL X (.builtin "sorted") [.ref p] L Q := ⟨fun H o => by
  obtain ⟨L1, r⟩ := mem_rm m
  obtain ⟨vs, o1⟩ := ld.op (o.front r)
  have hd := o1.dts (vs := vs) (ds := us.map pD) (.tail _ (.head _))
  refine of_cr (cr_sorted3 hu) ⟨p, vs, key3 H, rfl, SqL.of (o1.pt (.head _)), fun x hx => dt3 (mem_dt3 hd x hx), fun ys l so st hn => ⟨_, new_ld o hn rfl ?_, q l⟩⟩
  have e : ys.map (key3 H) = srt3 us := by
    refine srt3_eq ?_ ?_
    · rw [← keys3_of hd]
      exact st.perm.map _
    · exact List.pairwise_map.mpr (so.imp fun {x y} h => h)
  rw [← e]
  exact dtAll_keys3 fun v hv => mem_dt3 hd v (st.perm.mem_iff.mp hv)⟩
theorem pairs_pD (S : SS) (row : List (Int × Int)) : pairsD S row = (row.map fun h => (h, wI S h.1)).map pD := by
  unfold pairsD
  rw [List.map_map]; rfl
theorem pl_pD (k : Nat) (us : List P3) : pls (k + 2) (us.map pD) = true := by
  unfold pls
  rw [List.all_map]
  refine List.all_eq_true.mpr fun x _ => ?_
  show (pl (k + 1) (hD x.1) && (pl (k + 1) (.int x.2) && true)) = true
  rw [pl_hD]
  rfl
end Sh
namespace Sh
open PySem PySem.Spec L2 PyProof.Rows
/-! ### plain laws of what is put in order -/
section
variable {S S' : SS} {row : List (Int × Int)} {h : Int × Int} {ns : List Int} {v : V} {k : Int}
theorem srt_srt (xs : List Int) : srt (srt xs) = srt xs := (srt_eq (List.Perm.refl _) (srt_sorted xs)).symm
theorem ixOf_srtd (hs : ns.Pairwise (· ≤ ·)) : (ixOf ns).Pairwise leH := by
  unfold ixOf
  refine List.pairwise_map.mpr ?_
  refine List.Pairwise.imp_of_mem (R := (· < ·)) ?_ List.pairwise_lt_range
  intro a b ha hb hlt
  have hb := List.mem_range.mp hb
  have ha := List.mem_range.mp ha
  have := List.pairwise_iff_getElem.mp hs a b ha hb hlt
  unfold leH
  dsimp only
  rw [List.getD_eq_getElem?_getD, List.getD_eq_getElem?_getD, List.getElem?_eq_getElem ha, List.getElem?_eq_getElem hb]
  show ns[a] < ns[b] ∨ (ns[a] = ns[b] ∧ (a : Int) ≤ b)
  omega
theorem ordIx_srtd (hs : ns.Pairwise (· ≤ ·)) : ordIx ns = ixOf ns := (srtH_eq (List.Perm.refl _) (ixOf_srtd hs)).symm
theorem ordRow_same (hs : (hereOf S row).Pairwise (· ≤ ·)) : ordRow S row = row := by
  unfold ordRow
  rw [ordIx_srtd hs, ixOf_row]
theorem ordRow_twice : ordRow S (ordRow S row) = ordRow S row := ordRow_same (by rw [ordRow_srt]; exact srt_sorted _)
theorem filter_srtH (p : Int × Int → Bool) (xs : List (Int × Int)) (hs : (xs.filter p).Pairwise leH) : (srtH xs).filter p = xs.filter p := by
  have h1 : (srtH xs).filter p = srtH (xs.filter p) := srtH_eq ((srtH_perm xs).filter p) ((srtH_sorted xs).filter p)
  rw [h1, ← srtH_eq (List.Perm.refl _) hs]
theorem ixOf_filter (k : Int) : ((ixOf ns).filter fun x => decide (x.1 = k)).Pairwise leH := by
  have h0 : (ixOf ns).Pairwise fun a b => a.2 < b.2 := by
    unfold ixOf
    refine List.pairwise_map.mpr ?_
    refine List.Pairwise.imp (R := (· < ·)) ?_ List.pairwise_lt_range
    intro a b hlt
    show (a : Int) < b
    omega
  refine List.Pairwise.imp_of_mem ?_ (h0.filter _)
  intro a b ha hb hlt
  have e1 := of_decide_eq_true (List.mem_filter.mp ha).2
  have e2 := of_decide_eq_true (List.mem_filter.mp hb).2
  unfold leH
  omega
theorem filter_map_eq {α β : Type} {p : α → Bool} {q : β → Bool} {f : α → β} : ∀ {l : List α}, (∀ x ∈ l, q (f x) = p x) → (l.map f).filter q = (l.filter p).map f
  | [], _ => rfl
  | x :: l, h => by
    have ih := filter_map_eq (p := p) (q := q) (f := f) (l := l) fun y hy => h y (List.mem_cons_of_mem _ hy)
    rw [List.map_cons, List.filter_cons, List.filter_cons, h x List.mem_cons_self, ih]
    split <;> rfl
theorem ordRow_stable (k : Int) : (ordRow S row).filter (fun h => decide (wI S h.1 = k)) = row.filter fun h => decide (wI S h.1 = k) := by
  have key : ∀ x ∈ ixOf (hereOf S row), decide (wI S (row.getD x.2.toNat (0, 0)).1 = k) = decide (x.1 = k) := fun x hx => by
    obtain ⟨j, hj, rfl⟩ := ixOf_mem hx
    rw [here_len] at hj
    dsimp only
    rw [Int.toNat_natCast]
    have e := List.getElem?_eq_getElem hj
    rw [here_get e, List.getD_eq_getElem?_getD, e]; rfl
  have h1 : (ordRow S row).filter (fun h => decide (wI S h.1 = k)) = ((ordIx (hereOf S row)).filter fun x => decide (x.1 = k)).map fun x => row.getD x.2.toNat (0, 0) := by
    unfold ordRow
    exact filter_map_eq fun x hx => key x (ordIx_perm.mem_iff.mp hx)
  have h2 : row.filter (fun h => decide (wI S h.1 = k)) = ((ixOf (hereOf S row)).filter fun x => decide (x.1 = k)).map fun x => row.getD x.2.toNat (0, 0) := by
    conv => lhs; rw [← ixOf_row (S := S) (row := row)]
    exact filter_map_eq key
  rw [h1, h2]
  unfold ordIx
  rw [filter_srtH _ _ (ixOf_filter k)]
/-- there is room -/
theorem put_room (ok : S.Ok) (hc : (S.cs.length : Int) < S.n) (v : V) : ∃ h S', S.putIn v = .ok (h, S') := by
  by_cases hl : S.ln = []
  · exact ⟨_, _, putIn_new hl hc⟩
  · exact ⟨_, _, putIn_ln hl⟩
theorem put_len (ok : S.Ok) (e : S.putIn v = .ok (h, S')) : S'.cs.length ≤ S.cs.length + 1 := by
  obtain ⟨_, _, _, _, _, a | a⟩ := put_cs ok e
  · rw [a.1]; omega
  · rw [a.1, List.length_append, List.length_singleton]; exact Nat.le_refl _
theorem pairs_put {i : Int} (ok : S.Ok) (pm : row.Perm S.lvU) (e : S.putIn (.int i) = .ok (h, S')) : pairsD S' row = pairsD S row ∧ pairsD S' (row ++ [h]) = pairsD S row ++ [.tuple [hD h, .int i]] := by
  have h1 : pairsD S' row = pairsD S row := List.map_congr_left fun k hk => by
    have w2 := (put_ws ok e).2
    rw [wI_put e, if_neg (fun z : k.1 = h.1 => w2 (by rw [← z]; exact (SS.holds_in ((mem_row pm).mp hk)).1))]
  refine ⟨h1, ?_⟩
  show List.map _ (row ++ [h]) = _
  rw [List.map_append]
  show pairsD S' row ++ [.tuple [hD h, .int (wI S' h.1)]] = _
  rw [h1, wI_put e, if_pos rfl]
theorem wI_dropped (ok : S.Ok) (pm : row.Perm (S.dropAt h.1).lvU) : hereOf (S.dropAt h.1) row = hereOf S row := List.map_congr_left fun k hk => by rw [wI_drop (dropped_ne ok pm hk)]
end
end Sh
namespace Sh
open PySem PySem.Spec L2 PyProof.Rows
/-! ### where a handle stands in a list -/
theorem hD_eqv {a b : Int × Int} : PyData.eqv (hD a) (hD b) = decide (a = b) := by
  rw [Bool.eq_iff_iff, decide_eq_true_eq, pl_eqv 1 _ _ (pl_hD 0 a) (pl_hD 0 b)]
  exact hD_inj
section
variable {X : Cx} {C : Cl} {E : EK} {e o : Expr} {σ : St} {L L' : As} {Q : LK} {pos apos : Pos} {y : V} {l : Nat} {p : Addr} {hs : List (Int × Int)} {h : Int × Int}
theorem el_index (W : Wk X C l E) (q : EL X o σ L fun x L1 => ∃ p, x = .ref p ∧ IsLs X.K L1 p ∧ EL X e σ L1 fun y L2 => LR (rIndexD X.K) p [y] L2 Q)
    (hbase : attributeBase o "index" X.env (eval o X.env) = eval o X.env := by rfl)
    (hfew : ((backTo pos (starEach [e] X.env)).all (fun w => !w.1) && (backToKw pos (keywordEach [] X.env)).all (fun w => w.1.isSome)
      && decide (([e] : List Expr).length + ([] : List Keyword).length + (if ([] : List Keyword).isEmpty then 0 else 1) < 30)) = true := by rfl)
    (hline : (apos.endLine == pos.line) = true := by rfl) (hs : starEach [e] X.env = (false, eval e X.env) :: starEach [] X.env := by rfl) : EL X (.Call (.Attribute o "index" apos) [e] [] pos) σ L Q :=
  el_lm1 PySem.F.slot_list_index PySem.F.type_list_index (mt_indexD (by have := W.hr.un; omega)) q hbase hfew hline hs
theorem idx_min : ∀ {hs : List (Int × Int)} {h : Int × Int}, h ∈ hs → hs[hs.idxOf h]? = some h ∧ ∀ m : Nat, m < hs.idxOf h → hs[m]? ≠ some h := fun {hs h} hm => by
  have hl := List.idxOf_lt_length_of_mem hm
  refine ⟨by rw [List.getElem?_eq_getElem hl, List.getElem_idxOf hl], fun m hlt z => ?_⟩
  have h1 := (List.getElem?_eq_some_iff.mp z).1
  have h2 := (List.getElem?_eq_some_iff.mp z).2
  have h3 : ∀ (l : List (Int × Int)) (m : Nat) (hm : m < l.length), l.idxOf l[m] ≤ m := by
    intro l
    induction l with
    | nil => intro m hm; simp at hm
    | cons a l ih =>
      intro m hm
      rw [List.idxOf_cons]
      cases m with
      | zero => simp
      | succ m =>
        rw [List.getElem_cons_succ]
        have := ih m (by simpa using hm)
        cases hb : a == l[m]'(by simpa using hm) with
        | true => exact Nat.zero_le _
        | false => exact Nat.succ_le_succ this
  have := h3 hs m h1
  rw [h2] at this
  omega
theorem idx_H (m : ld p (hs.map hD) ∈ L) (hd : Dsc X.K L y (hD h)) (hm : h ∈ hs) (q : Q (.int (hs.idxOf h : Nat)) L) : LR (rIndexD X.K) p [y] L Q := fun H o => by
  obtain ⟨a1, a2⟩ := idx_min hm
  refine ⟨p, y, hD h, hs.map hD, hs.idxOf h, hD h, rfl, rfl, o.ld m, hd H o, pl_shaped (pls_list (pls_hD (j := 1) hs)) (by decide), pl_shaped (pl_hD 1 h) (by decide), by rw [List.getElem?_map, a1]; rfl, by rw [hD_eqv]; exact decide_eq_true rfl, fun m' z' hlt hz => ?_, L, o, q⟩
  rw [List.getElem?_map] at hz
  obtain ⟨k, hk, rfl⟩ := Option.map_eq_some_iff.mp hz
  rw [hD_eqv]
  exact decide_eq_false fun e => a2 m' hlt (by rw [hk, e])
end
/-! ### the rows of a law's own model -/
def rowP (S : SS) (row : List (Int × Int)) (v : V) : List (Int × Int) := match S.putIn v with
  | .ok (h, _) => row ++ [h]
  | .error _ => row
def rowD (S : SS) (row : List (Int × Int)) (h : Int × Int) : List (Int × Int) := if S.holds h.1 h.2 = true then dropRow row (row.idxOf h) else row
def sMDPut : SpL := fun vs L Q _ => ∃ (m ro : Addr) (v : V) (S : SS) (row : List (Int × Int)) (L1 L2 : As), vs = [.ref m, .ref ro, v] ∧ S.Ok ∧ Rm (MdAt m S) L L1 ∧ Rm (ld ro (row.map hD)) L1 L2 ∧ row.length < 1000 ∧ ∀ r, Q r (dt r (S.tellP v).1 :: MdAt m (S.tellP v).2 :: ld ro ((rowP S row v).map hD) :: L2)
def sMDDrop : SpL := fun vs L Q _ => ∃ (m ro : Addr) (v : V) (S : SS) (h : Int × Int) (row : List (Int × Int)) (L1 L2 : As), vs = [.ref m, .ref ro, v] ∧ S.Ok ∧ S.Wi ∧ Rm (MdAt m S) L L1 ∧ Rm (ld ro (row.map hD)) L1 L2 ∧ dt v (hD h) ∈ L2 ∧ row.Perm S.lvU ∧
  ∀ r, Q r (dt r (S.tellD h).1 :: MdAt m (S.tellD h).2 :: ld ro ((rowD S row h).map hD) :: L2)
theorem tell_dput {S : SS} {row : List (Int × Int)} {i : Int} (i0 : 0 ≤ i) (i1 : i ≤ 9999) : (Dq.dg (.put (.int i))).tell S row = ((S.tellP (.int i)).1, (S.tellP (.int i)).2, rowP S row (.int i)) := by
  rw [Dq.tell_put i0 i1]
  unfold SS.tellP rowP
  cases S.putIn (.int i) <;> rfl
theorem tell_ddrop {S : SS} {row : List (Int × Int)} {h : Int × Int} (hr : InR S.n S.r h) : (Dq.dg (.drop (hD h))).tell S row = ((S.tellD h).1, (S.tellD h).2, rowD S row h) := by
  rw [Dq.tell_drop hr]
  unfold SS.tellD rowD
  by_cases z : S.holds h.1 h.2 = true
  · rw [if_pos z, if_pos z, if_pos z]
  · rw [if_neg z, if_neg z, if_neg z]
section
variable {L L1 L2 L' : As} {Q : LK} {E : Er → As → Prop} {m ro p q : Addr} {v : V} {S : SS} {h : Int × Int} {row : List (Int × Int)} {ds fs : List PyData}
theorem sMDPut.i (r1 : Rm (MdAt m S) L L1) (r2 : Rm (ld ro (row.map hD)) L1 L2) (ok : S.Ok) (rl : row.length < 1000) (q : ∀ r, Q r (dt r (S.tellP v).1 :: MdAt m (S.tellP v).2 :: ld ro ((rowP S row v).map hD) :: L2)) : sMDPut [.ref m, .ref ro, v] L Q E :=
  ⟨m, ro, v, S, row, L1, L2, rfl, ok, r1, r2, rl, q⟩
theorem sMDDrop.i (r1 : Rm (MdAt m S) L L1) (r2 : Rm (ld ro (row.map hD)) L1 L2) (ok : S.Ok) (wi : S.Wi) (hm : dt v (hD h) ∈ L2) (pm : row.Perm S.lvU) (q : ∀ r, Q r (dt r (S.tellD h).1 :: MdAt m (S.tellD h).2 :: ld ro ((rowD S row h).map hD) :: L2)) : sMDDrop [.ref m, .ref ro, v] L Q E :=
  ⟨m, ro, v, S, h, row, L1, L2, rfl, ok, wi, r1, r2, hm, pm, q⟩
theorem ext_ld {R : As → Prop} (mm : ld q fs ∈ L) (r : Rp (ld p ds) (ld p (ds ++ fs)) L L') (hl : ds.length + fs.length ≤ 1000) (k : R L') : ExtL p (.ref q) L R := fun H o => by
  obtain ⟨vs, e1, e2, w⟩ := upd_ld o r
  obtain ⟨us, f1, f2⟩ := get_ld o mm
  exact ⟨q, vs, us, rfl, e1, f1, sz (by rw [DtAll.len e2, DtAll.len f2]; omega), fun H3 e => ⟨L', e ▸ w _ (e2.app f2), k⟩⟩
end
theorem pl_tellP {S : SS} {i : Int} (ok : S.Ok) (wi : S.Wi) (i0 : 0 ≤ i) (i1 : i ≤ 9999) : pl 8 (S.tellP (.int i)).1 = true := by rw [← tell_P i0 i1]; exact pl_tell ok wi _
theorem pl_tellD {S : SS} {h : Int × Int} (ok : S.Ok) (wi : S.Wi) (hr : InR S.n S.r h) : pl 8 (S.tellD h).1 = true := by rw [← tell_D hr]; exact pl_tell ok wi _
theorem row_le {S : SS} {row : List (Int × Int)} (ok : S.Ok) (pm : row.Perm S.lvU) : row.length ≤ 60 := by
  have h1 := pm.length_eq
  have h2 := ok.lenW
  unfold SS.lvU at h1
  rw [List.length_map] at h1
  omega
/-! ### a deed opened -/
theorem BL.open_d2 {X : Cx} {st : List Stmt} {D : DL} {σ : St} {L : As} {v : V} {z : Str} {d : PyData} (m : dt v (.tuple [.str z, d]) ∈ L) (q : ∀ t x1, v = .ref t → BL X st D σ (tp t [.str z, x1] :: dt x1 d :: L)) : BL X st D σ L := ⟨fun H o => by
  have h := o.dt m
  cases h with
  | tup h1 h2 =>
    obtain ⟨x0, x1, rfl, k1, k2⟩ := dtAll_two h2
    cases k1
    exact (q _ _ rfl).run H ((o.addD k2).addT h1)⟩
theorem BL.open_d3 {X : Cx} {st : List Stmt} {D : DL} {σ : St} {L : As} {v : V} {z : Str} {d e : PyData} (m : dt v (.tuple [.str z, d, e]) ∈ L) (q : ∀ t x1 x2, v = .ref t → BL X st D σ (tp t [.str z, x1, x2] :: dt x1 d :: dt x2 e :: L)) : BL X st D σ L := ⟨fun H o => by
  have h := o.dt m
  cases h with
  | tup h1 h2 =>
    cases h2 with
    | cons k1 h2 =>
    cases h2 with
    | cons k2 h2 =>
    cases h2 with
    | cons k3 h2 =>
    cases h2
    cases k1
    exact (q _ _ _ rfl).run H (((o.addD k3).addD k2).addT h1)⟩
theorem SL.open_d2 {X : Cx} {st : Stmt} {D : DL} {σ : St} {L : As} {v : V} {z : Str} {d : PyData} (m : dt v (.tuple [.str z, d]) ∈ L) (q : ∀ t x1, v = .ref t → SL X st D σ (tp t [.str z, x1] :: dt x1 d :: L)) : SL X st D σ L := ⟨fun H o => by
  have h := o.dt m
  cases h with
  | tup h1 h2 =>
    obtain ⟨x0, x1, rfl, k1, k2⟩ := dtAll_two h2
    cases k1
    exact (q _ _ rfl).run H ((o.addD k2).addT h1)⟩
theorem SL.open_d3 {X : Cx} {st : Stmt} {D : DL} {σ : St} {L : As} {v : V} {z : Str} {d e : PyData} (m : dt v (.tuple [.str z, d, e]) ∈ L) (q : ∀ t x1 x2, v = .ref t → SL X st D σ (tp t [.str z, x1, x2] :: dt x1 d :: dt x2 e :: L)) : SL X st D σ L := ⟨fun H o => by
  have h := o.dt m
  cases h with
  | tup h1 h2 =>
    cases h2 with
    | cons k1 h2 =>
    cases h2 with
    | cons k2 h2 =>
    cases h2 with
    | cons k3 h2 =>
    cases h2
    cases k1
    exact (q _ _ _ rfl).run H (((o.addD k3).addD k2).addT h1)⟩
/-- sorted pairs of handles that are all unlike -/
theorem live_pairs {S : SS} {row : List (Int × Int)} (pm : row.Perm S.lvU) : srt3 (row.map fun h => (h, wI S h.1)) = S.live.map fun h => (h, wI S h.1) := by
  refine (srt3_eq ((live_perm.trans pm.symm).map _) ?_).symm
  refine List.pairwise_map.mpr ?_
  rw [live_srt]
  refine (srtH_sorted S.lvU).imp fun {a b} h => ?_
  unfold le3
  rw [lt3_no]
  unfold leH at h
  dsimp only
  intro z
  rcases z with z | ⟨z1, z | ⟨z2, z3⟩⟩
  · omega
  · omega
  · rw [z1] at z3
    omega
end Sh
namespace Sh
open PySem PySem.Spec L2 PyProof.Rows
/-! ### tables beside a store -/
/-- what stands in a table: by slots -/
inductive RelW (T : Hp) : List (Int × V) → List P3 → Prop
  | nil : RelW T [] []
  | cons {v : V} {u : P3} {ws : List (Int × V)} {us : List P3} (h : Dt T v (pD u)) (t : RelW T ws us) : RelW T ((u.1.1, v) :: ws) (u :: us)
theorem RelW.mono {T T' : Hp} (ht : TLe T T') {ws : List (Int × V)} {us : List P3} (h : RelW T ws us) : RelW T' ws us := by
  induction h with
  | nil => exact .nil
  | cons h _ ih => exact .cons (h.mono ht) ih
def dws (ws : List (Int × V)) (us : List P3) : Asn := ⟨fun T _ => RelW T ws us, fun ht _ s => s.mono ht⟩
def putU (us : List P3) (u : P3) : List P3 := if us.any (fun x => decide (x.1.1 = u.1.1)) then us.map (fun x => if x.1.1 = u.1.1 then u else x) else us ++ [u]
def dropU (us : List P3) (s : Int) : List P3 := us.filter fun x => decide (x.1.1 ≠ s)
def findU (us : List P3) (s : Int) : Option P3 := us.find? fun x => decide (x.1.1 = s)
/-- what is told of a handle -/
def resU (us : List P3) (h : Int × Int) : V := match findU us h.1 with
  | some u => if u.1 = h then .int u.2 else .non
  | none => .non
section
variable {T : Hp} {ws : List (Int × V)} {us : List P3} {u : P3} {v : V} {s : Int}
theorem RelW.len (h : RelW T ws us) : ws.length = us.length := by
  induction h with
  | nil => rfl
  | cons _ _ ih => rw [List.length_cons, List.length_cons, ih]
theorem RelW.any (h : RelW T ws us) (s : Int) : (ws.any fun kv => decide (kv.1 = s)) = us.any fun x => decide (x.1.1 = s) := by
  induction h with
  | nil => rfl
  | cons _ _ ih => rw [List.any_cons, List.any_cons, ih]
theorem RelW.app {ws' : List (Int × V)} {us' : List P3} (h : RelW T ws us) (h' : RelW T ws' us') : RelW T (ws ++ ws') (us ++ us') := by
  induction h with
  | nil => exact h'
  | cons a _ ih => exact .cons a ih
theorem RelW.put (h : RelW T ws us) (hv : Dt T v (pD u)) : RelW T (putK ws u.1.1 v) (putU us u) := by
  unfold putK putU
  rw [h.any]
  cases us.any fun x => decide (x.1.1 = u.1.1) with
  | false => exact h.app (.cons hv .nil)
  | true =>
    rw [if_pos rfl, if_pos rfl]
    induction h with
    | nil => exact .nil
    | cons a t ih =>
      rename_i v' u' ws' us'
      rw [List.map_cons, List.map_cons]
      by_cases e : u'.1.1 = u.1.1
      · rw [if_pos e, if_pos e]
        exact e ▸ .cons hv ih
      · rw [if_neg e, if_neg e]
        exact .cons a ih
theorem RelW.drop (h : RelW T ws us) (s : Int) : RelW T (dropK ws s) (dropU us s) := by
  unfold dropK dropU
  induction h with
  | nil => exact .nil
  | cons a t ih =>
    rename_i v' u' ws' us'
    rw [List.filter_cons, List.filter_cons]
    by_cases e : u'.1.1 = s
    · rw [if_neg (by simpa using e), if_neg (by simpa using e)]
      exact ih
    · rw [if_pos (by simpa using e), if_pos (by simpa using e)]
      exact .cons a ih
theorem RelW.val (h : RelW T ws us) (s : Int) : (findU us s = none ∧ valV ws s = none) ∨ ∃ u v, findU us s = some u ∧ valV ws s = some v ∧ Dt T v (pD u) := by
  unfold findU valV
  induction h with
  | nil => exact .inl ⟨rfl, rfl⟩
  | cons a t ih =>
    rename_i v' u' ws' us'
    rw [List.find?_cons, List.find?_cons]
    by_cases e : u'.1.1 = s
    · rw [decide_eq_true e]
      exact .inr ⟨_, _, rfl, rfl, a⟩
    · rw [decide_eq_false e]
      exact ih
theorem RelW.get (h : RelW T ws us) {j : Nat} {x : Int × V} (hx : ws[j]? = some x) : ∃ u, us[j]? = some u ∧ x.1 = u.1.1 ∧ Dt T x.2 (pD u) := by
  induction h generalizing j with
  | nil => simp at hx
  | cons a t ih =>
    cases j with
    | zero =>
      rw [List.getElem?_cons_zero] at hx
      cases hx
      exact ⟨_, rfl, rfl, a⟩
    | succ j =>
      rw [List.getElem?_cons_succ] at hx ⊢
      exact ih hx
theorem RelW.keys (h : RelW T ws us) : ws.map (·.1) = us.map (·.1.1) := by
  induction h with
  | nil => rfl
  | cons _ _ ih => rw [List.map_cons, List.map_cons, ih]
end
structure BsAd where
  (dx d : Addr)
def bflds (p : Addr) (q : BsAd) : List (Str × V) := [("store", .ref p), ("rows", .ref q.d)]
theorem bf1 {p : Addr} {q : BsAd} : (bflds p q).lookup ("store" : Str) = some (.ref p) := by rfl
theorem bf2 {p : Addr} {q : BsAd} : (bflds p q).lookup ("rows" : Str) = some (.ref q.d) := by rfl
def BesideAt (C : Cl) (b p : Addr) (us : List P3) : Asn := ex fun x : BsAd × List (Int × V) => cj [pt b (.ins C.Beside x.1.dx (bflds p x.1)), pt x.1.d (.dK (kw x.2)), dws x.2 us]
section
variable {X : Cx} {C : Cl} {σ : St} {L L' L1 L2 L3 G : As} {Q : LK} {D : DL} {b p : Addr} {us : List P3} {ws : List (Int × V)} {E : Er → As → Prop} {K : PySem.W.Frag} {v w : V}
theorem BL.openB {st : List Stmt} (r : Rm (BesideAt C b p us) L L1) (q : ∀ (q : BsAd) (ws : List (Int × V)), BL X st D σ (pt b (.ins C.Beside q.dx (bflds p q)) :: pt q.d (.dK (kw ws)) :: dws ws us :: L1)) : BL X st D σ L :=
  ⟨fun H o => by
    obtain ⟨⟨a, ws⟩, o1⟩ := Own.exI (o.front r)
    exact (q a ws).run H (Own.cjI (L1 := [pt b (.ins C.Beside a.dx (bflds p a)), pt a.d (.dK (kw ws)), dws ws us]) o1)⟩
theorem imp_bsC (q : BsAd) : Imp (pt b (.ins C.Beside q.dx (bflds p q)) :: pt q.d (.dK (kw ws)) :: dws ws us :: L) (BesideAt C b p us :: L) := fun T h s => by
  obtain ⟨h1, h2, d, l1, l2, a, s⟩ := SLs.cjE (L1 := [pt b (.ins C.Beside q.dx (bflds p q)), pt q.d (.dK (kw ws)), dws ws us]) s
  exact ⟨h1, h2, d, l1, l2, ⟨(q, ws), a⟩, s⟩
theorem imp_dws (w : ∀ T, RelW T ws us) (k : Imp L G) : Imp L (dws ws us :: G) := imp_add (fun T h s => w T) k
theorem Rc.beside {n : Str} (m : BesideAt C b p us ∈ L) (hl : ∀ q : BsAd, (bflds p q).lookup n = none) : Rc L b C.Beside n := fun H o => by
  obtain ⟨L1, r⟩ := mem_rm m
  obtain ⟨⟨a, ws⟩, o1⟩ := Own.exI (o.front r)
  have o2 := Own.cjI (L1 := [pt b (.ins C.Beside a.dx (bflds p a)), pt a.d (.dK (kw ws)), dws ws us]) o1
  exact ⟨_, _, o2.pt (.head _), hl a⟩
/-! rules -/
def DGt (L : As) (p : Addr) (y : V) (r : Option V) : Prop := ∀ H, Own H L → DGet H p y r
theorem DGt.i {s : Int} {d : Addr} (m : pt d (.dK (kw ws)) ∈ L) : DGt L d (.int s) (valV ws s) := fun H o => by
  rw [← valV_kw]
  exact DGet.k (k := .inl s) (o.pt m)
theorem DGt.h {h : Int × Int} {d : Addr} {kvs : HK} {y : V} (m : pt d (.dT (kt kvs)) ∈ L) (hd : Dsi L y (hD h)) : DGt L d y (valV kvs h) := fun H o => by
  obtain ⟨b, rfl, hb⟩ := dt_h (hd H H o.s)
  rw [← kt_val]
  exact DGet.t (o.pt m) hb
theorem IsDc.d {H : Hp} {d : Addr} (h : IsDc L d) (o : Own H L) : IsD H d := by
  rcases h H o with ⟨kvs, e⟩ | ⟨kvs, e⟩
  · exact .inl ⟨kvs, .inl e⟩
  · exact .inr ⟨kvs, .inl e⟩
theorem el_dget1 {o e : Expr} {apos pos : Pos} (hu : X.A.units + 1 < cLine) (q : EL X o σ L fun x L1 => ∃ a, x = .ref a ∧ IsDc L1 a ∧ EL X e σ L1 fun y L2 => ∃ r, DGt L2 a y r ∧ Q (r.getD .non) L2)
    (hb : attributeBase o "get" X.env (eval o X.env) = eval o X.env := by rfl)
    (hf : ((backTo pos (starEach [e] X.env)).all (fun w => !w.1) && (backToKw pos (keywordEach [] X.env)).all (fun w => w.1.isSome)
      && decide (([e] : List Expr).length + ([] : List Keyword).length + (if ([] : List Keyword).isEmpty then 0 else 1) < 30)) = true := by rfl)
    (hl : (apos.endLine == pos.line) = true := by rfl) (ht : backTo pos (starEach [e] X.env) = [(false, eval e X.env)] := by rfl) : EL X (.Call (.Attribute o "get" apos) [e] [] pos) σ L Q :=
  ⟨fun H oo => of_pe (pe_dget1 hu We.pe We.pe ⟨hb, hf, hl, ht⟩) (we_imp (q.run H oo) fun x H1 ⟨L1, o1, a, ex, hd, q1⟩ => ⟨a, ex, hd.d o1, we_imp (q1.run H1 o1) fun y H2 ⟨L2, o2, r, g, z⟩ => ⟨r, g H2 o2, L2, o2, z⟩⟩)⟩
/-- d.pop(k), k an int that is there -/
def PopI (d : Addr) (y : V) (L : As) (Q : LK) : Prop := ∀ H, Own H L → ∃ kvs k v, H d = some (.dK kvs) ∧ y = kV k ∧ valV kvs k = some v ∧ ∃ L', Own (upd H d (.dK (dropK kvs k))) L' ∧ Q v L'
theorem el_dpop {o e : Expr} {apos pos : Pos} (q : EL X o σ L fun x L1 => ∃ a, x = .ref a ∧ IsDc L1 a ∧ EL X e σ L1 fun y L2 => PopI a y L2 Q)
    (hb : attributeBase o "pop" X.env (eval o X.env) = eval o X.env := by rfl)
    (hf : ((backTo pos (starEach [e] X.env)).all (fun w => !w.1) && (backToKw pos (keywordEach [] X.env)).all (fun w => w.1.isSome)
      && decide (([e] : List Expr).length + ([] : List Keyword).length + (if ([] : List Keyword).isEmpty then 0 else 1) < 30)) = true := by rfl)
    (hl : (apos.endLine == pos.line) = true := by rfl) (ht : backTo pos (starEach [e] X.env) = [(false, eval e X.env)] := by rfl) : EL X (.Call (.Attribute o "pop" apos) [e] [] pos) σ L Q :=
  ⟨fun H oo => of_pe (pe_dpop1 We.pe We.pe ⟨hb, hf, hl, ht⟩) (we_imp (q.run H oo) fun x H1 ⟨L1, o1, a, ex, hd, q1⟩ => ⟨a, ex, hd.d o1, we_imp (q1.run H1 o1) fun y H2 ⟨L2, o2, z⟩ => z H2 o2⟩)⟩
theorem popI {s : Int} {d : Addr} {v : V} (r : Rp (pt d (.dK (kw ws))) (pt d (.dK (kw (dropK ws s)))) L L') (hv : valV ws s = some v) (q : Q v L') : PopI d (.int s) L Q := fun H o => by
  refine ⟨kw ws, .inl s, v, o.pt r.mem, rfl, by rw [valV_kw]; exact hv, L', ?_, q⟩
  rw [dropK_kw]
  exact o.wr r ntK
/-! walks over a table -/
theorem il_vals {e tg : Expr} {apos cpos : Pos} {R : It → As → Prop} {d : Addr} {od : Obj} (q : EL X e σ L fun x L1 => x = .ref d ∧ pt d (.frz od (.dK (kw ws))) ∈ L1 ∧ R (Itd d od (kw ws)) L1)
    (hb : attributeBase e "values" X.env (eval e X.env) = eval e X.env := by rfl) (hl : (apos.endLine == cpos.line) = true := by rfl) : IL X tg (.Call (.Attribute e "values" apos) [] [] cpos) σ L R :=
  ⟨_, pi_values We.pe hb hl, fun H o R' hR => we_imp (q.run H o) fun x H1 ⟨L1, o1, ex, m, r⟩ => ⟨d, od, kw ws, ex, o1.pt m, hR _ _ _ o1 r⟩⟩
theorem src_vals {d : Addr} {od : Obj} : Src (Itd d od (kw ws)) ws.length [pt d (.frz od (.dK (kw ws))), dws ws us] fun i y Lx => ∃ u, us[i]? = some u ∧ Lx = [dt y (pD u)] := by
  refine ⟨_, _, kw_len ws ▸ walk_values (kvs := kw ws), fun H L o h => o.pt (h _ List.mem_cons_self), fun i H x H' L hi o h hy => ?_⟩
  obtain ⟨rfl, k, hk⟩ := hy
  unfold kw at hk
  rw [List.getElem?_map] at hk
  obtain ⟨e, he, hk⟩ := Option.map_eq_some_iff.mp hk
  cases hk
  obtain ⟨u, hu, _, hd⟩ := (o.get (A := dws ws us) (h _ (.tail _ (.head _))) : RelW _ ws us).get he
  exact ⟨_, ⟨u, hu, rfl⟩, o.addD hd⟩
theorem xl_DiF {d : Addr} {od : Obj} {s : Int} {v : V} (hu : X.A.units + 1 < cLine) (m : pt d (.frz od (.dK (kw ws))) ∈ L) (hv : valV ws s = some v) (q : Q v L) : XL X (.ref d) (.int s) L Q := ⟨fun H o => ws_dict hu (by
  have : DGet H d (.int s) (valV (kw ws) (Sum.inl s : Key)) := .inl ⟨kw ws, .inl s, .inr ⟨od, o.pt m⟩, rfl, rfl⟩
  rw [valV_kw, hv] at this
  exact this) ⟨L, o, q⟩⟩
end
/-! promises -/
def NoSt (C : Cl) (K : PySem.W.Frag) (L : As) (v : V) : Prop := ∀ H, Own H L → ∃ t, TyX K H v t ∧ PySem.W.kitOne K t (.ref C.Store) = some false
def sBInit (K : PySem.W.Frag) (C : Cl) : SpL := fun vs L Q E => ∃ (x dx : Addr) (v : V) (L1 : As), vs = [.ref x, v] ∧ L = pt x (.ins C.Beside dx []) :: L1 ∧
  ((∃ p S, v = .ref p ∧ StoreAt C.Store p S ∈ L1 ∧ Q .non (BesideAt C x p [] :: L1)) ∨ (NoSt C K L1 v ∧ E .NoHandle L1))
def clrU (us : List P3) (h : Int × Int) : List P3 := match findU us h.1 with
  | some u => if u.1 = h then dropU us h.1 else us
  | none => us
def sBGet (K : PySem.W.Frag) (C : Cl) : SpL := fun vs L Q E => ∃ (b p : Addr) (us : List P3) (S : SS) (v : V) (d : PyData) (L1 : As), vs = [.ref b, v] ∧ S.Ok ∧ Rm (BesideAt C b p us) L L1 ∧ StoreAt C.Store p S ∈ L1 ∧ Dsc K L v d ∧
  (∀ e, S.at d = .error e → E e L) ∧ ∀ sc, S.at d = .ok sc → Q (resU us sc) L
def sBNote (K : PySem.W.Frag) (C : Cl) : SpL := fun vs L Q E => ∃ (b p : Addr) (us : List P3) (S : SS) (v w : V) (d dw : PyData) (L1 : As), vs = [.ref b, v, w] ∧ S.Ok ∧ Rm (BesideAt C b p us) L L1 ∧ StoreAt C.Store p S ∈ L1 ∧ Dsc K L v d ∧ Dsc K L w dw ∧ us.length < 1000 ∧
  (∀ sc, S.at d = .ok sc → dt v d ∈ L1) ∧ (∀ e, S.at d = .error e → E e L) ∧ (∀ sc, S.at d = .ok sc → isWhole dw 0 9999 = false → E .NoWorth L) ∧
  ∀ sc i, S.at d = .ok sc → dw = .int i → isWhole dw 0 9999 = true → Q (resU us sc) (BesideAt C b p (putU us (sc, i)) :: L1)
def sBClear (K : PySem.W.Frag) (C : Cl) : SpL := fun vs L Q E => ∃ (b p : Addr) (us : List P3) (S : SS) (v : V) (d : PyData) (L1 : As), vs = [.ref b, v] ∧ S.Ok ∧ Rm (BesideAt C b p us) L L1 ∧ StoreAt C.Store p S ∈ L1 ∧ Dsc K L v d ∧
  (∀ e, S.at d = .error e → E e L) ∧ ∀ sc, S.at d = .ok sc → Q (resU us sc) (BesideAt C b p (clrU us sc) :: L1)
def sBKept (C : Cl) : SpL := fun vs L Q _ => ∃ (b p : Addr) (us : List P3), vs = [.ref b] ∧ BesideAt C b p us ∈ L ∧ Q (.int (us.length : Nat)) L
def sBPairs (C : Cl) : SpL := fun vs L Q _ => ∃ (b p : Addr) (us : List P3) (S : SS) (L1 : As), vs = [.ref b] ∧ S.Ok ∧ Rm (BesideAt C b p us) L L1 ∧ StoreAt C.Store p S ∈ L1 ∧ (∀ u ∈ us, InR S.n S.r u.1) ∧ us.length < 1000 ∧
  ∀ l, Q (.ref l) (ld l ((srt3 (us.filter fun u => S.holds u.1.1 u.1.2)).map pD) :: L)
def sBSweep (C : Cl) : SpL := fun vs L Q _ => ∃ (b p : Addr) (us : List P3) (S : SS) (L1 : As), vs = [.ref b] ∧ S.Ok ∧ Rm (BesideAt C b p us) L L1 ∧ StoreAt C.Store p S ∈ L1 ∧ (∀ u ∈ us, InR S.n S.r u.1) ∧ (us.map (·.1.1)).Nodup ∧ us.length < 1000 ∧
  Q (.int ((us.filter fun u => !S.holds u.1.1 u.1.2).length : Nat)) (BesideAt C b p (us.filter fun u => S.holds u.1.1 u.1.2) :: L1)
section
variable {X : Cx} {C : Cl} {L : As} {v : V} {K : PySem.W.Frag}
theorem cl_isSt {b : Bool} (h : ∀ H, Own H L → ∃ t, TyX X.K H v t ∧ PySem.W.kitOne X.K t (.ref C.Store) = some b) {Q : LK} (q : Q (.bl b) L) : CL X (.builtin "isinstance") [v, .ref C.Store] L Q := of_cl call_isi fun H o => by
  obtain ⟨t, h1, h2⟩ := h H o
  exact ⟨v, .ref C.Store, t, .ref C.Store, b, rfl, .own _, h1, h2, L, o, q⟩
theorem kit_bt {T : String} {A : Addr} (hd : PySem.W.hasDictIn K A = true) (ht : PySem.W.typeIn K (.ref A) = some (.type "type")) (h2 : PySem.W.subIn K (.type T) (.ref A) = some false) : PySem.W.kitOne K (.type T) (.ref A) = some false := by
  have ne : ¬ (Value.type T == Value.ref A) = true := fun e => by cases (beq_iff_eq.mp e)
  obtain ⟨cd, hc, _⟩ := PySem.W.any_some hd
  unfold PySem.W.kitOne
  rw [if_neg ne]
  show (if ((PySem.W.clsIn K A).isSome && PySem.W.typeIn K (.ref A) == some (.type "type")) = true then PySem.W.subIn K (.type T) (.ref A) else none) = some false
  rw [hc, ht, if_pos (by rfl)]
  exact h2
end
/-- what is known of the classes for isinstance(x, Store) -/
structure IsK (K : PySem.W.Frag) (C : Cl) : Prop where
  cs : PySem.W.findIn K (.ref C.Store) "__class__" = some (some (.builtin "object.__class__"))
  ms : PySem.W.mroIn K C.Store (.type "object") = some true
  cb : PySem.W.findIn K (.ref C.Beside) "__class__" = some (some (.builtin "object.__class__"))
  mb : PySem.W.mroIn K C.Beside (.type "object") = some true
  n : PySem.W.specialIn K (.builtin "object.__class__") "__get__" = some (some (.builtin "getset_descriptor.__get__"))
  t : PySem.W.takesIn K (.builtin "object.__class__") = some true
  b : PySem.W.kitOne K (.ref C.Beside) (.ref C.Store) = some false
  none : PySem.W.kitOne K (.type "NoneType") (.ref C.Store) = some false
  tuple : PySem.W.kitOne K (.type "tuple") (.ref C.Store) = some false
  int : PySem.W.kitOne K (.type "int") (.ref C.Store) = some false
section
variable {C : Cl} {L : As} {K : PySem.W.Frag} {p b : Addr} {S : SS} {us : List P3} {xs : List V} {i : Int}
theorem IsK.store (k : IsK K C) (hc : Cls K C.Store) (m : StoreAt C.Store p S ∈ L) : ∀ H, Own H L → ∃ t, TyX K H (.ref p) t ∧ PySem.W.kitOne K t (.ref C.Store) = some true := fun H o => by
  obtain ⟨q, h⟩ := StoreAt.ins o m
  exact ⟨_, .base (.ins h hc k.cs k.n k.t k.ms), kit_self⟩
theorem IsK.beside (k : IsK K C) (hc : Cls K C.Beside) (m : BesideAt C b p us ∈ L) : NoSt C K L (.ref b) := fun H o => by
  obtain ⟨dx, fs, h, _⟩ := Rc.beside (n := "q") m (fun _ => rfl) H o
  exact ⟨_, .base (.ins h hc k.cb k.n k.t k.mb), k.b⟩
theorem IsK.non (k : IsK K C) : NoSt C K L .non := fun H o => ⟨_, .base .non, k.none⟩
theorem IsK.num (k : IsK K C) : NoSt C K L (.int i) := fun H o => ⟨_, .base (.int i), k.int⟩
theorem IsK.tup (k : IsK K C) (m : tp p xs ∈ L) : NoSt C K L (.ref p) := fun H o => ⟨_, .base (.tup (o.tp m)), k.tuple⟩
end
theorem BL.valB {X : Cx} {D : DL} {σ : St} {L : As} {st : List Stmt} {ws : List (Int × V)} {us : List P3} (s : Int) (m : dws ws us ∈ L) (q1 : findU us s = none → valV ws s = none → BL X st D σ L) (q2 : ∀ u t b, findU us s = some u → valV ws s = some (.ref t) → BL X st D σ (tp t [.ref b, .int u.2] :: dt (.ref b) (hD u.1) :: L)) : BL X st D σ L := ⟨fun H o => by
  rcases (o.get (A := dws ws us) m : RelW H ws us).val s with ⟨a, b⟩ | ⟨u, v, a, b, c⟩
  · exact (q1 a b).run H o
  · obtain ⟨t, b1, rfl, h1, h2⟩ := dt3 c
    exact (q2 u t b1 a b).run H ((o.addD (.tup h2 (.cons (.int _) (.cons (.int _) .nil)))).addT h1)⟩
theorem TL.valB {X : Cx} {QB : Bool → As → Prop} {σ : St} {L : As} {st : Expr} {ws : List (Int × V)} {us : List P3} (s : Int) (m : dws ws us ∈ L) (q1 : findU us s = none → valV ws s = none → TL X st σ L QB) (q2 : ∀ u t b, findU us s = some u → valV ws s = some (.ref t) → TL X st σ (tp t [.ref b, .int u.2] :: dt (.ref b) (hD u.1) :: L) QB) : TL X st σ L QB := ⟨fun H o => by
  rcases (o.get (A := dws ws us) m : RelW H ws us).val s with ⟨a, b⟩ | ⟨u, v, a, b, c⟩
  · exact (q1 a b).run H o
  · obtain ⟨t, b1, rfl, h1, h2⟩ := dt3 c
    exact (q2 u t b1 a b).run H ((o.addD (.tup h2 (.cons (.int _) (.cons (.int _) .nil)))).addT h1)⟩
theorem Dsc.up {K : PySem.W.Frag} {L L' : As} {v : V} {d : PyData} (h : Dsc K L v d) (i : Imp L' L) : Dsc K L' v d := fun H o => h H (i.own o)
theorem resU_none {us : List P3} {h : Int × Int} (e : findU us h.1 = none) : resU us h = .non ∧ clrU us h = us := by unfold resU clrU; rw [e]; exact ⟨rfl, rfl⟩
theorem resU_same {us : List P3} {h : Int × Int} {u : P3} (e : findU us h.1 = some u) (z : u.1 = h) : resU us h = .int u.2 ∧ clrU us h = dropU us h.1 := by
  unfold resU clrU
  rw [e]
  exact ⟨if_pos z, if_pos z⟩
theorem resU_other {us : List P3} {h : Int × Int} {u : P3} (e : findU us h.1 = some u) (z : ¬ u.1 = h) : resU us h = .non ∧ clrU us h = us := by
  unfold resU clrU
  rw [e]
  exact ⟨if_neg z, if_neg z⟩
theorem resU_cases (us : List P3) (h : Int × Int) : (resU us h = .non ∧ clrU us h = us) ∨ ∃ u, findU us h.1 = some u ∧ u.1 = h ∧ resU us h = .int u.2 ∧ clrU us h = dropU us h.1 := by
  cases e : findU us h.1 with
  | none => exact .inl (resU_none e)
  | some u =>
    by_cases z : u.1 = h
    · exact .inr ⟨u, rfl, z, resU_same e z⟩
    · exact .inl (resU_other e z)
theorem imp_dwsP {L G : As} {ws : List (Int × V)} {us : List P3} {u : P3} {v : V} (m : dws ws us ∈ L) (d : Dsi L v (pD u)) (k : Imp L G) : Imp L (dws (putK ws u.1.1 v) (putU us u) :: G) :=
  imp_add (fun T h s => RelW.put (s.get (A := dws ws us) m) (d T h s)) k
theorem imp_dwsD {L G : As} {ws : List (Int × V)} {us : List P3} (s : Int) (m : dws ws us ∈ L) (k : Imp L G) : Imp L (dws (dropK ws s) (dropU us s) :: G) :=
  imp_add (fun T h z => RelW.drop (z.get (A := dws ws us) m) s) k
theorem imp_dws0 {L G : As} {ws : List (Int × V)} {us : List P3} (m : dws ws us ∈ L) (k : Imp L G) : Imp L (dws ws us :: G) := imp_add (fun T h z => (z.get (A := dws ws us) m : RelW T ws us)) k
theorem hasD_R {S : SS} {h : Int × Int} (hr : InR S.n S.r h) : S.hasD (hD h) = S.holds h.1 h.2 := by
  rw [Bool.eq_iff_iff, SS.has_iff, SS.at_hD hr]
  constructor
  · rintro ⟨sc, z⟩
    by_cases q : S.holds h.1 h.2 = true
    · exact q
    · rw [if_neg q] at z; cases z
  · intro q
    exact ⟨h, if_pos q⟩
theorem sl_lock {X : Cx} {st : Stmt} {D : DL} {σ : St} {L : As} {d : Addr} {u : HO} (mu : Mut (some u)) (r : ∀ od, ∃ L', Rp (pt d u) (pt d (.frz od u)) L L' ∧ SL X st { nx := fun σ L1 => ∃ L2, Rp (pt d (.frz od u)) (pt d u) L1 L2 ∧ D.nx σ L2, rt := fun v L1 => ∃ L2, Rp (pt d (.frz od u)) (pt d u) L1 L2 ∧ D.rt v L2 } σ L') (m : pt d u ∈ L) (nt : ∀ ys, u ≠ .tup ys) : SL X st D σ L :=
  ⟨fun H o => of_ps (ps_lock Ws.ps) ⟨d, u, o.pt m, mu, fun od => by
    obtain ⟨L', r1, q⟩ := r od
    refine ws_imp (q.run _ (o.wr r1 nt)) ⟨?_, ?_, ?_, ?_⟩
    · rintro σ' H' ⟨L1, o1, L2, r2, z⟩
      exact ⟨o1.pt r2.mem, L2, o1.wr r2 (fun ys e => by cases e), z⟩
    · rintro v H' ⟨L1, o1, L2, r2, z⟩
      exact ⟨o1.pt r2.mem, L2, o1.wr r2 (fun ys e => by cases e), z⟩
    · rintro σ' H' ⟨L1, o1, z⟩
      exact z.elim
    · rintro σ' H' ⟨L1, o1, z⟩
      exact z.elim⟩⟩
/-! what a law tries -/
def resD (us : List P3) (h : Int × Int) : PyData := match findU us h.1 with
  | some u => if u.1 = h then .int u.2 else .none
  | none => .none
theorem resU_dt (us : List P3) (h : Int × Int) (T : Hp) : Dt T (resU us h) (resD us h) := by
  unfold resU resD
  cases findU us h.1 with
  | none => exact .non
  | some u =>
    dsimp only
    by_cases z : u.1 = h
    · rw [if_pos z, if_pos z]; exact .int _
    · rw [if_neg z, if_neg z]; exact .non
inductive Bq where
  | note (d dw : PyData)
  | get (d : PyData)
  | clear (d : PyData)
  | make
def Bq.no : Bq → Int
  | .note _ _ => 0
  | .get _ => 1
  | .clear _ => 2
  | .make => 3
def intD : PyData → Int
  | .int i => i
  | _ => 0
def Bq.tell (S : SS) (us : List P3) : Bq → PyData × List P3
  | .note d dw => match S.at d with
      | .error e => (refD e, us)
      | .ok sc => if isWhole dw 0 9999 = true then (resD us sc, putU us (sc, intD dw)) else (refD .NoWorth, us)
  | .get d => match S.at d with
      | .error e => (refD e, us)
      | .ok sc => (resD us sc, us)
  | .clear d => match S.at d with
      | .error e => (refD e, us)
      | .ok sc => (resD us sc, clrU us sc)
  | .make => (refD .NoHandle, us)
def Bq.pre (K : PySem.W.Frag) (C : Cl) (L L1 : As) (S : SS) (v w : V) : Bq → Prop
  | .note d dw => Dsc K L v d ∧ Dsc K L w dw ∧ ∀ sc, S.at d = .ok sc → dt v d ∈ L1
  | .get d => Dsc K L v d
  | .clear d => Dsc K L v d
  | .make => NoSt C K L v
def sBTry (K : PySem.W.Frag) (C : Cl) : SpL := fun vs L Q _ => ∃ (b p : Addr) (us : List P3) (S : SS) (q : Bq) (v w : V) (L1 : As), vs = [.ref b, .int q.no, v, w] ∧ S.Ok ∧ Rm (BesideAt C b p us) L L1 ∧ StoreAt C.Store p S ∈ L1 ∧ us.length < 1000 ∧ q.pre K C L L1 S v w ∧
  ∀ r, Q r (dt r (q.tell S us).1 :: BesideAt C b p (q.tell S us).2 :: L1)
section
variable {K : PySem.W.Frag} {C : Cl} {L L1 : As} {Q : LK} {E : Er → As → Prop} {b p : Addr} {us us' : List P3} {S : SS} {v w : V} {d dw a : PyData}
theorem sBTry.note (ht : (Bq.note d dw).tell S us = (a, us')) (ok : S.Ok) (r : Rm (BesideAt C b p us) L L1) (m : StoreAt C.Store p S ∈ L1) (hl : us.length < 1000) (h1 : Dsc K L v d) (h2 : Dsc K L w dw) (h3 : ∀ sc, S.at d = .ok sc → dt v d ∈ L1) (q : ∀ r, Q r (dt r a :: BesideAt C b p us' :: L1)) : sBTry K C [.ref b, .int 0, v, w] L Q E :=
  ⟨b, p, us, S, .note d dw, v, w, L1, rfl, ok, r, m, hl, ⟨h1, h2, h3⟩, fun r => by rw [ht]; exact q r⟩
theorem sBTry.get (ht : (Bq.get d).tell S us = (a, us')) (ok : S.Ok) (r : Rm (BesideAt C b p us) L L1) (m : StoreAt C.Store p S ∈ L1) (hl : us.length < 1000) (h1 : Dsc K L v d) (q : ∀ r, Q r (dt r a :: BesideAt C b p us' :: L1)) : sBTry K C [.ref b, .int 1, v, w] L Q E :=
  ⟨b, p, us, S, .get d, v, w, L1, rfl, ok, r, m, hl, h1, fun r => by rw [ht]; exact q r⟩
theorem sBTry.clear (ht : (Bq.clear d).tell S us = (a, us')) (ok : S.Ok) (r : Rm (BesideAt C b p us) L L1) (m : StoreAt C.Store p S ∈ L1) (hl : us.length < 1000) (h1 : Dsc K L v d) (q : ∀ r, Q r (dt r a :: BesideAt C b p us' :: L1)) : sBTry K C [.ref b, .int 2, v, w] L Q E :=
  ⟨b, p, us, S, .clear d, v, w, L1, rfl, ok, r, m, hl, h1, fun r => by rw [ht]; exact q r⟩
theorem sBTry.make (ok : S.Ok) (r : Rm (BesideAt C b p us) L L1) (m : StoreAt C.Store p S ∈ L1) (hl : us.length < 1000) (h1 : NoSt C K L v) (q : ∀ r, Q r (dt r (refD .NoHandle) :: BesideAt C b p us :: L1)) : sBTry K C [.ref b, .int 3, v, w] L Q E :=
  ⟨b, p, us, S, .make, v, w, L1, rfl, ok, r, m, hl, h1, q⟩
theorem sBKept.i (m : BesideAt C b p us ∈ L) (q : Q (.int (us.length : Nat)) L) : sBKept C [.ref b] L Q E := ⟨b, p, us, rfl, m, q⟩
theorem sBPairs.i (ok : S.Ok) (r : Rm (BesideAt C b p us) L L1) (m : StoreAt C.Store p S ∈ L1) (hin : ∀ u ∈ us, InR S.n S.r u.1) (hl : us.length < 1000) (q : ∀ l, Q (.ref l) (ld l ((srt3 (us.filter fun u => S.holds u.1.1 u.1.2)).map pD) :: L)) : sBPairs C [.ref b] L Q E := ⟨b, p, us, S, L1, rfl, ok, r, m, hin, hl, q⟩
theorem sBSweep.i (ok : S.Ok) (r : Rm (BesideAt C b p us) L L1) (m : StoreAt C.Store p S ∈ L1) (hin : ∀ u ∈ us, InR S.n S.r u.1) (nd : (us.map (·.1.1)).Nodup) (hl : us.length < 1000) (q : Q (.int ((us.filter fun u => !S.holds u.1.1 u.1.2).length : Nat)) (BesideAt C b p (us.filter fun u => S.holds u.1.1 u.1.2) :: L1)) : sBSweep C [.ref b] L Q E := ⟨b, p, us, S, L1, rfl, ok, r, m, hin, nd, hl, q⟩
end
theorem srt3_one (u : P3) : srt3 [u] = [u] := (srt3_eq (List.Perm.refl _) (List.pairwise_singleton ..)).symm
theorem srt3_nil : srt3 [] = [] := (srt3_eq (List.Perm.refl _) List.Pairwise.nil).symm
end Sh
namespace Sh
open PySem PySem.Spec L2 PyProof.Rows
/-! ### d.pop(key, default), the key a tuple -/
section
variable {prog : Program} {w : World} {κ : Type} [DecidableEq κ] {kd : HeapKind prog w κ}
theorem meetsPop2 {d b : Addr} {k : κ} {z : Value} : MeetsIn prog w (Builtin.«dict.pop» ⟨[.ref d, .ref b, z], []⟩) (fun A R s => ∃ xs p, kd.room A.in1 ∧ kd.is s.heap k b ∧ s.heap.DictOfH kd d xs ∧ xs.length ≤ sizeLine ∧ atKey xs k = some p ∧
      ∀ h' tk, h'.DictOfH kd d (DT.dropH xs k) → Heap.SameBut d s.heap h' → R (.ok (.ret p.2)) { s with heap := h', toks := tk }) :=
  .of_wp fun A R s ⟨xs, p, hu, hk, hm, hz, hp, hq⟩ => by
    obtain ⟨o, es, ep, ho, hc, hdat, he, his, hn⟩ := id hm
    have hs : es.size = xs.length := size_of_entries he
    have hpt : (keyPart (Value.ref b)).isSome = false := rfl
    unfold Builtin.«dict.pop»
    refine wpAny_bind ?_
    unfold Builtin.Dict.keyAndDefault
    refine wpAny_bind (wpAny_notOrdered_dict hm.typeIs ?_)
    show wpAny _ _ (pure (d, Value.ref b, some z)) _ _ s
    refine wpAny_pure ?_
    simp only [hpt, Bool.false_eq_true, if_false]
    refine wpAny_bind (wpAny_dictEntries ho hdat (wpAny_bind (wpAny_pure ?_)))
    have hne : es.isEmpty = false := by
      cases q : es.isEmpty with
      | false => rfl
      | true =>
        have z : es.size = 0 := by simpa using q
        have h0 : xs = [] := List.length_eq_zero_iff.mp (by omega)
        rw [h0] at hp
        cases hp
    rw [hne]
    simp only [Bool.false_eq_true, if_false]
    refine wpAny_bind (DT.takeH hu hk hm hz (fun no => ?_) fun p' e hp' hev h' hm' hs' => ?_)
    · rw [hp] at no; cases no
    · rw [hp] at hp'
      cases hp'
      simp only [Option.isNone_some, Bool.false_eq_true, if_false]
      exact wpAny_bind (wpAny_letGo (wpAny_pure ⟨e.val, rfl, by rw [hev]; exact hq h' _ hm' hs'⟩))
end
section
variable {X : Cx}
def rPop2 : V → List V → Hp → VK → Prop := fun x xs H Q => ∃ (a : Addr) (kvs : List (List Key × V)) (k : List Key) (b : Addr) (z : V), x = .ref a ∧ xs = [.ref b, z] ∧ H a = some (.dT kvs) ∧ H b = some (.tup (k.map kV)) ∧
  (∀ v, valV kvs k = some v → Q v (upd H a (.dT (dropK kvs k)))) ∧ (valV kvs k = none → Q z H)
theorem mt_pop2 (hu : X.A.units + 1 < cLine) : MtR X "dict.pop" rPop2 := by
  intro pins s σ H x xs v us Q I rx rxs h
  obtain ⟨a, kvs, k, b, z0, rfl, rfl, ha, hb, q1, q2⟩ := h
  cases rx
  obtain ⟨u1, u2, rfl, r1, r2⟩ := vals2 rxs
  cases r1
  obtain ⟨z, hd, ys, rel, dd⟩ := dt_of I.hok ha
  have hz : ys.length ≤ sizeLine := by have := Paired.length rel; omega
  have r := rel.val k
  cases ev : valV kvs k with
  | none =>
    rw [ev] at r
    have hn : atKey ys k = none := by
      cases e : atKey ys k with
      | none => rfl
      | some p => rw [e] at r; exact (show False from r).elim
    exact call_pop_default_heap (knd := tupleKind (mixKind X.prog X.w)) (k := k) (tupleKind_room_in1 hu) (key_of I.hok hb) hd dd hn (fun tk => ⟨z0, H, I.tok tk, r2, q2 ev⟩) hz
  | some v0 =>
    rw [ev] at r
    obtain ⟨p, hp, rv⟩ : ∃ p, atKey ys k = some p ∧ RelV v0 p.2 := by
      cases e : atKey ys k with
      | none => rw [e] at r; exact (show False from r).elim
      | some p => rw [e] at r; exact ⟨p, rfl, r⟩
    refine call_meetsIn PySem.F.slot_dict_pop dd.typeIs PySem.F.entry_dict_pop (PySem.F.args_dict_pop_3 _ _ _) (meetsPop2 (kd := tupleKind (mixKind X.prog X.w)) (k := k)) ⟨ys, p, tupleKind_room_in1 hu, key_of I.hok hb, dd, hz, hp, fun h' tk dd' hs => ?_⟩
    obtain ⟨ob, es, ep, hq, h2, h3, h4, _, h5⟩ := dd'
    have kp : ∀ c zs, H c = some (.tup zs) → upd H a (.dT (dropK kvs k)) c = some (.tup zs) := fun c zs ec => by rw [upd_ne (ne_of ec ha (fun z => nomatch z))]; exact ec
    have I2 : Inv X pins σ (upd H a (.dT (dropK kvs k))) { s with heap := h', toks := tk } :=
      d_write I (by rw [ha]; exact True.intro) hs ⟨ob, hq⟩ ⟨Nat.le_trans (dropK_le kvs k) z, hd, _, (L2.DX.KT_drop k rel).keeps kp, ob, es, ep, hq, h2, h3, h4, h5⟩
    exact ⟨v0, _, I2, rv, q1 _ ev⟩
variable {C : Cl} {E : EK} {e e2 o : Expr} {σ : St} {L L' : As} {Q : LK} {pos apos : Pos} {p : Addr} {y z : V} {kvs : HK} {h : Int × Int} {r : V → List V → Hp → VK → Prop}
theorem el_dm2 {m : Str} {id : String} (slot : Slot "dict" m id) (hty : typeOf (.builtin id) = pure (.type "method_descriptor")) (hm : MtR X id r)
    (q : EL X o σ L fun x L1 => ∃ p, x = .ref p ∧ IsDc L1 p ∧ EL X e σ L1 fun y L2 => EL X e2 σ L2 fun z L3 => LR r p [y, z] L3 Q)
    (hbase : attributeBase o m X.env (eval o X.env) = eval o X.env := by rfl)
    (hfew : ((backTo pos (starEach [e, e2] X.env)).all (fun w => !w.1) && (backToKw pos (keywordEach [] X.env)).all (fun w => w.1.isSome)
      && decide (([e, e2] : List Expr).length + ([] : List Keyword).length + (if ([] : List Keyword).isEmpty then 0 else 1) < 30)) = true := by rfl)
    (hline : (apos.endLine == pos.line) = true := by rfl) (hs : starEach [e, e2] X.env = (false, eval e X.env) :: starEach [e2] X.env := by rfl) (hs2 : starEach [e2] X.env = (false, eval e2 X.env) :: starEach [] X.env := by rfl)
    (hpl : (backTo pos (starEach [e2] X.env)).any (·.1) = false := by rfl) : EL X (.Call (.Attribute o m apos) [e, e2] [] pos) σ L Q :=
  ⟨fun H oo => we_bm PySem.F.plainAttrs_dict slot hty hm (we_imp (q.run H oo) fun x H1 ⟨L1, o1, p, ex, il, q1⟩ => ex ▸ ⟨.inr (.inr (.inl ⟨rfl, il H1 o1⟩)),
    wa_cons (we_imp (q1.run H1 o1) fun y H2 ⟨L2, o2, q2⟩ => wa_cons (we_imp (q2.run H2 o2) fun z H3 ⟨L3, o3, q3⟩ => wa_nil (q3 H3 o3)) hs2) hs⟩) hbase hfew hline hs hpl⟩
theorem pop2_h (m : pt p (.dT (kt kvs)) ∈ L) (hd : Dsi L y (hD h)) (q1 : ∀ v, valV kvs h = some v → ∃ L', Rp (pt p (.dT (kt kvs))) (pt p (.dT (kt (dropK kvs h)))) L L' ∧ Q v L') (q2 : valV kvs h = none → Q z L) : LR rPop2 p [y, z] L Q := fun H o => by
  obtain ⟨b, rfl, hb⟩ := dt_h (hd H H o.s)
  refine ⟨p, kt kvs, kk h, b, z, rfl, rfl, o.pt m, hb, fun v hv => ?_, fun hv => ⟨L, o, q2 (by rw [← kt_val]; exact hv)⟩⟩
  rw [kt_val] at hv
  obtain ⟨L', r1, z1⟩ := q1 v hv
  rw [kt_drop]
  exact ⟨L', o.wr r1 ntT, z1⟩
end
/-! ### a law's own model of a table: worths by handles -/
def kvE (es : List P3) : HK := es.map fun u => (u.1, V.int u.2)
/-- the table keeps just what the model keeps -/
structure KU (us es : List P3) : Prop where
  pm : us.Perm es
  nd : (us.map (·.1.1)).Nodup
section
variable {us es : List P3} {u : P3} {h : Int × Int} {s : Int}
theorem KU.nde (k : KU us es) : (es.map (·.1.1)).Nodup := (k.pm.map (·.1.1)).nodup_iff.mp k.nd
theorem kvE_len : (kvE es).length = es.length := List.length_map _
theorem kvE_keys : (kvE es).map (·.1) = es.map (·.1) := by unfold kvE; rw [List.map_map]; rfl
theorem kvE_val : ∀ es : List P3, valV (kvE es) h = (es.find? fun x => decide (x.1 = h)).map fun u => V.int u.2
  | [] => rfl
  | u :: es => by
    show valV ((u.1, V.int u.2) :: kvE es) h = _
    rw [List.find?_cons]
    by_cases e : u.1 = h
    · rw [valV_pos e, decide_eq_true e]; rfl
    · rw [valV_neg e, decide_eq_false e, kvE_val es]
theorem kvE_drop : dropK (kvE es) h = kvE (es.filter fun x => decide (x.1 ≠ h)) := by
  unfold dropK kvE
  rw [List.filter_map]; rfl
/-- by slots, by handles -/
theorem inj_slot (nd : (us.map (·.1.1)).Nodup) {a b : P3} (ha : a ∈ us) (hb : b ∈ us) (e : a.1.1 = b.1.1) : a = b := by
  obtain ⟨i, hi, ei⟩ := List.getElem_of_mem ha
  obtain ⟨j, hj, ej⟩ := List.getElem_of_mem hb
  have : i = j := (List.getElem_inj nd (h₀ := by rw [List.length_map]; exact hi) (h₁ := by rw [List.length_map]; exact hj)).mp (by rw [List.getElem_map, List.getElem_map, ei, ej]; exact e)
  subst this
  rw [← ei, ← ej]
theorem findU_some (h : findU us s = some u) : u ∈ us ∧ u.1.1 = s := ⟨List.mem_of_find?_eq_some h, by have := List.find?_some h; simpa using this⟩
theorem findU_none (h : findU us s = none) : ∀ x ∈ us, x.1.1 ≠ s := fun x hx => by have := List.find?_eq_none.mp h x hx; simpa using this
theorem resD_val (k : KU us es) : resD us h = match valV (kvE es) h with
    | some (.int i) => .int i
    | _ => .none := by
  rw [kvE_val]
  unfold resD
  cases e1 : findU us h.1 with
  | none =>
    have : es.find? (fun x => decide (x.1 = h)) = none := List.find?_eq_none.mpr fun x hx => by
      have := findU_none e1 x (k.pm.mem_iff.mpr hx)
      simpa using fun z : x.1 = h => this (by rw [z])
    rw [this]; rfl
  | some u =>
    obtain ⟨hu, hs⟩ := findU_some e1
    dsimp only
    by_cases z : u.1 = h
    · rw [if_pos z]
      cases e2 : es.find? (fun x => decide (x.1 = h)) with
      | none =>
        have := List.find?_eq_none.mp e2 u (k.pm.mem_iff.mp hu)
        simp [z] at this
      | some w =>
        have hw := List.mem_of_find?_eq_some e2
        have hw2 : w.1 = h := by have := List.find?_some e2; simpa using this
        have : u = w := inj_slot k.nd hu (k.pm.mem_iff.mpr hw) (by rw [z, hw2])
        rw [this]; rfl
    · rw [if_neg z]
      have : es.find? (fun x => decide (x.1 = h)) = none := List.find?_eq_none.mpr fun x hx => by
        have hne : ¬ x.1 = h := fun q => z (by rw [inj_slot k.nd hu (k.pm.mem_iff.mpr hx) (by rw [hs, q])]; exact q)
        simpa using hne
      rw [this]; rfl
/-- what is noted -/
def putE (es : List P3) (u : P3) : List P3 := dropU es u.1.1 ++ [u]
theorem putU_perm (nd : (us.map (·.1.1)).Nodup) : (putU us u).Perm (dropU us u.1.1 ++ [u]) := by
  unfold putU
  induction us with
  | nil => exact List.Perm.refl _
  | cons x us ih =>
    rw [List.map_cons, List.nodup_cons] at nd
    unfold dropU
    rw [List.any_cons, List.filter_cons]
    by_cases e : x.1.1 = u.1.1
    · have h0 : ∀ y ∈ us, y.1.1 ≠ u.1.1 := fun y hy z => nd.1 (by rw [e, ← z]; exact List.mem_map_of_mem hy)
      have m1 : us.map (fun y => if y.1.1 = u.1.1 then u else y) = us := by
        conv => rhs; rw [← List.map_id us]
        exact List.map_congr_left fun y hy => if_neg (h0 y hy)
      have m2 : us.filter (fun y => decide (y.1.1 ≠ u.1.1)) = us := List.filter_eq_self.mpr fun y hy => decide_eq_true (h0 y hy)
      rw [decide_eq_true e, Bool.true_or, if_pos rfl, List.map_cons, if_pos e, m1, if_neg (by simpa using e), m2]
      exact List.perm_append_comm (l₁ := [u])
    · have ih := ih nd.2
      rw [decide_eq_false e, Bool.false_or, List.map_cons, if_neg e, if_pos (show decide (x.1.1 ≠ u.1.1) = true from decide_eq_true e)]
      unfold dropU at ih
      cases hb : us.any fun x => decide (x.1.1 = u.1.1) with
      | true =>
        rw [hb, if_pos rfl] at ih
        rw [if_pos rfl]
        exact List.Perm.cons x ih
      | false =>
        rw [hb, if_neg Bool.false_ne_true] at ih
        rw [if_neg Bool.false_ne_true]
        exact List.Perm.cons x ih
theorem dropU_nd (nd : (us.map (·.1.1)).Nodup) : ((dropU us s).map (·.1.1)).Nodup := List.Nodup.sublist (List.Sublist.map _ List.filter_sublist) nd
theorem putE_nd (nd : (us.map (·.1.1)).Nodup) : ((dropU us u.1.1 ++ [u]).map (·.1.1)).Nodup := by
  rw [List.map_append, List.map_singleton, List.nodup_append]
  refine ⟨dropU_nd nd, by simp, fun a ha b hb => ?_⟩
  rw [List.mem_singleton] at hb
  subst hb
  obtain ⟨x, hx, rfl⟩ := List.mem_map.mp ha
  have := (List.mem_filter.mp hx).2
  simpa using this
theorem KU.put (k : KU us es) (u : P3) : KU (putU us u) (putE es u) := by
  have h1 := putU_perm (u := u) k.nd
  refine ⟨h1.trans ((k.pm.filter _).append_right _), (h1.map (·.1.1)).nodup_iff.mpr (putE_nd k.nd)⟩
theorem KU.filter (k : KU us es) (p : P3 → Bool) : KU (us.filter p) (es.filter p) := ⟨k.pm.filter p, List.Nodup.sublist (List.Sublist.map _ List.filter_sublist) k.nd⟩
theorem filter_all {p : P3 → Prop} [DecidablePred p] (h : ∀ x ∈ us, p x) : us.filter (fun x => decide (p x)) = us := List.filter_eq_self.mpr fun x hx => decide_eq_true (h x hx)
theorem clr_filter (nd : (us.map (·.1.1)).Nodup) : clrU us h = us.filter fun x => decide (x.1 ≠ h) := by
  unfold clrU
  cases e1 : findU us h.1 with
  | none => exact (filter_all (p := fun x => x.1 ≠ h) fun x hx z => findU_none e1 x hx (by rw [z])).symm
  | some u =>
    obtain ⟨hu, hs⟩ := findU_some e1
    dsimp only
    by_cases z : u.1 = h
    · rw [if_pos z]
      refine List.filter_congr fun x hx => decide_eq_decide.mpr (not_congr ⟨fun q => ?_, fun q => by rw [q]⟩)
      rw [inj_slot nd hx hu (by rw [q, hs])]; exact z
    · rw [if_neg z]
      exact (filter_all (p := fun x => x.1 ≠ h) fun x hx q => z (by rw [inj_slot nd hu hx (by rw [hs, q])]; exact q)).symm
theorem KU.clr (k : KU us es) : KU (clrU us h) (es.filter fun x => decide (x.1 ≠ h)) := by rw [clr_filter k.nd]; exact k.filter _
theorem KU.len (k : KU us es) : us.length = es.length := k.pm.length_eq
theorem KU.new : KU [] [] := ⟨List.Perm.refl _, List.nodup_nil⟩
end
def sBTry2 (K : PySem.W.Frag) (C : Cl) : SpL := fun vs L Q _ => ∃ (b p : Addr) (us : List P3) (S : SS) (q : Bq) (v w : V) (L1 : As), vs = [.ref b, .int q.no, v, w] ∧ S.Ok ∧ Rm (BesideAt C b p us) L L1 ∧ StoreAt C.Store p S ∈ L1 ∧ us.length < 1000 ∧ q.pre K C L L1 S v w ∧ q ≠ .make ∧
  ∀ r, Q r (dt r (q.tell S us).1 :: BesideAt C b p (q.tell S us).2 :: L1)
section
variable {K : PySem.W.Frag} {C : Cl} {L L1 : As} {Q : LK} {E : Er → As → Prop} {b p : Addr} {us us' : List P3} {S : SS} {v w : V} {d dw a : PyData}
theorem sBTry2.note (ht : (Bq.note d dw).tell S us = (a, us')) (ok : S.Ok) (r : Rm (BesideAt C b p us) L L1) (m : StoreAt C.Store p S ∈ L1) (hl : us.length < 1000) (h1 : Dsc K L v d) (h2 : Dsc K L w dw) (h3 : ∀ sc, S.at d = .ok sc → dt v d ∈ L1) (q : ∀ r, Q r (dt r a :: BesideAt C b p us' :: L1)) : sBTry2 K C [.ref b, .int 0, v, w] L Q E :=
  ⟨b, p, us, S, .note d dw, v, w, L1, rfl, ok, r, m, hl, ⟨h1, h2, h3⟩, (fun z => by cases z), fun r => by rw [ht]; exact q r⟩
theorem sBTry2.get (ht : (Bq.get d).tell S us = (a, us')) (ok : S.Ok) (r : Rm (BesideAt C b p us) L L1) (m : StoreAt C.Store p S ∈ L1) (hl : us.length < 1000) (h1 : Dsc K L v d) (q : ∀ r, Q r (dt r a :: BesideAt C b p us' :: L1)) : sBTry2 K C [.ref b, .int 1, v, w] L Q E :=
  ⟨b, p, us, S, .get d, v, w, L1, rfl, ok, r, m, hl, h1, (fun z => by cases z), fun r => by rw [ht]; exact q r⟩
theorem sBTry2.clear (ht : (Bq.clear d).tell S us = (a, us')) (ok : S.Ok) (r : Rm (BesideAt C b p us) L L1) (m : StoreAt C.Store p S ∈ L1) (hl : us.length < 1000) (h1 : Dsc K L v d) (q : ∀ r, Q r (dt r a :: BesideAt C b p us' :: L1)) : sBTry2 K C [.ref b, .int 2, v, w] L Q E :=
  ⟨b, p, us, S, .clear d, v, w, L1, rfl, ok, r, m, hl, h1, (fun z => by cases z), fun r => by rw [ht]; exact q r⟩
end
/-! what is due -/
def dueD (es : List P3) (h : Int × Int) : PyData := match valV (kvE es) h with
  | some (.int i) => .int i
  | _ => .none
theorem due_dt (es : List P3) (h : Int × Int) (T : Hp) : Dt T ((valV (kvE es) h).getD .non) (dueD es h) := by
  unfold dueD
  rw [kvE_val]
  cases es.find? fun x => decide (x.1 = h) with
  | none => exact .non
  | some u => exact .int _
theorem due_res {us es : List P3} (k : KU us es) (h : Int × Int) : resD us h = dueD es h := resD_val k
theorem pl_due (es : List P3) (h : Int × Int) (k : Nat) : pl k (dueD es h) = true := by
  unfold dueD
  split <;> cases k <;> rfl
def dueT (S : SS) (es : List P3) (w : Int) (h : Int × Int) (k : Int) : PyData × List P3 :=
  if S.holds h.1 h.2 = true then (dueD es h, if w = 0 then putE es (h, k) else if w = 2 then es.filter (fun x => decide (x.1 ≠ h)) else es) else (refD .Stale, es)
def sDue (C : Cl) : SpL := fun vs L Q _ => ∃ (p kd : Addr) (w : Int) (v : V) (k : Int) (S : SS) (es : List P3) (h : Int × Int) (L1 : As), vs = [.ref p, .ref kd, .int w, v, .int k] ∧ S.Ok ∧ Rm (pt kd (.dT (kt (kvE es)))) L L1 ∧ StoreAt C.Store p S ∈ L1 ∧ dt v (hD h) ∈ L1 ∧ InR S.n S.r h ∧ es.length < 1000 ∧ (es.map (·.1.1)).Nodup ∧ (w = 0 ∨ w = 1 ∨ w = 2) ∧
  ∀ r, Q r (dt r (dueT S es w h k).1 :: pt kd (.dT (kt (kvE (dueT S es w h k).2))) :: L1)
theorem leftH {es gs : List P3} {g : P3} (nd : (es.map (·.1.1)).Nodup) (hg : g ∈ es) : (es.filter fun u => decide (u ∉ gs ++ [g])) = (es.filter fun u => decide (u ∉ gs)).filter fun u => decide (u.1 ≠ g.1) := by
  rw [List.filter_filter]
  refine List.filter_congr fun u hu => ?_
  have key : u = g ↔ u.1 = g.1 := ⟨fun e => by rw [e], fun e => inj_slot nd hu hg (by rw [e])⟩
  rw [Bool.eq_iff_iff, Bool.and_eq_true, decide_eq_true_eq, decide_eq_true_eq, decide_eq_true_eq, List.mem_append, List.mem_singleton, key]
  constructor
  · intro h
    exact ⟨fun z => h (.inr z), fun z => h (.inl z)⟩
  · rintro ⟨h1, h2⟩ (z | z)
    · exact h2 z
    · exact h1 z
theorem kvE_in {es : List P3} {g : P3} (nd : (es.map (·.1.1)).Nodup) (hg : g ∈ es) : valV (kvE es) g.1 = some (.int g.2) := by
  rw [kvE_val]
  cases e2 : es.find? (fun x => decide (x.1 = g.1)) with
  | none =>
    have := List.find?_eq_none.mp e2 g hg
    simp at this
  | some w =>
    have hw := List.mem_of_find?_eq_some e2
    have hw2 : w.1 = g.1 := by have := List.find?_some e2; simpa using this
    rw [inj_slot nd hw hg (by rw [hw2])]; rfl
theorem kvE_putE {es : List P3} {h : Int × Int} {k : Int} : putK (kvE (dropU es h.1)) h (.int k) = kvE (putE es (h, k)) := by
  rw [putK_new]
  · unfold kvE putE
    rw [List.map_append]; rfl
  · rw [valV_kn, kvE_keys]
    intro z
    obtain ⟨u, hu, e⟩ := List.mem_map.mp z
    have := (List.mem_filter.mp hu).2
    simp [e] at this
theorem src_zipV {K : PySem.W.Frag} {l m : Addr} {xs ys : List V} : Src (Itz K l m) (min xs.length ys.length) [pt l (.lst xs), pt m (.lst ys)] (Y2 fun i x1 x2 Ly => xs[i]? = some x1 ∧ ys[i]? = some x2 ∧ Ly = []) := by
  refine ⟨_, _, walk_zip (xs := xs) (ys := ys) rfl, fun H L o h => ⟨SqL.of (o.pt (h _ (.head _))), SqL.of (o.pt (h _ (.tail _ (.head _))))⟩, fun i H x H' L hi o h hy => ?_⟩
  obtain ⟨T, x1, x2, rfl, hn, rfl, e1, e2⟩ := hy
  exact ⟨_, ⟨T, x1, x2, _, rfl, rfl, e1, e2, rfl⟩, o.newT hn⟩
theorem OL.know {X : Cx} {f : Value → Value → Sem Value} {x y : V} {L : As} {Q : LK} {φ : Prop} (h : ∀ H, Own H L → φ) (q : φ → OL X f x y L Q) : OL X f x y L Q := ⟨fun H o => (q (h H o)).run H o⟩
theorem GL.knowP {X : Cx} {tg : Expr} {v : V} {σ : St} {L : As} {QS : SK} {φ : Prop} (h : ∀ H, Own H L → φ) (q : φ → GL X tg v σ L QS) : GL X tg v σ L QS := ⟨fun H o => (q (h H o)).run H o⟩
end Sh
namespace Sh
open PySem PySem.Spec L2 PyProof.Rows
/-! ### lists through slots: plain laws -/
structure Nk where
  l : Int
  ah : Option (Int × Int)
  be : Option (Int × Int)
structure CR where
  S : SS
  hd : List (Option (Int × Int))
  tl : List (Option (Int × Int))
  nd : Int → Nk
abbrev Rws := List (List (Int × Int))
def fup (f : Int → Nk) (s : Int) (x : Nk) : Int → Nk := fun t => if t = s then x else f t
theorem fup_same {f : Int → Nk} {s : Int} {x : Nk} : fup f s x s = x := if_pos rfl
theorem fup_ne {f : Int → Nk} {s t : Int} {x : Nk} (h : t ≠ s) : fup f s x t = f t := if_neg h
def CR.lkA (R : CR) (i : Nat) (ah be : Option (Int × Int)) : CR := match ah with
  | none => { R with hd := R.hd.set i be }
  | some a => { R with nd := fup R.nd a.1 ⟨(R.nd a.1).l, (R.nd a.1).ah, be⟩ }
def CR.lkB (R : CR) (i : Nat) (ah be : Option (Int × Int)) : CR := match be with
  | none => { R with tl := R.tl.set i ah }
  | some b => { R with nd := fup R.nd b.1 ⟨(R.nd b.1).l, ah, (R.nd b.1).be⟩ }
def CR.link (R : CR) (i : Nat) (ah be : Option (Int × Int)) : CR := (R.lkA i ah be).lkB i ah be
abbrev onS (o : Option (Int × Int)) (t : Int) : Prop := o.map (·.1) = some t
section
variable {R : CR} {i : Nat} {ah be : Option (Int × Int)} {t : Int}
theorem lkA_S : (R.lkA i ah be).S = R.S := by cases ah <;> rfl
theorem lkB_S : (R.lkB i ah be).S = R.S := by cases be <;> rfl
theorem link_S : (R.link i ah be).S = R.S := lkB_S.trans lkA_S
theorem link_hd : (R.link i ah be).hd = if ah = none then R.hd.set i be else R.hd := by
  cases ah <;> cases be <;> simp [CR.link, CR.lkA, CR.lkB]
theorem link_tl : (R.link i ah be).tl = if be = none then R.tl.set i ah else R.tl := by
  cases ah <;> cases be <;> simp [CR.link, CR.lkA, CR.lkB]
theorem link_nd : (R.link i ah be).nd t = ⟨(R.nd t).l, if onS be t then ah else (R.nd t).ah, if onS ah t then be else (R.nd t).be⟩ := by
  cases ah with
  | none =>
    cases be with
    | none => simp [CR.link, CR.lkA, CR.lkB, onS]
    | some b =>
      by_cases h : t = b.1
      · subst h; simp [CR.link, CR.lkA, CR.lkB, onS, fup]
      · have h' : b.1 ≠ t := fun z => h z.symm
        simp [CR.link, CR.lkA, CR.lkB, onS, fup, h, h']
  | some a =>
    cases be with
    | none =>
      by_cases h : t = a.1
      · subst h; simp [CR.link, CR.lkA, CR.lkB, onS, fup]
      · have h' : a.1 ≠ t := fun z => h z.symm
        simp [CR.link, CR.lkA, CR.lkB, onS, fup, h, h']
    | some b =>
      by_cases h : t = a.1
      · subst h
        by_cases g : a.1 = b.1
        · simp [CR.link, CR.lkA, CR.lkB, onS, fup, g]
        · have g' : b.1 ≠ a.1 := fun z => g z.symm
          simp [CR.link, CR.lkA, CR.lkB, onS, fup, g, g']
      · have h' : a.1 ≠ t := fun z => h z.symm
        by_cases g : t = b.1
        · subst g
          simp [CR.link, CR.lkA, CR.lkB, onS, fup, h, h']
        · have g' : b.1 ≠ t := fun z => g z.symm
          simp [CR.link, CR.lkA, CR.lkB, onS, fup, h, h', g, g']
end
/-- the rows are told by heads, tails and neighbours -/
structure Lk (R : CR) (rows : Rws) : Prop where
  hd : R.hd = rows.map List.head?
  tl : R.tl = rows.map List.getLast?
  nd : (rows.flatten.map (·.1)).Nodup
  nb : ∀ (i : Nat) a h b, rows[i]? = some (a ++ h :: b) → R.nd h.1 = ⟨(i : Int), a.getLast?, b.head?⟩
theorem uniq_row : ∀ {a a' b b' : List (Int × Int)} {x y : Int × Int}, ((a ++ x :: b).map (·.1)).Nodup → a ++ x :: b = a' ++ y :: b' → x.1 = y.1 → a = a' ∧ x = y ∧ b = b'
  | [], [], b, b', x, y, _, e, _ => by injection e with e1 e2; exact ⟨rfl, e1, e2⟩
  | [], z :: a', b, b', x, y, n, e, q => by
    injection e with e1 e2
    subst e1 e2
    rw [List.nil_append, List.map_cons, List.nodup_cons] at n
    exact absurd (by rw [q]; exact List.mem_map_of_mem (List.mem_append_right a' List.mem_cons_self)) n.1
  | z :: a, [], b, b', x, y, n, e, q => by
    injection e with e1 e2
    subst e1 e2
    rw [List.cons_append, List.map_cons, List.nodup_cons] at n
    exact absurd (by rw [← q]; exact List.mem_map_of_mem (List.mem_append_right a List.mem_cons_self)) n.1
  | z :: a, z' :: a', b, b', x, y, n, e, q => by
    injection e with e1 e2
    rw [List.cons_append, List.map_cons, List.nodup_cons] at n
    obtain ⟨h1, h2, h3⟩ := uniq_row n.2 e2 q
    exact ⟨by rw [e1, h1], h2, h3⟩
theorem nd_row {rows : Rws} {i : Nat} {row : List (Int × Int)} (nd : (rows.flatten.map (·.1)).Nodup) (h : rows[i]? = some row) : (row.map (·.1)).Nodup :=
  List.Nodup.sublist (List.Sublist.map _ (List.sublist_flatten_of_mem (List.mem_of_getElem? h))) nd
theorem last_snoc {a : List (Int × Int)} {y : Int × Int} (h : a.getLast? = some y) : ∃ a2, a = a2 ++ [y] := by
  rcases List.eq_nil_or_concat a with rfl | ⟨a2, z, rfl⟩
  · cases h
  · rw [List.concat_eq_append, List.getLast?_concat] at h
    cases h
    exact ⟨a2, List.concat_eq_append⟩
theorem head_cons {a : List (Int × Int)} {y : Int × Int} (h : a.head? = some y) : ∃ a2, a = y :: a2 := by
  cases a with
  | nil => cases h
  | cons z a => cases h; exact ⟨a, rfl⟩
theorem onS_some {o : Option (Int × Int)} {t : Int} (h : onS o t) : ∃ y, o = some y ∧ y.1 = t := by
  cases o with
  | none => cases h
  | some y => exact ⟨y, rfl, Option.some.inj h⟩
theorem set_map_same {β : Type} {rows : Rws} {f : List (Int × Int) → β} {i : Nat} {row row' : List (Int × Int)} (h : rows[i]? = some row) (e : f row' = f row) : (rows.set i row').map f = rows.map f := by
  rw [List.map_set, e]
  apply List.ext_getElem?
  intro k
  rw [List.getElem?_set]
  by_cases z : i = k
  · subst z
    obtain ⟨hl, hr⟩ := List.getElem?_eq_some_iff.mp h
    rw [if_pos rfl, if_pos (by rw [List.length_map]; exact hl), List.getElem?_map, h]; rfl
  · rw [if_neg z]
theorem flat_split {rows : Rws} {i : Nat} {row : List (Int × Int)} (h : rows[i]? = some row) : rows = rows.take i ++ row :: rows.drop (i + 1) := by
  obtain ⟨hl, hr⟩ := List.getElem?_eq_some_iff.mp h
  conv => lhs; rw [← List.take_append_drop i rows, List.drop_eq_getElem_cons hl, hr]
theorem set_split {rows : Rws} {i : Nat} {row row' : List (Int × Int)} (h : rows[i]? = some row) : rows.set i row' = rows.take i ++ row' :: rows.drop (i + 1) := by
  rw [List.set_eq_take_append_cons_drop, if_pos (List.getElem?_eq_some_iff.mp h).1]
/-- what the rows hold, when one row is another one -/
theorem flat_out {rows : Rws} {i : Nat} {a b : List (Int × Int)} {h : Int × Int} (e : rows[i]? = some (a ++ h :: b)) : rows.flatten.Perm (h :: (rows.set i (a ++ b)).flatten) := by
  rw [set_split e]
  conv => lhs; rw [flat_split e]
  rw [List.flatten_append, List.flatten_cons, List.flatten_append, List.flatten_cons]
  have : (a ++ h :: b) ++ (rows.drop (i + 1)).flatten = a ++ h :: (b ++ (rows.drop (i + 1)).flatten) := by simp
  rw [this]
  refine List.Perm.trans ?_ List.perm_middle
  rw [List.append_assoc]
  exact List.Perm.append_left _ List.perm_middle
theorem flat_ins {rows : Rws} {i : Nat} {a b : List (Int × Int)} {h : Int × Int} (e : rows[i]? = some (a ++ b)) : (rows.set i (a ++ h :: b)).flatten.Perm (h :: rows.flatten) := by
  have hl := (List.getElem?_eq_some_iff.mp e).1
  have e2 : (rows.set i (a ++ h :: b))[i]? = some (a ++ h :: b) := List.getElem?_set_self hl
  have := flat_out e2
  rw [List.set_set] at this
  refine this.trans ?_
  have e3 : rows.set i (a ++ b) = rows := by
    rw [set_split e]; exact (flat_split e).symm
  rw [e3]
section
variable {R : CR} {rows : Rws} {i : Nat} {a b : List (Int × Int)} {h k : Int × Int}
theorem Lk.inI (l : Lk R rows) {j : Nat} {a' b' : List (Int × Int)} (e1 : rows[i]? = some (a ++ h :: b)) (e2 : rows[j]? = some (a' ++ k :: b')) (e : h.1 = k.1) : i = j ∧ a = a' ∧ h = k ∧ b = b' := by
  have n1 := l.nb i a h b e1
  have n2 := l.nb j a' k b' e2
  rw [e, n2] at n1
  have hij : i = j := by
    have := congrArg Nk.l n1
    dsimp only at this
    omega
  subst hij
  rw [e1] at e2
  have e3 := Option.some.inj e2
  obtain ⟨x, y, z⟩ := uniq_row (nd_row l.nd e1) e3 e
  exact ⟨rfl, x, y, z⟩
theorem Lk.out (l : Lk R rows) (e : rows[i]? = some (a ++ h :: b)) : Lk (R.link i a.getLast? b.head?) (rows.set i (a ++ b)) := by
  have hl := (List.getElem?_eq_some_iff.mp e).1
  refine ⟨?_, ?_, ?_, fun j a' k b' ej => ?_⟩
  · rw [link_hd, l.hd]
    cases a with
    | nil =>
      rw [if_pos (by rfl), List.map_set]; rfl
    | cons x a =>
      rw [if_neg (by simp)]
      exact (set_map_same e (by rfl)).symm
  · rw [link_tl, l.tl]
    cases b with
    | nil =>
      rw [if_pos (by rfl), List.map_set, List.append_nil]
    | cons x b =>
      rw [if_neg (by simp)]
      exact (set_map_same e (by simp [List.getLast?_append, List.getLast?_cons])).symm
  · have := ((flat_out e).map (·.1)).nodup_iff.mp l.nd
    rw [List.map_cons, List.nodup_cons] at this
    exact this.2
  · rw [link_nd]
    by_cases z : i = j
    · subst z
      rw [List.getElem?_set_self hl] at ej
      have ej := Option.some.inj ej
      have low : ∀ c, a' = a ++ c → b = c ++ k :: b' → (⟨(R.nd k.1).l, if onS b.head? k.1 then a.getLast? else (R.nd k.1).ah, if onS a.getLast? k.1 then b.head? else (R.nd k.1).be⟩ : Nk) = ⟨(i : Int), a'.getLast?, b'.head?⟩ := fun c e1 e2 => by
        subst e1 e2
        have e' : rows[i]? = some ((a ++ h :: c) ++ k :: b') := by rw [e]; simp
        rw [l.nb i _ _ _ e']
        have n1 : ¬ onS a.getLast? k.1 := fun q => by
          obtain ⟨y, q1, q2⟩ := onS_some q
          obtain ⟨a2, rfl⟩ := last_snoc q1
          have e3 : rows[i]? = some (a2 ++ y :: (h :: (c ++ k :: b'))) := by rw [e]; simp
          obtain ⟨_, x1, _⟩ := l.inI e3 e' q2
          have := congrArg List.length x1
          simp at this
        rw [if_neg n1]
        cases c with
        | nil =>
          rw [if_pos (by rfl), List.append_nil]
        | cons y c =>
          rw [if_neg (fun q => ?_)]
          · simp [List.getLast?_append, List.getLast?_cons]
          · obtain ⟨y', q1, q2⟩ := onS_some q
            cases q1
            have e3 : rows[i]? = some ((a ++ [h]) ++ y :: (c ++ k :: b')) := by rw [e]; simp
            obtain ⟨_, x1, _⟩ := l.inI e3 e' q2
            have := congrArg List.length x1
            simp at this
      rcases List.append_eq_append_iff.mp ej with ⟨c, e1, e2⟩ | ⟨c, e1, e2⟩
      · exact low c e1 e2
      · cases c with
        | nil => exact low [] (by rw [e1, List.append_nil, List.append_nil]) e2.symm
        | cons y c =>
          rw [List.cons_append] at e2
          injection e2 with e2 e3
          subst e2 e3
          have e' : rows[i]? = some (a' ++ k :: (c ++ h :: b)) := by rw [e, e1]; simp
          rw [l.nb i _ _ _ e']
          have n1 : ¬ onS b.head? k.1 := fun q => by
            obtain ⟨y, q1, q2⟩ := onS_some q
            obtain ⟨b2, rfl⟩ := head_cons q1
            have e3 : rows[i]? = some ((a ++ [h]) ++ y :: b2) := by rw [e]; simp
            obtain ⟨_, x1, _⟩ := l.inI e3 e' q2
            have := congrArg List.length x1
            rw [e1] at this
            simp at this
          rw [if_neg n1]
          rcases List.eq_nil_or_concat c with rfl | ⟨c2, y, rfl⟩
          · rw [if_pos (by rw [e1]; simp [onS])]
            rfl
          · rw [if_neg (fun q => ?_)]
            · cases c2 <;> rfl
            · obtain ⟨y', q1, q2⟩ := onS_some q
              rw [e1, List.concat_eq_append] at q1
              have : y = y' := by
                have q3 : a' ++ k :: (c2 ++ [y]) = (a' ++ k :: c2) ++ [y] := by simp
                rw [q3, List.getLast?_concat] at q1
                exact Option.some.inj q1
              subst this
              have e3 : rows[i]? = some ((a' ++ k :: c2) ++ y :: (h :: b)) := by rw [e, e1, List.concat_eq_append]; simp
              obtain ⟨_, x1, _⟩ := l.inI e3 e' q2
              have := congrArg List.length x1
              simp at this
    · rw [List.getElem?_set_ne z] at ej
      rw [l.nb j _ _ _ ej, if_neg (fun q => ?_), if_neg (fun q => ?_)]
      · obtain ⟨y, q1, q2⟩ := onS_some q
        obtain ⟨a2, rfl⟩ := last_snoc q1
        have e3 : rows[i]? = some (a2 ++ y :: (h :: b)) := by rw [e]; simp
        exact z (l.inI e3 ej q2).1
      · obtain ⟨y, q1, q2⟩ := onS_some q
        obtain ⟨b2, rfl⟩ := head_cons q1
        have e3 : rows[i]? = some ((a ++ [h]) ++ y :: b2) := by rw [e]; simp
        exact z (l.inI e3 ej q2).1
theorem Lk.ins (l : Lk R rows) (e : rows[i]? = some (a ++ b)) (hn : h.1 ∉ rows.flatten.map (·.1)) (hl0 : (R.nd h.1).l = (i : Int)) : Lk ((R.link i a.getLast? (some h)).link i (some h) b.head?) (rows.set i (a ++ h :: b)) := by
  have hl := (List.getElem?_eq_some_iff.mp e).1
  have inF : ∀ {j : Nat} {a' b' : List (Int × Int)} {k : Int × Int}, rows[j]? = some (a' ++ k :: b') → k.1 ≠ h.1 := fun {j a' b' k} ej z => hn (by
    rw [← z]
    exact List.mem_map_of_mem (List.mem_flatten.mpr ⟨_, List.mem_of_getElem? ej, List.mem_append_right _ List.mem_cons_self⟩))
  have nh : ∀ {k : Int × Int}, k.1 ≠ h.1 → ¬ onS (some h) k.1 := fun {k} ne q => ne (Option.some.inj q).symm
  refine ⟨?_, ?_, ?_, fun j a' k b' ej => ?_⟩
  · rw [link_hd, if_neg (by simp), link_hd, l.hd]
    cases a with
    | nil => rw [if_pos (by rfl), List.map_set]; rfl
    | cons x a =>
      rw [if_neg (by simp)]
      exact (set_map_same e (by rfl)).symm
  · rw [link_tl, link_tl, if_neg (by simp : ¬ (some h : Option (Int × Int)) = none), l.tl]
    cases b with
    | nil =>
      rw [if_pos (by rfl), List.map_set]
      congr 1
      simp
    | cons x b =>
      rw [if_neg (by simp)]
      exact (set_map_same e (by simp [List.getLast?_append, List.getLast?_cons])).symm
  · refine ((flat_ins e).map (·.1)).nodup_iff.mpr ?_
    rw [List.map_cons, List.nodup_cons]
    exact ⟨hn, l.nd⟩
  · rw [link_nd, link_nd]
    dsimp only
    by_cases z : i = j
    · subst z
      rw [List.getElem?_set_self hl] at ej
      have ej := Option.some.inj ej
      have self : a' = a → k = h → b' = b → (⟨(R.nd k.1).l, if onS b.head? k.1 then some h else if onS (some h) k.1 then a.getLast? else (R.nd k.1).ah, if onS (some h) k.1 then b.head? else if onS a.getLast? k.1 then some h else (R.nd k.1).be⟩ : Nk) = ⟨(i : Int), a'.getLast?, b'.head?⟩ := fun x1 x2 x3 => by
        subst x1 x2 x3
        rw [hl0, if_neg (fun q => ?_), if_pos (by rfl), if_pos (by rfl)]
        obtain ⟨y, q1, q2⟩ := onS_some q
        obtain ⟨b2, rfl⟩ := head_cons q1
        exact inF (k := y) e q2
      rcases List.append_eq_append_iff.mp ej with ⟨c, e1, e2⟩ | ⟨c, e1, e2⟩
      · cases c with
        | nil =>
          injection e2 with e2 e3
          exact self (by rw [e1, List.append_nil]) e2.symm e3.symm
        | cons y c =>
          rw [List.cons_append] at e2
          injection e2 with e2 e3
          subst e1 e2 e3
          have e' : rows[i]? = some ((a ++ c) ++ k :: b') := by rw [e]; simp
          have ne := inF e'
          rw [l.nb i _ _ _ e', if_neg (nh ne), if_neg (nh ne)]
          have n1 : ¬ onS a.getLast? k.1 := fun q => by
            obtain ⟨y, q1, q2⟩ := onS_some q
            obtain ⟨a2, rfl⟩ := last_snoc q1
            have e3 : rows[i]? = some (a2 ++ y :: (c ++ k :: b')) := by rw [e]; simp
            obtain ⟨_, x1, _⟩ := l.inI e3 e' q2
            have := congrArg List.length x1
            simp at this
          rw [if_neg n1]
          cases c with
          | nil =>
            rw [if_pos (by rfl)]
            simp
          | cons y c =>
            rw [if_neg (fun q => ?_)]
            · simp [List.getLast?_append, List.getLast?_cons]
            · obtain ⟨y', q1, q2⟩ := onS_some q
              cases q1
              have e3 : rows[i]? = some (a ++ y :: (c ++ k :: b')) := by rw [e]; simp
              obtain ⟨_, x1, _⟩ := l.inI e3 e' q2
              have := congrArg List.length x1
              simp at this
      · cases c with
        | nil =>
          injection e2 with e2 e3
          exact self (by rw [e1, List.append_nil]) e2 e3
        | cons y c =>
          rw [List.cons_append] at e2
          injection e2 with e2 e3
          subst e1 e2 e3
          have e' : rows[i]? = some (a' ++ k :: (c ++ b)) := by rw [e]; simp
          have ne := inF e'
          rw [l.nb i _ _ _ e', if_neg (nh ne), if_neg (nh ne)]
          have n1 : ¬ onS b.head? k.1 := fun q => by
            obtain ⟨y, q1, q2⟩ := onS_some q
            obtain ⟨b2, rfl⟩ := head_cons q1
            have e3 : rows[i]? = some ((a' ++ k :: c) ++ y :: b2) := by rw [e]
            obtain ⟨_, x1, _⟩ := l.inI e3 e' q2
            have := congrArg List.length x1
            simp at this
          rw [if_neg n1]
          rcases List.eq_nil_or_concat c with rfl | ⟨c2, y, rfl⟩
          · rw [if_pos (by simp [onS])]
            rfl
          · rw [if_neg (fun q => ?_)]
            · cases c2 <;> rfl
            · obtain ⟨y', q1, q2⟩ := onS_some q
              rw [List.concat_eq_append] at q1
              have : y = y' := by
                have q3 : a' ++ k :: (c2 ++ [y]) = (a' ++ k :: c2) ++ [y] := by simp
                rw [q3, List.getLast?_concat] at q1
                exact Option.some.inj q1
              subst this
              have e3 : rows[i]? = some ((a' ++ k :: c2) ++ y :: b) := by rw [e, List.concat_eq_append]; simp
              obtain ⟨_, x1, _⟩ := l.inI e3 e' q2
              have := congrArg List.length x1
              simp at this
    · rw [List.getElem?_set_ne z] at ej
      have ne := inF ej
      rw [l.nb j _ _ _ ej, if_neg (fun q => ?_), if_neg (nh ne), if_neg (nh ne), if_neg (fun q => ?_)]
      · obtain ⟨y, q1, q2⟩ := onS_some q
        obtain ⟨a2, rfl⟩ := last_snoc q1
        have e3 : rows[i]? = some (a2 ++ y :: b) := by rw [e]; simp
        exact z (l.inI e3 ej q2).1
      · obtain ⟨y, q1, q2⟩ := onS_some q
        obtain ⟨b2, rfl⟩ := head_cons q1
        exact z (l.inI e ej q2).1
end
end Sh
namespace Sh
open PySem PySem.Spec L2 PyProof.Rows
/-! ### a store that keeps other things for the same handles -/
structure Sm (S P : SS) : Prop where
  eq : P = { S with ws := P.ws }
  keys : P.ws.map (·.1) = S.ws.map (·.1)
section
variable {S S' P P' : SS} {h k : Int × Int} {v : V} {s : Int}
theorem Sm.en (p : Sm S P) : P.n = S.n ∧ P.r = S.r ∧ P.last = S.last ∧ P.rnd = S.rnd ∧ P.cs = S.cs ∧ P.ln = S.ln ∧ P.gn = S.gn := by
  have e := p.eq
  refine ⟨?_, ?_, ?_, ?_, ?_, ?_, ?_⟩ <;> rw [e]
theorem Sm.cnt (p : Sm S P) : P.cnt s = S.cnt s := by unfold SS.cnt; rw [p.en.2.2.2.2.1]
theorem Sm.ok (p : Sm S P) (ok : S.Ok) : P.Ok := by
  obtain ⟨e1, e2, e3, e4, e5, e6, e7⟩ := p.en
  refine ⟨by rw [e1]; exact ok.n1, by rw [e1]; exact ok.n60, by rw [e2]; exact ok.r1, by rw [e2]; exact ok.rk, by rw [e5, e1]; exact ok.len, by rw [e5, e2]; exact ok.cr, ?_⟩
  rw [p.keys, e5, e6, e7]
  exact ok.parts
theorem Sm.holds (p : Sm S P) : P.holds k.1 k.2 = S.holds k.1 k.2 := by
  have e : (valV P.ws k.1).isSome = (valV S.ws k.1).isSome := by
    rw [Bool.eq_iff_iff, valV_mem, valV_mem, p.keys]
  unfold SS.holds
  rw [e, p.cnt]
theorem Sm.at (p : Sm S P) (d : PyData) : P.at d = S.at d := by
  obtain ⟨e1, e2, _⟩ := p.en
  unfold SS.at
  rw [e1, e2]
  split
  · rfl
  · rename_i s c _
    rw [show P.holds s c = S.holds s c from p.holds (k := (s, c))]
theorem Sm.put (p : Sm S P) (ok : S.Ok) (e : S.putIn v = .ok (h, S')) (w : V) : P.putIn w = .ok (h, { S' with ws := P.ws ++ [(h.1, w)] }) := by
  obtain ⟨e1, e2, e3, e4, e5, e6, e7⟩ := p.en
  have hcn : ∀ x, P.cnt x = S.cnt x := fun x => p.cnt
  obtain ⟨w1, w2⟩ := put_ws ok e
  have hn : valV P.ws h.1 = none := valV_none _ (by rw [p.keys]; exact w2)
  by_cases hl : S.ln = []
  · by_cases hc : (S.cs.length : Int) < S.n
    · rw [putIn_new hl hc] at e
      cases e
      rw [putIn_new (by rw [e6]; exact hl) (by rw [e5, e1]; exact hc), e5, e1, e2, e3, e4, e6, e7]
      dsimp only at hn ⊢
      rw [putK_new _ hn]
    · rw [putIn_full hl hc] at e
      cases e
  · rw [putIn_ln hl] at e
    cases e
    rw [putIn_ln (by rw [e6]; exact hl), e1, e2, e3, e4, e5, e6, e7, hcn]
    dsimp only at hn ⊢
    rw [putK_new _ hn]
theorem Sm.full (p : Sm S P) {er : Er} (e : S.putIn v = .error er) (w : V) : P.putIn w = .error er := by
  obtain ⟨e1, e2, e3, e4, e5, e6, e7⟩ := p.en
  obtain ⟨rfl, hl, hc⟩ := SS.put_err e
  exact putIn_full (by rw [e6]; exact hl) (by rw [e5, e1]; exact hc)
theorem Sm.dropE (p : Sm S P) : P.dropAt s = { S.dropAt s with ws := dropK P.ws s } := by
  obtain ⟨e1, e2, e3, e4, e5, e6, e7⟩ := p.en
  have e8 : P.cnt s = S.cnt s := p.cnt
  unfold SS.dropAt
  rw [e1, e2, e3, e4, e5, e6, e7, e8]
  split
  · rfl
  · split <;> rfl
end
def CR.P (R : CR) (ad : Int → Addr) : SS := { R.S with ws := R.S.ws.map fun e => (e.1, .ref (ad e.1)) }
theorem CR.sm {R : CR} {ad : Int → Addr} : Sm R.S (R.P ad) := ⟨rfl, by show (R.S.ws.map _).map _ = _; rw [List.map_map]; rfl⟩
theorem CR.val {R : CR} {ad : Int → Addr} {s : Int} {y : V} (h : valV (R.P ad).ws s = some y) : y = .ref (ad s) := by
  unfold valV at h
  obtain ⟨e, he, rfl⟩ := Option.map_eq_some_iff.mp h
  have h1 := List.find?_some he
  have h2 := List.mem_of_find?_eq_some he
  obtain ⟨e0, h3, rfl⟩ := List.mem_map.mp h2
  have : e0.1 = s := of_decide_eq_true h1
  rw [this]
/-! ### in the heap -/
def oD : Option (Int × Int) → PyData
  | none => .none
  | some h => hD h
theorem pl_oD {j : Nat} (o : Option (Int × Int)) : pl (j + 1) (oD o) = true := by
  cases o with
  | none => rfl
  | some h => exact pl_hD j h
def nkv (v : V) (l : Int) (v1 v2 : V) : List (Key × V) := [(.inr "worth", v), (.inr "list", .int l), (.inr "ahead", v1), (.inr "behind", v2)]
/-- the table of a thing -/
def ndA (a : Addr) (v : V) (n : Nk) : Asn := ex fun x : V × V => cj [pt a (.dK (nkv v n.l x.1 x.2)), dt x.1 (oD n.ah), dt x.2 (oD n.be)]
def ndsA (ad : Int → Addr) (ws : List (Int × V)) (nd : Int → Nk) : Asn := cj (ws.map fun e => ndA (ad e.1) e.2 (nd e.1))
structure ChAd where
  (dx st hd tl : Addr)
def cflds (q : ChAd) : List (Str × V) := [("store", .ref q.st), ("heads", .ref q.hd), ("tails", .ref q.tl)]
theorem cf1 {q : ChAd} : (cflds q).lookup ("store" : Str) = some (.ref q.st) := by rfl
theorem cf2 {q : ChAd} : (cflds q).lookup ("heads" : Str) = some (.ref q.hd) := by rfl
theorem cf3 {q : ChAd} : (cflds q).lookup ("tails" : Str) = some (.ref q.tl) := by rfl
abbrev rawL (C : Cl) (p : Addr) (R : CR) (w : ChAd) (ad : Int → Addr) : As := [pt p (.ins C.Chains w.dx (cflds w)), StoreAt C.Store w.st (R.P ad), ld w.hd (R.hd.map oD), ld w.tl (R.tl.map oD), ndsA ad R.S.ws R.nd]
def RawA (C : Cl) (p : Addr) (R : CR) (w : ChAd) (ad : Int → Addr) : Asn := cj (rawL C p R w ad)
theorem imp_cjE {L1 L : As} : Imp (L1 ++ L) (cj L1 :: L) := fun T h s => SLs.cjE s
theorem imp_cjI {L1 L : As} : Imp (cj L1 :: L) (L1 ++ L) := fun T h s => SLs.cjI s
theorem imp_exE {α : Type} {F : α → Asn} {L : As} (x : α) : Imp (F x :: L) (ex F :: L) := fun T h ⟨h1, h2, d, l1, l2, a, s⟩ => ⟨h1, h2, d, l1, l2, ⟨x, a⟩, s⟩
theorem imp_prE {φ : Prop} {L : As} (x : φ) : Imp L (pr φ :: L) := imp_add (fun _ _ _ => x) Imp.rfl
theorem imp_perm {L L' : As} (q : L.Perm L') : Imp L L' := fun T h s => by
  have : ∀ {L L' : List Asn}, L.Perm L' → ∀ {h : Hp}, SLs T h L → SLs T h L' := by
    intro L L' q
    induction q with
    | nil => exact fun s => s
    | cons A _ ih => exact fun ⟨h1, h2, d, l1, l2, a, s⟩ => ⟨h1, h2, d, l1, l2, a, ih s⟩
    | swap A B _ => exact fun s => s.swap
    | trans _ _ i1 i2 => exact fun s => i2 (i1 s)
  exact this q s
theorem ws_perm : ∀ {ws : List (Int × V)} {s : Int} {v : V}, (ws.map (·.1)).Nodup → (s, v) ∈ ws → ws.Perm ((s, v) :: dropK ws s)
  | a :: l, s, v, nd, hk => by
    rw [List.map_cons, List.nodup_cons] at nd
    rcases List.mem_cons.mp hk with e | hk
    · subst e
      have : dropK ((s, v) :: l) s = l := by
        unfold dropK
        rw [List.filter_cons, if_neg (by simp)]
        refine List.filter_eq_self.mpr fun x hx => ?_
        simp only [ne_eq, decide_not, Bool.not_eq_true', decide_eq_false_iff_not]
        exact fun z => nd.1 (by rw [← z]; exact List.mem_map_of_mem (f := (·.1)) hx)
      rw [this]
    · have ne : a.1 ≠ s := fun z => nd.1 (by rw [z]; exact List.mem_map_of_mem (f := (·.1)) hk)
      have : dropK (a :: l) s = a :: dropK l s := by
        unfold dropK
        rw [List.filter_cons, if_pos (by simpa using ne)]
      rw [this]
      exact ((ws_perm nd.2 hk).cons a).trans (List.Perm.swap _ _ _)
theorem ws_mem {ws : List (Int × V)} {s : Int} {v : V} (h : valV ws s = some v) : (s, v) ∈ ws := by
  unfold valV at h
  obtain ⟨e, he, rfl⟩ := Option.map_eq_some_iff.mp h
  have h1 := List.find?_some he
  have h1 : e.1 = s := of_decide_eq_true h1
  have h2 := List.mem_of_find?_eq_some he
  rw [← h1]
  exact h2
section
variable {X : Cx} {C : Cl} {σ : St} {L L' L1 L2 L3 L4 L5 G : As} {Q : LK} {D : DL} {p a : Addr} {R : CR} {s : Int} {ad : Int → Addr} {ws : List (Int × V)} {nd : Int → Nk} {v v1 v2 : V} {n : Nk} {st : List Stmt} {w : ChAd} {ah be : Option (Int × Int)} {l : Int}
theorem BL.openR (r : Rm (RawA C p R w ad) L L1) (q : BL X st D σ (rawL C p R w ad ++ L1)) : BL X st D σ L := ⟨fun H o => q.run H (Own.cjI (L1 := rawL C p R w ad) (o.front r))⟩
theorem EL.openR {e : Expr} (r : Rm (RawA C p R w ad) L L1) (q : EL X e σ (rawL C p R w ad ++ L1) Q) : EL X e σ L Q := ⟨fun H o => q.run H (Own.cjI (L1 := rawL C p R w ad) (o.front r))⟩
theorem imp_rwC : Imp (rawL C p R w ad ++ L) (RawA C p R w ad :: L) := imp_cjE (L1 := rawL C p R w ad)
theorem imp_rw (r1 : Rm (pt p (.ins C.Chains w.dx (cflds w))) L L1) (r2 : Rm (StoreAt C.Store w.st (R.P ad)) L1 L2) (r3 : Rm (ld w.hd (R.hd.map oD)) L2 L3) (r4 : Rm (ld w.tl (R.tl.map oD)) L3 L4) (r5 : Rm (ndsA ad R.S.ws R.nd) L4 L5) (k : Imp L5 G) : Imp L (RawA C p R w ad :: G) :=
  (imp_cons r1 (imp_cons r2 (imp_cons r3 (imp_cons r4 (imp_cons r5 k))))).trans imp_rwC
theorem Rc.raw {n : Str} (m : RawA C p R w ad ∈ L) (hl : ∀ q : ChAd, (cflds q).lookup n = none) : Rc L p C.Chains n := fun H o => by
  obtain ⟨L1, r⟩ := mem_rm m
  exact ⟨_, _, (Own.cjI (L1 := rawL C p R w ad) (o.front r)).pt (.head _), hl w⟩
/-! one node -/
theorem imp_ndO (nk : (ws.map (·.1)).Nodup) (m : (s, v) ∈ ws) : Imp (ndsA ad ws nd :: L) (ndA (ad s) v (nd s) :: ndsA ad (dropK ws s) nd :: L) := by
  refine (imp_cjI (L1 := ws.map fun e => ndA (ad e.1) e.2 (nd e.1))).trans ?_
  refine (imp_perm (((ws_perm nk m).map (fun e => ndA (ad e.1) e.2 (nd e.1))).append_right L)).trans ?_
  rw [List.map_cons, List.cons_append]
  exact imp_same imp_cjE
theorem nds_congr {ad' : Int → Addr} {nd' : Int → Nk} (h : ∀ e ∈ ws, ad' e.1 = ad e.1 ∧ nd' e.1 = nd e.1) : ndsA ad' ws nd' = ndsA ad ws nd := by
  unfold ndsA
  congr 1
  refine List.map_congr_left fun e he => ?_
  rw [(h e he).1, (h e he).2]
theorem drop_ne {e : Int × V} (h : e ∈ dropK ws s) : e.1 ≠ s := by
  have := (List.mem_filter.mp h).2
  simpa using this
theorem imp_ndB (nk : (ws.map (·.1)).Nodup) (m : (s, v) ∈ ws) : Imp (ndA (ad s) v n :: ndsA ad (dropK ws s) nd :: L) (ndsA ad ws (fup nd s n) :: L) := by
  have e : ndsA ad (dropK ws s) nd = ndsA ad (dropK ws s) (fup nd s n) := nds_congr fun e he => ⟨rfl, (fup_ne (drop_ne he)).symm⟩
  rw [e]
  refine Imp.trans ?_ (imp_cjE (L1 := ws.map fun e => ndA (ad e.1) e.2 (fup nd s n e.1)))
  refine Imp.trans ?_ (imp_perm (((ws_perm nk m).map (fun e => ndA (ad e.1) e.2 (fup nd s n e.1))).append_right L).symm)
  rw [List.map_cons, List.cons_append]
  dsimp only
  rw [fup_same]
  exact imp_same imp_cjI
/-- a new one -/
theorem imp_ndN (hn : s ∉ ws.map (·.1)) : Imp (ndA a v n :: ndsA ad ws nd :: L) (ndsA (fun t => if t = s then a else ad t) (ws ++ [(s, v)]) (fup nd s n) :: L) := by
  have e : ndsA ad ws nd = ndsA (fun t => if t = s then a else ad t) ws (fup nd s n) := nds_congr fun e he => by
    have ne : e.1 ≠ s := fun z => hn (by rw [← z]; exact List.mem_map_of_mem he)
    exact ⟨(if_neg ne).symm, (fup_ne ne).symm⟩
  rw [e]
  refine Imp.trans ?_ (imp_cjE (L1 := (ws ++ [(s, v)]).map fun e => ndA (if e.1 = s then a else ad e.1) e.2 (fup nd s n e.1)))
  rw [List.map_append, List.map_cons, List.map_nil]
  dsimp only
  rw [fup_same, if_pos rfl]
  refine Imp.trans (imp_same (imp_cjI (L1 := ws.map fun e : Int × V => ndA (if e.1 = s then a else ad e.1) e.2 (fup nd s n e.1)))) (imp_perm ?_)
  rw [List.append_assoc]
  exact List.perm_middle.symm
theorem BL.openN (r : Rm (ndA a v n) L L1) (q : ∀ v1 v2, BL X st D σ (pt a (.dK (nkv v n.l v1 v2)) :: dt v1 (oD n.ah) :: dt v2 (oD n.be) :: L1)) : BL X st D σ L := ⟨fun H o => by
  obtain ⟨⟨v1, v2⟩, o1⟩ := Own.exI (o.front r)
  exact (q v1 v2).run H (Own.cjI (L1 := [pt a (.dK (nkv v n.l v1 v2)), dt v1 (oD n.ah), dt v2 (oD n.be)]) o1)⟩
theorem imp_ndC : Imp (pt a (.dK (nkv v l v1 v2)) :: dt v1 (oD ah) :: dt v2 (oD be) :: L) (ndA a v ⟨l, ah, be⟩ :: L) :=
  (imp_cjE (L1 := [pt a (.dK (nkv v l v1 v2)), dt v1 (oD ah), dt v2 (oD be)])).trans (imp_exE (F := fun x : V × V => cj [pt a (.dK (nkv v l x.1 x.2)), dt x.1 (oD ah), dt x.2 (oD be)]) (v1, v2))
/-- a node of the tables, opened: then one statement list runs, then it is closed -/
theorem BL.node (nk : (ws.map (·.1)).Nodup) (m : (s, v) ∈ ws) (r : Rm (ndsA ad ws nd) L L1) (q : ∀ v1 v2, BL X st D σ (pt (ad s) (.dK (nkv v (nd s).l v1 v2)) :: dt v1 (oD (nd s).ah) :: dt v2 (oD (nd s).be) :: ndsA ad (dropK ws s) nd :: L1)) : BL X st D σ L :=
  BL.sub ((imp_cons r Imp.rfl).trans (imp_ndO nk m)) (BL.openN .here q)
theorem imp_node (nk : (ws.map (·.1)).Nodup) (m : (s, v) ∈ ws) (r1 : Rm (pt (ad s) (.dK (nkv v l v1 v2))) L L1) (d1 : Dsi L1 v1 (oD ah)) (d2 : Dsi L1 v2 (oD be)) (r2 : Rm (ndsA ad (dropK ws s) nd) L1 L2) (k : Imp L2 G) : Imp L (ndsA ad ws (fup nd s ⟨l, ah, be⟩) :: G) :=
  (imp_cons r1 (imp_dsi d1 (imp_dsi d2 (imp_cons r2 k)))).trans (imp_ndC.trans (imp_ndB nk m))
end
/-! ### the chains -/
/-- plain facts -/
structure Cf (S : SS) (rows : Rws) : Prop where
  ok : S.Ok
  wi : S.Wi
  pm : rows.flatten.Perm S.lvU
  l1 : 1 ≤ rows.length
  l9 : rows.length ≤ 9
structure Rw (R : CR) (S : SS) (rows : Rws) : Prop where
  es : R.S = S
  cf : Cf S rows
  lk : Lk R rows
def ChAt (C : Cl) (p : Addr) (S : SS) (rows : Rws) : Asn := ex fun x : CR × ChAd × (Int → Addr) => cj [pr (Rw x.1 S rows), RawA C p x.1 x.2.1 x.2.2]
section
variable {X : Cx} {C : Cl} {σ : St} {L L' L1 L2 G : As} {Q : LK} {D : DL} {p : Addr} {R : CR} {S : SS} {rows : Rws} {st : List Stmt} {h : Int × Int} {w : ChAd} {ad : Int → Addr}
theorem BL.openC (r : Rm (ChAt C p S rows) L L1) (q : ∀ R w ad, Rw R S rows → BL X st D σ (RawA C p R w ad :: L1)) : BL X st D σ L := ⟨fun H o => by
  obtain ⟨⟨R, w, ad⟩, o1⟩ := Own.exI (o.front r)
  obtain ⟨rw, o2⟩ := Own.prI (Own.cjI (L1 := [pr (Rw R S rows), RawA C p R w ad]) o1)
  exact (q R w ad rw).run H o2⟩
theorem imp_chC (z : Rw R S rows) : Imp (RawA C p R w ad :: L) (ChAt C p S rows :: L) :=
  (imp_prE z).trans ((imp_cjE (L1 := [pr (Rw R S rows), RawA C p R w ad])).trans (imp_exE (F := fun x : CR × ChAd × (Int → Addr) => cj [pr (Rw x.1 S rows), RawA C p x.1 x.2.1 x.2.2]) (R, w, ad)))
theorem Rc.ch {n : Str} (m : ChAt C p S rows ∈ L) (hl : ∀ q : ChAd, (cflds q).lookup n = none) : Rc L p C.Chains n := fun H o => by
  obtain ⟨L1, r⟩ := mem_rm m
  obtain ⟨⟨R, w, ad⟩, o1⟩ := Own.exI (o.front r)
  obtain ⟨rw, o2⟩ := Own.prI (Own.cjI (L1 := [pr (Rw R S rows), RawA C p R w ad]) o1)
  exact Rc.raw (.head _) hl H o2
/-- what is known of chains that stand -/
theorem own_cf {H : Hp} (o : Own H L) (m : ChAt C p S rows ∈ L) : Cf S rows := by
  obtain ⟨L1, r⟩ := mem_rm m
  obtain ⟨⟨R, w, ad⟩, o1⟩ := Own.exI (o.front r)
  obtain ⟨rw, o2⟩ := Own.prI (Own.cjI (L1 := [pr (Rw R S rows), RawA C p R w ad]) o1)
  exact rw.cf
theorem BL.cf (m : ChAt C p S rows ∈ L) (q : Cf S rows → BL X st D σ L) : BL X st D σ L := BL.know (fun H o => own_cf o m) q
theorem EL.cf {e : Expr} (m : ChAt C p S rows ∈ L) (q : Cf S rows → EL X e σ L Q) : EL X e σ L Q := EL.know (fun H o => own_cf o m) q
theorem GL.cf {tg : Expr} {v : V} {QS : SK} (m : ChAt C p S rows ∈ L) (q : Cf S rows → GL X tg v σ L QS) : GL X tg v σ L QS := GL.knowP (fun H o => own_cf o m) q
theorem OL.cf {f : Value → Value → Sem Value} {x y : V} (m : ChAt C p S rows ∈ L) (q : Cf S rows → OL X f x y L Q) : OL X f x y L Q := OL.know (fun H o => own_cf o m) q
end
section
variable {S : SS} {rows : Rws} {h : Int × Int} {i : Nat} {a b : List (Int × Int)}
theorem Cf.mem (c : Cf S rows) : h ∈ rows.flatten ↔ S.holds h.1 h.2 = true := c.pm.mem_iff.trans mem_lvU
theorem Cf.nd (c : Cf S rows) : (rows.flatten.map (·.1)).Nodup := by
  have : (rows.flatten.map (·.1)).Perm (S.lvU.map (·.1)) := c.pm.map _
  rw [lvU_keys] at this
  exact this.nodup_iff.mpr c.ok.ndW
/-- where a held handle stands -/
theorem Cf.row (c : Cf S rows) (hh : S.holds h.1 h.2 = true) : ∃ (i : Nat) (a b : List (Int × Int)), rows[i]? = some (a ++ h :: b) := by
  obtain ⟨row, h1, h2⟩ := List.mem_flatten.mp (c.mem.mpr hh)
  obtain ⟨i, hi, e⟩ := List.getElem_of_mem h1
  obtain ⟨a, b, rfl⟩ := List.append_of_mem h2
  exact ⟨i, a, b, List.getElem?_eq_some_iff.mpr ⟨hi, e⟩⟩
theorem mem_flat (e : rows[i]? = some (a ++ h :: b)) : h ∈ rows.flatten := List.mem_flatten.mpr ⟨_, List.mem_of_getElem? e, List.mem_append_right _ List.mem_cons_self⟩
theorem Cf.held (c : Cf S rows) (e : rows[i]? = some (a ++ h :: b)) : S.holds h.1 h.2 = true := c.mem.mp (mem_flat e)
theorem Cf.lenR (c : Cf S rows) {row : List (Int × Int)} (e : rows[i]? = some row) : row.length ≤ 60 := by
  have h1 := c.pm.length_eq
  have h2 : S.lvU.length = S.ws.length := List.length_map _
  have h3 := c.ok.lenW
  have h4 := (List.sublist_flatten_of_mem (List.mem_of_getElem? e)).length_le
  omega
theorem Cf.val (c : Cf S rows) (hh : S.holds h.1 h.2 = true) : valV S.ws h.1 = some (.int (wI S h.1)) ∧ (h.1, .int (wI S h.1)) ∈ S.ws := by
  have := (wI_wth c.wi hh).1
  exact ⟨this, ws_mem this⟩
end
end Sh
namespace Sh
open PySem PySem.Spec L2 PyProof.Rows
/-! ### promises of the chains -/
abbrev isN (rows : Rws) (d : PyData) : Bool := isWhole d 0 ((rows.length : Int) - 1)
def sCNeed (K : PySem.W.Frag) (C : Cl) : SpL := fun vs L Q E => ∃ (p : Addr) (R : CR) (w : ChAd) (ad : Int → Addr) (v : V) (d : PyData), vs = [.ref p, v] ∧ RawA C p R w ad ∈ L ∧ Dsc K L v d ∧
  (isWhole d 0 ((R.hd.length : Int) - 1) = false → E .NoList L) ∧ (∀ i : Nat, d = .int (i : Int) → i < R.hd.length → v = .int (i : Int) → Q .non L)
def sCLink (C : Cl) : SpL := fun vs L Q E => ∃ (p : Addr) (R : CR) (w : ChAd) (ad : Int → Addr) (i : Nat) (va vb : V) (ah be : Option (Int × Int)) (L1 : As), vs = [.ref p, .int (i : Int), va, vb] ∧ Rm (RawA C p R w ad) L L1 ∧ R.S.Ok ∧ R.S.Wi ∧ i < R.hd.length ∧ i < R.tl.length ∧
  Dsi L1 va (oD ah) ∧ Dsi L1 vb (oD be) ∧ (∀ h, ah = some h → R.S.holds h.1 h.2 = true) ∧ (∀ h, be = some h → R.S.holds h.1 h.2 = true) ∧ Q .non (RawA C p (R.link i ah be) w ad :: L1)
def sCPutB (C : Cl) : SpL := fun vs L Q E => ∃ (p : Addr) (R : CR) (w : ChAd) (ad : Int → Addr) (S : SS) (rows : Rws) (i : Nat) (a b : List (Int × Int)) (va vb : V) (x : Int) (L1 : As), vs = [.ref p, .int (i : Int), va, vb, .int x] ∧ Rw R S rows ∧ Imp L (RawA C p R w ad :: L1) ∧ rows[i]? = some (a ++ b) ∧
  Dsi L1 va (oD a.getLast?) ∧ Dsi L1 vb (oD b.head?) ∧ (∀ h S', S.putIn (.int x) = .ok (h, S') → ∀ t, Q (.ref t) (dt (.ref t) (hD h) :: ChAt C p S' (rows.set i (a ++ h :: b)) :: L1)) ∧ (∀ e, S.putIn (.int x) = .error e → E e (ChAt C p S rows :: L1))
/-- put_last, put_first -/
def sCPutN (K : PySem.W.Frag) (C : Cl) (F : Int × Int → List (Int × Int) → List (Int × Int)) : SpL := fun vs L Q E => ∃ (p : Addr) (S : SS) (rows : Rws) (v w : V) (d dw : PyData) (L1 : As), vs = [.ref p, v, w] ∧ Rm (ChAt C p S rows) L L1 ∧ Dsc K L v d ∧ Dsc K L w dw ∧
  (isN rows d = false → E .NoList L) ∧ (isN rows d = true → isWhole dw 0 9999 = false → E .NoWorth L) ∧
  (∀ (i : Nat) row (x : Int), d = .int (i : Int) → rows[i]? = some row → dw = .int x → 0 ≤ x → x ≤ 9999 → (∀ h S', S.putIn (.int x) = .ok (h, S') → ∀ t, Q (.ref t) (dt (.ref t) (hD h) :: ChAt C p S' (rows.set i (F h row)) :: L1)) ∧ (∀ e, S.putIn (.int x) = .error e → E e L))
/-- put_ahead, put_behind -/
def sCPutH (K : PySem.W.Frag) (C : Cl) (F : List (Int × Int) → Int × Int → List (Int × Int) → Int × Int → List (Int × Int)) : SpL := fun vs L Q E => ∃ (p : Addr) (S : SS) (rows : Rws) (v w : V) (d dw : PyData) (L1 : As), vs = [.ref p, v, w] ∧ Rm (ChAt C p S rows) L L1 ∧ Dsc K L v d ∧ Dsc K L w dw ∧ (∀ k, S.at d = .ok k → Dsi L1 v (hD k)) ∧
  (∀ e, S.at d = .error e → E e L) ∧ (∀ k, S.at d = .ok k → isWhole dw 0 9999 = false → E .NoWorth L) ∧
  (∀ k (i : Nat) a b (x : Int), S.at d = .ok k → rows[i]? = some (a ++ k :: b) → dw = .int x → 0 ≤ x → x ≤ 9999 → (∀ h S', S.putIn (.int x) = .ok (h, S') → ∀ t, Q (.ref t) (dt (.ref t) (hD h) :: ChAt C p S' (rows.set i (F a k b h)) :: L1)) ∧ (∀ e, S.putIn (.int x) = .error e → E e L))
def sCTake (K : PySem.W.Frag) (C : Cl) : SpL := fun vs L Q E => ∃ (p : Addr) (R : CR) (w : ChAd) (ad : Int → Addr) (S : SS) (rows : Rws) (v : V) (d : PyData) (L1 : As), vs = [.ref p, v] ∧ Rw R S rows ∧ Rm (RawA C p R w ad) L L1 ∧ Dsc K L v d ∧
  (∀ e, S.at d = .error e → E e L) ∧ (∀ h (i : Nat) a b, S.at d = .ok h → rows[i]? = some (a ++ h :: b) → Q .non (RawA C p (R.link i a.getLast? b.head?) w ad :: L1))
def sCDrop (K : PySem.W.Frag) (C : Cl) : SpL := fun vs L Q E => ∃ (p : Addr) (S : SS) (rows : Rws) (v : V) (d : PyData) (L1 : As), vs = [.ref p, v] ∧ Rm (ChAt C p S rows) L L1 ∧ Dsc K L v d ∧ (∀ k, S.at d = .ok k → Dsi L1 v (hD k)) ∧
  (∀ e, S.at d = .error e → E e L) ∧ (∀ h (i : Nat) a b, S.at d = .ok h → rows[i]? = some (a ++ h :: b) → Q (.int (wI S h.1)) (ChAt C p (S.dropAt h.1) (rows.set i (a ++ b)) :: L1))
def sCMove (K : PySem.W.Frag) (C : Cl) : SpL := fun vs L Q E => ∃ (p : Addr) (S : SS) (rows : Rws) (v w : V) (d dn : PyData) (L1 : As), vs = [.ref p, v, w] ∧ Rm (ChAt C p S rows) L L1 ∧ Dsc K L v d ∧ Dsc K L w dn ∧ (∀ k, S.at d = .ok k → Dsi L1 v (hD k)) ∧
  (∀ e, S.at d = .error e → E e L) ∧ (∀ h, S.at d = .ok h → isN rows dn = false → E .NoList L) ∧
  (∀ h (i j : Nat) a b row, S.at d = .ok h → rows[i]? = some (a ++ h :: b) → dn = .int (j : Int) → (rows.set i (a ++ b))[j]? = some row → Q .non (ChAt C p S ((rows.set i (a ++ b)).set j (row ++ [h])) :: L1))
/-- get, list_of -/
def sCTellV (K : PySem.W.Frag) (C : Cl) (F : SS → Nat → Int × Int → Int) : SpL := fun vs L Q E => ∃ (p : Addr) (S : SS) (rows : Rws) (v : V) (d : PyData), vs = [.ref p, v] ∧ ChAt C p S rows ∈ L ∧ Dsc K L v d ∧
  (∀ e, S.at d = .error e → E e L) ∧ (∀ h (i : Nat) a b, S.at d = .ok h → rows[i]? = some (a ++ h :: b) → Q (.int (F S i h)) L)
/-- ahead, behind -/
def sCTell (K : PySem.W.Frag) (C : Cl) (F : List (Int × Int) → List (Int × Int) → Option (Int × Int)) : SpL := fun vs L Q E => ∃ (p : Addr) (S : SS) (rows : Rws) (v : V) (d : PyData), vs = [.ref p, v] ∧ ChAt C p S rows ∈ L ∧ Dsc K L v d ∧
  (∀ e, S.at d = .error e → E e L) ∧ (∀ h (i : Nat) a b, S.at d = .ok h → rows[i]? = some (a ++ h :: b) → ∀ y, Q y (dt y (oD (F a b)) :: L))
def sCWalk (K : PySem.W.Frag) (C : Cl) (F : List (Int × Int) → List (Int × Int)) : SpL := fun vs L Q E => ∃ (p : Addr) (S : SS) (rows : Rws) (v : V) (d : PyData), vs = [.ref p, v] ∧ ChAt C p S rows ∈ L ∧ Dsc K L v d ∧
  (isN rows d = false → E .NoList L) ∧ (∀ (i : Nat) row, d = .int (i : Int) → rows[i]? = some row → ∀ l, Q (.ref l) (ld l ((F row).map hD) :: L))
def sCJoin (K : PySem.W.Frag) (C : Cl) : SpL := fun vs L Q E => ∃ (p : Addr) (S : SS) (rows : Rws) (v w : V) (d e : PyData) (L1 : As), vs = [.ref p, v, w] ∧ Rm (ChAt C p S rows) L L1 ∧ Dsc K L v d ∧ Dsc K L w e ∧
  (isN rows d = false → E .NoList L) ∧ (isN rows d = true → isN rows e = false → E .NoList L) ∧ (∀ i : Nat, d = .int (i : Int) → e = .int (i : Int) → i < rows.length → E .NoList L) ∧
  (∀ (i j : Nat) r1 r2, d = .int (i : Int) → e = .int (j : Int) → i ≠ j → rows[i]? = some r1 → rows[j]? = some r2 → Q (.int (r2.length : Nat)) (ChAt C p S ((rows.set i (r1 ++ r2)).set j []) :: L1))
def sCCut (K : PySem.W.Frag) (C : Cl) : SpL := fun vs L Q E => ∃ (p : Addr) (S : SS) (rows : Rws) (v w : V) (d dn : PyData) (L1 : As), vs = [.ref p, v, w] ∧ Rm (ChAt C p S rows) L L1 ∧ Dsc K L v d ∧ Dsc K L w dn ∧ (∀ k, S.at d = .ok k → Dsi L1 v (hD k)) ∧
  (∀ e, S.at d = .error e → E e L) ∧ (∀ h, S.at d = .ok h → isN rows dn = false → E .NoList L) ∧ (∀ h (j : Nat) row, S.at d = .ok h → dn = .int (j : Int) → rows[j]? = some row → row ≠ [] → E .NotEmpty L) ∧
  (∀ h (i j : Nat) a b, S.at d = .ok h → rows[i]? = some (a ++ h :: b) → dn = .int (j : Int) → rows[j]? = some [] → Q (.int ((h :: b).length : Nat)) (ChAt C p S ((rows.set i a).set j (h :: b)) :: L1))
def sCMany (C : Cl) : SpL := fun vs L Q _ => ∃ (p : Addr) (S : SS) (rows : Rws), vs = [.ref p] ∧ ChAt C p S rows ∈ L ∧ Q (.int (S.ws.length : Nat)) L
def sCInit (K : PySem.W.Frag) (C : Cl) : SpL := fun vs L Q E => ∃ (x dx a : Addr) (n r : Int) (la rn : Bool) (vm : V) (dm : PyData) (L1 : As), vs = [.ref x, .ref a, vm] ∧ L = pt x (.ins C.Chains dx []) :: L1 ∧ tp a (setV n r la rn) ∈ L1 ∧ 1 ≤ n ∧ n ≤ 60 ∧ 1 ≤ r ∧ r ≤ 1000 ∧ Dsc K L1 vm dm ∧
  (isWhole dm 1 9 = false → E .NoList L1) ∧ (∀ m : Nat, dm = .int (m : Int) → 1 ≤ m → m ≤ 9 → Q .non (ChAt C x (SS.new n r la rn) (List.replicate m []) :: L1))
theorem isN_int {rows : Rws} {d : PyData} (h : isN rows d = true) : ∃ i : Nat, d = .int (i : Int) ∧ i < rows.length := by
  obtain ⟨i, rfl, i0, i1⟩ := whole_intG h
  exact ⟨i.toNat, by rw [Int.toNat_of_nonneg i0], by omega⟩
theorem isN_of {rows : Rws} {i : Nat} (h : i < rows.length) : isN rows (.int (i : Int)) = true := by
  show (decide (0 ≤ (i : Int)) && decide ((i : Int) ≤ (rows.length : Int) - 1)) = true
  rw [decide_eq_true (by omega), decide_eq_true (by omega)]; rfl
theorem Rw.lenH {R : CR} {S : SS} {rows : Rws} (w : Rw R S rows) : R.hd.length = rows.length := by rw [w.lk.hd, List.length_map]
theorem Rw.lenT {R : CR} {S : SS} {rows : Rws} (w : Rw R S rows) : R.tl.length = rows.length := by rw [w.lk.tl, List.length_map]
theorem rows_flat0 {m : Nat} : (List.replicate m ([] : List (Int × Int))).flatten = [] := by
  induction m with
  | zero => rfl
  | succ m ih => rw [List.replicate_succ, List.flatten_cons, ih]; rfl
theorem Rw.new {n r : Int} {la rn : Bool} {m : Nat} (h1 : 1 ≤ n) (h2 : n ≤ 60) (h3 : 1 ≤ r) (h4 : r ≤ 1000) (m1 : 1 ≤ m) (m9 : m ≤ 9) : Rw ⟨SS.new n r la rn, List.replicate m none, List.replicate m none, fun _ => ⟨0, none, none⟩⟩ (SS.new n r la rn) (List.replicate m []) := by
  refine ⟨rfl, ⟨SS.Ok.new h1 h2 h3 h4, SS.Wi.new, by rw [rows_flat0]; exact List.Perm.refl _, by rw [List.length_replicate]; exact m1, by rw [List.length_replicate]; exact m9⟩, ⟨by rw [List.map_replicate]; rfl, by rw [List.map_replicate]; rfl, by rw [rows_flat0]; exact List.nodup_nil, fun i a h b e => ?_⟩⟩
  have := List.mem_of_getElem? e
  have := (List.mem_replicate.mp this).2
  simp at this
/-- a handle comes between others -/
theorem Rw.ins {R : CR} {S S' : SS} {rows : Rws} {i : Nat} {a b : List (Int × Int)} {h : Int × Int} {x : Int} {n : Nk} (w : Rw R S rows) (e : rows[i]? = some (a ++ b)) (es : S.putIn (.int x) = .ok (h, S')) (hn : n.l = (i : Int)) :
    Rw ((CR.link ⟨S', R.hd, R.tl, fup R.nd h.1 n⟩ i a.getLast? (some h)).link i (some h) b.head?) S' (rows.set i (a ++ h :: b)) := by
  obtain ⟨rfl, cf, lk⟩ := w
  have hf : h.1 ∉ rows.flatten.map (·.1) := fun z => by
    have := (put_ws cf.ok es).2
    refine this ?_
    rw [← lvU_keys]
    exact (cf.pm.map (·.1)).mem_iff.mp z
  have lk2 : Lk ⟨S', R.hd, R.tl, fup R.nd h.1 n⟩ rows := ⟨lk.hd, lk.tl, lk.nd, fun j a' k b' ej => by
    have ne : k.1 ≠ h.1 := fun z => hf (by rw [← z]; exact List.mem_map_of_mem (mem_flat ej))
    show fup R.nd h.1 n k.1 = _
    rw [fup_ne ne]
    exact lk.nb j a' k b' ej⟩
  refine ⟨?_, ⟨cf.ok.put es, ?_, ?_, by rw [List.length_set]; exact cf.l1, by rw [List.length_set]; exact cf.l9⟩, lk2.ins e hf (by show (fup R.nd h.1 n h.1).l = _; rw [fup_same]; exact hn)⟩
  · rw [link_S, link_S]
  · intro t y ht
    rw [(put_ws cf.ok es).1] at ht
    rcases List.mem_append.mp (ws_mem ht) with z | z
    · obtain ⟨v, hv⟩ := Option.isSome_iff_exists.mp ((valV_mem _ _).mpr (List.mem_map_of_mem (f := (·.1)) z))
      have : (t, v) ∈ R.S.ws := ws_mem hv
      obtain ⟨i, rfl⟩ := cf.wi _ _ hv
      have nd := cf.ok.ndW
      obtain ⟨e1, h1, e1'⟩ := List.getElem_of_mem z
      obtain ⟨e2, h2, e2'⟩ := List.getElem_of_mem this
      have : e1 = e2 := (List.getElem_inj nd (h₀ := by rw [List.length_map]; exact h1) (h₁ := by rw [List.length_map]; exact h2)).mp (by rw [List.getElem_map, List.getElem_map, e1', e2'])
      subst this
      rw [e1'] at e2'
      exact ⟨i, (Prod.mk.inj e2').2⟩
    · cases List.mem_singleton.mp z
      exact ⟨x, rfl⟩
  · rw [put_lvU cf.ok es]
    exact (flat_ins e).trans ((cf.pm.cons h).trans (List.perm_append_singleton h _).symm)
/-- one goes -/
theorem Rw.drop {R : CR} {S : SS} {rows : Rws} {i : Nat} {a b : List (Int × Int)} {h : Int × Int} (w : Rw R S rows) (e : rows[i]? = some (a ++ h :: b)) :
    Rw { (R.link i a.getLast? b.head?) with S := S.dropAt h.1 } (S.dropAt h.1) (rows.set i (a ++ b)) := by
  obtain ⟨rfl, cf, lk⟩ := w
  have hh := cf.held e
  have l := lk.out e
  refine ⟨rfl, ⟨cf.ok.drop (SS.holds_in hh).1, ?_, ?_, by rw [List.length_set]; exact cf.l1, by rw [List.length_set]; exact cf.l9⟩, ⟨l.hd, l.tl, l.nd, l.nb⟩⟩
  · intro t y ht
    rw [drop_ws, valV_drop'] at ht
    by_cases z : t = h.1
    · rw [if_pos z] at ht; cases ht
    · rw [if_neg z] at ht; exact cf.wi t y ht
  · exact (List.perm_cons h).mp (((flat_out e).symm.trans cf.pm).trans (drop_perm cf.ok hh))
/-- one moves to a row's end -/
theorem Rw.move {R : CR} {S : SS} {rows : Rws} {i j : Nat} {a b row : List (Int × Int)} {h : Int × Int} (w : Rw R S rows) (e : rows[i]? = some (a ++ h :: b)) (e2 : (rows.set i (a ++ b))[j]? = some row) (n : Nk) (hn : n.l = (j : Int)) :
    Rw ((CR.link { (R.link i a.getLast? b.head?) with nd := fup (R.link i a.getLast? b.head?).nd h.1 n } j row.getLast? (some h)).link j (some h) none) S ((rows.set i (a ++ b)).set j (row ++ [h])) := by
  obtain ⟨rfl, cf, lk⟩ := w
  have l := lk.out e
  have hf : h.1 ∉ (rows.set i (a ++ b)).flatten.map (·.1) := by
    have := ((flat_out e).map (·.1)).nodup_iff.mp lk.nd
    rw [List.map_cons, List.nodup_cons] at this
    exact this.1
  have lk2 : Lk { (R.link i a.getLast? b.head?) with nd := fup (R.link i a.getLast? b.head?).nd h.1 n } (rows.set i (a ++ b)) := ⟨l.hd, l.tl, l.nd, fun j a' k b' ej => by
    have ne : k.1 ≠ h.1 := fun z => hf (by rw [← z]; exact List.mem_map_of_mem (mem_flat ej))
    show fup _ h.1 n k.1 = _
    rw [fup_ne ne]
    exact l.nb j a' k b' ej⟩
  refine ⟨?_, ⟨cf.ok, cf.wi, ?_, by rw [List.length_set, List.length_set]; exact cf.l1, by rw [List.length_set, List.length_set]; exact cf.l9⟩, lk2.ins (b := []) (by rw [List.append_nil]; exact e2) hf (by show (fup _ h.1 n h.1).l = _; rw [fup_same]; exact hn)⟩
  · rw [link_S, link_S]; show (R.link i a.getLast? b.head?).S = _; rw [link_S]
  · exact (flat_ins (b := []) (by rw [List.append_nil]; exact e2)).trans ((flat_out e).symm.trans cf.pm)
end Sh
namespace Sh
open PySem PySem.Spec L2 PyProof.Rows
section
variable {X : Cx} {C : Cl} {st : Stmt} {D : DL} {σ : St} {L L1 : As} {p a : Addr} {R : CR} {w : ChAd} {ad : Int → Addr} {ws : List (Int × V)} {nd : Int → Nk} {s : Int} {v : V} {n : Nk}
theorem SL.know {φ : Prop} (h : ∀ H, Own H L → φ) (q : φ → SL X st D σ L) : SL X st D σ L := ⟨fun H o => (q (h H o)).run H o⟩
theorem SL.openR (r : Rm (RawA C p R w ad) L L1) (q : SL X st D σ (rawL C p R w ad ++ L1)) : SL X st D σ L := ⟨fun H o => q.run H (Own.cjI (L1 := rawL C p R w ad) (o.front r))⟩
theorem SL.openN (r : Rm (ndA a v n) L L1) (q : ∀ v1 v2, SL X st D σ (pt a (.dK (nkv v n.l v1 v2)) :: dt v1 (oD n.ah) :: dt v2 (oD n.be) :: L1)) : SL X st D σ L := ⟨fun H o => by
  obtain ⟨⟨v1, v2⟩, o1⟩ := Own.exI (o.front r)
  exact (q v1 v2).run H (Own.cjI (L1 := [pt a (.dK (nkv v n.l v1 v2)), dt v1 (oD n.ah), dt v2 (oD n.be)]) o1)⟩
theorem SL.node (nk : (ws.map (·.1)).Nodup) (m : (s, v) ∈ ws) (r : Rm (ndsA ad ws nd) L L1) (q : ∀ v1 v2, SL X st D σ (pt (ad s) (.dK (nkv v (nd s).l v1 v2)) :: dt v1 (oD (nd s).ah) :: dt v2 (oD (nd s).be) :: ndsA ad (dropK ws s) nd :: L1)) : SL X st D σ L :=
  SL.sub ((imp_cons r Imp.rfl).trans (imp_ndO nk m)) (SL.openN .here q)
end
end Sh
namespace Sh
open PySem PySem.Spec L2 PyProof.Rows
section
variable {R : CR} {S S' : SS} {rows : Rws} {i : Nat} {a b : List (Int × Int)} {h k : Int × Int} {v : V} {d : Addr} {ad : Int → Addr} {hd tl : List (Option (Int × Int))} {nd : Int → Nk}
theorem P_put (ok : R.S.Ok) (es : R.S.putIn v = .ok (h, S')) : CR.P ⟨S', hd, tl, nd⟩ (fun t => if t = h.1 then d else ad t) = { S' with ws := (R.P ad).ws ++ [(h.1, .ref d)] } := by
  obtain ⟨w1, w2⟩ := put_ws ok es
  unfold CR.P
  dsimp only
  rw [w1, List.map_append, List.map_cons, List.map_nil]
  dsimp only
  rw [if_pos rfl]
  congr 2
  refine List.map_congr_left fun e he => ?_
  rw [if_neg fun z => w2 (by rw [← z]; exact List.mem_map_of_mem he)]
theorem held_put (ok : S.Ok) (es : S.putIn v = .ok (h, S')) (hk : S.holds k.1 k.2 = true) : S'.holds k.1 k.2 = true := by
  rw [← mem_lvU, put_lvU ok es]
  exact List.mem_append_left _ (mem_lvU.mpr hk)
theorem held_new (ok : S.Ok) (es : S.putIn v = .ok (h, S')) : S'.holds h.1 h.2 = true := by
  rw [← mem_lvU, put_lvU ok es]
  exact List.mem_append_right _ List.mem_cons_self
theorem wi_put {x : Int} (w : Rw R S rows) (e : rows[i]? = some (a ++ b)) (es : S.putIn (.int x) = .ok (h, S')) : S'.Wi := (w.ins (n := ⟨(i : Int), none, none⟩) e es rfl).cf.wi
theorem Cf.heldL (c : Cf S rows) (e : rows[i]? = some (a ++ b)) (hk : a.getLast? = some k) : S.holds k.1 k.2 = true := by
  obtain ⟨a2, rfl⟩ := last_snoc hk
  exact c.held (a := a2) (b := b) (by rw [e]; simp)
theorem Cf.heldH (c : Cf S rows) (e : rows[i]? = some (a ++ b)) (hk : b.head? = some k) : S.holds k.1 k.2 = true := by
  obtain ⟨b2, rfl⟩ := head_cons hk
  exact c.held e
theorem Rw.at {R : CR} (w : Rw R S rows) (ad : Int → Addr) (d : PyData) : (R.P ad).at d = S.at d := by rw [CR.sm.at, w.es]
theorem Rw.okP {R : CR} (w : Rw R S rows) (ad : Int → Addr) : (R.P ad).Ok := CR.sm.ok (by rw [w.es]; exact w.cf.ok)
end
section
variable {K : PySem.W.Frag} {C : Cl} {L L1 : As} {Q : LK} {E : Er → As → Prop} {p : Addr} {R : CR} {w : ChAd} {ad : Int → Addr} {ii : Nat} {va vb : V} {ah be : Option (Int × Int)} {v : V} {d : PyData}
theorem sCNeed.i (m : RawA C p R w ad ∈ L) (hd : Dsc K L v d) (e1 : isWhole d 0 ((R.hd.length : Int) - 1) = false → E .NoList L) (e2 : ∀ i : Nat, d = .int (i : Int) → i < R.hd.length → v = .int (i : Int) → Q .non L) : sCNeed K C [.ref p, v] L Q E := ⟨p, R, w, ad, v, d, rfl, m, hd, e1, e2⟩
theorem sCLink.i (r : Rm (RawA C p R w ad) L L1) (ok : R.S.Ok) (wi : R.S.Wi) (h1 : ii < R.hd.length) (h2 : ii < R.tl.length) (da : Dsi L1 va (oD ah)) (db : Dsi L1 vb (oD be)) (ha : ∀ h, ah = some h → R.S.holds h.1 h.2 = true) (hb : ∀ h, be = some h → R.S.holds h.1 h.2 = true)
    (q : Q .non (RawA C p (R.link ii ah be) w ad :: L1)) : sCLink C [.ref p, .int (ii : Int), va, vb] L Q E := ⟨p, R, w, ad, ii, va, vb, ah, be, L1, rfl, r, ok, wi, h1, h2, da, db, ha, hb, q⟩
end
end Sh
namespace Sh
open PySem PySem.Spec L2 PyProof.Rows
theorem Dsi.oS {L : As} {v : V} {h : Int × Int} (q : Dsi L v (hD h)) : Dsi L v (oD (some h)) := q
theorem Dsi.oN {L : As} : Dsi L .non (oD none) := Dsi.non
end Sh
namespace Sh
theorem fup_id {f : Int → Nk} {s : Int} {x : Nk} (h : f s = x) : fup f s x = f := by
  funext t
  by_cases z : t = s
  · rw [z, fup_same, h]
  · rw [fup_ne z]
end Sh
namespace Sh
theorem dropK_map {ws : List (Int × L2.V)} {f : Int → L2.V} {s : Int} : L2.dropK (ws.map fun e => (e.1, f e.1)) s = (L2.dropK ws s).map fun e => (e.1, f e.1) := by
  unfold L2.dropK
  rw [List.filter_map]
  rfl
end Sh
namespace Sh
open PySem PySem.Spec L2 PyProof.Rows
section
variable {X : Cx} {C : Cl} {x y : V} {L L1 : As} {Q : LK} {a : Addr} {ad : Int → Addr} {ws : List (Int × V)} {nd : Int → Nk} {s : Int} {v : V} {n : Nk}
theorem XL.openN (r : Rm (ndA a v n) L L1) (q : ∀ v1 v2, XL X x y (pt a (.dK (nkv v n.l v1 v2)) :: dt v1 (oD n.ah) :: dt v2 (oD n.be) :: L1) Q) : XL X x y L Q := ⟨fun H o => by
  obtain ⟨⟨v1, v2⟩, o1⟩ := Own.exI (o.front r)
  exact (q v1 v2).run H (Own.cjI (L1 := [pt a (.dK (nkv v n.l v1 v2)), dt v1 (oD n.ah), dt v2 (oD n.be)]) o1)⟩
theorem XL.node (nk : (ws.map (·.1)).Nodup) (m : (s, v) ∈ ws) (r : Rm (ndsA ad ws nd) L L1) (q : ∀ v1 v2, XL X x y (pt (ad s) (.dK (nkv v (nd s).l v1 v2)) :: dt v1 (oD (nd s).ah) :: dt v2 (oD (nd s).be) :: ndsA ad (dropK ws s) nd :: L1) Q) : XL X x y L Q :=
  XL.sub ((imp_cons r Imp.rfl).trans (imp_ndO nk m)) (XL.openN .here q)
end
end Sh
namespace Sh
open PySem PySem.Spec L2 PyProof.Rows
theorem TL.know {X : Cx} {e : Expr} {σ : St} {L : As} {QB : Bool → As → Prop} {φ : Prop} (h : ∀ H, Own H L → φ) (q : φ → TL X e σ L QB) : TL X e σ L QB := ⟨fun H o => (q (h H o)).run H o⟩
end Sh
namespace Sh
theorem set_same {rows : Rws} {i : Nat} {row : List (Int × Int)} (h : rows[i]? = some row) : rows.set i row = rows := by
  rw [set_split h]; exact (flat_split h).symm
theorem Cf.uniq {S : SS} {rows : Rws} (c : Cf S rows) {i j : Nat} {a b a' b' : List (Int × Int)} {h : Int × Int} (e1 : rows[i]? = some (a ++ h :: b)) (e2 : rows[j]? = some (a' ++ h :: b')) : i = j ∧ a = a' ∧ b = b' := by
  have hij : i = j := by
    have hnd : rows.flatten.Nodup := List.Pairwise.of_map _ (fun a b h z => h (by rw [z])) c.nd
    have hp := (List.pairwise_flatten.mp hnd).2
    by_cases z : i = j
    · exact z
    · exfalso
      have hi := (List.getElem?_eq_some_iff.mp e1)
      have hj := (List.getElem?_eq_some_iff.mp e2)
      have key : ∀ (x y : Nat) (hx : x < rows.length) (hy : y < rows.length), x < y → h ∈ rows[x] → h ∈ rows[y] → False := fun x y hx hy l m1 m2 => List.pairwise_iff_getElem.mp hp x y hx hy l h m1 h m2 rfl
      rcases Nat.lt_or_gt_of_ne z with l | l
      · exact key i j hi.1 hj.1 l (by rw [hi.2]; simp) (by rw [hj.2]; simp)
      · exact key j i hj.1 hi.1 l (by rw [hj.2]; simp) (by rw [hi.2]; simp)
  subst hij
  rw [e1] at e2
  obtain ⟨x, _, y⟩ := uniq_row (nd_row c.nd e1) (Option.some.inj e2) rfl
  exact ⟨rfl, x, y⟩
end Sh
namespace Sh
open PySem PySem.Spec L2 PyProof.Rows
section
variable {K : PySem.W.Frag} {C : Cl} {L L1 : As} {Q : LK} {E : Er → As → Prop} {p : Addr} {S S' : SS} {rows : Rws} {n m : Nat} {a b row r1 r2 : List (Int × Int)} {v w : V} {h k : Int × Int} {x : Int}
theorem Cf.at (c : Cf S rows) (e : rows[n]? = some (a ++ h :: b)) : S.at (hD h) = .ok h := by rw [SS.at_hD (holds_R c.ok (c.held e)), if_pos (c.held e)]
theorem int_nat {i j : Nat} (h : PyData.int (i : Int) = .int (j : Int)) : i = j := by injection h with h; omega
theorem isN_no {i : Nat} {φ : Prop} (h : rows[i]? = some row) (z : isN rows (.int (i : Int)) = false) : φ := by
  rw [isN_of (List.getElem?_eq_some_iff.mp h).1] at z; cases z
theorem sCWalk.f (mm : ChAt C p S rows ∈ L) (e : rows[n]? = some row) (q : ∀ l, Q (.ref l) (ld l (row.map hD) :: L)) : sCWalk K C (fun row => row) [.ref p, .int (n : Int)] L Q E :=
  ⟨p, S, rows, _, .int (n : Int), rfl, mm, Dsi.dsc Dsi.int, fun z => isN_no e z, fun i r ei er l => by
    have := int_nat ei; subst this; rw [e] at er; cases er; exact q l⟩
theorem sCWalk.bk (mm : ChAt C p S rows ∈ L) (e : rows[n]? = some row) (q : ∀ l, Q (.ref l) (ld l (row.reverse.map hD) :: L)) : sCWalk K C List.reverse [.ref p, .int (n : Int)] L Q E :=
  ⟨p, S, rows, _, .int (n : Int), rfl, mm, Dsi.dsc Dsi.int, fun z => isN_no e z, fun i r ei er l => by
    have := int_nat ei; subst this; rw [e] at er; cases er; exact q l⟩
theorem sCMove.ok (c : Cf S rows) (r : Rm (ChAt C p S rows) L L1) (hv : Dsi L1 v (hD h)) (e : rows[n]? = some (a ++ h :: b)) (e2 : (rows.set n (a ++ b))[m]? = some row) (q : Q .non (ChAt C p S ((rows.set n (a ++ b)).set m (row ++ [h])) :: L1)) : sCMove K C [.ref p, v, .int (m : Int)] L Q E := by
  have ea := c.at e
  have im : Imp L L1 := fun T h s => (s.front r).drop
  refine ⟨p, S, rows, v, _, hD h, .int (m : Int), L1, rfl, r, (hv.imp im).dsc, Dsi.dsc Dsi.int, fun k es => ?_, fun er es => (by rw [ea] at es; cases es), fun k es z => ?_, fun k i j a' b' row' es ek ej er => ?_⟩
  · rw [ea] at es; cases es; exact hv
  · have hm := (List.getElem?_eq_some_iff.mp e2).1
    rw [List.length_set] at hm
    rw [isN_of hm] at z; cases z
  · rw [ea] at es; cases es
    obtain ⟨rfl, rfl, rfl⟩ := c.uniq e ek
    have := int_nat ej; subst this
    rw [e2] at er; cases er
    exact q
theorem sCJoin.ok (r : Rm (ChAt C p S rows) L L1) (ne : n ≠ m) (e1 : rows[n]? = some r1) (e2 : rows[m]? = some r2) (q : Q (.int (r2.length : Nat)) (ChAt C p S ((rows.set n (r1 ++ r2)).set m []) :: L1)) : sCJoin K C [.ref p, .int (n : Int), .int (m : Int)] L Q E :=
  ⟨p, S, rows, _, _, .int (n : Int), .int (m : Int), L1, rfl, r, Dsi.dsc Dsi.int, Dsi.dsc Dsi.int, fun z => isN_no e1 z, fun _ z => isN_no e2 z, fun i ei ej _ => absurd ((int_nat ei).trans (int_nat ej).symm) ne, fun i j r1' r2' ei ej _ er1 er2 => by
    have := int_nat ei; subst this; have := int_nat ej; subst this
    rw [e1] at er1; rw [e2] at er2; cases er1; cases er2; exact q⟩
theorem sCCut.ok (c : Cf S rows) (r : Rm (ChAt C p S rows) L L1) (hv : Dsi L1 v (hD h)) (e : rows[n]? = some (a ++ h :: b)) (e2 : rows[m]? = some []) (q : Q (.int ((h :: b).length : Nat)) (ChAt C p S ((rows.set n a).set m (h :: b)) :: L1)) : sCCut K C [.ref p, v, .int (m : Int)] L Q E := by
  have ea := c.at e
  have im : Imp L L1 := fun T h s => (s.front r).drop
  refine ⟨p, S, rows, v, _, hD h, .int (m : Int), L1, rfl, r, (hv.imp im).dsc, Dsi.dsc Dsi.int, fun k es => ?_, fun er es => (by rw [ea] at es; cases es), fun k es z => isN_no e2 z, fun k j row es ej er hne => ?_, fun k i j a' b' es ek ej er => ?_⟩
  · rw [ea] at es; cases es; exact hv
  · have := int_nat ej; subst this
    rw [e2] at er; cases er; exact absurd rfl hne
  · rw [ea] at es; cases es
    obtain ⟨rfl, rfl, rfl⟩ := c.uniq e ek
    have := int_nat ej; subst this
    exact q
theorem sCPutN.ok {F : Int × Int → List (Int × Int) → List (Int × Int)} (r : Rm (ChAt C p S rows) L L1) (e : rows[n]? = some row) (x0 : 0 ≤ x) (x1 : x ≤ 9999) (es : S.putIn (.int x) = .ok (h, S')) (q : ∀ t, Q (.ref t) (dt (.ref t) (hD h) :: ChAt C p S' (rows.set n (F h row)) :: L1)) : sCPutN K C F [.ref p, .int (n : Int), .int x] L Q E :=
  ⟨p, S, rows, _, _, .int (n : Int), .int x, L1, rfl, r, Dsi.dsc Dsi.int, Dsi.dsc Dsi.int, fun z => isN_no e z, fun _ z => (by rw [isW x0 x1] at z; cases z), fun i r ix ei er ew _ _ => by
    have := int_nat ei; subst this; rw [e] at er; cases er; cases ew
    exact ⟨fun h' S'' es' t => by rw [es] at es'; cases es'; exact q t, fun er es' => by rw [es] at es'; cases es'⟩⟩
theorem sCPutH.ok {F : List (Int × Int) → Int × Int → List (Int × Int) → Int × Int → List (Int × Int)} (c : Cf S rows) (r : Rm (ChAt C p S rows) L L1) (hv : Dsi L1 v (hD k)) (e : rows[n]? = some (a ++ k :: b)) (x0 : 0 ≤ x) (x1 : x ≤ 9999) (es : S.putIn (.int x) = .ok (h, S')) (q : ∀ t, Q (.ref t) (dt (.ref t) (hD h) :: ChAt C p S' (rows.set n (F a k b h)) :: L1)) : sCPutH K C F [.ref p, v, .int x] L Q E := by
  have ea := c.at e
  have im : Imp L L1 := fun T h s => (s.front r).drop
  refine ⟨p, S, rows, v, _, hD k, .int x, L1, rfl, r, (hv.imp im).dsc, Dsi.dsc Dsi.int, fun k es => ?_, fun er es => (by rw [ea] at es; cases es), fun k _ z => (by rw [isW x0 x1] at z; cases z), fun k i a' b' ix es2 ek ew _ _ => ?_⟩
  · rw [ea] at es; cases es; exact hv
  · rw [ea] at es2; cases es2
    obtain ⟨rfl, rfl, rfl⟩ := c.uniq e ek
    cases ew
    exact ⟨fun h' S'' es' t => by rw [es] at es'; cases es'; exact q t, fun er es' => by rw [es] at es'; cases es'⟩
theorem sCTellV.ok {F : SS → Nat → Int × Int → Int} (c : Cf S rows) (mm : ChAt C p S rows ∈ L) (hv : Dsc K L v (hD h)) (e : rows[n]? = some (a ++ h :: b)) (q : Q (.int (F S n h)) L) : sCTellV K C F [.ref p, v] L Q E :=
  ⟨p, S, rows, v, hD h, rfl, mm, hv, fun er es => (by rw [c.at e] at es; cases es), fun k i a' b' es ek => by
    rw [c.at e] at es; cases es
    obtain ⟨rfl, rfl, rfl⟩ := c.uniq e ek
    exact q⟩
theorem sCTell.ok {F : List (Int × Int) → List (Int × Int) → Option (Int × Int)} (c : Cf S rows) (mm : ChAt C p S rows ∈ L) (hv : Dsc K L v (hD h)) (e : rows[n]? = some (a ++ h :: b)) (q : ∀ y, Q y (dt y (oD (F a b)) :: L)) : sCTell K C F [.ref p, v] L Q E :=
  ⟨p, S, rows, v, hD h, rfl, mm, hv, fun er es => (by rw [c.at e] at es; cases es), fun k i a' b' es ek => by
    rw [c.at e] at es; cases es
    obtain ⟨rfl, rfl, rfl⟩ := c.uniq e ek
    exact q⟩
theorem sCMany.i (mm : ChAt C p S rows ∈ L) (q : Q (.int (S.ws.length : Nat)) L) : sCMany C [.ref p] L Q E := ⟨p, S, rows, rfl, mm, q⟩
end
end Sh
namespace Sh
open PySem PySem.Spec L2 PyProof.Rows
theorem sCInit.ok {K : PySem.W.Frag} {C : Cl} {L : As} {Q : LK} {E : Er → As → Prop} {x dx a : Addr} {n r : Int} {la rn : Bool} {k : Nat} (m : tp a (setV n r la rn) ∈ L) (h1 : 1 ≤ n) (h2 : n ≤ 60) (h3 : 1 ≤ r) (h4 : r ≤ 1000) (k1 : 1 ≤ k) (k9 : k ≤ 9) (q : Q .non (ChAt C x (SS.new n r la rn) (List.replicate k []) :: L)) :
    sCInit K C [.ref x, .ref a, .int (k : Int)] (pt x (.ins C.Chains dx []) :: L) Q E := by
  refine ⟨x, dx, a, n, r, la, rn, _, .int (k : Int), L, rfl, rfl, m, h1, h2, h3, h4, Dsi.dsc Dsi.int, fun z => ?_, fun m em _ _ => ?_⟩
  · have : isWhole (.int (k : Int)) 1 9 = true := by
      show (decide (1 ≤ (k : Int)) && decide ((k : Int) ≤ 9)) = true
      rw [decide_eq_true (by omega), decide_eq_true (by omega)]; rfl
    rw [this] at z; cases z
  · have := int_nat em
    subst this
    exact q
end Sh
namespace Sh
open PySem PySem.Spec L2 PyProof.Rows
theorem AL.cf {X : Cx} {C : Cl} {es : List Expr} {σ : St} {L : As} {QA : List V → As → Prop} {p : Addr} {S : SS} {rows : Rws} (m : ChAt C p S rows ∈ L) (q : Cf S rows → AL X es σ L QA) : AL X es σ L QA := ⟨fun H o => (q (own_cf o m)).run H o⟩
end Sh
namespace Sh
open PySem PySem.Spec L2 PyProof.Rows
theorem TL.cf {X : Cx} {C : Cl} {e : Expr} {σ : St} {L : As} {QB : Bool → As → Prop} {p : Addr} {S : SS} {rows : Rws} (m : ChAt C p S rows ∈ L) (q : Cf S rows → TL X e σ L QB) : TL X e σ L QB := TL.know (fun H o => own_cf o m) q
end Sh
namespace Sh
open PySem PySem.Spec L2 PyProof.Rows
/-! ### deeds at chains -/
inductive Cw where
  | first | last | ahead | behind | drop | move | join | cut
def Cw.wd : Cw → Str
  | .first => "first"
  | .last => "last"
  | .ahead => "ahead"
  | .behind => "behind"
  | .drop => "drop"
  | .move => "move"
  | .join => "join"
  | .cut => "cut"
inductive CPutN (S : SS) (rows : Rws) (F : Int × Int → List (Int × Int) → List (Int × Int)) : PyData → PyData → PyData → SS → Rws → Prop
  | noList {d e : PyData} : isN rows d = false → CPutN S rows F d e (refD .NoList) S rows
  | noWorth {d e : PyData} : isN rows d = true → isWhole e 0 9999 = false → CPutN S rows F d e (refD .NoWorth) S rows
  | full {i : Nat} {row : List (Int × Int)} {x : Int} {er : Er} : rows[i]? = some row → 0 ≤ x → x ≤ 9999 → S.putIn (.int x) = .error er → CPutN S rows F (.int (i : Int)) (.int x) (refD er) S rows
  | ok {i : Nat} {row : List (Int × Int)} {x : Int} {h : Int × Int} {S' : SS} : rows[i]? = some row → 0 ≤ x → x ≤ 9999 → S.putIn (.int x) = .ok (h, S') → CPutN S rows F (.int (i : Int)) (.int x) (hD h) S' (rows.set i (F h row))
inductive CPutH (S : SS) (rows : Rws) (F : List (Int × Int) → Int × Int → List (Int × Int) → Int × Int → List (Int × Int)) : PyData → PyData → PyData → SS → Rws → Prop
  | bad {d e : PyData} {er : Er} : S.at d = .error er → CPutH S rows F d e (refD er) S rows
  | noWorth {d e : PyData} {k : Int × Int} : S.at d = .ok k → isWhole e 0 9999 = false → CPutH S rows F d e (refD .NoWorth) S rows
  | full {d : PyData} {k : Int × Int} {x : Int} {er : Er} : S.at d = .ok k → 0 ≤ x → x ≤ 9999 → S.putIn (.int x) = .error er → CPutH S rows F d (.int x) (refD er) S rows
  | ok {d : PyData} {k : Int × Int} {i : Nat} {a b : List (Int × Int)} {x : Int} {h : Int × Int} {S' : SS} : S.at d = .ok k → rows[i]? = some (a ++ k :: b) → 0 ≤ x → x ≤ 9999 → S.putIn (.int x) = .ok (h, S') → CPutH S rows F d (.int x) (hD h) S' (rows.set i (F a k b h))
inductive CDrop (S : SS) (rows : Rws) : PyData → PyData → SS → Rws → Prop
  | bad {d : PyData} {er : Er} : S.at d = .error er → CDrop S rows d (refD er) S rows
  | ok {d : PyData} {h : Int × Int} {i : Nat} {a b : List (Int × Int)} : S.at d = .ok h → rows[i]? = some (a ++ h :: b) → CDrop S rows d (.int (wI S h.1)) (S.dropAt h.1) (rows.set i (a ++ b))
inductive CMove (S : SS) (rows : Rws) : PyData → PyData → PyData → SS → Rws → Prop
  | bad {d e : PyData} {er : Er} : S.at d = .error er → CMove S rows d e (refD er) S rows
  | noList {d e : PyData} {h : Int × Int} : S.at d = .ok h → isN rows e = false → CMove S rows d e (refD .NoList) S rows
  | ok {d : PyData} {h : Int × Int} {i j : Nat} {a b row : List (Int × Int)} : S.at d = .ok h → rows[i]? = some (a ++ h :: b) → (rows.set i (a ++ b))[j]? = some row → CMove S rows d (.int (j : Int)) .none S ((rows.set i (a ++ b)).set j (row ++ [h]))
inductive CJoin (S : SS) (rows : Rws) : PyData → PyData → PyData → SS → Rws → Prop
  | bad1 {d e : PyData} : isN rows d = false → CJoin S rows d e (refD .NoList) S rows
  | bad2 {d e : PyData} : isN rows d = true → isN rows e = false → CJoin S rows d e (refD .NoList) S rows
  | same {i : Nat} : i < rows.length → CJoin S rows (.int (i : Int)) (.int (i : Int)) (refD .NoList) S rows
  | ok {i j : Nat} {r1 r2 : List (Int × Int)} : i ≠ j → rows[i]? = some r1 → rows[j]? = some r2 → CJoin S rows (.int (i : Int)) (.int (j : Int)) (.int (r2.length : Nat)) S ((rows.set i (r1 ++ r2)).set j [])
inductive CCut (S : SS) (rows : Rws) : PyData → PyData → PyData → SS → Rws → Prop
  | bad {d e : PyData} {er : Er} : S.at d = .error er → CCut S rows d e (refD er) S rows
  | noList {d e : PyData} {h : Int × Int} : S.at d = .ok h → isN rows e = false → CCut S rows d e (refD .NoList) S rows
  | notEmpty {d : PyData} {h : Int × Int} {j : Nat} {row : List (Int × Int)} : S.at d = .ok h → rows[j]? = some row → row ≠ [] → CCut S rows d (.int (j : Int)) (refD .NotEmpty) S rows
  | ok {d : PyData} {h : Int × Int} {i j : Nat} {a b : List (Int × Int)} : S.at d = .ok h → rows[i]? = some (a ++ h :: b) → rows[j]? = some [] → CCut S rows d (.int (j : Int)) (.int ((h :: b).length : Nat)) S ((rows.set i a).set j (h :: b))
/-- what is told of a deed, what then stands -/
def CT (S : SS) (rows : Rws) (w : Cw) (d e r : PyData) (S' : SS) (rows' : Rws) : Prop := match w with
  | .first => CPutN S rows (fun h row => h :: row) d e r S' rows'
  | .last => CPutN S rows (fun h row => row ++ [h]) d e r S' rows'
  | .ahead => CPutH S rows (fun a k b h => a ++ h :: k :: b) d e r S' rows'
  | .behind => CPutH S rows (fun a k b h => a ++ k :: h :: b) d e r S' rows'
  | .drop => CDrop S rows d r S' rows'
  | .move => CMove S rows d e r S' rows'
  | .join => CJoin S rows d e r S' rows'
  | .cut => CCut S rows d e r S' rows'
def sCTry (K : PySem.W.Frag) (C : Cl) : SpL := fun vs L Q _ => ∃ (p : Addr) (S : SS) (rows : Rws) (w : Cw) (v1 v2 : V) (d e : PyData) (L1 : As), vs = [.ref p, .str w.wd, v1, v2] ∧ Rm (ChAt C p S rows) L L1 ∧ Dsc K L v1 d ∧ Dsc K L v2 e ∧ (∀ k, S.at d = .ok k → Dsi L1 v1 (hD k)) ∧
  ∀ r S' rows', CT S rows w d e r S' rows' → ∀ y, Q y (dt y r :: ChAt C p S' rows' :: L1)
theorem sCTry.i {K : PySem.W.Frag} {C : Cl} {L L1 : As} {Q : LK} {E : Er → As → Prop} {p : Addr} {S : SS} {rows : Rws} {v1 v2 : V} {d e : PyData} (w : Cw) (r : Rm (ChAt C p S rows) L L1) (h1 : Dsc K L v1 d) (h2 : Dsc K L v2 e) (h3 : ∀ k, S.at d = .ok k → Dsi L1 v1 (hD k))
    (q : ∀ r S' rows', CT S rows w d e r S' rows' → ∀ y, Q y (dt y r :: ChAt C p S' rows' :: L1)) : sCTry K C [.ref p, .str w.wd, v1, v2] L Q E := ⟨p, S, rows, w, v1, v2, d, e, L1, rfl, r, h1, h2, h3, q⟩
end Sh
namespace Sh
open PySem PySem.Spec L2 PyProof.Rows
/-! what is refused -/
section
variable {S S' : SS} {rows rows' : Rws} {d e r : PyData} {er : Er} {h k : Int × Int} {x : Int} {i j : Nat} {row : List (Int × Int)} {F : Int × Int → List (Int × Int) → List (Int × Int)} {G : List (Int × Int) → Int × Int → List (Int × Int) → Int × Int → List (Int × Int)}
abbrev Same (er : Er) (S : SS) (rows : Rws) (r : PyData) (S' : SS) (rows' : Rws) : Prop := r = refD er ∧ S' = S ∧ rows' = rows
theorem isN_yes (h : rows[i]? = some row) : isN rows (.int (i : Int)) = true := isN_of (List.getElem?_eq_some_iff.mp h).1
theorem CPutN.bad1 (c : CPutN S rows F d e r S' rows') (z : isN rows d = false) : Same .NoList S rows r S' rows' := by
  cases c with
  | noList _ => exact ⟨rfl, rfl, rfl⟩
  | noWorth a _ => rw [a] at z; cases z
  | full a _ _ _ => rw [isN_yes a] at z; cases z
  | ok a _ _ _ => rw [isN_yes a] at z; cases z
theorem CPutN.badw (c : CPutN S rows F d e r S' rows') (y : isN rows d = true) (z : isWhole e 0 9999 = false) : Same .NoWorth S rows r S' rows' := by
  cases c with
  | noList a => rw [a] at y; cases y
  | noWorth _ _ => exact ⟨rfl, rfl, rfl⟩
  | full _ a b _ => rw [isW a b] at z; cases z
  | ok _ a b _ => rw [isW a b] at z; cases z
theorem CPutN.fl (c : CPutN S rows F d e r S' rows') (y : isN rows d = true) (z : isWhole e 0 9999 = true) (es : ∀ v, S.putIn v = .error er) : Same er S rows r S' rows' := by
  cases c with
  | noList a => rw [a] at y; cases y
  | noWorth _ a => rw [a] at z; cases z
  | full _ _ _ a => rw [es] at a; cases a; exact ⟨rfl, rfl, rfl⟩
  | ok _ _ _ a => rw [es] at a; cases a
theorem CPutH.badH (c : CPutH S rows G d e r S' rows') (es : S.at d = .error er) : Same er S rows r S' rows' := by
  cases c with
  | bad a => rw [es] at a; cases a; exact ⟨rfl, rfl, rfl⟩
  | noWorth a _ => rw [es] at a; cases a
  | full a _ _ _ => rw [es] at a; cases a
  | ok a _ _ _ _ => rw [es] at a; cases a
theorem CPutH.badw (c : CPutH S rows G d e r S' rows') (es : S.at d = .ok k) (z : isWhole e 0 9999 = false) : Same .NoWorth S rows r S' rows' := by
  cases c with
  | bad a => rw [es] at a; cases a
  | noWorth a _ => exact ⟨rfl, rfl, rfl⟩
  | full _ a b _ => rw [isW a b] at z; cases z
  | ok _ _ a b _ => rw [isW a b] at z; cases z
theorem CPutH.fl (c : CPutH S rows G d e r S' rows') (es : S.at d = .ok k) (z : isWhole e 0 9999 = true) (ef : ∀ v, S.putIn v = .error er) : Same er S rows r S' rows' := by
  cases c with
  | bad a => rw [es] at a; cases a
  | noWorth _ a => rw [a] at z; cases z
  | full _ _ _ a => rw [ef] at a; cases a; exact ⟨rfl, rfl, rfl⟩
  | ok _ _ _ _ a => rw [ef] at a; cases a
theorem CDrop.badH (c : CDrop S rows d r S' rows') (es : S.at d = .error er) : Same er S rows r S' rows' := by
  cases c with
  | bad a => rw [es] at a; cases a; exact ⟨rfl, rfl, rfl⟩
  | ok a _ => rw [es] at a; cases a
theorem CMove.badH (c : CMove S rows d e r S' rows') (es : S.at d = .error er) : Same er S rows r S' rows' := by
  cases c with
  | bad a => rw [es] at a; cases a; exact ⟨rfl, rfl, rfl⟩
  | noList a _ => rw [es] at a; cases a
  | ok a _ _ => rw [es] at a; cases a
theorem CMove.badL (c : CMove S rows d e r S' rows') (es : S.at d = .ok k) (z : isN rows e = false) : Same .NoList S rows r S' rows' := by
  cases c with
  | bad a => rw [es] at a; cases a
  | noList a _ => exact ⟨rfl, rfl, rfl⟩
  | ok _ _ a =>
    have := (List.getElem?_eq_some_iff.mp a).1
    rw [List.length_set] at this
    rw [isN_of this] at z; cases z
theorem CCut.badH (c : CCut S rows d e r S' rows') (es : S.at d = .error er) : Same er S rows r S' rows' := by
  cases c with
  | bad a => rw [es] at a; cases a; exact ⟨rfl, rfl, rfl⟩
  | noList a _ => rw [es] at a; cases a
  | notEmpty a _ _ => rw [es] at a; cases a
  | ok a _ _ => rw [es] at a; cases a
theorem CCut.badL (c : CCut S rows d e r S' rows') (es : S.at d = .ok k) (z : isN rows e = false) : Same .NoList S rows r S' rows' := by
  cases c with
  | bad a => rw [es] at a; cases a
  | noList a _ => exact ⟨rfl, rfl, rfl⟩
  | notEmpty _ a _ => rw [isN_yes a] at z; cases z
  | ok _ _ a => rw [isN_yes a] at z; cases z
theorem CCut.ne (c : CCut S rows d e r S' rows') (es : S.at d = .ok k) (ee : e = .int (j : Int)) (er : rows[j]? = some row) (hne : row ≠ []) : Same .NotEmpty S rows r S' rows' := by
  cases c with
  | bad a => rw [es] at a; cases a
  | noList _ a => subst ee; rw [isN_yes er] at a; cases a
  | notEmpty _ a _ => exact ⟨rfl, rfl, rfl⟩
  | ok _ _ a =>
    have := int_nat ee
    subst this
    rw [er] at a; cases a; exact absurd rfl hne
theorem CJoin.b1 (c : CJoin S rows d e r S' rows') (z : isN rows d = false) : Same .NoList S rows r S' rows' := by
  cases c with
  | bad1 _ => exact ⟨rfl, rfl, rfl⟩
  | bad2 _ _ => exact ⟨rfl, rfl, rfl⟩
  | same _ => exact ⟨rfl, rfl, rfl⟩
  | ok _ a _ => rw [isN_yes a] at z; cases z
theorem CJoin.b2 (c : CJoin S rows d e r S' rows') (z : isN rows e = false) : Same .NoList S rows r S' rows' := by
  cases c with
  | bad1 _ => exact ⟨rfl, rfl, rfl⟩
  | bad2 _ _ => exact ⟨rfl, rfl, rfl⟩
  | same _ => exact ⟨rfl, rfl, rfl⟩
  | ok _ _ a => rw [isN_yes a] at z; cases z
theorem CJoin.sm (c : CJoin S rows d e r S' rows') (z : d = e) : Same .NoList S rows r S' rows' := by
  cases c with
  | bad1 _ => exact ⟨rfl, rfl, rfl⟩
  | bad2 _ _ => exact ⟨rfl, rfl, rfl⟩
  | same _ => exact ⟨rfl, rfl, rfl⟩
  | ok a _ _ => exact absurd (int_nat z) a
end
section
variable {X : Cx} {σ : St} {L : As} {QS : SK} {p : Addr} {x1 x2 x3 x4 : V} {z1 z2 z3 z4 : Str} {i1 i2 i3 i4 kk : Nat} {q1 q2 q3 q4 tpos : Pos}
theorem gl_tup3 (hc : X.calm = true) (nd : X.N.Nodup) (n1 : Nl X.N X.env X.fn i1 z1) (n2 : Nl X.N X.env X.fn i2 z2) (n3 : Nl X.N X.env X.fn i3 z3) (m : tp p [x1, x2, x3] ∈ L)
    (q : QS (((σ.set i1 (some x1)).set i2 (some x2)).set i3 (some x3)) L) : GL X (.Tuple [.Name z1 q1, .Name z2 q2, .Name z3 q3] kk tpos) (.ref p) σ L QS :=
  ⟨fun H o => of_pg (pg_tup (n := 3) hc (pgs_cons (pg_nl n1 nd) (pgs_cons (pg_nl n2 nd) (pgs_cons (pg_nl n3 nd) pgs_nil)))) ⟨p, _, rfl, SqT.of (o.tp m), rfl, _, _, rfl, _, _, rfl, _, _, rfl, rfl, ⟨L, o, q⟩⟩⟩
end
end Sh
namespace Sh
open PySem PySem.Spec L2 PyProof.Rows
/-- what a law draws for a deed at chains -/
inductive CArg (n r : Int) (many : Nat) : Cw → PyData → PyData → Prop
  | first {i : Nat} {x : Int} : i < many → 0 ≤ x → x ≤ 9999 → CArg n r many .first (.int (i : Int)) (.int x)
  | last {i : Nat} {x : Int} : i < many → 0 ≤ x → x ≤ 9999 → CArg n r many .last (.int (i : Int)) (.int x)
  | join {i j : Nat} : i < many → j < many → CArg n r many .join (.int (i : Int)) (.int (j : Int))
  | ahead {h : Int × Int} {x : Int} : InR n r h → 0 ≤ x → x ≤ 9999 → CArg n r many .ahead (hD h) (.int x)
  | behind {h : Int × Int} {x : Int} : InR n r h → 0 ≤ x → x ≤ 9999 → CArg n r many .behind (hD h) (.int x)
  | drop {h : Int × Int} {j : Nat} : InR n r h → j < many → CArg n r many .drop (hD h) (.int (j : Int))
  | move {h : Int × Int} {j : Nat} : InR n r h → j < many → CArg n r many .move (hD h) (.int (j : Int))
  | cut {h : Int × Int} {j : Nat} : InR n r h → j < many → CArg n r many .cut (hD h) (.int (j : Int))
def sCPair (K : PySem.W.Frag) : SpL := fun vs L Q _ => ∃ (a t s kn : Addr) (many : Nat) (n r : Int) (la rn : Bool) (hs : List (Int × Int)) (N : Nat) (L1 : As), vs = [.ref a, .ref t, .ref s, .ref kn, .int (many : Int)] ∧ Rm (dr K a t N) L L1 ∧ N ≤ 900000 ∧ tp s (setV n r la rn) ∈ L1 ∧ 1 ≤ n ∧ 1 ≤ r ∧ ld kn (hs.map hD) ∈ L1 ∧ (∀ h ∈ hs, InR n r h) ∧ 1 ≤ many ∧ many ≤ 9 ∧
  ∀ cw d e v1 v2 T, CArg n r many cw d e → Q (.ref T) (tp T [.str cw.wd, v1, v2] :: dt v1 d :: dt v2 e :: dr K a t (N + 7) :: L1)
theorem sCPair.i {K : PySem.W.Frag} {L L1 : As} {Q : LK} {E : Er → As → Prop} {a t s kn : Addr} {many : Nat} {n r : Int} {la rn : Bool} {hs : List (Int × Int)} {N : Nat} (rm : Rm (dr K a t N) L L1) (h1 : N ≤ 900000) (m : tp s (setV n r la rn) ∈ L1) (n1 : 1 ≤ n) (r1 : 1 ≤ r) (mk : ld kn (hs.map hD) ∈ L1) (hin : ∀ h ∈ hs, InR n r h) (m1 : 1 ≤ many) (m9 : many ≤ 9)
    (q : ∀ cw d e v1 v2 T, CArg n r many cw d e → Q (.ref T) (tp T [.str cw.wd, v1, v2] :: dt v1 d :: dt v2 e :: dr K a t (N + 7) :: L1)) : sCPair K [.ref a, .ref t, .ref s, .ref kn, .int (many : Int)] L Q E :=
  ⟨a, t, s, kn, many, n, r, la, rn, hs, N, L1, rfl, rm, h1, m, n1, r1, mk, hin, m1, m9, q⟩
section
variable {X : Cx} {L : As} {Q : LK} {p : Addr} {x : V} {xs : List V}
theorem ol_inT (m : tp p xs ∈ L) (fx : flatV x = true) (fs : xs.all flatV = true) (q : Q (.bl (inV x xs)) L) : OL X (compareOp .In) x (.ref p) L Q := of_ol op_in_seq fun H o => ⟨p, xs, rfl, .inr (SqT.of (o.tp m)), fx, fs, L, o, q⟩
theorem ol_inTt (m : tp p xs ∈ L) (fx : flatV x = true) (fs : xs.all flatV = true) (h : inV x xs = true) (q : Q (.bl true) L) : OL X (compareOp .In) x (.ref p) L Q := ol_inT m fx fs (by rw [h]; exact q)
theorem ol_inTf (m : tp p xs ∈ L) (fx : flatV x = true) (fs : xs.all flatV = true) (h : inV x xs = false) (q : Q (.bl false) L) : OL X (compareOp .In) x (.ref p) L Q := ol_inT m fx fs (by rw [h]; exact q)
end
theorem imp_cid {A : Asn} {L G : As} (h : Imp L (A :: G)) : Imp L (A :: G) := h
end Sh
namespace Sh
open PySem PySem.Spec L2 PyProof.Rows
/-! ### what a drawn deed at chains does -/
def Cw.puts : Cw → Bool
  | .first => true
  | .last => true
  | .ahead => true
  | .behind => true
  | _ => false
theorem inV_puts (cw : Cw) : inV (.str cw.wd) [.str "first", .str "last", .str "ahead", .str "behind"] = cw.puts := by cases cw <;> decide +kernel
theorem wd_drop {cw : Cw} : cw.wd = "drop" ↔ cw = .drop := by cases cw <;> simp [Cw.wd] <;> decide +kernel
inductive CK (S : SS) (rows : Rws) (cw : Cw) (d e r : PyData) (S' : SS) (rows' : Rws) : Prop
  | put {h : Int × Int} {x : Int} : cw.puts = true → e = .int x → S.putIn (.int x) = .ok (h, S') → r = hD h → CK S rows cw d e r S' rows'
  | drop {h : Int × Int} : cw = .drop → d = hD h → S.holds h.1 h.2 = true → r = .int (wI S h.1) → S' = S.dropAt h.1 → CK S rows cw d e r S' rows'
  | ref {er : Er} : r = refD er → S' = S → rows' = rows → CK S rows cw d e r S' rows'
  | oth : cw.puts = false → cw ≠ .drop → S' = S → (r = .none ∨ ∃ i : Int, r = .int i) → CK S rows cw d e r S' rows'
theorem CT.ck {S S' : SS} {rows rows' : Rws} {cw : Cw} {d e r : PyData} (c : CT S rows cw d e r S' rows') : CK S rows cw d e r S' rows' ∧ rows'.length = rows.length := by
  cases cw with
  | first =>
    cases (show CPutN _ _ _ _ _ _ _ _ from c) with
    | noList _ => exact ⟨.ref rfl rfl rfl, rfl⟩
    | noWorth _ _ => exact ⟨.ref rfl rfl rfl, rfl⟩
    | full _ _ _ _ => exact ⟨.ref rfl rfl rfl, rfl⟩
    | ok _ _ _ es => exact ⟨.put rfl rfl es rfl, List.length_set ..⟩
  | last =>
    cases (show CPutN _ _ _ _ _ _ _ _ from c) with
    | noList _ => exact ⟨.ref rfl rfl rfl, rfl⟩
    | noWorth _ _ => exact ⟨.ref rfl rfl rfl, rfl⟩
    | full _ _ _ _ => exact ⟨.ref rfl rfl rfl, rfl⟩
    | ok _ _ _ es => exact ⟨.put rfl rfl es rfl, List.length_set ..⟩
  | ahead =>
    cases (show CPutH _ _ _ _ _ _ _ _ from c) with
    | bad _ => exact ⟨.ref rfl rfl rfl, rfl⟩
    | noWorth _ _ => exact ⟨.ref rfl rfl rfl, rfl⟩
    | full _ _ _ _ => exact ⟨.ref rfl rfl rfl, rfl⟩
    | ok _ _ _ _ es => exact ⟨.put rfl rfl es rfl, List.length_set ..⟩
  | behind =>
    cases (show CPutH _ _ _ _ _ _ _ _ from c) with
    | bad _ => exact ⟨.ref rfl rfl rfl, rfl⟩
    | noWorth _ _ => exact ⟨.ref rfl rfl rfl, rfl⟩
    | full _ _ _ _ => exact ⟨.ref rfl rfl rfl, rfl⟩
    | ok _ _ _ _ es => exact ⟨.put rfl rfl es rfl, List.length_set ..⟩
  | drop =>
    cases (show CDrop _ _ _ _ _ _ from c) with
    | bad _ => exact ⟨.ref rfl rfl rfl, rfl⟩
    | @ok h _ _ _ es _ => exact ⟨.drop (h := h) rfl (SS.at_ok (s := h.1) (c := h.2) es).1 (SS.at_ok (s := h.1) (c := h.2) es).2.1 rfl rfl, List.length_set ..⟩
  | move =>
    cases (show CMove _ _ _ _ _ _ _ from c) with
    | bad _ => exact ⟨.ref rfl rfl rfl, rfl⟩
    | noList _ _ => exact ⟨.ref rfl rfl rfl, rfl⟩
    | ok _ _ _ => exact ⟨.oth rfl (fun z => by cases z) rfl (.inl rfl), by rw [List.length_set, List.length_set]⟩
  | join =>
    cases (show CJoin _ _ _ _ _ _ _ from c) with
    | bad1 _ => exact ⟨.ref rfl rfl rfl, rfl⟩
    | bad2 _ _ => exact ⟨.ref rfl rfl rfl, rfl⟩
    | same _ => exact ⟨.ref rfl rfl rfl, rfl⟩
    | ok _ _ _ => exact ⟨.oth rfl (fun z => by cases z) rfl (.inr ⟨_, rfl⟩), by rw [List.length_set, List.length_set]⟩
  | cut =>
    cases (show CCut _ _ _ _ _ _ _ from c) with
    | bad _ => exact ⟨.ref rfl rfl rfl, rfl⟩
    | noList _ _ => exact ⟨.ref rfl rfl rfl, rfl⟩
    | notEmpty _ _ _ => exact ⟨.ref rfl rfl rfl, rfl⟩
    | ok _ _ _ => exact ⟨.oth rfl (fun z => by cases z) rfl (.inr ⟨_, rfl⟩), by rw [List.length_set, List.length_set]⟩
theorem srtH_congr {xs ys : List (Int × Int)} (p : xs.Perm ys) : srtH xs = srtH ys := srtH_eq ((srtH_perm xs).trans p) (srtH_sorted xs)
theorem mem_srtH {xs : List (Int × Int)} {h : Int × Int} : h ∈ srtH xs ↔ h ∈ xs := (srtH_perm xs).mem_iff
end Sh
namespace Sh
open PySem PySem.Spec L2 PyProof.Rows
/-! ### list.remove, list.insert of data -/
section
variable {X : Cx}
def rRemD (K : PySem.W.Frag) : V → List V → Hp → VK → Prop := fun x xs H Q => ∃ (l : Addr) (vs : List V) (y : V) (d : PyData) (ds : List PyData) (j : Nat) (z : PyData), x = V.ref l ∧ xs = [y] ∧ H l = some (.lst vs) ∧ DpAll K H vs ds ∧ Dp K H y d ∧
  SeqAt.shaped (.list ds) = true ∧ SeqAt.shaped d = true ∧ ds[j]? = some z ∧ PyData.eqv z d = true ∧ (∀ (m : Nat) (z' : PyData), m < j → ds[m]? = some z' → PyData.eqv z' d = false) ∧ Q .non (upd H l (.lst (vs.eraseIdx j)))
theorem mt_removeD (hu : X.A.units + 65 < cLine) : MtR X "list.remove" (rRemD X.K) := by
  intro pins s σ H x xs v us Q I rx rxs h
  obtain ⟨l, vs, y, d, ds, j, z, rfl, rfl, hH, ha, hy, sl, sd, hz, hzj, hno, q⟩ := h
  cases rx
  cases rxs with
  | cons ry rt =>
    rename_i uy ut
    cases rt
    obtain ⟨bs, r1⟩ := Dp.reads I d y uy hy ry
    have hxs : PyData.canLayAll0 ds = true := SeqAt.canLay_of_shaped sl
    have hroom : X.A.units + 1 + min (PyData.depthAll ds) d.depth < cLine := room_in_shaped sd hu
    obtain ⟨zz, its, n, rv, hlen, ho⟩ := I.lstM hH
    obtain ⟨as, h4⟩ := Dp.readsAll I ds _ its ha rv
    have hn : its.length = ds.length := SeqAt.ReadsAll.length ds its as h4
    have hmap : its.map (SeqAt.readOf s.heap) = ds := SeqAt.readsAll_map ds its as hxs h4
    have hvl := rv.length
    have hsl := sizeLine_eq
    obtain ⟨hjd, _⟩ := List.getElem?_eq_some_iff.mp hz
    have hjl : j < its.length := by omega
    have hj : j < its.toArray.size := by simpa using hjl
    have at_ : ∀ (m : Nat) (hm : m < its.toArray.size) (z' : PyData), ds[m]? = some z' → SeqAt.readOf s.heap its.toArray[m] = z' := by
      intro m hm z' hz'
      have hml : m < its.length := by simpa using hm
      rw [← hmap, List.getElem?_map, List.getElem?_eq_getElem hml] at hz'
      have e1 : SeqAt.readOf s.heap its[m] = z' := Option.some.inj (show some (SeqAt.readOf s.heap its[m]) = some z' from hz')
      simpa using e1
    refine call_meets PySem.F.slot_list_remove ⟨_, ho, rfl⟩ PySem.F.entry_list_remove (PySem.F.args_list_remove_2 _ _)
      (SeqAt.list_removeAt l its.toArray n none #[] uy (fun u => PyData.eqv (SeqAt.readOf s.heap u) d) j hj ?_ ?_ (by rw [List.size_toArray]; omega)) ⟨ho, SeqAt.items_eqAt (vs := its.toArray) (show ReadsAll s.heap its.toArray.toList ds as from h4) r1 hxs (SeqAt.canLay_of_shaped sd) hroom, ?_⟩
    · show PyData.eqv (SeqAt.readOf s.heap its.toArray[j]) d = true
      rw [at_ j hj z hz]
      exact hzj
    · intro m hm hmj
      have hmd : m < ds.length := by omega
      have hz' : ds[m]? = some ds[m] := List.getElem?_eq_getElem hmd
      show PyData.eqv (SeqAt.readOf s.heap its.toArray[m]) d = false
      rw [at_ m hm _ hz']
      exact hno m _ hmj hz'
    · have rr := rv.eraseIdx j
      refine ⟨.non, _, I.lset (its' := its.eraseIdx j) (t' := s.toks) hH ho ?_ rr ?_, rfl, q⟩
      · show its.toArray.eraseIdxIfInBounds j = (its.eraseIdx j).toArray
        rw [List.eraseIdxIfInBounds_toArray]
      · have z2 := List.length_eraseIdx_le vs j
        omega
end
section
variable {X : Cx} {C : Cl} {E : EK} {e o : Expr} {σ : St} {L L' : As} {Q : LK} {pos apos : Pos} {y : V} {l : Nat} {p : Addr} {hs : List (Int × Int)} {h : Int × Int}
theorem el_remove (W : Wk X C l E) (q : EL X o σ L fun x L1 => ∃ p, x = .ref p ∧ IsLs X.K L1 p ∧ EL X e σ L1 fun y L2 => LR (rRemD X.K) p [y] L2 Q)
    (hbase : attributeBase o "remove" X.env (eval o X.env) = eval o X.env := by rfl)
    (hfew : ((backTo pos (starEach [e] X.env)).all (fun w => !w.1) && (backToKw pos (keywordEach [] X.env)).all (fun w => w.1.isSome)
      && decide (([e] : List Expr).length + ([] : List Keyword).length + (if ([] : List Keyword).isEmpty then 0 else 1) < 30)) = true := by rfl)
    (hline : (apos.endLine == pos.line) = true := by rfl) (hs : starEach [e] X.env = (false, eval e X.env) :: starEach [] X.env := by rfl) : EL X (.Call (.Attribute o "remove" apos) [e] [] pos) σ L Q :=
  el_lm1 PySem.F.slot_list_remove PySem.F.type_list_remove (mt_removeD (by have := W.hr.un; omega)) q hbase hfew hline hs
theorem erase_idx {hs : List (Int × Int)} {h : Int × Int} (hm : h ∈ hs) : hs.erase h = hs.eraseIdx (hs.idxOf h) := List.erase_eq_eraseIdx_of_idxOf rfl
theorem rem_H (r1 : Rp (ld p (hs.map hD)) (ld p ((hs.erase h).map hD)) L L') (hd : Dsc X.K L y (hD h)) (hm : h ∈ hs) (q : Q .non L') : LR (rRemD X.K) p [y] L Q := fun H o => by
  obtain ⟨vs, e1, e2, w⟩ := upd_ld o r1
  obtain ⟨a1, a2⟩ := idx_min hm
  refine ⟨p, vs, y, hD h, hs.map hD, hs.idxOf h, hD h, rfl, rfl, e1, e2.dp, hd H o, pl_shaped (pls_list (pls_hD (j := 1) hs)) (by decide), pl_shaped (pl_hD 1 h) (by decide), by rw [List.getElem?_map, a1]; rfl, by rw [hD_eqv]; exact decide_eq_true rfl, fun m' z' hlt hz => ?_, L', ?_, q⟩
  · rw [List.getElem?_map] at hz
    obtain ⟨k, hk, rfl⟩ := Option.map_eq_some_iff.mp hz
    rw [hD_eqv]
    exact decide_eq_false fun e => a2 m' hlt (by rw [hk, e])
  · refine w _ ?_
    rw [erase_idx hm, ← map_erase]
    exact e2.erase _
end
end Sh
namespace Sh
open PySem PySem.Spec L2 PyProof.Rows
section
variable {X : Cx} {e e2 o : Expr} {σ : St} {L L' : As} {Q : LK} {pos apos : Pos} {y : V} {p : Addr} {d : PyData} {ds : List PyData} {i : Nat}
def rIns : V → List V → Hp → VK → Prop := fun x vs H Q => ∃ (l : Addr) (xs : List V) (i : Int) (y : V), x = .ref l ∧ vs = [.int i, y] ∧ H l = some (.lst xs) ∧ xs.length < sizeLine ∧ 0 ≤ i ∧ i < 2 ^ 63 ∧ Q .non (upd H l (.lst (xs.take i.toNat ++ [y] ++ xs.drop i.toNat)))
theorem el_insert (q : EL X o σ L fun x L1 => ∃ p, x = .ref p ∧ IsLs X.K L1 p ∧ EL X e σ L1 fun y L2 => EL X e2 σ L2 fun z L3 => LR rIns p [y, z] L3 Q)
    (hbase : attributeBase o "insert" X.env (eval o X.env) = eval o X.env := by rfl)
    (hfew : ((backTo pos (starEach [e, e2] X.env)).all (fun w => !w.1) && (backToKw pos (keywordEach [] X.env)).all (fun w => w.1.isSome)
      && decide (([e, e2] : List Expr).length + ([] : List Keyword).length + (if ([] : List Keyword).isEmpty then 0 else 1) < 30)) = true := by rfl)
    (hline : (apos.endLine == pos.line) = true := by rfl) (hs : starEach [e, e2] X.env = (false, eval e X.env) :: starEach [e2] X.env := by rfl) (hs2 : starEach [e2] X.env = (false, eval e2 X.env) :: starEach [] X.env := by rfl)
    (hpl : (backTo pos (starEach [e2] X.env)).any (·.1) = false := by rfl) : EL X (.Call (.Attribute o "insert" apos) [e, e2] [] pos) σ L Q :=
  el_lm2 PySem.F.slot_list_insert PySem.F.type_list_insert mt_insert q hbase hfew hline hs hs2 hpl
theorem ins_ld (r1 : Rp (ld p ds) (ld p (ds.take i ++ [d] ++ ds.drop i)) L L') (hd : Dsi L y d) (h : ds.length < 10000000) (hi : i < 10000000) (q : Q .non L') : LR rIns p [.int (i : Int), y] L Q := fun H o => by
  obtain ⟨vs, e1, e2, w⟩ := upd_ld o r1
  refine ⟨p, vs, (i : Int), y, rfl, rfl, e1, szl (by rw [DtAll.len e2]; exact h), by omega, by omega, L', ?_, q⟩
  rw [Int.toNat_natCast]
  exact w _ (((e2.take i).app (.cons (hd H H o.s) .nil)).app (e2.drop i))
end
end Sh
namespace Sh
open PySem PySem.Spec L2 PyProof.Rows
section
variable {S S' : SS} {rows rows' : Rws} {cw : Cw} {d e r : PyData} {x : Int} {h k : Int × Int} {F : Int × Int → List (Int × Int) → List (Int × Int)} {G : List (Int × Int) → Int × Int → List (Int × Int) → Int × Int → List (Int × Int)}
theorem CT.keep (c : CT S rows cw d e r S' rows') (hp : cw.puts = false) (hd : cw ≠ .drop) : S' = S ∧ rows'.length = rows.length := by
  obtain ⟨ck, el⟩ := c.ck
  refine ⟨?_, el⟩
  cases ck with
  | put a _ _ _ => rw [hp] at a; cases a
  | drop a _ _ _ _ => exact absurd a hd
  | ref _ a _ => exact a
  | oth _ _ a _ => exact a
theorem CPutN.tellP (c : CPutN S rows F d e r S' rows') (hi : isN rows d = true) (he : e = .int x) (x0 : 0 ≤ x) (x1 : x ≤ 9999) : r = (S.tellP (.int x)).1 ∧ S' = (S.tellP (.int x)).2 ∧ rows'.length = rows.length := by
  unfold SS.tellP
  cases c with
  | noList a => rw [a] at hi; cases hi
  | noWorth _ a => subst he; rw [isW x0 x1] at a; cases a
  | full _ _ _ a => cases he; rw [a]; exact ⟨rfl, rfl, rfl⟩
  | ok _ _ _ a => cases he; rw [a]; exact ⟨rfl, rfl, List.length_set ..⟩
theorem CPutH.tellP (c : CPutH S rows G d e r S' rows') (hi : S.at d = .ok k) (he : e = .int x) (x0 : 0 ≤ x) (x1 : x ≤ 9999) : r = (S.tellP (.int x)).1 ∧ S' = (S.tellP (.int x)).2 ∧ rows'.length = rows.length := by
  unfold SS.tellP
  cases c with
  | bad a => rw [hi] at a; cases a
  | noWorth _ a => subst he; rw [isW x0 x1] at a; cases a
  | full _ _ _ a => cases he; rw [a]; exact ⟨rfl, rfl, rfl⟩
  | ok _ _ _ _ a => cases he; rw [a]; exact ⟨rfl, rfl, List.length_set ..⟩
theorem CDrop.tellD (c : CDrop S rows d r S' rows') (wi : S.Wi) (hd : d = hD h) (hr : InR S.n S.r h) : r = (S.tellD h).1 ∧ S' = (S.tellD h).2 ∧ rows'.length = rows.length := by
  unfold SS.tellD
  cases c with
  | bad a =>
    subst hd
    rw [SS.at_hD hr] at a
    by_cases z : S.holds h.1 h.2 = true
    · rw [if_pos z] at a; cases a
    · rw [if_neg z] at a
      rw [if_neg z]
      cases a
      exact ⟨rfl, rfl, rfl⟩
  | ok a _ =>
    subst hd
    rw [SS.at_hD hr] at a
    by_cases z : S.holds h.1 h.2 = true
    · rw [if_pos z] at a
      cases a
      rw [if_pos z]
      exact ⟨(wI_wth wi z).2.symm, rfl, List.length_set ..⟩
    · rw [if_neg z] at a; cases a
end
end Sh
namespace Sh
open PySem PySem.Spec L2 PyProof.Rows
/-! ### a list of lists of handles -/
def rupd (rw : Nat → List (Int × Int)) (i : Nat) (r : List (Int × Int)) : Nat → List (Int × Int) := fun j => if j = i then r else rw j
def rowsK (ad : Nat → Addr) (rw : Nat → List (Int × Int)) (ks : List Nat) : Asn := cj (ks.map fun j => ld (ad j) ((rw j).map hD))
abbrev refsK (ad : Nat → Addr) (n : Nat) : List V := (List.range n).map fun j => .ref (ad j)
abbrev rwF (rows : Rws) : Nat → List (Int × Int) := fun j => rows.getD j []
def RowsAt (rl : Addr) (rows : Rws) : Asn := ex fun ad : Nat → Addr => cj [pt rl (.lst (refsK ad rows.length)), rowsK ad (rwF rows) (List.range rows.length)]
section
variable {X : Cx} {σ : St} {L L1 L2 G : As} {Q : LK} {D : DL} {rl : Addr} {rows : Rws} {ad : Nat → Addr} {rw : Nat → List (Int × Int)} {ks : List Nat} {i j : Nat} {row r : List (Int × Int)} {st : List Stmt}
theorem BL.openW (rm : Rm (RowsAt rl rows) L L1) (q : ∀ ad, BL X st D σ (pt rl (.lst (refsK ad rows.length)) :: rowsK ad (rwF rows) (List.range rows.length) :: L1)) : BL X st D σ L := ⟨fun H o => by
  obtain ⟨ad, o1⟩ := Own.exI (o.front rm)
  exact (q ad).run H (Own.cjI (L1 := [pt rl (.lst (refsK ad rows.length)), rowsK ad (rwF rows) (List.range rows.length)]) o1)⟩
theorem rk_congr {rw' : Nat → List (Int × Int)} (h : ∀ k ∈ ks, rw' k = rw k) : rowsK ad rw' ks = rowsK ad rw ks := by
  unfold rowsK
  congr 1
  exact List.map_congr_left fun k hk => by rw [h k hk]
/-- closed: what the rows are now -/
theorem imp_rowsC {n : Nat} (hn : rows.length = n) (h : ∀ k < n, rw k = rows.getD k []) : Imp (pt rl (.lst (refsK ad n)) :: rowsK ad rw (List.range n) :: L) (RowsAt rl rows :: L) := by
  subst hn
  rw [rk_congr (rw := rwF rows) fun k hk => h k (List.mem_range.mp hk)]
  exact (imp_cjE (L1 := [pt rl (.lst (refsK ad rows.length)), rowsK ad (rwF rows) (List.range rows.length)])).trans (imp_exE (F := fun ad : Nat → Addr => cj [pt rl (.lst (refsK ad rows.length)), rowsK ad (rwF rows) (List.range rows.length)]) ad)
theorem ks_perm : ∀ {ks : List Nat}, ks.Nodup → i ∈ ks → ks.Perm (i :: ks.filter fun k => decide (k ≠ i))
  | a :: l, nd, hk => by
    rw [List.nodup_cons] at nd
    rcases List.mem_cons.mp hk with e | hk
    · subst e
      have : (i :: l).filter (fun k => decide (k ≠ i)) = l := by
        rw [List.filter_cons, if_neg (by simp)]
        exact List.filter_eq_self.mpr fun x hx => decide_eq_true fun z => nd.1 (z ▸ hx)
      rw [this]
    · have ne : a ≠ i := fun z => nd.1 (z ▸ hk)
      have : (a :: l).filter (fun k => decide (k ≠ i)) = a :: l.filter fun k => decide (k ≠ i) := by
        rw [List.filter_cons, if_pos (decide_eq_true ne)]
      rw [this]
      exact ((ks_perm nd.2 hk).cons a).trans (List.Perm.swap _ _ _)
theorem imp_rkO (nk : ks.Nodup) (m : i ∈ ks) : Imp (rowsK ad rw ks :: L) (ld (ad i) ((rw i).map hD) :: rowsK ad rw (ks.filter fun k => decide (k ≠ i)) :: L) := by
  refine (imp_cjI (L1 := ks.map fun j => ld (ad j) ((rw j).map hD))).trans ?_
  refine (imp_perm (((ks_perm nk m).map (fun j => ld (ad j) ((rw j).map hD))).append_right L)).trans ?_
  rw [List.map_cons, List.cons_append]
  exact imp_same imp_cjE
theorem imp_rkB (nk : ks.Nodup) (m : i ∈ ks) : Imp (ld (ad i) (r.map hD) :: rowsK ad rw (ks.filter fun k => decide (k ≠ i)) :: L) (rowsK ad (rupd rw i r) ks :: L) := by
  have e : rowsK ad rw (ks.filter fun k => decide (k ≠ i)) = rowsK ad (rupd rw i r) (ks.filter fun k => decide (k ≠ i)) := rk_congr fun k hk => by
    have := of_decide_eq_true (List.mem_filter.mp hk).2
    exact (if_neg this).symm
  rw [e]
  refine Imp.trans ?_ (imp_cjE (L1 := ks.map fun j => ld (ad j) ((rupd rw i r j).map hD)))
  refine Imp.trans ?_ (imp_perm (((ks_perm nk m).map (fun j => ld (ad j) ((rupd rw i r j).map hD))).append_right L).symm)
  rw [List.map_cons, List.cons_append]
  show Imp _ (ld (ad i) ((rupd rw i r i).map hD) :: _)
  rw [show rupd rw i r i = r from if_pos rfl]
  exact imp_same imp_cjI
/-- the row at i, the others -/
theorem BL.openW1 (rm : Rm (RowsAt rl rows) L L1) (e : rows[i]? = some row) (q : ∀ ad, BL X st D σ (ld (ad i) (row.map hD) :: pt rl (.lst (refsK ad rows.length)) :: rowsK ad (rwF rows) ((List.range rows.length).filter fun k => decide (k ≠ i)) :: L1)) : BL X st D σ L := by
  have hi := (List.getElem?_eq_some_iff.mp e).1
  refine BL.openW rm fun ad => ?_
  refine BL.sub (L' := ld (ad i) (row.map hD) :: rowsK ad (rwF rows) ((List.range rows.length).filter fun k => decide (k ≠ i)) :: pt rl (.lst (refsK ad rows.length)) :: L1) ?_ ?_
  · have er : rwF rows i = row := by show rows.getD i [] = row; rw [List.getD_eq_getElem?_getD, e]; rfl
    rw [← er]
    exact (imp_cons (.there .here) (imp_cons .here Imp.rfl)).trans (imp_rkO List.nodup_range (List.mem_range.mpr hi))
  · exact BL.sub (imp_cons .here (imp_cons (.there .here) (imp_cons .here Imp.rfl))) (q ad)
theorem imp_rows1 (e : rows[i]? = some row) (r1 : Rm (ld (ad i) (r.map hD)) L L1) (r2 : Rm (pt rl (.lst (refsK ad rows.length))) L1 L2) {L3 : As} (r3 : Rm (rowsK ad (rwF rows) ((List.range rows.length).filter fun k => decide (k ≠ i))) L2 L3) (k : Imp L3 G) : Imp L (RowsAt rl (rows.set i r) :: G) := by
  have hi := (List.getElem?_eq_some_iff.mp e).1
  have s1 : Imp L (pt rl (.lst (refsK ad rows.length)) :: rowsK ad (rupd (rwF rows) i r) (List.range rows.length) :: G) := by
    refine Imp.trans (imp_cons r1 (imp_cons r2 (imp_cons r3 k))) ?_
    refine Imp.trans (imp_cons (.there .here) (imp_cons .here (imp_cons .here Imp.rfl))) ?_
    exact imp_same (imp_rkB List.nodup_range (List.mem_range.mpr hi))
  refine s1.trans (imp_rowsC (List.length_set ..) fun k hk => ?_)
  unfold rupd
  by_cases z : k = i
  · subst z
    rw [if_pos rfl, List.getD_eq_getElem?_getD, List.getElem?_set_self hi]; rfl
  · rw [if_neg z, List.getD_eq_getElem?_getD, List.getElem?_set_ne (fun q => z q.symm), ← List.getD_eq_getElem?_getD]
theorem refs_at {n : Nat} (h : i < n) : atI (refsK ad n) (i : Int) = some (.ref (ad i)) := atI_nat (by rw [List.getElem?_map, List.getElem?_range h]; rfl)
theorem xl_rows {n : Nat} (m : pt rl (.lst (refsK ad n)) ∈ L) (h : i < n) (q : Q (.ref (ad i)) L) : XL X (.ref rl) (.int (i : Int)) L Q := xl_L m (refs_at h) q
end
end Sh
namespace Sh
open PySem PySem.Spec L2 PyProof.Rows
section
variable {X : Cx} {σ : St} {L L1 L2 L3 L4 G : As} {Q : LK} {D : DL} {rl : Addr} {rows : Rws} {ad : Nat → Addr} {i j : Nat} {ri rj r s : List (Int × Int)} {st : List Stmt}
abbrev ks2 (n i j : Nat) : List Nat := ((List.range n).filter fun k => decide (k ≠ i)).filter fun k => decide (k ≠ j)
theorem BL.openW2 (rm : Rm (RowsAt rl rows) L L1) (e1 : rows[i]? = some ri) (e2 : rows[j]? = some rj) (ne : i ≠ j) (q : ∀ ad, BL X st D σ (ld (ad i) (ri.map hD) :: ld (ad j) (rj.map hD) :: pt rl (.lst (refsK ad rows.length)) :: rowsK ad (rwF rows) (ks2 rows.length i j) :: L1)) : BL X st D σ L := by
  have hj := (List.getElem?_eq_some_iff.mp e2).1
  refine BL.openW1 rm e1 fun ad => ?_
  have er : rwF rows j = rj := by show rows.getD j [] = rj; rw [List.getD_eq_getElem?_getD, e2]; rfl
  refine BL.sub (L' := ld (ad j) (rj.map hD) :: rowsK ad (rwF rows) (ks2 rows.length i j) :: ld (ad i) (ri.map hD) :: pt rl (.lst (refsK ad rows.length)) :: L1) ?_ ?_
  · rw [← er]
    exact (imp_cons (.there (.there .here)) (imp_cons .here (imp_cons .here Imp.rfl))).trans (imp_rkO (List.nodup_range.filter _) (List.mem_filter.mpr ⟨List.mem_range.mpr hj, decide_eq_true ne.symm⟩))
  · exact BL.sub (imp_cons (.there (.there .here)) (imp_cons .here (imp_cons (.there .here) (imp_cons .here Imp.rfl)))) (q ad)
theorem imp_rows2 (e1 : rows[i]? = some ri) (e2 : rows[j]? = some rj) (ne : i ≠ j) (r1 : Rm (ld (ad i) (r.map hD)) L L1) (r2 : Rm (ld (ad j) (s.map hD)) L1 L2) (r3 : Rm (pt rl (.lst (refsK ad rows.length))) L2 L3) (r4 : Rm (rowsK ad (rwF rows) (ks2 rows.length i j)) L3 L4) (k : Imp L4 G) : Imp L (RowsAt rl ((rows.set i r).set j s) :: G) := by
  have hi := (List.getElem?_eq_some_iff.mp e1).1
  have hj := (List.getElem?_eq_some_iff.mp e2).1
  have s1 : Imp L (pt rl (.lst (refsK ad rows.length)) :: rowsK ad (rupd (rupd (rwF rows) j s) i r) (List.range rows.length) :: G) := by
    refine Imp.trans (imp_cons r1 (imp_cons r2 (imp_cons r3 (imp_cons r4 k)))) ?_
    refine Imp.trans (imp_cons (.there (.there .here)) (imp_cons .here (imp_cons .here (imp_cons .here Imp.rfl)))) ?_
    refine imp_same ?_
    refine Imp.trans (imp_same (imp_rkB (List.nodup_range.filter _) (List.mem_filter.mpr ⟨List.mem_range.mpr hj, decide_eq_true ne.symm⟩))) ?_
    exact imp_rkB List.nodup_range (List.mem_range.mpr hi)
  refine s1.trans (imp_rowsC (by rw [List.length_set, List.length_set]) fun k hk => ?_)
  unfold rupd
  by_cases z : k = i
  · subst z
    rw [if_pos rfl, List.getD_eq_getElem?_getD, List.getElem?_set_ne ne.symm, List.getElem?_set_self hi]; rfl
  · rw [if_neg z]
    by_cases y : k = j
    · subst y
      rw [if_pos rfl, List.getD_eq_getElem?_getD, List.getElem?_set_self (by rw [List.length_set]; exact hj)]; rfl
    · rw [if_neg y, List.getD_eq_getElem?_getD, List.getElem?_set_ne (fun q => y q.symm), List.getElem?_set_ne (fun q => z q.symm), ← List.getD_eq_getElem?_getD]
end
/-- rows = [[] for z in range(e)] -/
theorem sl_lcRows {X : Cx} {D : DL} {σ : St} {L : As} {z zy : Str} {ix iy : Nat} {e : Expr} {scope : Scope} {p1 p2 p3 p4 lpos pos spos : Pos} (hc : X.calm = true) (nd : X.N.Nodup) (ny : X.N[iy]? = some zy) (hy : X.env.scope.names.lookup zy = some .local)
    (hw : swapsWith (.ListComp (.List [] lpos) [⟨.Name z p1, .Call (.Name "range" p2) [e] [] p3, [], 0⟩] scope pos) (some (.Name zy p4)) spos.line X.env = pure true)
    (no : X.N[ix]? = some z) (ok : BlkOk X.N X.env.scope scope [(z, ix)]) (hz : scope.names.lookup z = some .local) (g : Bn X.env X.mg "range" (.type "range"))
    (q : EL X e σ L fun x L1 => ∃ m : Nat, x = .int (m : Int) ∧ m < 10000000 ∧ ∀ lp, D.nx (σ.set iy (some (.ref lp))) (RowsAt lp (List.replicate m []) :: L1))
    (h1 : starEach [e] X.env = [(false, eval e X.env)] := by rfl)
    (hs : ∀ x, foldedSetIterable (.Call (.Name "range" p2) [e] [] p3) X.env x = pure x := by intro _; rfl) : SL X (.Assign [.Name zy p4] (.ListComp (.List [] lpos) [⟨.Name z p1, .Call (.Name "range" p2) [e] [] p3, [], 0⟩] scope pos) spos) D σ L := by
  refine ⟨fun H o => ws_lcR hc nd ny hy hw no ok hz g ?_ h1 hs⟩
  refine we_imp (q.run H o) fun x H1 hh => ?_
  obtain ⟨L1, o1, m, ex, hm, hq⟩ := hh
  refine ⟨m, ex, by omega, by omega, fun dl H2 hn e2 => ⟨fun j H => ∃ ad : Nat → Addr, Own H (pt dl (.lst (refsK ad j)) :: rowsK ad (fun _ => []) (List.range j) :: L1), ⟨fun _ => 0, ?_⟩, fun j H hj hh s Hs C cl fp => ?_, fun H hh => ?_⟩⟩
  · exact (imp_same (A := pt dl (.lst [])) (imp_cjE (L1 := []) (L := L1))).own (o1.newE hn e2)
  · obtain ⟨ad, o⟩ := hh
    refine we_lst (wa_nil ⟨sz (Nat.le_of_ble_eq_true rfl), fun p H4 hn4 e4 => ?_⟩)
    have o4 := o.newE hn4 e4
    refine ⟨refsK ad j, o4.pt (.tail _ (.head _)), szl (by rw [List.length_map, List.length_range]; omega), fun H5 e5 => ⟨fun k => if k = j then p else ad k, ?_⟩⟩
    have o5 := o4.wrE e5 (.tail _ (.head _)) ntL (.there .here)
    have er : refsK (fun k => if k = j then p else ad k) (j + 1) = refsK ad j ++ [.ref p] := by
      unfold refsK
      rw [List.range_succ, List.map_append]
      congr 1
      · exact List.map_congr_left fun k hk => by dsimp only; rw [if_neg (by have := List.mem_range.mp hk; omega)]
      · show [V.ref (if j = j then p else ad j)] = _
        rw [if_pos rfl]
    have ek : rowsK ad (fun _ => []) (List.range j) = rowsK (fun k => if k = j then p else ad k) (fun _ => []) (List.range j) := by
      unfold rowsK
      congr 1
      exact List.map_congr_left fun k hk => by dsimp only; rw [if_neg (by have := List.mem_range.mp hk; omega)]
    rw [er]
    refine Imp.own ?_ o5
    refine imp_cons (.there .here) ?_
    rw [ek]
    unfold rowsK
    rw [List.range_succ, List.map_append]
    refine Imp.trans ?_ (imp_cjE (L1 := List.map (fun k => ld (if k = j then p else ad k) (([] : List (Int × Int)).map hD)) (List.range j) ++ List.map (fun k => ld (if k = j then p else ad k) (([] : List (Int × Int)).map hD)) [j]))
    refine Imp.trans (imp_same (imp_cjI (L1 := List.map (fun k => ld (if k = j then p else ad k) (([] : List (Int × Int)).map hD)) (List.range j)))) ?_
    have e6 : List.map (fun k => ld (if k = j then p else ad k) (([] : List (Int × Int)).map hD)) [j] = [ld p []] := by
      show [ld (if j = j then p else ad j) []] = _
      rw [if_pos rfl]
    rw [e6]
    refine Imp.trans (imp_ld0 .here Imp.rfl) ?_
    refine imp_perm ?_
    rw [List.append_assoc]
    exact List.perm_middle.symm
  · obtain ⟨ad, o⟩ := hh
    rw [Int.toNat_natCast] at o
    refine ⟨_, Imp.own (imp_rowsC (rows := List.replicate m []) (by rw [List.length_replicate]) fun k hk => ?_) o, hq dl⟩
    rw [List.getD_eq_getElem?_getD, List.getElem?_replicate, if_pos hk]; rfl
end Sh
namespace Sh
open PySem PySem.Spec L2 PyProof.Rows
theorem ext_lv {L L' : As} {p q : Addr} {ds fs : List PyData} {ws : List V} {R : As → Prop} (mm : lv q ws fs ∈ L) (r : Rp (ld p ds) (ld p (ds ++ fs)) L L') (hl : ds.length + fs.length ≤ 1000) (k : R L') : ExtL p (.ref q) L R := fun H o => by
  obtain ⟨vs, e1, e2, w⟩ := upd_ld o r
  obtain ⟨f1, f2⟩ := lvP (o.get (A := lv q ws fs) mm)
  exact ⟨q, vs, ws, rfl, e1, f1, sz (by rw [DtAll.len e2, DtAll.len f2]; omega), fun H3 e => ⟨L', e ▸ w _ (e2.app f2), k⟩⟩
end Sh
namespace Sh
open PySem PySem.Spec L2 PyProof.Rows
section
variable {S S' : SS} {rows rows' : Rws} {d e r : PyData} {x : Int} {h k : Int × Int} {i j : Nat} {F : Int × Int → List (Int × Int) → List (Int × Int)} {G : List (Int × Int) → Int × Int → List (Int × Int) → Int × Int → List (Int × Int)}
theorem atH_val (hr : InR S.n S.r k) : (S.holds k.1 k.2 = true ∧ S.at (hD k) = .ok k) ∨ (S.holds k.1 k.2 = false ∧ S.at (hD k) = .error .Stale) := by
  rw [SS.at_hD hr]
  cases z : S.holds k.1 k.2 with
  | true => exact .inl ⟨rfl, if_pos rfl⟩
  | false => exact .inr ⟨rfl, if_neg Bool.false_ne_true⟩
theorem CPutN.val (c : CPutN S rows F d e r S' rows') (ed : d = .int (i : Int)) (ee : e = .int x) (hi : i < rows.length) (x0 : 0 ≤ x) (x1 : x ≤ 9999) :
    (∃ row h, rows[i]? = some row ∧ S.putIn (.int x) = .ok (h, S') ∧ r = hD h ∧ rows' = rows.set i (F h row)) ∨ (∃ er, S.putIn (.int x) = .error er ∧ r = refD er ∧ S' = S ∧ rows' = rows) := by
  cases c with
  | noList a => subst ed; rw [isN_of hi] at a; cases a
  | noWorth _ a => subst ee; rw [isW x0 x1] at a; cases a
  | full _ _ _ a => cases ee; exact .inr ⟨_, a, rfl, rfl, rfl⟩
  | ok a _ _ b => cases ee; have := int_nat ed; subst this; exact .inl ⟨_, _, a, b, rfl, rfl⟩
theorem CPutH.val (c : CPutH S rows G d e r S' rows') (ed : d = hD k) (ee : e = .int x) (hr : InR S.n S.r k) (x0 : 0 ≤ x) (x1 : x ≤ 9999) :
    (S.holds k.1 k.2 = false ∧ r = refD .Stale ∧ S' = S ∧ rows' = rows) ∨ (S.holds k.1 k.2 = true ∧ ∃ (i : Nat) (a b : List (Int × Int)) (h : Int × Int), rows[i]? = some (a ++ k :: b) ∧ S.putIn (.int x) = .ok (h, S') ∧ r = hD h ∧ rows' = rows.set i (G a k b h)) ∨ (S.holds k.1 k.2 = true ∧ ∃ er, S.putIn (.int x) = .error er ∧ r = refD er ∧ S' = S ∧ rows' = rows) := by
  subst ed
  rcases atH_val hr with ⟨h1, h2⟩ | ⟨h1, h2⟩
  · cases c with
    | bad a => rw [h2] at a; cases a
    | noWorth _ a => subst ee; rw [isW x0 x1] at a; cases a
    | full _ _ _ a => cases ee; exact .inr (.inr ⟨h1, _, a, rfl, rfl, rfl⟩)
    | ok a b _ _ c => cases ee; rw [h2] at a; cases a; exact .inr (.inl ⟨h1, _, _, _, _, b, c, rfl, rfl⟩)
  · cases c with
    | bad a => rw [h2] at a; cases a; exact .inl ⟨h1, rfl, rfl, rfl⟩
    | noWorth a _ => rw [h2] at a; cases a
    | full a _ _ _ => rw [h2] at a; cases a
    | ok a _ _ _ _ => rw [h2] at a; cases a
theorem CDrop.val (c : CDrop S rows d r S' rows') (ed : d = hD k) (hr : InR S.n S.r k) :
    (S.holds k.1 k.2 = false ∧ r = refD .Stale ∧ S' = S ∧ rows' = rows) ∨ (S.holds k.1 k.2 = true ∧ ∃ (i : Nat) (a b : List (Int × Int)), rows[i]? = some (a ++ k :: b) ∧ r = .int (wI S k.1) ∧ S' = S.dropAt k.1 ∧ rows' = rows.set i (a ++ b)) := by
  subst ed
  rcases atH_val hr with ⟨h1, h2⟩ | ⟨h1, h2⟩
  · cases c with
    | bad a => rw [h2] at a; cases a
    | ok a b => rw [h2] at a; cases a; exact .inr ⟨h1, _, _, _, b, rfl, rfl, rfl⟩
  · cases c with
    | bad a => rw [h2] at a; cases a; exact .inl ⟨h1, rfl, rfl, rfl⟩
    | ok a b => rw [h2] at a; cases a
theorem CMove.val (c : CMove S rows d e r S' rows') (ed : d = hD k) (ee : e = .int (j : Int)) (hr : InR S.n S.r k) (hj : j < rows.length) :
    (S.holds k.1 k.2 = false ∧ r = refD .Stale ∧ S' = S ∧ rows' = rows) ∨ (S.holds k.1 k.2 = true ∧ ∃ (i : Nat) (a b row : List (Int × Int)), rows[i]? = some (a ++ k :: b) ∧ (rows.set i (a ++ b))[j]? = some row ∧ r = .none ∧ S' = S ∧ rows' = (rows.set i (a ++ b)).set j (row ++ [k])) := by
  subst ed
  rcases atH_val hr with ⟨h1, h2⟩ | ⟨h1, h2⟩
  · cases c with
    | bad a => rw [h2] at a; cases a
    | noList _ a => subst ee; rw [isN_of hj] at a; cases a
    | ok a b c => have := int_nat ee; subst this; rw [h2] at a; cases a; exact .inr ⟨h1, _, _, _, _, b, c, rfl, rfl, rfl⟩
  · cases c with
    | bad a => rw [h2] at a; cases a; exact .inl ⟨h1, rfl, rfl, rfl⟩
    | noList a _ => rw [h2] at a; cases a
    | ok a b c => rw [h2] at a; cases a
theorem CJoin.val (c : CJoin S rows d e r S' rows') (ed : d = .int (i : Int)) (ee : e = .int (j : Int)) (hi : i < rows.length) (hj : j < rows.length) :
    (i = j ∧ r = refD .NoList ∧ S' = S ∧ rows' = rows) ∨ (i ≠ j ∧ ∃ r1 r2, rows[i]? = some r1 ∧ rows[j]? = some r2 ∧ r = .int (r2.length : Nat) ∧ S' = S ∧ rows' = (rows.set i (r1 ++ r2)).set j []) := by
  cases c with
  | bad1 a => subst ed; rw [isN_of hi] at a; cases a
  | bad2 _ a => subst ee; rw [isN_of hj] at a; cases a
  | same a => exact .inl ⟨(int_nat ed).symm.trans (int_nat ee), rfl, rfl, rfl⟩
  | ok a b c => have := int_nat ed; subst this; have := int_nat ee; subst this; exact .inr ⟨a, _, _, b, c, rfl, rfl, rfl⟩
theorem CCut.val (c : CCut S rows d e r S' rows') (ed : d = hD k) (ee : e = .int (j : Int)) (hr : InR S.n S.r k) (hj : j < rows.length) :
    (S.holds k.1 k.2 = false ∧ r = refD .Stale ∧ S' = S ∧ rows' = rows) ∨ (S.holds k.1 k.2 = true ∧ ∃ row, rows[j]? = some row ∧ row ≠ [] ∧ r = refD .NotEmpty ∧ S' = S ∧ rows' = rows) ∨
      (S.holds k.1 k.2 = true ∧ rows[j]? = some [] ∧ ∃ (i : Nat) (a b : List (Int × Int)), rows[i]? = some (a ++ k :: b) ∧ r = .int ((k :: b).length : Nat) ∧ S' = S ∧ rows' = (rows.set i a).set j (k :: b)) := by
  subst ed
  rcases atH_val hr with ⟨h1, h2⟩ | ⟨h1, h2⟩
  · cases c with
    | bad a => rw [h2] at a; cases a
    | noList _ a => subst ee; rw [isN_of hj] at a; cases a
    | notEmpty _ a b => have := int_nat ee; subst this; exact .inr (.inl ⟨h1, _, a, b, rfl, rfl, rfl⟩)
    | ok a b c => have := int_nat ee; subst this; rw [h2] at a; cases a; exact .inr (.inr ⟨h1, c, _, _, _, b, rfl, rfl, rfl⟩)
  · cases c with
    | bad a => rw [h2] at a; cases a; exact .inl ⟨h1, rfl, rfl, rfl⟩
    | noList a _ => rw [h2] at a; cases a
    | notEmpty a _ _ => rw [h2] at a; cases a
    | ok a b c => rw [h2] at a; cases a
end
/-- what a law's own model of chains does -/
def sCOwn : SpL := fun vs L Q _ => ∃ (m rl : Addr) (S S' : SS) (rows rows' : Rws) (cw : Cw) (v1 v2 : V) (d e r : PyData) (L2 : As), vs = [.ref m, .ref rl, .str cw.wd, v1, v2] ∧ Cf S rows ∧ Imp L (MdAt m S :: RowsAt rl rows :: L2) ∧ Dsi L2 v1 d ∧ Dsi L2 v2 e ∧ CArg S.n S.r rows.length cw d e ∧ CT S rows cw d e r S' rows' ∧ ∀ y, Q y (dt y r :: MdAt m S' :: RowsAt rl rows' :: L2)
end Sh
namespace Sh
open PySem PySem.Spec L2 PyProof.Rows He
/-! ### a dict of the top: .get(key, default) -/
def tKGet2 (K : PySem.W.Frag) (w : World) (td ty tx : TE) : TE := fun σ H Q => td σ H fun x H1 => ∃ a es n, x = .ref a ∧ KDict K w a es n ∧ ty σ H1 fun y H2 => tx σ H2 fun z H3 => ∃ (s : Str) (r : Option Value) (v : V), y = .str s ∧ PySem.W.nsIn K a s = some r ∧ (∀ u, r = some u → RelV v u) ∧ (r = none → v = z) ∧ Q v H3
section
variable {X : Cx} {o e f : Expr} {apos cpos : Pos} {td ty tx : TE}
theorem pe_kget2 (ho : PE X o td) (he : PE X e ty) (hf : PE X f tx) (m : M2 X o "get" apos e f cpos) : PE X (.Call (.Attribute o "get" apos) [e, f] [] cpos) (tKGet2 X.K X.w td ty tx) := by
  refine ⟨fun pins s σ H Q I h => ?_⟩
  refine wpAny_Call_method m.base m.few m.line PySem.F.plainAttrs_dict PySem.F.slot_dict_get PySem.F.type_dict_get (thn (ho.run pins s σ H _ I h) fun u s1 ⟨x, H1, I1, rx, a, es, n, ex, D, q1⟩ => ?_)
  subst ex
  obtain rfl : u = Value.ref a := rx
  refine ⟨kd_type D I1, fun b q => ?_, ?_⟩
  · cases q
    exact ⟨_, I1.kIn _ _ D.at_, rfl⟩
  rw [m.trees]
  refine Calls.callWith_builtin rfl (Calls.evalArgs_plain (Calls.spliced_cons (thn (he.run pins s1 σ H1 _ I1 q1) fun iv s2 ⟨y, H2, I2, ry, q2⟩ =>
    Calls.spliced_cons (thn (hf.run pins s2 σ H2 _ I2 q2) fun fv s3 ⟨z, H3, I3, rz, st, r, v, ey, er, r1, r2, q3⟩ => Calls.spliced_nil ?_))))
  subst ey
  obtain ⟨t, rfl⟩ := (show ∃ t, iv = Value.str st t from ry)
  have hm := PySem.W.mapOf_K (prog := X.prog) (w := X.w) I3.kIn D.at_ D.lit
  refine call_meetsIn PySem.F.slot_dict_get hm.typeIs PySem.F.entry_dict_get (PySem.F.args_dict_get_3 _ _ _) (meets_dict_get_default (strKind X.prog X.w) a (strKind_is X.prog X.w st t) D.low fv) ⟨_, hm, ?_⟩
  rw [PySem.W.find_K D.at_ er]
  refine ⟨v, H3, I3.tok _, ?_, q3⟩
  cases r with
  | none => rw [r2 rfl]; exact rz
  | some u => exact r1 u rfl
end
/-- the sizes of deeds -/
structure SzAt (K : PySem.W.Frag) (w : World) (mg : Str → Option Value) : Prop where
  ex : ∃ a es n, mg "SIZES" = some (.ref a) ∧ KDict K w a es n ∧ (∃ t, PySem.W.nsIn K a "put" = some (some (.int 2 t))) ∧ (∃ t, PySem.W.nsIn K a "get" = some (some (.int 2 t))) ∧ (∃ t, PySem.W.nsIn K a "change" = some (some (.int 3 t))) ∧ (∃ t, PySem.W.nsIn K a "drop" = some (some (.int 2 t))) ∧ PySem.W.nsIn K a "take" = some none
theorem sz_mk {K : PySem.W.Frag} {w : World} {h : Heap} {mg : Str → Option Value} {a : Addr} {t1 t2 t3 t4 : Tok} (X : K.In h) (G : h.Ns mainGlobals mg) (h0 : PySem.W.nsIn K mainGlobals "SIZES" = some (some (.ref a))) (hk : dicW K a = some (keysIn w.params ["put", "get", "change", "drop"]))
    (h1 : PySem.W.nsIn K a "put" = some (some (.int 2 t1))) (h2 : PySem.W.nsIn K a "get" = some (some (.int 2 t2))) (h3 : PySem.W.nsIn K a "change" = some (some (.int 3 t3))) (h4 : PySem.W.nsIn K a "drop" = some (some (.int 2 t4))) (h5 : PySem.W.nsIn K a "take" = some none) : SzAt K w mg := by
  obtain ⟨es, n, D⟩ := dicW_ok hk
  exact ⟨a, es, n, PySem.W.mg_of X G h0, D, ⟨_, h1⟩, ⟨_, h2⟩, ⟨_, h3⟩, ⟨_, h4⟩, h5⟩
/-- the words of deeds, and one that is none -/
inductive Wd | put | get | change | drop | take deriving DecidableEq
def Wd.s : Wd → Str | .put => "put" | .get => "get" | .change => "change" | .drop => "drop" | .take => "take"
def Wd.n : Wd → Nat | .put => 2 | .get => 2 | .change => 3 | .drop => 2 | .take => 0
section
variable {X : Cx} {σ : St} {L : As} {Q : LK} {e : Expr} {p apos pos p0 : Pos} {k0 : Option Str}
theorem el_size (Z : SzAt X.K X.w X.mg) (g : Gd X.env "SIZES") (q : EL X e σ L fun y L1 => ∃ k : Wd, y = .str k.s ∧ Q (.int (k.n : Int)) L1)
    (hb : attributeBase (.Name "SIZES" p) "get" X.env (eval (.Name "SIZES" p) X.env) = eval (.Name "SIZES" p) X.env := by rfl)
    (hf : ((backTo pos (starEach [e, .Constant (.int 0) 0 p0] X.env)).all (fun w => !w.1) && (backToKw pos (keywordEach [] X.env)).all (fun w => w.1.isSome)
      && decide (([e, .Constant (.int 0) 0 p0] : List Expr).length + ([] : List Keyword).length + (if ([] : List Keyword).isEmpty then 0 else 1) < 30)) = true := by rfl)
    (hl : (apos.endLine == pos.line) = true := by rfl) (ht : backTo pos (starEach [e, .Constant (.int 0) 0 p0] X.env) = [(false, eval e X.env), (false, eval (.Constant (.int 0) 0 p0) X.env)] := by rfl) :
    EL X (.Call (.Attribute (.Name "SIZES" p) "get" apos) [e, .Constant (.int 0) 0 p0] [] pos) σ L Q := by
  obtain ⟨a, es, n, hm, D, ⟨t1, h1⟩, ⟨t2, h2⟩, ⟨t3, h3⟩, ⟨t4, h4⟩, h5⟩ := Z.ex
  refine ⟨fun H oo => of_pe (pe_kget2 (pe_glob g.gl hm (v := .ref a) rfl g.hd) We.pe pe_int ⟨hb, hf, hl, ht⟩) ⟨a, es, n, rfl, D, we_imp (q.run H oo) fun y H2 ⟨L2, o2, k, ey, z⟩ => ?_⟩⟩
  subst ey
  cases k with
  | put => exact ⟨_, _, .int 2, rfl, h1, (fun u hu => by cases hu; exact ⟨_, rfl⟩), (fun z => by cases z), L2, o2, z⟩
  | get => exact ⟨_, _, .int 2, rfl, h2, (fun u hu => by cases hu; exact ⟨_, rfl⟩), (fun z => by cases z), L2, o2, z⟩
  | change => exact ⟨_, _, .int 3, rfl, h3, (fun u hu => by cases hu; exact ⟨_, rfl⟩), (fun z => by cases z), L2, o2, z⟩
  | drop => exact ⟨_, _, .int 2, rfl, h4, (fun u hu => by cases hu; exact ⟨_, rfl⟩), (fun z => by cases z), L2, o2, z⟩
  | take => exact ⟨_, _, .int 0, rfl, h5, (fun u hu => by cases hu), fun _ => rfl, L2, o2, z⟩
end
end Sh
namespace Sh
open PySem PySem.Spec L2 PyProof.Rows
/-! ### try: body except c: suite -/
section
variable {X : Cx} {D : Ends} {σ : St} {H : Hp} {pos : Pos} {z : Str}
theorem ws_tryM {body suite : List Stmt} {b₀ : Stmt} {cv : Value} {Wout : WX} {np pos' : Pos} (hs : X.stack = X.env :: X.outer) (hf : X.env.frame = some X.env.locals)
    (hc : Names X z cv) (tk : L2N.Takes X Wout)
    (q : ∀ (pn : List (Addr × Obj)) (xe : Value → Shared → Prop),
      L2N.Takes (X.tr pn xe) (wMany X.K Wout D [(cv, fun a cls d D σ H => ∀ (oe : Obj) (pn' : List (Addr × Obj)), L2N.Zn cls d oe → (∃ vs, oe.data = .fields vs) → Wb (X.suite a ((a, oe) :: pn')) (b₀ :: suite) D σ H)]) →
      PassesOwn (model X.prog X.w) X.A X.env xe → Wb (X.tr pn xe) body D σ H) :
    Ws X (.Try body [.ExceptHandler (some (.Name z np)) none (b₀ :: suite) pos'] [] [] pos) D σ H :=
  of_ps (L2N.ps_try_many (tb := fun W D σ H => ∀ (pn : List (Addr × Obj)) (xe : Value → Shared → Prop), L2N.Takes (X.tr pn xe) W → PassesOwn (model X.prog X.w) X.A X.env xe → Wb (X.tr pn xe) body D σ H)
    hs hf tk (fun W pn xe t p => ⟨fun pins s σ H D I h => (h pn xe t p).run pins s I⟩)
    (.cons hc (fun a oe cls d pn z f => ⟨fun pins s σ H D I h => (h oe pn z f).run pins s I⟩) .nil)) q
end
/-! ### what is a deed, what is told of it -/
inductive Deedy : PyData → Bool → Prop
  | tup (k : Wd) (ds : List PyData) : Deedy (.tuple (.str k.s :: ds)) (decide (ds.length + 1 = k.n))
  | non : Deedy .none false
  | str (z : Str) : Deedy (.str z) false
  | nil : Deedy (.tuple []) false
  | list (ds : List PyData) : Deedy (.list ds) false
theorem Dg.deedy (g : Dg) : Deedy g.d true := by
  cases g with
  | put w => exact .tup .put [w]
  | get h => exact .tup .get [h]
  | change h w => exact .tup .change [h, w]
  | drop h => exact .tup .drop [h]
def isRef : PyData → Bool
  | .tuple (.str _ :: _) => true
  | _ => false
theorem isRef_hD (h : Int × Int) : isRef (hD h) = false := rfl
theorem isRef_ref (e : Er) : isRef (refD e) = true := rfl
theorem isRef_wth (S : SS) (s : Int) : isRef (S.wth s) = false := by
  unfold SS.wth
  split <;> rfl
def SS.say (S : SS) (g : Dg) : PyData × SS := (if isRef (S.tell g).1 = true then .str "refused" else (S.tell g).1, (S.tell g).2)
/-- refused, and as before; or not -/
theorem SS.tell_two (S : SS) (g : Dg) : (∃ e, S.tell g = (refD e, S)) ∨ isRef (S.tell g).1 = false := by
  cases g with
  | put d =>
    unfold SS.tell
    dsimp only
    split
    · split
      · exact .inr rfl
      · exact .inl ⟨_, rfl⟩
    · exact .inl ⟨_, rfl⟩
  | get d =>
    unfold SS.tell
    dsimp only
    split
    · exact .inr (isRef_wth _ _)
    · exact .inl ⟨_, rfl⟩
  | change d w =>
    unfold SS.tell
    dsimp only
    split
    · exact .inl ⟨_, rfl⟩
    · split
      · exact .inr (isRef_wth _ _)
      · exact .inl ⟨_, rfl⟩
  | drop d =>
    unfold SS.tell
    dsimp only
    split
    · exact .inl ⟨_, rfl⟩
    · exact .inr (isRef_wth _ _)
theorem SS.say_ref {S : SS} {g : Dg} {e : Er} (h : S.tell g = (refD e, S)) : S.say g = (.str "refused", S) := by
  unfold SS.say
  rw [h]
  rfl
theorem SS.say_not {S : SS} {g : Dg} (h : isRef (S.tell g).1 = false) : S.say g = S.tell g := by
  unfold SS.say
  rw [if_neg (by rw [h]; exact Bool.false_ne_true)]
theorem SS.say_get (S : SS) (d : PyData) : (S.say (.get d)).2 = S := by
  show (S.tell (.get d)).2 = S
  unfold SS.tell
  dsimp only
  split <;> rfl
theorem pl_say {S : SS} (ok : S.Ok) (wi : S.Wi) (g : Dg) : pl 8 (S.say g).1 = true := by
  show pl 8 (if _ then _ else _) = true
  split
  · decide +kernel
  · exact pl_tell ok wi g
def says : SS → List Dg → List PyData
  | _, [] => []
  | S, g :: gs => (S.say g).1 :: says (S.say g).2 gs
def after : SS → List Dg → SS
  | S, [] => S
  | S, g :: gs => after (S.say g).2 gs
theorem says_app {b : List Dg} : ∀ {a : List Dg} {S : SS}, says S (a ++ b) = says S a ++ says (after S a) b
  | [], _ => rfl
  | g :: a, S => by
    show _ :: says _ (a ++ b) = _ :: (says _ a ++ _)
    rw [says_app]; rfl
theorem after_app {b : List Dg} : ∀ {a : List Dg} {S : SS}, after S (a ++ b) = after (after S a) b
  | [], _ => rfl
  | g :: a, S => after_app (a := a)
theorem says_len : ∀ {a : List Dg} {S : SS}, (says S a).length = a.length
  | [], _ => rfl
  | g :: a, S => by
    show (says _ a).length + 1 = a.length + 1
    rw [says_len]
theorem after_ok : ∀ {a : List Dg} {S : SS}, S.Ok → S.Wi → (after S a).Ok ∧ (after S a).Wi ∧ (after S a).n = S.n ∧ (after S a).r = S.r
  | [], _, h1, h2 => ⟨h1, h2, rfl, rfl⟩
  | g :: a, S, h1, h2 => by
    obtain ⟨t1, t2, t3, t4, _, _⟩ := SS.tell_ok h1 h2 g
    obtain ⟨u1, u2, u3, u4⟩ := after_ok (a := a) (S := (S.say g).2) t1 t2
    exact ⟨u1, u2, u3.trans t3, u4.trans t4⟩
theorem pls_says : ∀ {a : List Dg} {S : SS}, S.Ok → S.Wi → pls 8 (says S a) = true
  | [], _, _, _ => rfl
  | g :: a, S, h1, h2 => by
    obtain ⟨t1, t2, _⟩ := SS.tell_ok h1 h2 g
    show (pl 8 _ && pls 8 _) = true
    rw [pl_say h1 h2, pls_says (a := a) (S := (S.say g).2) t1 t2]; rfl
theorem take_one {gs : List Dg} {j : Nat} {g : Dg} (h : gs[j]? = some g) : gs.take (j + 1) = gs.take j ++ [g] := by rw [List.take_add_one, h]; rfl
theorem says_take {gs : List Dg} {j : Nat} {g : Dg} {S : SS} (h : gs[j]? = some g) : says S (gs.take (j + 1)) = says S (gs.take j) ++ [((after S (gs.take j)).say g).1] := by rw [take_one h, says_app]; rfl
theorem after_take {gs : List Dg} {j : Nat} {g : Dg} {S : SS} (h : gs[j]? = some g) : after S (gs.take (j + 1)) = ((after S (gs.take j)).say g).2 := by rw [take_one h, after_app]; rfl
/-! ### promises -/
def sIsDeed (K : PySem.W.Frag) : SpL := fun vs L Q _ => ∃ (v : V) (d : PyData) (b : Bool), vs = [v] ∧ Deedy d b ∧ Dsc K L v d ∧ (∀ ds, d = .tuple ds → dt v d ∈ L) ∧ Q (.bl b) L
def sNow (C : Cl) : SpL := fun vs L Q E => ∃ (p : Addr) (v : V) (S : SS) (g : Dg) (L1 : As), vs = [.ref p, v] ∧ S.Ok ∧ S.Wi ∧ Rm (StoreAt C.Store p S) L L1 ∧ dt v g.d ∈ L ∧ (∀ er, S.tell g = (refD er, S) → E er L) ∧
  (isRef (S.tell g).1 = false → ∀ r, Q r (dt r (S.tell g).1 :: StoreAt C.Store p (S.tell g).2 :: L1))
def sRDo (K : PySem.W.Frag) (C : Cl) : SpL := fun vs L Q E => ∃ (p : Addr) (v : V), vs = [.ref p, v] ∧
  ((∃ (S : SS) (g : Dg) (L1 : As), S.Ok ∧ S.Wi ∧ Rm (StoreAt C.Store p S) L L1 ∧ dt v g.d ∈ L ∧ ((S.say g).2.Ok → (S.say g).2.Wi → ∀ r, Q r (dt r (S.say g).1 :: StoreAt C.Store p (S.say g).2 :: L1))) ∨
   (∃ d, Deedy d false ∧ Dsc K L v d ∧ (∀ ds, d = .tuple ds → dt v d ∈ L) ∧ E .NoDeed L))
section
variable {K : PySem.W.Frag} {C : Cl} {L L1 : As} {Q : LK} {E : Er → As → Prop} {p : Addr} {v : V} {S : SS} {g : Dg} {d : PyData} {b : Bool}
theorem Dsc.of_dt {v : V} {d : PyData} (m : dt v d ∈ L) : Dsc K L v d := fun H o => (o.dt m).dp
theorem sIsDeed.dt (m : Sh.dt v d ∈ L) (h : Deedy d b) (q : Q (.bl b) L) : sIsDeed K [v] L Q E := ⟨v, d, b, rfl, h, Dsc.of_dt m, fun _ _ => m, q⟩
theorem sIsDeed.ok (m : Sh.dt v g.d ∈ L) (q : Q (.bl true) L) : sIsDeed K [v] L Q E := sIsDeed.dt m g.deedy q
theorem sRDo.ok (r1 : Rm (StoreAt C.Store p S) L L1) (m : Sh.dt v g.d ∈ L) (ok : S.Ok) (wi : S.Wi) (q : (S.say g).2.Ok → (S.say g).2.Wi → ∀ r, Q r (Sh.dt r (S.say g).1 :: StoreAt C.Store p (S.say g).2 :: L1)) : sRDo K C [.ref p, v] L Q E := ⟨p, v, rfl, .inl ⟨S, g, L1, ok, wi, r1, m, q⟩⟩
end
end Sh
namespace Sh
open PySem PySem.Spec L2 PyProof.Rows
/-! ### every second one: xs[1::2] -/
theorem fm_congr {α β : Type} {f g : α → Option β} : ∀ {l : List α}, (∀ x ∈ l, f x = g x) → l.filterMap f = l.filterMap g
  | [], _ => rfl
  | a :: l, h => by
    rw [List.filterMap_cons, List.filterMap_cons, h a (List.mem_cons_self ..), fm_congr fun x hx => h x (List.mem_cons_of_mem _ hx)]
def odds {α : Type} : List α → List α
  | _ :: b :: r => b :: odds r
  | _ => []
theorem odds_map {α β : Type} (f : α → β) : ∀ xs : List α, odds (xs.map f) = (odds xs).map f
  | [] => rfl
  | [_] => rfl
  | a :: b :: r => by
    show f b :: odds (r.map f) = f b :: (odds r).map f
    rw [odds_map f r]
theorem odds_len {α : Type} : ∀ xs : List α, (odds xs).length ≤ xs.length
  | [] => Nat.le_refl _
  | [_] => by show (0 : Nat) ≤ 1; omega
  | a :: b :: r => by
    have := odds_len r
    show (odds r).length + 1 ≤ r.length + 1 + 1
    omega
theorem odds_pick {α : Type} : ∀ (n : Nat) (xs : List α), xs.length = 2 * n → ((List.range n).map fun k => 1 + 2 * k).filterMap (xs[·]?) = odds xs
  | 0, xs, h => by
    have : xs = [] := List.length_eq_zero_iff.mp h
    subst this; rfl
  | n + 1, [], h => by rw [List.length_nil] at h; omega
  | n + 1, [_], h => by rw [List.length_singleton] at h; omega
  | n + 1, a :: b :: r, h => by
    have hr : r.length = 2 * n := by rw [List.length_cons, List.length_cons] at h; omega
    rw [List.range_succ_eq_map, List.map_cons, List.map_map, List.filterMap_cons]
    show b :: _ = b :: odds r
    rw [← odds_pick n r hr]
    congr 1
    rw [List.filterMap_map, List.filterMap_map]
    apply fm_congr
    intro k _
    show (a :: b :: r)[1 + 2 * (k + 1)]? = r[1 + 2 * k]?
    rw [show 1 + 2 * (k + 1) = (1 + 2 * k) + 1 + 1 by omega]
    rfl
theorem odds_vals {xs : List V} {its : List Value} (h : Vals xs its) : Vals (odds xs) (odds its) := by
  have : ∀ (n : Nat) {xs : List V} {its : List Value}, xs.length ≤ n → Vals xs its → Vals (odds xs) (odds its) := by
    intro n
    induction n with
    | zero =>
      intro xs its hl h
      cases h with
      | nil => exact .nil
      | cons _ _ => rw [List.length_cons] at hl; omega
    | succ n ih =>
      intro xs its hl h
      cases h with
      | nil => exact .nil
      | cons h1 h2 =>
        cases h2 with
        | nil => exact .nil
        | cons h3 h4 => exact .cons h3 (ih (by rw [List.length_cons, List.length_cons] at hl; omega) h4)
  exact this _ (Nat.le_refl _) h
theorem pick_odds {items : Array Value} {n : Nat} (h : items.size = 2 * n) : slicePick items (some 1) none (some 2) = (odds items.toList).toArray := by
  unfold slicePick
  have hb : sliceBounds (some 1) none (some 2) items.size = (if n = 0 then 0 else 1, ((2 * n : Nat) : Int), 2) := by
    rw [h]
    simp only [sliceBounds, Option.getD_some]
    by_cases h0 : n = 0
    · subst h0; rfl
    · rw [if_neg h0]
      simp only [show (2 : Int) > 0 from by decide, if_true, show ¬ ((1 : Int) < 0) from by decide, if_false]
      rw [show max (0 : Int) (min 1 ((2 * n : Nat) : Int)) = 1 by omega]
  rw [hb]
  dsimp only
  congr 1
  have hl : items.toList.length = 2 * n := by rw [Array.length_toList]; exact h
  rw [← odds_pick n items.toList hl]
  have hs : sliceRange (if n = 0 then 0 else 1) ((2 * n : Nat) : Int) 2 = (List.range n).map fun k => 1 + 2 * k := by
    unfold sliceRange
    by_cases h0 : n = 0
    · subst h0; rfl
    · rw [if_neg h0]
      simp only [show (2 : Int) > 0 from by decide, if_true]
      rw [if_pos (show (1 : Int) < ((2 * n : Nat) : Int) by omega)]
      rw [show (((2 * n : Nat) : Int) - 1 + 2 - 1) / 2 = (n : Int) by omega, Int.toNat_natCast]
      apply List.map_congr_left
      intro k _
      omega
  rw [hs]
  apply fm_congr
  intro k _
  rw [Array.getElem?_toList]
section
variable {X : Cx}
def tOdds (K : PySem.W.Frag) (te : TE) : TE := fun σ H Q => te σ H fun x H1 => ∃ a xs n, x = .ref a ∧ SqL K H1 a xs ∧ xs.length = 2 * n ∧ ∀ p, H1 p = none → Q (.ref p) (upd H1 p (.lst (odds xs)))
theorem pe_odds {e : Expr} {te : TE} {k1 k2 : Nat} {p1 p2 p3 pos : Pos} (he : PE X e te) : PE X (.Subscript e (.Slice (some (.Constant (.int 1) k1 p1)) none (some (.Constant (.int 2) k2 p2)) p3) pos) (tOdds X.K te) := by
  refine ⟨fun pins s σ H Q I h => ?_⟩
  refine Subscript_ (thn (he.run pins s σ H _ I h) fun v s1 ⟨x, H1, I1, r1, q1⟩ => ?_)
  obtain ⟨a, xs, n, ex, hx, hn, q⟩ := q1
  subst ex
  cases r1
  have h1 : PO X (some (.Constant (.int 1) k1 p1)) (tPart (tC (.int 1))) := po_some pe_int
  have h2 : PO X (some (.Constant (.int 2) k2 p2)) (tPart (tC (.int 2))) := po_some pe_int
  refine wpAny_Slice (thn (h1.run pins s1 σ H1 (fun o H4 => o = some 1 ∧ H4 = H1) I1 ⟨1, rfl, rfl, rfl⟩) fun vl s2 ⟨l, H2, I2, p1', el, e2⟩ => ?_)
  subst el e2
  refine thn (po_none.run pins s2 σ H2 (fun o H3 => o = none ∧ H3 = H2) I2 ⟨rfl, rfl⟩) fun vu s3 ⟨u, H3, I3, pu, eu, e3⟩ => ?_
  subst eu e3
  refine thn (h2.run pins s3 σ H3 (fun o H4 => o = some 2 ∧ H4 = H3) I3 ⟨2, rfl, rfl, rfl⟩) fun vs s4 ⟨o, H4, I4, ps, eo, e4⟩ => ?_
  subst eo e4
  have I5 : Inv X pins σ H4 { s4 with heap := s4.heap.push { cls := .type "slice", data := .fields #[vl, vu, vs] } } := I4.kept (t' := s4.toks) fun b ob q => Heap.get?_push_of_some _ q
  obtain ⟨its, r, ht, hz⟩ := I5.list hx
  have hlen := r.length
  show wpAny (model X.prog X.w) X.A (subscriptTail e (.Slice (some (.Constant (.int 1) k1 p1)) none (some (.Constant (.int 2) k2 p2)) p3) (.ref a) (.ref s4.heap.objs.size)) (EP X pins σ Q) X.xe { s4 with heap := s4.heap.push { cls := .type "slice", data := .fields #[vl, vu, vs] } }
  refine tail_any (ops := [.ref a, .ref s4.heap.objs.size]) ht.isList.typeIs (PySem.slot_list_getitem.lookup) ?_ (by with_unfolding_all rfl)
  refine wpAny_getItem_list_slice ht.isList (Heap.IsSliceOf.new _ vl vu vs) p1' pu ps (by decide) ?_ (by rw [List.size_toArray]; omega)
  rw [pick_odds (n := n) (by rw [List.size_toArray]; omega)]
  refine ⟨.ref _, _, I5.laid (t' := s4.toks) (o := .lst (odds xs)) (fun b ob q => Heap.get?_push_of_some _ q) (Nat.le_refl _) ?_, rfl, q _ (I5.hok.fresh (Nat.le_refl _))⟩
  exact ⟨Nat.le_trans (odds_len xs) hz, _, 0, odds_vals r, Heap.get?_push_size _ rfl⟩
end
theorem DtAll.odds {T : Hp} : ∀ {vs : List V} {ds : List PyData}, DtAll T vs ds → DtAll T (Sh.odds vs) (Sh.odds ds) := by
  have : ∀ (n : Nat) {vs : List V} {ds : List PyData}, vs.length ≤ n → DtAll T vs ds → DtAll T (Sh.odds vs) (Sh.odds ds) := by
    intro n
    induction n with
    | zero =>
      intro xs its hl h
      cases h with
      | nil => exact .nil
      | cons _ _ => rw [List.length_cons] at hl; omega
    | succ n ih =>
      intro xs its hl h
      cases h with
      | nil => exact .nil
      | cons h1 h2 =>
        cases h2 with
        | nil => exact .nil
        | cons h3 h4 => exact .cons h3 (ih (by rw [List.length_cons, List.length_cons] at hl; omega) h4)
  exact fun {vs ds} h => this _ (Nat.le_refl _) h
section
variable {X : Cx} {e : Expr} {σ : St} {L : As} {Q : LK} {pos q1 q2 q3 : Pos} {k1 k2 : Nat}
theorem el_odds (q : EL X e σ L fun x L1 => ∃ p ds n, x = .ref p ∧ ld p ds ∈ L1 ∧ ds.length = 2 * n ∧ ∀ l, Q (.ref l) (ld l (odds ds) :: L1)) :
    EL X (.Subscript e (.Slice (some (.Constant (.int 1) k1 q1)) none (some (.Constant (.int 2) k2 q2)) q3) pos) σ L Q :=
  ⟨fun H o => of_pe (pe_odds We.pe) (we_imp (q.run H o) fun x H1 ⟨L1, o1, p, ds, n, ex, m, hn, z⟩ => by
    obtain ⟨vs, e1, e2⟩ := get_ld o1 m
    exact ⟨p, vs, n, ex, SqL.of e1, (DtAll.len e2).trans hn, fun l hl => ⟨_, new_ld o1 hl rfl (DtAll.odds e2), z l⟩⟩)⟩
end
/-! ### what the run is told -/
theorem all_rep (n : Nat) : (List.replicate n true).all id = true := by
  induction n with
  | zero => rfl
  | succ n ih => rw [List.replicate_succ, List.all_cons, ih]; rfl
theorem all_repF (n : Nat) : (List.replicate n true ++ [false]).all id = false := by rw [List.all_append]; simp
section
variable {K : PySem.W.Frag} {C : Cl} {L L1 L' G : As} {Q : LK} {E : Er → As → Prop} {v x y : V} {d : PyData} {xs : List V} {ds : List PyData} {j : Nat}
theorem Dsc.sub (i : Imp L L') (q : Dsc K L' v d) : Dsc K L v d := fun H o => q H (i.own o)
theorem imp_dtsAt (m : dts xs ds ∈ L) (hx : xs[j]? = some y) (hd : ds[j]? = some d) (k : Imp L G) : Imp L (dt y d :: G) := imp_add (fun T h s => by
  obtain ⟨v, h1, h2⟩ := DtAll.get' (s.get (A := dts xs ds) m) hd
  rw [hx] at h1
  cases h1
  exact h2) k
theorem DscA.snoc (h : DscA K L xs ds) (t : Dsc K L y d) : DscA K L (xs ++ [y]) (ds ++ [d]) := by
  induction h with
  | nil => exact .cons t .nil
  | cons a b ih => exact .cons a ih
end
def sRun (K : PySem.W.Frag) (C : Cl) : SpL := fun vs L Q E => ∃ (v x : V), vs = [v, x] ∧
  ((∃ (s l : Addr) (n r : Int) (la rn : Bool) (gs : List Dg) (L1 : As), v = .ref s ∧ x = .ref l ∧ Rm (ld l (gs.map Dg.d)) L L1 ∧ tp s (setV n r la rn) ∈ L1 ∧ 1 ≤ n ∧ n ≤ 60 ∧ 1 ≤ r ∧ r ≤ 1000 ∧ gs.length < 10000000 ∧ ∀ p, Q (.ref p) (ld p (says (SS.new n r la rn) gs) :: ld l (gs.map Dg.d) :: L1)) ∨
   (∃ (s l : Addr) (n r : Int) (la rn : Bool) (gs : List Dg) (xs : List V) (y : V) (d : PyData), v = .ref s ∧ x = .ref l ∧ tp s (setV n r la rn) ∈ L ∧ 1 ≤ n ∧ n ≤ 60 ∧ 1 ≤ r ∧ r ≤ 1000 ∧ gs.length < 9999999 ∧ xs.length = gs.length ∧ pt l (.lst (xs ++ [y])) ∈ L ∧ dts xs (gs.map Dg.d) ∈ L ∧ Deedy d false ∧ Dsc K L y d ∧ (∀ ds, d = .tuple ds → dt y d ∈ L) ∧ E .NoDeed L) ∨
   (∃ (s : Addr) (n r : Int) (la rn : Bool) (ds : List PyData), v = .ref s ∧ tp s (setV n r la rn) ∈ L ∧ 1 ≤ n ∧ n ≤ 60 ∧ 1 ≤ r ∧ r ≤ 1000 ∧ Dsc K L x (.tuple ds) ∧ E .NoDeed L) ∨
   (∃ d, Dsc K L v d ∧ areSettings d = false ∧ E .NoSettings L))
theorem sRun.ok {K : PySem.W.Frag} {C : Cl} {L L1 : As} {Q : LK} {E : Er → As → Prop} {s l : Addr} {n r : Int} {la rn : Bool} {gs : List Dg} (r1 : Rm (ld l (gs.map Dg.d)) L L1) (m : tp s (setV n r la rn) ∈ L1) (h1 : 1 ≤ n) (h2 : n ≤ 60) (h3 : 1 ≤ r) (h4 : r ≤ 1000) (hl : gs.length < 10000000)
    (q : ∀ p, Q (.ref p) (ld p (says (SS.new n r la rn) gs) :: ld l (gs.map Dg.d) :: L1)) : sRun K C [.ref s, .ref l] L Q E := ⟨_, _, rfl, .inl ⟨s, l, n, r, la, rn, gs, L1, rfl, rfl, r1, m, h1, h2, h3, h4, hl, q⟩⟩
end Sh
namespace Sh
open PySem PySem.Spec L2 PyProof.Rows
/-! ### `in` a tuple of data -/
section
variable {X : Cx}
def rInDT (K : PySem.W.Frag) : R2 := fun x y H Q => ∃ d ds, Dp K H x d ∧ Dp K H y (.tuple ds) ∧ SeqAt.shaped d = true ∧ SeqAt.shaped (.tuple ds) = true ∧ Q (.bl (ds.any fun z => PyData.eqv z d)) H
theorem op_inDT (hu : X.A.units + 65 < cLine) : OpR X (compareOp .In) (rInDT X.K) := by
  intro pins s σ H x y v u Q I rx ry h
  obtain ⟨d, ds, hd, he, sd, se, q⟩ := h
  obtain ⟨as, r1⟩ := Dp.reads I d x v hd rx
  obtain ⟨bs, r2⟩ := Dp.reads I (.tuple ds) y u he ry
  exact SeqAt.in_tuple_reads r2 r1 (SeqAt.canLay_of_shaped se) (SeqAt.canLay_of_shaped sd) (room_in_shaped sd hu) ⟨.bl _, H, I, rfl, q⟩
theorem ol_inDT {C : Cl} {l j : Nat} {E : EK} {L : As} {Q : LK} {x y : V} {d : PyData} {ds : List PyData} (W : Wk X C l E) (h1 : Dsc X.K L x d) (h2 : Dsc X.K L y (.tuple ds)) (p1 : pl j d = true) (p2 : pls j ds = true) (hj : j < 64) (q : Q (.bl (dm d ds)) L) : OL X (compareOp .In) x y L Q :=
  of_ol (op_inDT (by have := W.hr.un; omega)) fun H o => ⟨d, ds, h1 H o, h2 H o, pl_shaped p1 (by omega), pl_shaped (show pl (j + 1) (.tuple ds) = true from pls_list p2) (by omega), by rw [any_dm p1 (List.all_eq_true.mp p2)]; exact ⟨L, o, q⟩⟩
end
/-! ### deeds that are refused by this law's word -/
section
variable {S : SS} {g : Dg} {n r : Int} {h : Int × Int}
theorem tell_good (hg : g.good S.n S.r) : isRef (S.tell g).1 = false ∨ S.tell g = (refD .Stale, S) ∨ S.tell g = (refD .Full, S) := by
  cases g with
  | put w =>
    obtain ⟨i, rfl, h1, h2⟩ := hg
    rw [SS.tell_put h1 h2]
    cases e : S.putIn (.int i) with
    | ok p => exact .inl rfl
    | error er =>
      refine .inr (.inr ?_)
      unfold SS.putIn at e
      split at e
      · cases e
      · split at e
        · cases e
        · cases e; rfl
  | get w =>
    obtain ⟨k, rfl, hr⟩ := hg
    rw [SS.tell_get hr]
    split
    · exact .inl (isRef_wth _ _)
    · exact .inr (.inl rfl)
  | change w x =>
    obtain ⟨⟨k, rfl, hr⟩, i, rfl, h1, h2⟩ := hg
    rw [SS.tell_change hr h1 h2]
    split
    · exact .inl (isRef_wth _ _)
    · exact .inr (.inl rfl)
  | drop w =>
    obtain ⟨k, rfl, hr⟩ := hg
    rw [SS.tell_drop hr]
    split
    · exact .inl (isRef_wth _ _)
    · exact .inr (.inl rfl)
theorem dm_two (hg : g.good S.n S.r) : dm (S.tell g).1 [refD .Stale, refD .Full] = isRef (S.tell g).1 := by
  rcases tell_good hg with e | e | e
  · rw [e]
    cases z : dm (S.tell g).1 [refD .Stale, refD .Full] with
    | false => rfl
    | true =>
      have z := dm_iff.mp z
      rcases List.mem_cons.mp z with z | z
      · rw [z] at e; cases e
      · rw [List.mem_singleton.mp z] at e; cases e
  · rw [e]
    exact (dm_iff.mpr (.head _)).trans rfl
  · rw [e]
    exact (dm_iff.mpr (.tail _ (.head _))).trans rfl
def bads : List Dg := [.put (.int (-1)), .get .none, .change (.tuple [.int 0, .int 0]) .none, .drop (.str "a")]
def badsD : List PyData := [.tuple [.str "put", .int (-1)], .tuple [.str "get", .none], .tuple [.str "change", .tuple [.int 0, .int 0], .none], .tuple [.str "drop", .str "a"]]
theorem bads_d : bads.map Dg.d = badsD := rfl
theorem say_bad (hb : g ∈ bads) : S.say g = (.str "refused", S) := by
  have : ∃ e, S.tell g = (refD e, S) := by
    simp only [bads, List.mem_cons, List.not_mem_nil, or_false] at hb
    rcases hb with rfl | rfl | rfl | rfl
    · exact ⟨_, tell_put_no (by decide +kernel)⟩
    · exact ⟨_, tell_get_no rfl⟩
    · unfold SS.tell
      dsimp only
      split
      · exact ⟨_, rfl⟩
      · rw [if_neg (by decide)]; exact ⟨_, rfl⟩
    · exact ⟨_, tell_drop_no rfl⟩
  obtain ⟨e, he⟩ := this
  exact SS.say_ref he
theorem good_nb (hg : g.good n r) : g.d ∉ badsD := by
  intro m
  simp only [badsD, List.mem_cons, List.not_mem_nil, or_false] at m
  cases g with
  | put w =>
    obtain ⟨i, rfl, h1, h2⟩ := hg
    rcases m with m | m | m | m
    · have : i = -1 := by injection m with m; injection m with _ m; injection m with m; injection m
      omega
    · cases m
    · cases m
    · have := m; injection m with m; injection m with m; cases m
  | get w =>
    obtain ⟨k, rfl, hr⟩ := hg
    rcases m with m | m | m | m <;> cases m
  | change w x =>
    obtain ⟨⟨k, rfl, hr⟩, i, rfl, h1, h2⟩ := hg
    simp [Dg.d] at m
  | drop w =>
    obtain ⟨k, rfl, hr⟩ := hg
    rcases m with m | m | m | m <;> cases m
/-- a good deed, or one that the law spoilt -/
def Gb (n r : Int) (g : Dg) : Prop := g.good n r ∨ g ∈ bads
theorem pl_good {j : Nat} (hg : g.good n r) : pl (j + 3) g.d = true := by
  cases g with
  | put w => obtain ⟨i, rfl, h1, h2⟩ := hg; simp [pl, Dg.d]; decide +kernel
  | get w => obtain ⟨k, rfl, hr⟩ := hg; simp [pl, Dg.d, hD]; decide +kernel
  | change w x => obtain ⟨⟨k, rfl, hr⟩, i, rfl, h1, h2⟩ := hg; simp [pl, Dg.d, hD]; decide +kernel
  | drop w => obtain ⟨k, rfl, hr⟩ := hg; simp [pl, Dg.d, hD]; decide +kernel
theorem pl_gb (hg : Gb n r g) : pl 8 g.d = true := by
  rcases hg with hg | hg
  · exact pl_good (j := 5) hg
  · simp only [bads, List.mem_cons, List.not_mem_nil, or_false] at hg
    rcases hg with rfl | rfl | rfl | rfl <;> decide +kernel
theorem say_new {w : PyData} (ok : S.Ok) (hg : Gb S.n S.r (.put w)) : (S.say (.put w)).1 = .str "refused" ∨ ∃ h, (S.say (.put w)).1 = hD h ∧ InR S.n S.r h := by
  rcases hg with hg | hg
  · rcases tell_good hg with e | e | e
    · by_cases z : (S.tell (.put w)).1 = refD .Full
      · rw [z] at e; cases e
      · obtain ⟨h, e1, e2⟩ := tell_new ok hg z
        exact .inr ⟨h, by rw [SS.say_not (by rw [e1]; rfl)]; exact e1, e2⟩
    · exact .inl (by rw [SS.say_ref e])
    · exact .inl (by rw [SS.say_ref e])
  · exact .inl (by rw [say_bad hg])
theorem says_snoc {a : List Dg} : says S (a ++ [g]) = says S a ++ [((after S a).say g).1] := by rw [says_app]; rfl
theorem after_snoc {a : List Dg} : after S (a ++ [g]) = ((after S a).say g).2 := by rw [after_app]; rfl
end
end Sh
namespace Sh
open PySem PySem.Spec L2 PyProof.Rows
theorem pl_say1 {S : SS} (ok : S.Ok) (wi : S.Wi) (g : Dg) : pl 1 (S.say g).1 = true := by
  show pl 1 (if _ then _ else _) = true
  split
  · decide +kernel
  · exact pl_tell1 ok wi g
theorem pls_says7 {S : SS} : ∀ {gs : List Dg}, S.Ok → S.Wi → pls 7 (says S gs) = true := by
  intro gs
  induction gs generalizing S with
  | nil => intro _ _; rfl
  | cons g gs ih =>
    intro h1 h2
    obtain ⟨t1, t2, _⟩ := SS.tell_ok h1 h2 g
    show (pl 7 _ && pls 7 _) = true
    rw [pl_le (pl_say1 h1 h2 g) (by decide), ih (S := (S.say g).2) t1 t2]; rfl
theorem pl_says {S : SS} {gs : List Dg} (h1 : S.Ok) (h2 : S.Wi) : pl 8 (.list (says S gs)) = true := pls_list (pls_says7 h1 h2)
/-- what is no deed: a tuple is held as data -/
def bd (v : V) (d : PyData) : Asn := match d with
  | .tuple ds => dt v (.tuple ds)
  | d => dl v d
section
variable {X : Cx} {K : PySem.W.Frag} {L L1 G : As} {Q : LK} {D : DL} {σ : St} {st : List Stmt} {v : V} {d : PyData} {l p q : Addr} {ds fs : List PyData} {vs ws xs ys : List V}
theorem Dsc.bd (m : Sh.bd v d ∈ L) : Dsc K L v d := by
  cases d with
  | tuple ds => exact Dsi.dsc (Dsi.dt m)
  | _ => exact Dsc.dl m
theorem bd_tup (m : Sh.bd v d ∈ L) : ∀ ds, d = .tuple ds → dt v d ∈ L := fun ds e => by
  subst e; exact m
theorem BL.openP (r : Rm (ld l ds) L L1) (q : ∀ vs, vs.length = ds.length → BL X st D σ (pt l (.lst vs) :: dts vs ds :: L1)) : BL X st D σ L := ⟨fun H o => by
  obtain ⟨vs, o1⟩ := ld.op (o.front r)
  exact (q vs (dts_len o1.s (.tail _ (.head _)))).run H o1⟩
theorem imp_ldD (r1 : Rm (pt l (.lst vs)) L L1) (m : dts vs ds ∈ L1) (k : Imp L1 G) : Imp L (ld l ds :: G) := by
  have i : Imp L (pt l (.lst vs) :: dts vs ds :: L1) := imp_cons r1 (imp_dts m Imp.rfl)
  exact fun T h s => by
    obtain ⟨h1, h2, d, l1, l2, a, s2⟩ := ld_cl (i T h s)
    exact ⟨h1, h2, d, l1, l2, a, k T h2 s2⟩
theorem ol_catP (m1 : pt p (.lst xs) ∈ L) (m2 : pt q (.lst ys) ∈ L) (h : xs.length + ys.length ≤ 10000000) (k : ∀ l, Q (.ref l) (pt l (.lst (xs ++ ys)) :: L)) : OL X (binaryOp .Add) (.ref p) (.ref q) L Q := of_ol op_cat fun H o =>
  ⟨p, q, xs, ys, rfl, rfl, o.pt m1, o.pt m2, sz h, fun l hn => ⟨_, o.new hn, k l⟩⟩
end
end Sh
namespace Sh
open PySem PySem.Spec L2 PyProof.Rows
/-! ### a tuple that has no dict of its own; dict(such a tuple of pairs) -/
def PlT (o : Obj) (ys : List V) : Prop := o.cls = .type "tuple" ∧ o.dict = none ∧ ∃ its n, o.data = .seq its n ∧ Vals ys its.toList
section
variable {X : Cx}
theorem call_tuple_frz : CallR X (.type "tuple") (fun xs H Q => ∃ p ys, xs = [.ref p] ∧ SqL X.K H p ys ∧ ∀ l o, H l = none → PlT o ys → Q (.ref l) (upd H l (.frz o (.tup ys)))) := by
  intro pins s σ H xs us Q I r h
  obtain ⟨p, ys, rfl, hq, q⟩ := h
  obtain ⟨u, rfl, rx⟩ := vals1 r
  cases rx
  obtain ⟨its, r', pl, hz⟩ := I.list hq
  have hlen := r'.length
  refine call_tuple_list pl.isList (fun h' kp => ?_) (by simp only [List.size_toArray] <;> omega)
  have I1 : Inv X pins σ H { s with heap := h' } := I.kept (t' := s.toks) kp
  have I2 : Inv X pins σ (upd H h'.objs.size (.frz { cls := .type "tuple", data := .seq its.toArray } (.tup ys))) { s with heap := h'.push { cls := .type "tuple", data := .seq its.toArray } } :=
    I1.laid (t' := s.toks) (fun b o e => Heap.get?_push_of_some _ e) (Nat.le_refl _) (show ObjOk X.prog X.w _ _ _ (.frz _ (.tup ys)) from ⟨Heap.get?_push_size _ rfl, hz, its, r', IsTup.new _ _⟩)
  exact ⟨.ref h'.objs.size, _, I2, rfl, q _ _ (I1.hok.fresh (Nat.le_refl _)) ⟨rfl, rfl, _, _, rfl, by simpa using r'⟩⟩
theorem pairs_uv {pins : List (Addr × Obj)} {σ : St} {H : Hp} {s : Shared} (I : Inv X pins σ H s) : ∀ {ps : List Addr} {kvs : List (Key × V)}, Paired (fun p kv => SqT X.K H p [kV kv.1, kv.2]) ps kvs →
    ∃ (prs : List (Key × Value)) (uvs : List (Value × Value)), KV kvs prs ∧ prs.length = ps.length ∧ uvs.length = ps.length ∧ ∀ (j : Nat) (u y : Value), uvs[j]? = some (u, y) → ∃ (b : Addr) (k : Key), ps[j]? = some b ∧ prs[j]? = some (k, y) ∧ IsTup s.heap b #[u, y] ∧ keyIs k u = true
  | _, _, .nil => ⟨[], [], .nil, rfl, rfl, fun j u y e => by simp at e⟩
  | _, _, .cons (a := p) (b := kv) h t => by
    obtain ⟨prs, uvs, r, hl, hl2, hp⟩ := pairs_uv I t
    obtain ⟨its, rv, ht, _⟩ := I.tuple h
    obtain ⟨u, y, ei, ru, ry⟩ := vals2 rv
    subst ei
    refine ⟨(kv.1, y) :: prs, (u, y) :: uvs, .cons ⟨rfl, ry⟩ r, by rw [List.length_cons, List.length_cons, hl], by rw [List.length_cons, List.length_cons, hl2], fun j u' y' e => ?_⟩
    cases j with
    | zero =>
      have e' : (u, y) = (u', y') := Option.some.inj e
      cases e'
      exact ⟨p, kv.1, rfl, rfl, ht, kV_is (P := X.prog) (w := X.w) ru⟩
    | succ j =>
      obtain ⟨b, k, e1, e2, e3, e4⟩ := hp j u' y' (by simpa using e)
      exact ⟨b, k, by simpa using e1, by simpa using e2, e3, e4⟩
theorem call_dict_frz (hcalm : X.calm = true) : CallR X (.type "dict") (fun xs H Q => ∃ (a : Addr) (o : Obj) (ps : List Addr) (kvs : List (Key × V)), xs = [.ref a] ∧ H a = some (.frz o (.tup (ps.map V.ref))) ∧ PlT o (ps.map V.ref) ∧ Paired (fun p kv => SqT X.K H p [kV kv.1, kv.2]) ps kvs ∧
    ∀ p, H p = none → Q (.ref p) (upd H p (.dK (mergeK [] kvs)))) := by
  intro pins s σ H xs us Q I r q
  obtain ⟨a, o, ps, kvs, ex, hq, ⟨hc, hd, items, n, hdat, rv⟩, hp, q⟩ := q
  subst ex
  obtain ⟨u, eu, rx⟩ := vals1 r
  subst eu
  cases rx
  have ei := L2.refs_at rv
  obtain ⟨prs, uvs, rel, hl, hl2, hpr⟩ := pairs_uv I hp
  have hob := I.hok a _ hq
  have ho : s.heap.get? a = some o := hob.1
  have hz : ps.length ≤ sizeLine := by
    have := hob.2.1
    rwa [List.length_map] at this
  have hsz : items.size = uvs.length := by
    rw [hl2, ← Array.length_toList, ei, List.length_map]
  refine PySem.call_dict_pairs (knd := mixKind X.prog X.w) (kvs := prs) (PairArg.tuple (prog := X.prog) (w := X.w) a items (fun j => ps.getD j 0) uvs) (I.ok.hd hcalm) ⟨⟨o, n, ho, hc, hd, hdat⟩, hsz, fun j k v e => ?_⟩ ⟨hl.trans hl2.symm, fun i key v e => ?_⟩ (by rw [hl2]; exact hz) fun h' tk hd' k => ?_
  · obtain ⟨b, ky, e1, e2, e3, e4⟩ := hpr j k v e
    have eb : ps.getD j 0 = b := by rw [List.getD_eq_getElem?_getD, e1]; rfl
    dsimp only
    rw [eb]
    refine ⟨?_, .inl e3⟩
    rw [← Array.getElem?_toList, ei, List.getElem?_map, e1]; rfl
  · obtain ⟨b, ky, e1, e2, e3, e4⟩ := hpr i key v e
    exact ⟨ky, e2, e4⟩
  · have hm : (s.heap.objs.size == sysModules) = false := beq_eq_false_iff_ne.mpr (Nat.ne_of_gt I.big)
    have hlen : (mergeK [] kvs).length ≤ sizeLine := by
      refine Nat.le_trans (length_mergeK kvs []) ?_
      rw [List.length_nil, Nat.zero_add, rel.length, hl]
      exact hz
    exact ⟨.ref s.heap.objs.size, upd H s.heap.objs.size (.dK (mergeK [] kvs)), I.laid (t' := tk) (fun b o e => k b o (fun z => nomatch z) e) (Nat.le_refl _) (show ObjOk X.prog X.w _ _ _ (.dK (mergeK [] kvs)) from ⟨hlen, hm, merged [] prs, KV.merge rel .nil, hd'⟩), rfl, q _ (I.hok.fresh (Nat.le_refl _))⟩
end
/-! ### over assertions -/
/-- a tuple of data, with no dict of its own -/
def pz (a : Addr) (ds : List PyData) : Asn := ex fun q : Obj × List V => cj [pt a (.frz q.1 (.tup q.2)), dts q.2 ds, pr (PlT q.1 q.2)]
def pD2 (p : Int × Int) : PyData := .tuple [.int p.1, .int p.2]
theorem pairs_dt {K : PySem.W.Frag} {T : Hp} : ∀ {kvI : List (Int × Int)} {vs : List V}, DtAll T vs (kvI.map pD2) → ∃ ps : List Addr, vs = ps.map V.ref ∧ Paired (fun p kv => SqT K T p [kV kv.1, kv.2]) ps (kvI.map fun p => ((.inl p.1 : Key), V.int p.2))
  | [], vs, h => by
    cases h
    exact ⟨[], rfl, .nil⟩
  | p :: r, vs, h => by
    cases h with
    | cons h1 h2 =>
      obtain ⟨ps, rfl, hp⟩ := pairs_dt (kvI := r) h2
      cases h1 with
      | tup ha hd =>
        rename_i a xs
        cases hd with
        | cons h3 hd =>
        cases hd with
        | cons h4 hd =>
        cases hd
        cases h3
        cases h4
        exact ⟨a :: ps, rfl, .cons (SqT.of ha) hp⟩
theorem mergeK_nd : ∀ {kvs acc : List (Key × V)}, (acc ++ kvs).map (·.1) |>.Nodup → mergeK acc kvs = acc ++ kvs
  | [], acc, _ => by rw [List.append_nil]; rfl
  | p :: r, acc, h => by
    have hn : valV acc p.1 = none := by
      cases e : valV acc p.1 with
      | none => rfl
      | some v =>
        have hm : p.1 ∈ acc.map (·.1) := by
          unfold valV at e
          cases e2 : acc.find? (fun kv => decide (kv.1 = p.1)) with
          | none => rw [e2] at e; cases e
          | some kv =>
            have h1 := List.mem_of_find?_eq_some e2
            have h2 := List.find?_some e2
            rw [← of_decide_eq_true h2]
            exact List.mem_map_of_mem h1
        rw [List.map_append, List.nodup_append] at h
        exact absurd rfl (h.2.2 _ hm _ (by rw [List.map_cons]; exact .head _))
    show mergeK (putK acc p.1 p.2) r = _
    rw [putK_new p.2 hn, mergeK_nd (by rw [List.append_assoc]; exact h), List.append_assoc]; rfl
theorem merge_kw {ws : List (Int × V)} (h : (ws.map (·.1)).Nodup) : mergeK [] (kw ws) = kw ws := by
  rw [mergeK_nd]
  · rfl
  · rw [List.nil_append]
    unfold kw
    rw [List.map_map]
    show (ws.map fun p => (Sum.inl p.1 : Key)).Nodup
    rw [show (ws.map fun p => (Sum.inl p.1 : Key)) = (ws.map (·.1)).map Sum.inl from by rw [List.map_map]; rfl]
    exact List.pairwise_map.mpr (h.imp fun ne e => ne (Sum.inl.inj e))
section
variable {X : Cx} {L L1 : As} {Q : LK} {p a : Addr} {ds : List PyData} {kvI : List (Int × Int)}
theorem cl_tupF (m : ld p ds ∈ L) (q : ∀ l, Q (.ref l) (pz l ds :: L)) : CL X (.type "tuple") [.ref p] L Q := of_cl call_tuple_frz fun H o => by
  obtain ⟨vs, e1, e2⟩ := get_ld o m
  refine ⟨p, vs, rfl, SqL.of e1, fun l ob hn hp => ⟨_, ?_, q l⟩⟩
  have o1 := o.new (o := .frz ob (.tup vs)) hn
  have o2 : Own (upd H l (.frz ob (.tup vs))) (dts vs ds :: pt l (.frz ob (.tup vs)) :: L) := o1.addDs (e2.mono (tle_new hn))
  have o3 : Own (upd H l (.frz ob (.tup vs))) (pr (PlT ob vs) :: dts vs ds :: pt l (.frz ob (.tup vs)) :: L) := o2.add hp
  have o4 := (imp_cons (Rm.there (Rm.there Rm.here)) (imp_cons (Rm.there Rm.here) Imp.rfl) : Imp (pr (PlT ob vs) :: dts vs ds :: pt l (.frz ob (.tup vs)) :: L) (pt l (.frz ob (.tup vs)) :: dts vs ds :: pr (PlT ob vs) :: L)).own o3
  exact Own.exE (F := fun q : Obj × List V => cj [pt l (.frz q.1 (.tup q.2)), dts q.2 ds, pr (PlT q.1 q.2)]) (ob, vs) (Own.cjE (L1 := [pt l (.frz ob (.tup vs)), dts vs ds, pr (PlT ob vs)]) o4)
theorem cl_dictF (hc : X.calm = true) (m : pz a (kvI.map pD2) ∈ L) (nd : (kvI.map (·.1)).Nodup) (q : ∀ l, Q (.ref l) (pt l (.dK (kw (kvI.map fun p => (p.1, V.int p.2)))) :: L)) : CL X (.type "dict") [.ref a] L Q := of_cl (call_dict_frz hc) fun H o => by
  obtain ⟨L1, r⟩ := mem_rm m
  obtain ⟨⟨ob, vs⟩, o1⟩ := Own.exI (o.front r)
  have o2 := Own.cjI (L1 := [pt a (.frz ob (.tup vs)), dts vs (kvI.map pD2), pr (PlT ob vs)]) o1
  have hd := o2.dts (vs := vs) (ds := kvI.map pD2) (.tail _ (.head _))
  have hp : PlT ob vs := o2.get (A := pr (PlT ob vs)) (.tail _ (.tail _ (.head _)))
  obtain ⟨ps, rfl, hps⟩ := pairs_dt (K := X.K) hd
  refine ⟨a, ob, ps, _, rfl, o2.pt (.head _), hp, hps, fun l hn => ⟨_, o.new hn, ?_⟩⟩
  have e : (kvI.map fun p => ((.inl p.1 : Key), V.int p.2)) = kw (kvI.map fun p => (p.1, V.int p.2)) := by
    unfold kw
    rw [List.map_map]; rfl
  rw [e, merge_kw (by rw [List.map_map]; exact nd)]
  exact q l
end
end Sh
namespace Sh
open PySem PySem.Spec L2 PyProof.Rows
/-! ### a store that was woken: the same, but for the order of its worths -/
def Ev (S S' : SS) : Prop := ∃ ws, S' = { S with ws := ws } ∧ ∀ s, valV ws s = valV S.ws s
section
variable {S S' S1 : SS} {g : Dg} {d : PyData} {v : V} {s c : Int} {h : Int × Int} {e : Er}
theorem Ev.rfl' : Ev S S := ⟨S.ws, rfl, fun _ => rfl⟩
theorem Ev.holds (x : Ev S S') : S'.holds s c = S.holds s c := by
  obtain ⟨ws, rfl, hv⟩ := x
  show ((valV ws s).isSome && _) = ((valV S.ws s).isSome && _)
  rw [hv]; rfl
theorem Ev.at' (x : Ev S S') : S'.at d = S.at d := by
  have hh : ∀ s c, S'.holds s c = S.holds s c := fun s c => x.holds
  unfold SS.at
  obtain ⟨ws, rfl, hv⟩ := x
  show (match asH S.n S.r d with | none => _ | some (s, c) => _) = _
  cases asH S.n S.r d with
  | none => rfl
  | some k =>
    obtain ⟨s, c⟩ := k
    dsimp only
    rw [hh]
theorem Ev.wth (x : Ev S S') : S'.wth s = S.wth s := by
  obtain ⟨ws, rfl, hv⟩ := x
  unfold SS.wth
  dsimp only
  rw [hv]
theorem Ev.wi (x : Ev S S') (wi : S.Wi) : S'.Wi := by
  obtain ⟨ws, rfl, hv⟩ := x
  exact fun s y h => wi s y ((hv s).symm.trans h)
theorem Ev.putE (x : Ev S S') (h : S.putIn v = .error e) : S'.putIn v = .error e := by
  obtain ⟨ws, rfl, hv⟩ := x
  unfold SS.putIn at h ⊢
  dsimp only at h ⊢
  split at h
  · cases h
  · rename_i h1
    rw [if_neg h1]
    split at h
    · cases h
    · rename_i h2
      rw [if_neg h2]; exact h
theorem Ev.putO (x : Ev S S') (e : S.putIn v = .ok (h, S1)) : ∃ S1', S'.putIn v = .ok (h, S1') ∧ Ev S1 S1' := by
  obtain ⟨ws, rfl, hv⟩ := x
  unfold SS.putIn at e ⊢
  dsimp only at e ⊢
  split at e
  · rename_i h1
    rw [if_pos h1]
    cases e
    exact ⟨_, rfl, _, rfl, fun s => by rw [valV_put, valV_put, hv]⟩
  · rename_i h1
    rw [if_neg h1]
    split at e
    · rename_i h2
      rw [if_pos h2]
      cases e
      exact ⟨_, rfl, _, rfl, fun s => by rw [valV_put, valV_put, hv]⟩
    · cases e
theorem Ev.drop (x : Ev S S') : Ev (S.dropAt s) (S'.dropAt s) := by
  obtain ⟨ws, rfl, hv⟩ := x
  have hc : SS.cnt { S with ws := ws } s = S.cnt s := rfl
  unfold SS.dropAt
  rw [hc]
  dsimp only
  split
  · exact ⟨_, rfl, fun t => by rw [valV_drop', valV_drop', hv]⟩
  · split
    · exact ⟨_, rfl, fun t => by rw [valV_drop', valV_drop', hv]⟩
    · exact ⟨_, rfl, fun t => by rw [valV_drop', valV_drop', hv]⟩
theorem Ev.chg (x : Ev S S') : Ev (S.chg s v) (S'.chg s v) := by
  obtain ⟨ws, rfl, hv⟩ := x
  exact ⟨_, rfl, fun t => by rw [show (S.chg s v).ws = putK S.ws s v from rfl, valV_put, valV_put, hv]⟩
theorem Ev.tell (x : Ev S S') (g : Dg) : (S'.tell g).1 = (S.tell g).1 ∧ Ev (S.tell g).2 (S'.tell g).2 := by
  cases g with
  | put d =>
    unfold SS.tell
    dsimp only
    split
    · cases e : S.putIn (vOf d) with
      | error er => rw [x.putE e]; exact ⟨rfl, x⟩
      | ok p =>
        obtain ⟨h, S1⟩ := p
        obtain ⟨S1', e1, x1⟩ := x.putO e
        rw [e1]
        exact ⟨rfl, x1⟩
    · exact ⟨rfl, x⟩
  | get d =>
    unfold SS.tell
    dsimp only
    rw [x.at']
    cases S.at d with
    | error er => exact ⟨rfl, x⟩
    | ok sc => exact ⟨x.wth, x⟩
  | change d w =>
    unfold SS.tell
    dsimp only
    rw [x.at']
    cases S.at d with
    | error er => exact ⟨rfl, x⟩
    | ok sc =>
      dsimp only
      split
      · exact ⟨x.wth, x.chg⟩
      · exact ⟨rfl, x⟩
  | drop d =>
    unfold SS.tell
    dsimp only
    rw [x.at']
    cases S.at d with
    | error er => exact ⟨rfl, x⟩
    | ok sc => exact ⟨x.wth, x.drop⟩
theorem mem_ws : s ∈ S.ws.map (·.1) ↔ (valV S.ws s).isSome = true := (valV_mem S.ws s).symm
theorem Ev.keys (x : Ev S S') (ok : S.Ok) (ok' : S'.Ok) : S'.keys = S.keys := by
  refine srt_of_perm ?_
  refine (List.perm_ext_iff_of_nodup ok'.ndW ok.ndW).mpr fun s => ?_
  obtain ⟨ws, rfl, hv⟩ := x
  rw [mem_ws, mem_ws]
  dsimp only
  rw [hv]
/-- what a law sees of a store -/
def SS.leftD (S : SS) : PyData := if S.rnd then .none else .int (S.n * S.r - ((S.cs.map (· + 1)).sum - S.ln.length))
def SS.seenD (S : SS) : PyData := .tuple [.list (S.live.map hD), .int S.cs.length, .list (ids S.freeL), .list (ids (srt S.gn)), .int (S.ln.length + S.n - S.cs.length), S.leftD, S.savedD]
theorem Ev.seen (x : Ev S S') (ok : S.Ok) (ok' : S'.Ok) : S'.seenD = S.seenD := by
  have hk := x.keys ok ok'
  have hw : ∀ s, S'.wth s = S.wth s := fun s => x.wth
  unfold SS.seenD SS.savedD SS.live SS.freeL SS.leftD
  rw [hk]
  simp only [hw]
  obtain ⟨ws, rfl, hv⟩ := x
  rfl
theorem pl_seen : pl 8 S.seenD = true := by
  unfold SS.seenD
  show ([_, _, _, _, _, _, _].all (pl 7)) = true
  have h1 : pl 7 (.list (S.live.map hD)) = true := pls_list (pls_hD _)
  have h3 : pl 7 (.list (ids S.freeL)) = true := pls_list (pls_ids _ _)
  have h4 : pl 7 (.list (ids (srt S.gn))) = true := pls_list (pls_ids _ _)
  have h7 : pl 7 S.savedD = true := pl_saved S 4
  have h6 : pl 7 S.leftD = true := by unfold SS.leftD; split <;> simp [pl]
  simp only [List.all_cons, List.all_nil, h1, h3, h4, h6, h7, Bool.and_true]
  simp [pl]
/-- the worths, rising -/
def SS.kvI (S : SS) : List (Int × Int) := S.keys.map fun s => (s, wI S s)
def SS.nrm (S : SS) : SS := { S with ws := S.kvI.map fun p => (p.1, V.int p.2) }
theorem kvI_keys : S.kvI.map (·.1) = S.keys := by
  unfold SS.kvI
  rw [List.map_map]
  exact List.map_id _
theorem nrm_keys : S.nrm.ws.map (·.1) = S.keys := by
  show (S.kvI.map fun p => (p.1, V.int p.2)).map (·.1) = _
  rw [List.map_map]
  exact kvI_keys
theorem keys_nd (ok : S.Ok) : S.keys.Nodup := (srt_perm _).nodup_iff.mpr ok.ndW
theorem nrm_ok (ok : S.Ok) : S.nrm.Ok := by
  refine ⟨ok.n1, ok.n60, ok.r1, ok.rk, ok.len, ok.cr, ?_⟩
  rw [nrm_keys]
  exact (List.Perm.append_right _ (srt_perm _)).trans ok.parts
theorem valV_mapf (f : Int → V) : ∀ {ks : List Int} {t : Int}, valV (ks.map fun s => (s, f s)) t = if t ∈ ks then some (f t) else none
  | [], t => rfl
  | k :: ks, t => by
    rw [List.map_cons]
    by_cases e : k = t
    · subst e
      rw [valV_pos rfl, if_pos (.head _)]
    · rw [valV_neg e, valV_mapf f]
      by_cases m : t ∈ ks
      · rw [if_pos m, if_pos (.tail _ m)]
      · rw [if_neg m, if_neg (fun z => by rcases List.mem_cons.mp z with z | z; exact e z.symm; exact m z)]
theorem nrm_ev (wi : S.Wi) : Ev S S.nrm := by
  refine ⟨_, rfl, fun s => ?_⟩
  unfold SS.kvI
  rw [List.map_map]
  show valV (S.keys.map fun s => (s, V.int (wI S s))) s = _
  rw [valV_mapf]
  have hm : s ∈ S.keys ↔ (valV S.ws s).isSome = true := mem_srt.trans mem_ws
  cases e : valV S.ws s with
  | none => rw [if_neg (fun z => by rw [hm, e] at z; cases z)]
  | some y =>
    obtain ⟨i, rfl⟩ := wi s y e
    rw [if_pos (hm.mpr (by rw [e]; rfl)), wI_of e]
theorem saved_kv (wi : S.Wi) : (S.keys.map fun s => PyData.tuple [.int s, S.wth s]) = S.kvI.map pD2 := by
  unfold SS.kvI
  rw [List.map_map]
  refine List.map_congr_left fun s hs => ?_
  obtain ⟨y, e⟩ := Option.isSome_iff_exists.mp (mem_ws.mp (mem_srt.mp hs))
  obtain ⟨i, rfl⟩ := wi s y e
  rw [SS.wth_of e]
  show _ = pD2 (s, wI S s)
  rw [wI_of e]; rfl
end
end Sh
namespace Sh
open PySem PySem.Spec L2 PyProof.Rows
section
variable {K : PySem.W.Frag} {X : Cx} {L L1 G : As} {Q : LK} {D : DL} {σ : St} {p a b : Addr} {ds : List PyData} {xs : List V} {S : SS}
theorem Dsc.tpl (m : Sh.tp p xs ∈ L) (q : DscA K L xs ds) : Dsc K L (.ref p) (.tuple ds) := fun H o => .tup (SqT.of (o.tp m)) (q.all o)
theorem Dsc.pz (m : Sh.pz a ds ∈ L) : Dsc K L (.ref a) (.tuple ds) := fun H o => by
  obtain ⟨L1, r⟩ := mem_rm m
  obtain ⟨⟨ob, vs⟩, o1⟩ := Own.exI (o.front r)
  have o2 := Own.cjI (L1 := [Sh.pt a (.frz ob (.tup vs)), Sh.dts vs ds, Sh.pr (PlT ob vs)]) o1
  exact .tup (.inl (.inr ⟨ob, o2.pt (.head _)⟩)) (DtAll.dp (o2.dts (vs := vs) (ds := ds) (.tail _ (.head _))))
/-! ### what a law sees of a store: a tuple with lists in it -/
structure SnAd where
  (l f w : Addr) (v : V)
def snCells (b : Addr) (S : SS) (q : SnAd) : List Asn := [tp b [.ref q.l, .int S.cs.length, .ref q.f, .ref q.w, .int (S.ln.length + S.n - S.cs.length), S.left, q.v], ld q.l (S.live.map hD), pt q.f (.lst (iv S.freeL)), pt q.w (.lst (iv (srt S.gn))), dt q.v S.savedD]
def sn (b : Addr) (S : SS) : Asn := ex fun q => cj (snCells b S q)
theorem Dsc.left : Dsc K L S.left S.leftD := by
  unfold SS.left SS.leftD
  split
  · exact Dsi.dsc Dsi.non
  · exact Dsi.dsc Dsi.int
theorem Dsc.sn (m : Sh.sn b S ∈ L) : Dsc K L (.ref b) S.seenD := fun H o => by
  obtain ⟨L1, r⟩ := mem_rm m
  obtain ⟨q, o1⟩ := Own.exI (o.front r)
  have o2 := Own.cjI (L1 := snCells b S q) o1
  have : Dsc K (snCells b S q ++ L1) (.ref b) S.seenD := Dsc.tpl (.head _) (.cons (Dsc.ld (.tail _ (.head _))) (.cons (Dsi.dsc Dsi.int) (.cons (Dsc.li (.tail _ (.tail _ (.head _)))) (.cons (Dsc.li (.tail _ (.tail _ (.tail _ (.head _))))) (.cons (Dsi.dsc Dsi.int) (.cons Dsc.left (.cons (Dsi.dsc (Dsi.dt (.tail _ (.tail _ (.tail _ (.tail _ (.head _))))))) .nil)))))))
  exact this H o2
theorem imp_snC (q : SnAd) : Imp (tp b [.ref q.l, .int S.cs.length, .ref q.f, .ref q.w, .int (S.ln.length + S.n - S.cs.length), S.left, q.v] :: ld q.l (S.live.map hD) :: pt q.f (.lst (iv S.freeL)) :: pt q.w (.lst (iv (srt S.gn))) :: dt q.v S.savedD :: L) (sn b S :: L) := fun T h s => by
  obtain ⟨h1, h2, d, l1, l2, a, s⟩ := SLs.cjE (L1 := snCells b S q) s
  exact ⟨h1, h2, d, l1, l2, ⟨q, a⟩, s⟩
def sSeen (C : Cl) : SpL := fun vs L Q _ => ∃ (p : Addr) (S : SS), vs = [.ref p] ∧ S.Ok ∧ S.Wi ∧ StoreAt C.Store p S ∈ L ∧ ∀ b, Q (.ref b) (sn b S :: L)
theorem sSeen.i {C : Cl} {E : Er → As → Prop} (m : StoreAt C.Store p S ∈ L) (ok : S.Ok) (wi : S.Wi) (q : ∀ b, Q (.ref b) (sn b S :: L)) : sSeen C [.ref p] L Q E := ⟨p, S, rfl, ok, wi, m, q⟩
/-! ### a store that is saved, to be woken -/
structure SvAd where
  (s c w l g : Addr)
def svCells (t : Addr) (S : SS) (q : SvAd) : List Asn := [tp t [.ref q.s, .ref q.c, .ref q.w, .ref q.l, .ref q.g], tp q.s S.sets, tp q.c (iv S.cs), pz q.w (S.kvI.map pD2), tp q.l (iv S.ln), tp q.g (iv S.gn)]
def sv5 (t : Addr) (S : SS) : Asn := ex fun q => cj (svCells t S q)
theorem imp_svC (q : SvAd) : Imp (tp a [.ref q.s, .ref q.c, .ref q.w, .ref q.l, .ref q.g] :: tp q.s S.sets :: tp q.c (iv S.cs) :: pz q.w (S.kvI.map pD2) :: tp q.l (iv S.ln) :: tp q.g (iv S.gn) :: L) (sv5 a S :: L) := fun T h s => by
  obtain ⟨h1, h2, d, l1, l2, a, s⟩ := SLs.cjE (L1 := svCells a S q) s
  exact ⟨h1, h2, d, l1, l2, ⟨q, a⟩, s⟩
theorem BL.openV {st : List Stmt} (r : Rm (sv5 a S) L L1) (q : ∀ q : SvAd, BL X st D σ (tp a [.ref q.s, .ref q.c, .ref q.w, .ref q.l, .ref q.g] :: tp q.s S.sets :: tp q.c (iv S.cs) :: pz q.w (S.kvI.map pD2) :: tp q.l (iv S.ln) :: tp q.g (iv S.gn) :: L1)) : BL X st D σ L :=
  ⟨fun H o => by
    obtain ⟨w, o1⟩ := Own.exI (o.front r)
    exact (q w).run H (Own.cjI (L1 := svCells a S w) o1)⟩
theorem Dsc.sv5 (m : Sh.sv5 a S ∈ L) : ∃ ds, Dsc K L (.ref a) (.tuple ds) := by
  refine ⟨[.tuple [.int S.n, .int S.r, .str (ordS S.last), .str (endS S.rnd)], .tuple (ids S.cs), .tuple (S.kvI.map pD2), .tuple (ids S.ln), .tuple (ids S.gn)], fun H o => ?_⟩
  obtain ⟨L1, r⟩ := mem_rm m
  obtain ⟨q, o1⟩ := Own.exI (o.front r)
  have o2 := Own.cjI (L1 := svCells a S q) o1
  have iv' : ∀ {t : Addr} {ns : List Int}, tp t (iv ns) ∈ svCells a S q ++ L1 → Dsc K (svCells a S q ++ L1) (.ref t) (.tuple (ids ns)) := fun {t ns} m H o => .tup (SqT.of (o.tp m)) (DtAll.dp (dtAll_iv ns))
  have : Dsc K (svCells a S q ++ L1) (.ref a) (.tuple [.tuple [.int S.n, .int S.r, .str (ordS S.last), .str (endS S.rnd)], .tuple (ids S.cs), .tuple (S.kvI.map pD2), .tuple (ids S.ln), .tuple (ids S.gn)]) :=
    Dsc.tpl (.head _) (.cons (Dsc.tpl (.tail _ (.head _)) (.cons (Dsi.dsc Dsi.int) (.cons (Dsi.dsc Dsi.int) (.cons (Dsi.dsc Dsi.str) (.cons (Dsi.dsc Dsi.str) .nil))))) (.cons (iv' (.tail _ (.tail _ (.head _)))) (.cons (Dsc.pz (.tail _ (.tail _ (.tail _ (.head _))))) (.cons (iv' (.tail _ (.tail _ (.tail _ (.tail _ (.head _)))))) (.cons (iv' (.tail _ (.tail _ (.tail _ (.tail _ (.tail _ (.head _))))))) .nil)))))
  exact this H o2
def sSavedF (C : Cl) : SpL := fun vs L Q _ => ∃ (p : Addr) (S : SS), vs = [.ref p] ∧ S.Ok ∧ S.Wi ∧ StoreAt C.Store p S ∈ L ∧ ∀ t, Q (.ref t) (sv5 t S :: L)
def sWoken (C : Cl) : SpL := fun vs L Q _ => ∃ (t : Addr) (S : SS), vs = [.ref t] ∧ S.Ok ∧ S.Wi ∧ sv5 t S ∈ L ∧ ∀ p, Q (.ref p) (StoreAt C.Store p S.nrm :: L)
end
end Sh
section
open PySem PySem.Spec L2 PyProof.Rows Sh
local macro_rules | `(tactic| w_dflts na) => `(tactic| with_reducible assumption)
local macro_rules | `(tactic| w_dflts nm) => `(tactic| first | with_reducible assumption | exact nmF (by w_dflts na) rfl | exact nmN (by w_dflts na) rfl | exact nmO (by w_dflts na) rfl | exact gdC (by w_dflts na) rfl | exact bnC (by w_dflts na) rfl | exact gdN (by w_dflts na) rfl | exact bnN (by w_dflts na) rfl)
local macro_rules | `(tactic| w_dflts xn) => `(tactic| first
  | refine we_var (by w_dflts nm) (by exact rfl) ?_ | refine we_bty (by w_dflts nm) ?_)
local macro_rules | `(tactic| w_dflts xc) => `(tactic| first | refine we_int ?_ | refine we_str ?_ | refine we_bl ?_ | refine we_non ?_)
local macro_rules | `(tactic| w_dflts xe) => `(tactic| (refine we_id ?_; first
  | (refine we_idN ?_; w_dflts xn) | (refine we_idC ?_; w_dflts xc) | refine we_fld rfl ?_ | ((fail_if_success refine we_idSl ?_); refine we_sub (fun _ _ => rfl) ?_)
  | (refine we_idF ?_; first | refine we_callB (by w_dflts nm) ?_ | refine we_callTy (by w_dflts nm) ?_)
  | refine we_op ?_ | refine we_cmp (by first | exact nomark _ | rfl) ?_ | refine we_and ?_ | refine we_or ?_ | refine we_one ?_ | refine we_not ?_ | refine we_neg ?_
  | refine we_tup ?_ | refine we_lst ?_ | refine we_ifx ?_
  | refine we_chain (by with_unfolding_all rfl) ?_))
local macro_rules | `(tactic| w_dflts xt) => `(tactic| (refine wt_id ?_; first
  | refine wt_cmp (by first | exact nomark _ | rfl) ?_ | refine wt_not ?_ | refine wt_ww (ww_and ?_) | refine wt_ww (ww_or ?_) | refine wt_val ?_))
local macro_rules | `(tactic| w_dflts xw) => `(tactic| (refine ww_id ?_; first | refine ww_and ?_ | refine ww_or ?_ | refine ww_and1 ?_ | refine ww_or1 ?_))
local macro_rules | `(tactic| w_dflts xa) => `(tactic| (refine wa_id ?_; first | refine wa_cons ?_ | refine wa_nil ?_))
local macro_rules | `(tactic| w_dflts xb) => `(tactic| (refine wb_id ?_; first | refine wb_one ?_ | refine wb_cons ?_ | refine wb_nil ?_))
local macro_rules | `(tactic| w_dflts xs) => `(tactic| (refine ws_id ?_; first
  | refine ws_ret ?_ | refine ws_if ?_ | refine ws_expr ?_ | refine ws_pass ?_ | refine ws_fld ?_ | refine ws_asgN ?_))
local macro_rules | `(tactic| w_dflts xg) => `(tactic| (refine wg_id ?_; refine wg_name (by w_dflts nm) (by assumption) ?_))
local macro_rules | `(tactic| w_dflts xo) => `(tactic| (refine wop_id ?_; first
  | refine wop_add ?_ | refine wop_sub ?_ | refine wop_lt ?_ | refine wop_le ?_ | refine wop_gt ?_ | refine wop_ge ?_
  | refine wop_eq rfl ?_ | refine wop_ne rfl ?_ | refine wop_isN ?_ | refine wop_notN ?_))
local macro_rules | `(tactic| w_dflts xu) => `(tactic| (refine wun_id ?_; refine wun_neg ?_))
local macro_rules | `(tactic| w_dflts x1) => `(tactic| first | w_dflts xe | w_dflts xa | w_dflts xt | w_dflts xb | w_dflts xs | w_dflts xo | w_dflts xg | w_dflts xw | w_dflts xu | refine ⟨_, rfl, ?_⟩)
local macro_rules | `(tactic| w_dflts xx) => `(tactic| repeat (w_dflts x1))
local macro_rules | `(tactic| w_dflts mm) => `(tactic| first | with_reducible exact List.mem_cons_self | ((with_reducible apply List.mem_cons_of_mem); w_dflts mm) | with_reducible assumption)
local macro_rules | `(tactic| w_dflts rp) => `(tactic| first | with_reducible exact Rp.here | ((with_reducible apply Rp.there); w_dflts rp) | with_reducible assumption)
local macro_rules | `(tactic| w_dflts rm) => `(tactic| first | with_reducible exact Rm.here | ((with_reducible apply Rm.there); w_dflts rm) | with_reducible assumption)
local macro_rules | `(tactic| w_dflts ow) => `(tactic| with_reducible assumption)
local macro_rules | `(tactic| w_dflts pk) => `(tactic| first | (apply Pk.cons; (focus first | w_dflts rm | w_dflts rn); w_dflts pk) | exact Pk.nil)
local macro_rules | `(tactic| w_dflts rn) => `(tactic| first | exact Rm.here | ((with_reducible apply Rm.there); w_dflts rn))
local macro_rules | `(tactic| w_dflts sb) => `(tactic| first | with_reducible exact Sb.refl | ((apply Sb.cons); (focus first | w_dflts rm | w_dflts rn); w_dflts sb) | ((with_reducible apply Sb.skip); w_dflts sb) | exact Sb.nil)
local macro_rules | `(tactic| w_dflts pq) => `(tactic| first | with_reducible exact Pq.refl | ((apply Pq.cons); (focus first | w_dflts rm | w_dflts rn); w_dflts pq))
local macro_rules | `(tactic| w_dflts mq) => `(tactic| first | exact List.mem_cons_self | ((with_reducible apply List.mem_cons_of_mem); w_dflts mq))
local macro_rules | `(tactic| w_dflts mz) => `(tactic| first | w_dflts mm | w_dflts mq)
local macro_rules | `(tactic| w_dflts om) => `(tactic| first | omega | decide | (simp only [List.length_cons, List.length_nil, List.length_append, List.length_map]; omega))
local macro_rules | `(tactic| w_dflts ra) => `(tactic| first | exact Rp.here | ((with_reducible apply Rp.there); w_dflts ra))
local macro_rules | `(tactic| w_dflts ro) => `(tactic| first | w_dflts rp | w_dflts ra)
local macro_rules | `(tactic| w_dflts ru) => `(tactic| first | w_dflts rm | w_dflts rn)
local macro_rules | `(tactic| w_dflts di) => `(tactic| first | exact Dsi.int | exact Dsi.str | exact Dsi.dt (by w_dflts mm) | exact Dsi.non | exact Dsi.bl | (apply Dsi.tp; (focus w_dflts mm); w_dflts da))
local macro_rules | `(tactic| w_dflts da) => `(tactic| first | exact DsiA.nil | (apply DsiA.cons; (focus w_dflts di); w_dflts da))
local macro_rules | `(tactic| w_dflts dc) => `(tactic| first
  | exact Dsi.dsc Dsi.int | exact Dsi.dsc Dsi.str | exact Dsi.dsc (Dsi.dt (by w_dflts mm)) | exact Dsc.ld (by w_dflts mm) | exact Dsc.li (by w_dflts mm) | exact Dsc.dl (by w_dflts mm) | exact Dsc.lv (by w_dflts mm) | exact Dsi.dsc Dsi.non | exact Dsi.dsc Dsi.bl
  | (apply Dsi.dsc; w_dflts di) | (apply Dsc.pt; (focus w_dflts mm); w_dflts db))
local macro_rules | `(tactic| w_dflts db) => `(tactic| first | exact DscA.nil | (apply DscA.cons; (focus w_dflts dc); w_dflts db))
local macro_rules | `(tactic| w_dflts pp) => `(tactic| first | exact pl_hD _ _ | exact pl_ref _ | exact pl_refD _ | exact pl_saved _ _ | exact pls_hD _ | exact pl_ids _ _ | exact pls_list (pls_hD _) | assumption | rfl | decide +kernel)
local macro_rules | `(tactic| w_dflts im) => `(tactic| first
  | with_reducible exact Imp.rfl | exact imp_nil
  | (refine imp_cons (by w_dflts rm) ?_; w_dflts im) | (refine imp_dr (by w_dflts rm) (by w_dflts om) ?_; w_dflts im) | (refine imp_dt (by w_dflts mm) ?_; w_dflts im) | (refine imp_tp (by w_dflts mm) ?_; w_dflts im)
  | (refine imp_ld0 (by w_dflts rm) ?_; w_dflts im) | (refine imp_lv (by w_dflts rm) ?_; w_dflts im) | (refine imp_dsi (by w_dflts di) ?_; w_dflts im) | (refine imp_ld (by w_dflts rm) (by w_dflts da) ?_; w_dflts im)
  | (refine imp_cons (by w_dflts rn) ?_; w_dflts im) | (apply imp_drop; w_dflts im))
local macro_rules | `(tactic| w_dflts ig) => `(tactic| ((try dsimp only); w_dflts im))
local macro_rules | `(tactic| w_dflts st) => `(tactic| first | refine ite_d (fun _ => ?_) (fun h => absurd rfl h) | refine ite_d (fun h => absurd h (by (try dsimp only [Dg.wd]); decide +kernel)) (fun _ => ?_))
local macro_rules | `(tactic| w_dflts yn) => `(tactic| first | refine el_var (by w_dflts nm) (by exact rfl) ?_ | refine el_bty (by w_dflts nm) ?_)
local macro_rules | `(tactic| w_dflts yc) => `(tactic| first | apply el_int | apply el_str | apply el_bl | apply el_non)
local macro_rules | `(tactic| w_dflts ye) => `(tactic| ((with_reducible apply el_id); first
  | ((with_reducible apply el_idN); w_dflts yn) | ((with_reducible apply el_idC); w_dflts yc) | ((with_reducible apply el_iS); first | ((with_reducible apply el_idSl); first | w_dflts yv | with_reducible apply el_slTo | with_reducible apply el_slFrom | with_reducible apply el_rev) | refine el_sub (fun _ _ => rfl) ?_)
  | ((with_reducible apply el_idM); w_dflts ym)
  | ((with_reducible apply el_idF); first | w_dflts yk | refine el_callB (by w_dflts nm) ?_ | refine el_callTy (by w_dflts nm) ?_)
  | ((with_reducible apply el_iO); refine el_op ?_) | ((with_reducible apply el_iC); first | refine el_cmp (by first | exact nomark _ | rfl) ?_ | refine el_chain (by with_unfolding_all rfl) ?_)
  | ((with_reducible apply el_iB); first | with_reducible apply el_and | with_reducible apply el_or | with_reducible apply el_one) | ((with_reducible apply el_iU); first | apply el_not | apply el_neg)
  | ((with_reducible apply el_iT); apply el_tup) | ((with_reducible apply el_iL); apply el_lst) | ((with_reducible apply el_iI); apply el_ifx) | ((with_reducible apply el_iA); refine el_fld rfl ?_)))
local macro_rules | `(tactic| w_dflts yk) => `(tactic| ((with_reducible apply el_idk (z := "list")); refine el_listRg (by assumption) (by w_dflts nm) (by w_dflts nm) ?_))
local macro_rules | `(tactic| w_dflts yk) => `(tactic| ((with_reducible apply el_idk (z := "len")); refine el_lenSet (by assumption) (by w_dflts nm) (by w_dflts nm) ?_))
local macro_rules | `(tactic| w_dflts ym) => `(tactic| ((with_reducible apply el_idm (m := "append")); refine el_append ?_))
local macro_rules | `(tactic| w_dflts ym) => `(tactic| ((with_reducible apply el_idm (m := "pop")); refine el_popAt ?_))
local macro_rules | `(tactic| w_dflts eo) => `(tactic| repeat (first | w_dflts ye | w_dflts yx | ((with_reducible apply ex_id); refine ⟨_, rfl, ?_⟩)))
local macro_rules | `(tactic| w_dflts ym) => `(tactic| ((with_reducible apply el_idm (m := "pop")); refine el_dm1 PySem.F.slot_dict_pop PySem.F.type_dict_pop (mt_pop1 (by assumption)) ?_; w_dflts eo; (with_reducible apply isdc_id); refine And.intro (by exact IsDc.t (by w_dflts mm)) ?_))
local macro_rules | `(tactic| w_dflts ym) => `(tactic| ((with_reducible apply el_idm (m := "extend")); refine el_extend ?_))
local macro_rules | `(tactic| w_dflts ym) => `(tactic| ((with_reducible apply el_idm (m := "count")); refine el_count ?_))
local macro_rules | `(tactic| w_dflts ym) => `(tactic| ((with_reducible apply el_idm (m := "pop")); refine el_lm0 PySem.F.slot_list_pop PySem.F.type_list_pop mt_pop ?_))
local macro_rules | `(tactic| w_dflts ym) => `(tactic| ((with_reducible apply el_idm (m := "remove")); refine el_lm1 PySem.F.slot_list_remove PySem.F.type_list_remove mt_remove ?_))
local macro_rules | `(tactic| w_dflts ym) => `(tactic| ((with_reducible apply el_idm (m := "index")); refine el_index (by assumption) ?_))
local macro_rules | `(tactic| w_dflts ym) => `(tactic| ((with_reducible apply el_idm (m := "clear")); refine el_lm0 PySem.F.slot_list_clear PySem.F.type_list_clear mt_clear ?_))
local macro_rules | `(tactic| w_dflts yt) => `(tactic| ((with_reducible apply tl_id); first
  | ((with_reducible apply tl_iC1); refine tl_cmp (by first | exact nomark _ | rfl) ?_) | ((with_reducible apply tl_iN); apply tl_not) | ((with_reducible apply tl_iB); first | with_reducible apply wl_and' | with_reducible apply wl_or') | refine tl_val ?_))
local macro_rules | `(tactic| w_dflts yw) => `(tactic| ((with_reducible apply wl_id); first | with_reducible apply wl_and | with_reducible apply wl_or | with_reducible apply wl_and1 | with_reducible apply wl_or1))
local macro_rules | `(tactic| w_dflts ya) => `(tactic| ((with_reducible apply al_id); first | refine al_cons ?_ | apply al_nil))
local macro_rules | `(tactic| w_dflts yb) => `(tactic| ((with_reducible apply bl_id); first | apply bl_one | apply bl_cons | apply bl_nil))
local macro_rules | `(tactic| w_dflts yq) => `(tactic| ((with_reducible apply sl_id); first
  | ((with_reducible apply sl_iR); apply sl_ret) | ((with_reducible apply sl_iI); apply sl_if) | ((with_reducible apply sl_iE); refine sl_expr ?_) | ((with_reducible apply sl_iA); refine sl_asgN ?_) | with_reducible apply sl_pass | with_reducible apply sl_cont))
local macro_rules | `(tactic| w_dflts yg) => `(tactic| ((with_reducible apply gl_id); refine gl_name (by w_dflts nm) (by assumption) ?_))
local macro_rules | `(tactic| w_dflts yo) => `(tactic| ((with_reducible apply ol_id); first
  | with_reducible apply ol_add | with_reducible apply ol_sub | with_reducible apply ol_lt | with_reducible apply ol_le | with_reducible apply ol_gt | with_reducible apply ol_ge
  | with_reducible apply ol_eqI | with_reducible apply ol_neI | with_reducible apply ol_eqS | with_reducible apply ol_neS | with_reducible apply ol_neIS | with_reducible apply ol_eqIS | with_reducible apply ol_eqB | with_reducible apply ol_neB | with_reducible apply ol_isN | with_reducible apply ol_notN
  | ((with_reducible apply ol_idM); refine ol_mod (by w_dflts om) ?_)
  | refine ol_catT (by w_dflts mz) (by w_dflts mz) (by exact List.cons_ne_nil _ _) (by exact List.cons_ne_nil _ _) (Nat.le_of_ble_eq_true rfl) ?_
  | ((with_reducible apply ol_idE); refine ol_eqD (by assumption) (by w_dflts dc) (by w_dflts dc) (j := 8) (by w_dflts pp) (by w_dflts pp) (by decide) ?_)
  | ((with_reducible apply ol_idN); refine ol_neD (by assumption) (by w_dflts dc) (by w_dflts dc) (j := 8) (by w_dflts pp) (by w_dflts pp) (by decide) ?_)
  | ((with_reducible apply ol_idN); refine ol_ne0 (by assumption) (by w_dflts mm) (by w_dflts mm) ?_)
  | ((with_reducible apply ol_idI); refine ol_inH (by assumption) (by w_dflts mm) (by w_dflts di) ?_) | ((with_reducible apply ol_idJ); refine ol_ninH (by assumption) (by w_dflts mm) (by w_dflts di) ?_)
  | ((with_reducible apply ol_idI); refine ol_inD (by assumption) (by w_dflts dc) (by w_dflts dc) (j := 8) (by w_dflts pp) (by w_dflts pp) (by decide) ?_)
  | ((with_reducible apply ol_idJ); refine ol_ninD (by assumption) (by w_dflts dc) (by w_dflts dc) (j := 8) (by w_dflts pp) (by w_dflts pp) (by decide) ?_)))
local macro_rules | `(tactic| w_dflts yx) => `(tactic| ((with_reducible apply xl_id); first | refine xl_T (by w_dflts mm) rfl ?_ | refine xl_L (by w_dflts mm) (by exact rfl) ?_ | refine xl_deed0 (by w_dflts mm) ?_ | w_dflts ya1 | refine xl_h0 (by w_dflts mm) ?_ | refine xl_h1 (by w_dflts mm) ?_ | refine xl_r0 (by w_dflts mm) ?_ | refine xl_r1 (by w_dflts mm) ?_ | refine xl_vS (by w_dflts mm) rfl rfl ?_ | refine xl_v (by w_dflts mm) rfl ?_))
local macro_rules | `(tactic| w_dflts ya1) => `(tactic| first | refine xl_m1 (by assumption) (by w_dflts mm) ?_ | refine xl_m2 (by assumption) (by w_dflts mm) ?_ | refine xl_m3 (by assumption) (by w_dflts mm) ?_ | refine xl_m4 (by assumption) (by w_dflts mm) ?_ | refine xl_m5 (by assumption) (by w_dflts mm) ?_)
local macro_rules | `(tactic| w_dflts yl) => `(tactic| ((with_reducible apply cl_id); first | refine cl_lenld (by w_dflts mm) ?_ | refine cl_lenlv (by w_dflts mm) ?_ | refine cl_lenL (by w_dflts mm) ?_ | refine cl_lenT (by w_dflts mm) ?_ | refine cl_lenv (by w_dflts mm) ?_ | refine cl_lenH (by w_dflts mm) ?_ | refine cl_lenK (by w_dflts mm) ?_ | refine cl_listH (by assumption) (by w_dflts mm) ?_ | refine cl_sortedH (by w_dflts mm) ?_ | refine cl_sortedI (by w_dflts mm) ?_ | refine cl_listld (by w_dflts mm) ?_ | refine cl_listK (by assumption) (by w_dflts mm) ?_ | refine cl_listL (by w_dflts mm) ?_ | refine cl_listT (by w_dflts mm) ?_ | refine cl_tupI (by w_dflts mm) ?_ | refine cl_tupD (by w_dflts mm) ?_ | with_reducible apply cl_intB | with_reducible apply cl_isTi | refine cl_isTd (by w_dflts mm) ?_ | refine cl_isTh (by w_dflts mm) ?_ | refine cl_isTr (by w_dflts mm) ?_ | refine cl_isTt (by w_dflts dc) ?_ | refine cl_all (by assumption) (by w_dflts mm) ?_ | refine cl_min (by assumption) ?_ | refine cl_max (by assumption) ?_))
local macro_rules | `(tactic| w_dflts yz) => `(tactic| first
  | ((with_reducible apply newT_id); first | refine newT_d (sz (Nat.le_of_ble_eq_true rfl)) (by w_dflts da) ?_ | refine newT_t (sz (Nat.le_of_ble_eq_true rfl)) ?_)
  | ((with_reducible apply newL_id); refine newL_p (sz (Nat.le_of_ble_eq_true rfl)) ?_)
  | ((with_reducible apply slT_id); refine slT_t (by w_dflts mz) (by w_dflts sn) rfl ?_) | ((with_reducible apply extL_id); refine ext_pt (by w_dflts mm) (by w_dflts ro) (by w_dflts om) ?_)
  | ((with_reducible apply cntL_id); refine cnt_li (by w_dflts mm) ?_) | ((with_reducible apply slL_id); first | refine slL_ld (by w_dflts mm) ?_ | refine slL_li (by w_dflts mm) ?_) | ((with_reducible apply rvL_id); first | refine rvL_ld (by w_dflts mm) ?_ | refine rvL_li (by w_dflts mm) ?_)
  | ((with_reducible apply appL_id); first | refine app_ld (by w_dflts ro) (by w_dflts di) (by w_dflts om) ?_ | refine app_pt (by w_dflts ro) (by w_dflts om) ?_))
local macro_rules | `(tactic| w_dflts sn) => `(tactic| first | decide | exact (by decide : ¬ (HT.sIx 4 0 none = 0 ∧ HT.sIx 4 4 (some 3) = 4)) | exact (by decide : ¬ (HT.sIx 4 0 none = 0 ∧ HT.sIx 4 4 (some 2) = 4)) | exact (by decide : ¬ (HT.sIx 4 0 (some 1) = 0 ∧ HT.sIx 4 4 none = 4)) | exact (by decide : ¬ (HT.sIx 4 0 (some 2) = 0 ∧ HT.sIx 4 4 none = 4)))
local macro_rules | `(tactic| w_dflts yi) => `(tactic| first | exact IsLs.pt (by w_dflts mm) | exact IsLs.ld (by w_dflts mm))
local macro_rules | `(tactic| w_dflts yh) => `(tactic| ((with_reducible apply Sg.i); w_dflts ys))
local macro_rules | `(tactic| w_dflts y1) => `(tactic| first
  | w_dflts ye | w_dflts ya | w_dflts yt | w_dflts yb | w_dflts yq | w_dflts yo | w_dflts yg | w_dflts yw | w_dflts yx | w_dflts yl | ((with_reducible apply ex_id); first | refine ⟨_, rfl, ?_⟩ | w_dflts yf) | w_dflts yh | w_dflts yz | ((with_reducible apply isl_id); refine And.intro (by w_dflts yi) ?_) | ((with_reducible apply isdc_id); refine And.intro (by first | exact IsDc.t (by w_dflts mm) | exact IsDc.i (by w_dflts mm)) ?_) | ((with_reducible apply dis_id); first | with_reducible apply dis_cons | with_reducible apply dis_nil) | ((with_reducible apply rc_id); refine And.intro (Rc.store (by w_dflts mm) (fun _ => rfl)) ?_) | ((with_reducible apply ul_id); apply ul_neg) | with_reducible apply ite_ffi | with_reducible apply ite_tti | with_reducible apply ite_nffi | with_reducible apply ite_ntti | with_reducible apply ite_nqr | with_reducible apply ite_qr | w_dflts yd)
local macro_rules | `(tactic| w_dflts ys) => `(tactic| fail)
local macro_rules | `(tactic| w_dflts la) => `(tactic| repeat (first | w_dflts y1 | intro (_ : Addr)))
local macro_rules | `(tactic| w_dflts ll) => `(tactic| repeat (w_dflts y1))
local macro_rules | `(tactic| w_dflts lb) => `(tactic| repeat (first | with_reducible apply bl_nil | ((fail_if_success (with_reducible apply bl_id)); w_dflts y1)))
local macro_rules | `(tactic| w_dflts yd) => `(tactic| first | with_reducible apply ite_nq3 | with_reducible apply ite_q3 | with_reducible apply ite_nq4 | with_reducible apply ite_q4 | (with_reducible refine ite_nq1 ?_ ?_; focus decide) | (with_reducible refine ite_q1 ?_ ?_; focus decide) | (with_reducible refine ite_nq2 ?_ ?_; focus decide) | (with_reducible refine ite_q2 ?_ ?_; focus decide))
namespace Sh
def top (i : Nat) : Stmt := PySem.Challenge.pw_stalehands_k08_whole_saved.main.body.getD i (.Pass ⟨0, 0, 0, 0⟩)
abbrev s_is_whole : Stmt := top 19
abbrev s_are_settings : Stmt := top 20
abbrev s_checked : Stmt := top 21
abbrev s_need_worth : Stmt := top 22
abbrev s_is_handle : Stmt := top 23
abbrev s_need_handle : Stmt := top 24
abbrev s_Store___init__ : Stmt := inClass (top 26) 0
abbrev s_Store_put : Stmt := inClass (top 26) 1
abbrev s_Store_put_in : Stmt := inClass (top 26) 2
abbrev s_Store_holds : Stmt := inClass (top 26) 3
abbrev s_Store_need : Stmt := inClass (top 26) 4
abbrev s_Store_get : Stmt := inClass (top 26) 5
abbrev s_Store_change : Stmt := inClass (top 26) 7
abbrev s_Store_drop : Stmt := inClass (top 26) 8
abbrev s_Store_live : Stmt := inClass (top 26) 9
abbrev s_Store_many : Stmt := inClass (top 26) 10
abbrev s_Store_made : Stmt := inClass (top 26) 11
abbrev s_Store_free : Stmt := inClass (top 26) 12
abbrev s_Store_worn : Stmt := inClass (top 26) 13
abbrev s_Store_room : Stmt := inClass (top 26) 14
abbrev s_Store_left : Stmt := inClass (top 26) 15
abbrev s_Store_saved : Stmt := inClass (top 26) 16
abbrev s_woken : Stmt := top 27
abbrev s__law_cell_at : Stmt := top 29
abbrev s__law_mixed : Stmt := top 30
abbrev s__law_draw : Stmt := top 31
abbrev s__law_pick : Stmt := top 32
abbrev s__law_settings : Stmt := top 33
abbrev s__law_some : Stmt := top 34
abbrev s__law_deed : Stmt := top 35
abbrev s__law_which : Stmt := top 36
abbrev s__law_do : Stmt := top 37
abbrev s__law_seen : Stmt := top 38
abbrev s_law : Stmt := top 39
structure Txt (K : PySem.W.Frag) (mg : Str → Option Value) (C : Cl) : Prop where
  b_isinstance : mg "isinstance" = none
  b_int : mg "int" = none
  b_bool : mg "bool" = none
  b_tuple : mg "tuple" = none
  b_len : mg "len" = none
  b_str : mg "str" = none
  b_sorted : mg "sorted" = none
  b_list : mg "list" = none
  b_sum : mg "sum" = none
  b_range : mg "range" = none
  b_dict : mg "dict" = none
  b_min : mg "min" = none
  b_ValueError : mg "ValueError" = none
  c_SLOTS : ∃ t, mg "SLOTS" = some (.int 60 t)
  c_ROUNDS : ∃ t, mg "ROUNDS" = some (.int 1000 t)
  c_WORTHS : ∃ t, mg "WORTHS" = some (.int 9999 t)
  c_ORDERS : ∃ a, mg "ORDERS" = some (.ref a) ∧ ∀ H, SqT K H a [.str "first", .str "last"]
  c_ENDS : ∃ a, mg "ENDS" = some (.ref a) ∧ ∀ H, SqT K H a [.str "worn", .str "round"]
  x_HandError : Xn K mg "HandError" C.HandError
  x_NoSettings : Xn K mg "NoSettings" C.NoSettings
  x_NoWorth : Xn K mg "NoWorth" C.NoWorth
  x_NoHandle : Xn K mg "NoHandle" C.NoHandle
  x_Stale : Xn K mg "Stale" C.Stale
  x_Full : Xn K mg "Full" C.Full
  x_NoPlace : Xn K mg "NoPlace" C.NoPlace
  x_NoList : Xn K mg "NoList" C.NoList
  x_NoNumber : Xn K mg "NoNumber" C.NoNumber
  x_NotEmpty : Xn K mg "NotEmpty" C.NotEmpty
  x_NoDeed : Xn K mg "NoDeed" C.NoDeed
  w_e : ∀ e : Er, ExcC K (C.of e)
  w_k : ∀ e f : Er, PySem.W.kitOne K (.ref (C.of e)) (.ref (C.of f)) = some (decide (e = f))
  w_v : ∀ e : Er, PySem.W.kitOne K (.ref (C.of e)) (.type "ValueError") = some true
  w_h : ∀ e : Er, PySem.W.exmOne K (.ref (C.of e)) (.ref C.HandError) = some true
  k_Store : KAt K mg "Store" C.Store
  a_Store_settings : NoAttr K C.Store "settings"
  a_Store_counts : NoAttr K C.Store "counts"
  a_Store_worths : NoAttr K C.Store "worths"
  a_Store_line : NoAttr K C.Store "line"
  a_Store_gone : NoAttr K C.Store "gone"
  d_is_whole : DefAt K mg "is_whole" s_is_whole ["thing", "low", "most"]
  d_are_settings : DefAt K mg "are_settings" s_are_settings ["thing"]
  d_checked : DefAt K mg "checked" s_checked ["settings"]
  d_need_worth : DefAt K mg "need_worth" s_need_worth ["worth"]
  d_is_handle : DefAt K mg "is_handle" s_is_handle ["settings", "thing"]
  d_need_handle : DefAt K mg "need_handle" s_need_handle ["settings", "thing"]
  d_Store___init__ : MethAt K C.Store "__init__" "Store.__init__" s_Store___init__ ["self", "settings"]
  d_Store_put : MethAt K C.Store "put" "Store.put" s_Store_put ["self", "worth"]
  d_Store_put_in : MethAt K C.Store "put_in" "Store.put_in" s_Store_put_in ["self", "worth"]
  d_Store_holds : MethAt K C.Store "holds" "Store.holds" s_Store_holds ["self", "handle"]
  d_Store_need : MethAt K C.Store "need" "Store.need" s_Store_need ["self", "handle"]
  d_Store_get : MethAt K C.Store "get" "Store.get" s_Store_get ["self", "handle"]
  d_Store_change : MethAt K C.Store "change" "Store.change" s_Store_change ["self", "handle", "worth"]
  d_Store_drop : MethAt K C.Store "drop" "Store.drop" s_Store_drop ["self", "handle"]
  d_Store_live : MethAt K C.Store "live" "Store.live" s_Store_live ["self"]
  d_Store_many : MethAt K C.Store "many" "Store.many" s_Store_many ["self"]
  d_Store_made : MethAt K C.Store "made" "Store.made" s_Store_made ["self"]
  d_Store_free : MethAt K C.Store "free" "Store.free" s_Store_free ["self"]
  d_Store_worn : MethAt K C.Store "worn" "Store.worn" s_Store_worn ["self"]
  d_Store_room : MethAt K C.Store "room" "Store.room" s_Store_room ["self"]
  d_Store_left : MethAt K C.Store "left" "Store.left" s_Store_left ["self"]
  d_Store_saved : MethAt K C.Store "saved" "Store.saved" s_Store_saved ["self"]
  d_woken : DefAt K mg "woken" s_woken ["thing"]
  d__law_cell_at : DefAt K mg "_law_cell_at" s__law_cell_at ["script", "k"]
  d__law_mixed : DefAt K mg "_law_mixed" s__law_mixed ["script", "k", "many"]
  d__law_draw : DefAt K mg "_law_draw" s__law_draw ["script", "town", "many"]
  d__law_pick : DefAt K mg "_law_pick" s__law_pick ["script", "town", "some"]
  d__law_settings : DefAt K mg "_law_settings" s__law_settings ["script", "town"]
  d__law_some : DefAt K mg "_law_some" s__law_some ["script", "town", "settings", "known"]
  d__law_deed : DefAt K mg "_law_deed" s__law_deed ["script", "town", "settings", "known"]
  d__law_which : DefAt K mg "_law_which" s__law_which ["e"]
  d__law_do : DefAt K mg "_law_do" s__law_do ["store", "deed"]
  d__law_seen : DefAt K mg "_law_seen" s__law_seen ["store"]
  d_law : DefAt K mg "law" s_law ["script"]
abbrev N_is_whole : List Str := ["thing", "low", "most"]
theorem sc_is_whole : FnScope N_is_whole ["thing", "low", "most"] (defScope s_is_whole) := ⟨rfl, rfl, rfl, by decide +kernel, rfl, by decide +kernel, by decide +kernel⟩
theorem nm_is_whole {C : Cl} {X : Cx} (T : Txt X.K X.mg C) (B : Nf X N_is_whole (defScope s_is_whole)) : Nm X.N X.env 0 "thing" ∧ Nm X.N X.env 1 "low" ∧ Nm X.N X.env 2 "most" ∧ Nl X.N X.env X.fn 0 "thing" ∧ Nl X.N X.env X.fn 1 "low" ∧ Nl X.N X.env X.fn 2 "most" ∧ Bn X.env X.mg "isinstance" (.builtin "isinstance") ∧ Bn X.env X.mg "int" (.type "int") ∧ Bn X.env X.mg "bool" (.type "bool") ∧ True :=
  ⟨B.nm rfl (Or.inl rfl) rfl rfl, B.nm rfl (Or.inl rfl) rfl rfl, B.nm rfl (Or.inl rfl) rfl rfl, B.nl rfl (Or.inl rfl), B.nl rfl (Or.inl rfl), B.nl rfl (Or.inl rfl), ⟨B.gl rfl, rfl, T.b_isinstance, bt_isinstance, nn_isinstance⟩, ⟨B.gl rfl, rfl, T.b_int, bt_int, nn_int⟩, ⟨B.gl rfl, rfl, T.b_bool, bt_bool, nn_bool⟩, trivial⟩
abbrev N_are_settings : List Str := ["thing"]
theorem sc_are_settings : FnScope N_are_settings ["thing"] (defScope s_are_settings) := ⟨rfl, rfl, rfl, by decide +kernel, rfl, by decide +kernel, by decide +kernel⟩
theorem nm_are_settings {C : Cl} {X : Cx} (T : Txt X.K X.mg C) (B : Nf X N_are_settings (defScope s_are_settings)) : Nm X.N X.env 0 "thing" ∧ Nl X.N X.env X.fn 0 "thing" ∧ Bn X.env X.mg "isinstance" (.builtin "isinstance") ∧ Bn X.env X.mg "tuple" (.type "tuple") ∧ Bn X.env X.mg "len" (.builtin "len") ∧ Gd X.env "is_whole" ∧ Gd X.env "SLOTS" ∧ Gd X.env "ROUNDS" ∧ Bn X.env X.mg "str" (.type "str") ∧ Gd X.env "ORDERS" ∧ Gd X.env "ENDS" ∧ True :=
  ⟨B.nm rfl (Or.inl rfl) rfl rfl, B.nl rfl (Or.inl rfl), ⟨B.gl rfl, rfl, T.b_isinstance, bt_isinstance, nn_isinstance⟩, ⟨B.gl rfl, rfl, T.b_tuple, bt_tuple, nn_tuple⟩, ⟨B.gl rfl, rfl, T.b_len, bt_len, nn_len⟩, B.gd rfl rfl, B.gd rfl rfl, B.gd rfl rfl, ⟨B.gl rfl, rfl, T.b_str, bt_str, nn_str⟩, B.gd rfl rfl, B.gd rfl rfl, trivial⟩
abbrev N_checked : List Str := ["settings"]
theorem sc_checked : FnScope N_checked ["settings"] (defScope s_checked) := ⟨rfl, rfl, rfl, by decide +kernel, rfl, by decide +kernel, by decide +kernel⟩
theorem nm_checked {C : Cl} {X : Cx} (T : Txt X.K X.mg C) (B : Nf X N_checked (defScope s_checked)) : Nm X.N X.env 0 "settings" ∧ Nl X.N X.env X.fn 0 "settings" ∧ Gd X.env "are_settings" ∧ Gd X.env "NoSettings" ∧ True :=
  ⟨B.nm rfl (Or.inl rfl) rfl rfl, B.nl rfl (Or.inl rfl), B.gd rfl rfl, B.gd rfl rfl, trivial⟩
abbrev N_need_worth : List Str := ["worth"]
theorem sc_need_worth : FnScope N_need_worth ["worth"] (defScope s_need_worth) := ⟨rfl, rfl, rfl, by decide +kernel, rfl, by decide +kernel, by decide +kernel⟩
theorem nm_need_worth {C : Cl} {X : Cx} (T : Txt X.K X.mg C) (B : Nf X N_need_worth (defScope s_need_worth)) : Nm X.N X.env 0 "worth" ∧ Nl X.N X.env X.fn 0 "worth" ∧ Gd X.env "is_whole" ∧ Gd X.env "WORTHS" ∧ Gd X.env "NoWorth" ∧ True :=
  ⟨B.nm rfl (Or.inl rfl) rfl rfl, B.nl rfl (Or.inl rfl), B.gd rfl rfl, B.gd rfl rfl, B.gd rfl rfl, trivial⟩
abbrev N_is_handle : List Str := ["settings", "thing"]
theorem sc_is_handle : FnScope N_is_handle ["settings", "thing"] (defScope s_is_handle) := ⟨rfl, rfl, rfl, by decide +kernel, rfl, by decide +kernel, by decide +kernel⟩
theorem nm_is_handle {C : Cl} {X : Cx} (T : Txt X.K X.mg C) (B : Nf X N_is_handle (defScope s_is_handle)) : Nm X.N X.env 0 "settings" ∧ Nm X.N X.env 1 "thing" ∧ Nl X.N X.env X.fn 0 "settings" ∧ Nl X.N X.env X.fn 1 "thing" ∧ Bn X.env X.mg "isinstance" (.builtin "isinstance") ∧ Bn X.env X.mg "tuple" (.type "tuple") ∧ Bn X.env X.mg "len" (.builtin "len") ∧ Gd X.env "is_whole" ∧ True :=
  ⟨B.nm rfl (Or.inl rfl) rfl rfl, B.nm rfl (Or.inl rfl) rfl rfl, B.nl rfl (Or.inl rfl), B.nl rfl (Or.inl rfl), ⟨B.gl rfl, rfl, T.b_isinstance, bt_isinstance, nn_isinstance⟩, ⟨B.gl rfl, rfl, T.b_tuple, bt_tuple, nn_tuple⟩, ⟨B.gl rfl, rfl, T.b_len, bt_len, nn_len⟩, B.gd rfl rfl, trivial⟩
abbrev N_need_handle : List Str := ["settings", "thing"]
theorem sc_need_handle : FnScope N_need_handle ["settings", "thing"] (defScope s_need_handle) := ⟨rfl, rfl, rfl, by decide +kernel, rfl, by decide +kernel, by decide +kernel⟩
theorem nm_need_handle {C : Cl} {X : Cx} (T : Txt X.K X.mg C) (B : Nf X N_need_handle (defScope s_need_handle)) : Nm X.N X.env 0 "settings" ∧ Nm X.N X.env 1 "thing" ∧ Nl X.N X.env X.fn 0 "settings" ∧ Nl X.N X.env X.fn 1 "thing" ∧ Gd X.env "is_handle" ∧ Gd X.env "NoHandle" ∧ True :=
  ⟨B.nm rfl (Or.inl rfl) rfl rfl, B.nm rfl (Or.inl rfl) rfl rfl, B.nl rfl (Or.inl rfl), B.nl rfl (Or.inl rfl), B.gd rfl rfl, B.gd rfl rfl, trivial⟩
abbrev N_Store___init__ : List Str := ["self", "settings"]
theorem sc_Store___init__ : FnScope N_Store___init__ ["self", "settings"] (defScope s_Store___init__) := ⟨rfl, rfl, rfl, by decide +kernel, rfl, by decide +kernel, by decide +kernel⟩
theorem nm_Store___init__ {C : Cl} {X : Cx} (T : Txt X.K X.mg C) (B : Nf X N_Store___init__ (defScope s_Store___init__)) : Nm X.N X.env 0 "self" ∧ Nm X.N X.env 1 "settings" ∧ Nl X.N X.env X.fn 0 "self" ∧ Nl X.N X.env X.fn 1 "settings" ∧ Gd X.env "checked" ∧ True :=
  ⟨B.nm rfl (Or.inl rfl) rfl rfl, B.nm rfl (Or.inl rfl) rfl rfl, B.nl rfl (Or.inl rfl), B.nl rfl (Or.inl rfl), B.gd rfl rfl, trivial⟩
abbrev N_Store_put : List Str := ["self", "worth"]
theorem sc_Store_put : FnScope N_Store_put ["self", "worth"] (defScope s_Store_put) := ⟨rfl, rfl, rfl, by decide +kernel, rfl, by decide +kernel, by decide +kernel⟩
theorem nm_Store_put {C : Cl} {X : Cx} (T : Txt X.K X.mg C) (B : Nf X N_Store_put (defScope s_Store_put)) : Nm X.N X.env 0 "self" ∧ Nm X.N X.env 1 "worth" ∧ Nl X.N X.env X.fn 0 "self" ∧ Nl X.N X.env X.fn 1 "worth" ∧ Gd X.env "need_worth" ∧ True :=
  ⟨B.nm rfl (Or.inl rfl) rfl rfl, B.nm rfl (Or.inl rfl) rfl rfl, B.nl rfl (Or.inl rfl), B.nl rfl (Or.inl rfl), B.gd rfl rfl, trivial⟩
abbrev N_Store_put_in : List Str := ["self", "worth", "slot"]
theorem sc_Store_put_in : FnScope N_Store_put_in ["self", "worth"] (defScope s_Store_put_in) := ⟨rfl, rfl, rfl, by decide +kernel, rfl, by decide +kernel, by decide +kernel⟩
theorem nm_Store_put_in {C : Cl} {X : Cx} (T : Txt X.K X.mg C) (B : Nf X N_Store_put_in (defScope s_Store_put_in)) : Nm X.N X.env 0 "self" ∧ Nm X.N X.env 1 "worth" ∧ Nm X.N X.env 2 "slot" ∧ Nl X.N X.env X.fn 0 "self" ∧ Nl X.N X.env X.fn 1 "worth" ∧ Nl X.N X.env X.fn 2 "slot" ∧ Bn X.env X.mg "int" (.type "int") ∧ Bn X.env X.mg "len" (.builtin "len") ∧ Gd X.env "Full" ∧ True :=
  ⟨B.nm rfl (Or.inl rfl) rfl rfl, B.nm rfl (Or.inl rfl) rfl rfl, B.nm rfl (Or.inl rfl) rfl rfl, B.nl rfl (Or.inl rfl), B.nl rfl (Or.inl rfl), B.nl rfl (Or.inl rfl), ⟨B.gl rfl, rfl, T.b_int, bt_int, nn_int⟩, ⟨B.gl rfl, rfl, T.b_len, bt_len, nn_len⟩, B.gd rfl rfl, trivial⟩
abbrev N_Store_holds : List Str := ["self", "handle"]
theorem sc_Store_holds : FnScope N_Store_holds ["self", "handle"] (defScope s_Store_holds) := ⟨rfl, rfl, rfl, by decide +kernel, rfl, by decide +kernel, by decide +kernel⟩
theorem nm_Store_holds {C : Cl} {X : Cx} (T : Txt X.K X.mg C) (B : Nf X N_Store_holds (defScope s_Store_holds)) : Nm X.N X.env 0 "self" ∧ Nm X.N X.env 1 "handle" ∧ Nl X.N X.env X.fn 0 "self" ∧ Nl X.N X.env X.fn 1 "handle" ∧ True :=
  ⟨B.nm rfl (Or.inl rfl) rfl rfl, B.nm rfl (Or.inl rfl) rfl rfl, B.nl rfl (Or.inl rfl), B.nl rfl (Or.inl rfl), trivial⟩
abbrev N_Store_need : List Str := ["self", "handle"]
theorem sc_Store_need : FnScope N_Store_need ["self", "handle"] (defScope s_Store_need) := ⟨rfl, rfl, rfl, by decide +kernel, rfl, by decide +kernel, by decide +kernel⟩
theorem nm_Store_need {C : Cl} {X : Cx} (T : Txt X.K X.mg C) (B : Nf X N_Store_need (defScope s_Store_need)) : Nm X.N X.env 0 "self" ∧ Nm X.N X.env 1 "handle" ∧ Nl X.N X.env X.fn 0 "self" ∧ Nl X.N X.env X.fn 1 "handle" ∧ Gd X.env "need_handle" ∧ Gd X.env "Stale" ∧ True :=
  ⟨B.nm rfl (Or.inl rfl) rfl rfl, B.nm rfl (Or.inl rfl) rfl rfl, B.nl rfl (Or.inl rfl), B.nl rfl (Or.inl rfl), B.gd rfl rfl, B.gd rfl rfl, trivial⟩
abbrev N_Store_get : List Str := ["self", "handle"]
theorem sc_Store_get : FnScope N_Store_get ["self", "handle"] (defScope s_Store_get) := ⟨rfl, rfl, rfl, by decide +kernel, rfl, by decide +kernel, by decide +kernel⟩
theorem nm_Store_get {C : Cl} {X : Cx} (T : Txt X.K X.mg C) (B : Nf X N_Store_get (defScope s_Store_get)) : Nm X.N X.env 0 "self" ∧ Nm X.N X.env 1 "handle" ∧ Nl X.N X.env X.fn 0 "self" ∧ Nl X.N X.env X.fn 1 "handle" ∧ True :=
  ⟨B.nm rfl (Or.inl rfl) rfl rfl, B.nm rfl (Or.inl rfl) rfl rfl, B.nl rfl (Or.inl rfl), B.nl rfl (Or.inl rfl), trivial⟩
abbrev N_Store_change : List Str := ["self", "handle", "worth", "old"]
theorem sc_Store_change : FnScope N_Store_change ["self", "handle", "worth"] (defScope s_Store_change) := ⟨rfl, rfl, rfl, by decide +kernel, rfl, by decide +kernel, by decide +kernel⟩
theorem nm_Store_change {C : Cl} {X : Cx} (T : Txt X.K X.mg C) (B : Nf X N_Store_change (defScope s_Store_change)) : Nm X.N X.env 0 "self" ∧ Nm X.N X.env 1 "handle" ∧ Nm X.N X.env 2 "worth" ∧ Nm X.N X.env 3 "old" ∧ Nl X.N X.env X.fn 0 "self" ∧ Nl X.N X.env X.fn 1 "handle" ∧ Nl X.N X.env X.fn 2 "worth" ∧ Nl X.N X.env X.fn 3 "old" ∧ Gd X.env "need_worth" ∧ True :=
  ⟨B.nm rfl (Or.inl rfl) rfl rfl, B.nm rfl (Or.inl rfl) rfl rfl, B.nm rfl (Or.inl rfl) rfl rfl, B.nm rfl (Or.inl rfl) rfl rfl, B.nl rfl (Or.inl rfl), B.nl rfl (Or.inl rfl), B.nl rfl (Or.inl rfl), B.nl rfl (Or.inl rfl), B.gd rfl rfl, trivial⟩
abbrev N_Store_drop : List Str := ["self", "handle", "slot", "later"]
theorem sc_Store_drop : FnScope N_Store_drop ["self", "handle"] (defScope s_Store_drop) := ⟨rfl, rfl, rfl, by decide +kernel, rfl, by decide +kernel, by decide +kernel⟩
theorem nm_Store_drop {C : Cl} {X : Cx} (T : Txt X.K X.mg C) (B : Nf X N_Store_drop (defScope s_Store_drop)) : Nm X.N X.env 0 "self" ∧ Nm X.N X.env 1 "handle" ∧ Nm X.N X.env 2 "slot" ∧ Nm X.N X.env 3 "later" ∧ Nl X.N X.env X.fn 0 "self" ∧ Nl X.N X.env X.fn 1 "handle" ∧ Nl X.N X.env X.fn 2 "slot" ∧ Nl X.N X.env X.fn 3 "later" ∧ True :=
  ⟨B.nm rfl (Or.inl rfl) rfl rfl, B.nm rfl (Or.inl rfl) rfl rfl, B.nm rfl (Or.inl rfl) rfl rfl, B.nm rfl (Or.inl rfl) rfl rfl, B.nl rfl (Or.inl rfl), B.nl rfl (Or.inl rfl), B.nl rfl (Or.inl rfl), B.nl rfl (Or.inl rfl), trivial⟩
abbrev N_Store_live : List Str := ["self", "slot"]
theorem sc_Store_live : FnScope N_Store_live ["self"] (defScope s_Store_live) := ⟨rfl, rfl, rfl, by decide +kernel, rfl, by decide +kernel, by decide +kernel⟩
theorem nm_Store_live {C : Cl} {X : Cx} (T : Txt X.K X.mg C) (B : Nf X N_Store_live (defScope s_Store_live)) : Nm X.N X.env 0 "self" ∧ Nl X.N X.env X.fn 0 "self" ∧ Bn X.env X.mg "sorted" (.builtin "sorted") ∧ Bn X.env X.mg "list" (.type "list") ∧ No X.N 1 "slot" ∧ True :=
  ⟨B.nm rfl (Or.inr (Or.inl rfl)) rfl rfl, B.nl rfl (Or.inr rfl), ⟨B.gl rfl, rfl, T.b_sorted, bt_sorted, nn_sorted⟩, ⟨B.gl rfl, rfl, T.b_list, bt_list, nn_list⟩, B.no rfl rfl rfl, trivial⟩
abbrev N_Store_many : List Str := ["self"]
theorem sc_Store_many : FnScope N_Store_many ["self"] (defScope s_Store_many) := ⟨rfl, rfl, rfl, by decide +kernel, rfl, by decide +kernel, by decide +kernel⟩
theorem nm_Store_many {C : Cl} {X : Cx} (T : Txt X.K X.mg C) (B : Nf X N_Store_many (defScope s_Store_many)) : Nm X.N X.env 0 "self" ∧ Nl X.N X.env X.fn 0 "self" ∧ Bn X.env X.mg "len" (.builtin "len") ∧ True :=
  ⟨B.nm rfl (Or.inl rfl) rfl rfl, B.nl rfl (Or.inl rfl), ⟨B.gl rfl, rfl, T.b_len, bt_len, nn_len⟩, trivial⟩
abbrev N_Store_made : List Str := ["self"]
theorem sc_Store_made : FnScope N_Store_made ["self"] (defScope s_Store_made) := ⟨rfl, rfl, rfl, by decide +kernel, rfl, by decide +kernel, by decide +kernel⟩
theorem nm_Store_made {C : Cl} {X : Cx} (T : Txt X.K X.mg C) (B : Nf X N_Store_made (defScope s_Store_made)) : Nm X.N X.env 0 "self" ∧ Nl X.N X.env X.fn 0 "self" ∧ Bn X.env X.mg "len" (.builtin "len") ∧ True :=
  ⟨B.nm rfl (Or.inl rfl) rfl rfl, B.nl rfl (Or.inl rfl), ⟨B.gl rfl, rfl, T.b_len, bt_len, nn_len⟩, trivial⟩
abbrev N_Store_free : List Str := ["self"]
theorem sc_Store_free : FnScope N_Store_free ["self"] (defScope s_Store_free) := ⟨rfl, rfl, rfl, by decide +kernel, rfl, by decide +kernel, by decide +kernel⟩
theorem nm_Store_free {C : Cl} {X : Cx} (T : Txt X.K X.mg C) (B : Nf X N_Store_free (defScope s_Store_free)) : Nm X.N X.env 0 "self" ∧ Nl X.N X.env X.fn 0 "self" ∧ Bn X.env X.mg "list" (.type "list") ∧ True :=
  ⟨B.nm rfl (Or.inl rfl) rfl rfl, B.nl rfl (Or.inl rfl), ⟨B.gl rfl, rfl, T.b_list, bt_list, nn_list⟩, trivial⟩
abbrev N_Store_worn : List Str := ["self"]
theorem sc_Store_worn : FnScope N_Store_worn ["self"] (defScope s_Store_worn) := ⟨rfl, rfl, rfl, by decide +kernel, rfl, by decide +kernel, by decide +kernel⟩
theorem nm_Store_worn {C : Cl} {X : Cx} (T : Txt X.K X.mg C) (B : Nf X N_Store_worn (defScope s_Store_worn)) : Nm X.N X.env 0 "self" ∧ Nl X.N X.env X.fn 0 "self" ∧ Bn X.env X.mg "sorted" (.builtin "sorted") ∧ True :=
  ⟨B.nm rfl (Or.inl rfl) rfl rfl, B.nl rfl (Or.inl rfl), ⟨B.gl rfl, rfl, T.b_sorted, bt_sorted, nn_sorted⟩, trivial⟩
abbrev N_Store_room : List Str := ["self"]
theorem sc_Store_room : FnScope N_Store_room ["self"] (defScope s_Store_room) := ⟨rfl, rfl, rfl, by decide +kernel, rfl, by decide +kernel, by decide +kernel⟩
theorem nm_Store_room {C : Cl} {X : Cx} (T : Txt X.K X.mg C) (B : Nf X N_Store_room (defScope s_Store_room)) : Nm X.N X.env 0 "self" ∧ Nl X.N X.env X.fn 0 "self" ∧ Bn X.env X.mg "len" (.builtin "len") ∧ True :=
  ⟨B.nm rfl (Or.inl rfl) rfl rfl, B.nl rfl (Or.inl rfl), ⟨B.gl rfl, rfl, T.b_len, bt_len, nn_len⟩, trivial⟩
abbrev N_Store_left : List Str := ["self", "used", "slot"]
theorem sc_Store_left : FnScope N_Store_left ["self"] (defScope s_Store_left) := ⟨rfl, rfl, rfl, by decide +kernel, rfl, by decide +kernel, by decide +kernel⟩
theorem nm_Store_left {C : Cl} {X : Cx} (T : Txt X.K X.mg C) (B : Nf X N_Store_left (defScope s_Store_left)) : Nm X.N X.env 0 "self" ∧ Nm X.N X.env 1 "used" ∧ Nl X.N X.env X.fn 0 "self" ∧ Nl X.N X.env X.fn 1 "used" ∧ Bn X.env X.mg "sum" (.builtin "sum") ∧ Bn X.env X.mg "range" (.type "range") ∧ Bn X.env X.mg "len" (.builtin "len") ∧ No X.N 2 "slot" ∧ True :=
  ⟨B.nm rfl (Or.inr (Or.inl rfl)) rfl rfl, B.nm rfl (Or.inl rfl) rfl rfl, B.nl rfl (Or.inr rfl), B.nl rfl (Or.inl rfl), ⟨B.gl rfl, rfl, T.b_sum, bt_sum, nn_sum⟩, ⟨B.gl rfl, rfl, T.b_range, bt_range, nn_range⟩, ⟨B.gl rfl, rfl, T.b_len, bt_len, nn_len⟩, B.no rfl rfl rfl, trivial⟩
abbrev N_Store_saved : List Str := ["self", "worths", "slot"]
theorem sc_Store_saved : FnScope N_Store_saved ["self"] (defScope s_Store_saved) := ⟨rfl, rfl, rfl, by decide +kernel, rfl, by decide +kernel, by decide +kernel⟩
theorem nm_Store_saved {C : Cl} {X : Cx} (T : Txt X.K X.mg C) (B : Nf X N_Store_saved (defScope s_Store_saved)) : Nm X.N X.env 0 "self" ∧ Nm X.N X.env 1 "worths" ∧ Nl X.N X.env X.fn 0 "self" ∧ Nl X.N X.env X.fn 1 "worths" ∧ Bn X.env X.mg "tuple" (.type "tuple") ∧ Bn X.env X.mg "sorted" (.builtin "sorted") ∧ Bn X.env X.mg "list" (.type "list") ∧ No X.N 2 "slot" ∧ True :=
  ⟨B.nm rfl (Or.inr (Or.inl rfl)) rfl rfl, B.nm rfl (Or.inl rfl) rfl rfl, B.nl rfl (Or.inr rfl), B.nl rfl (Or.inl rfl), ⟨B.gl rfl, rfl, T.b_tuple, bt_tuple, nn_tuple⟩, ⟨B.gl rfl, rfl, T.b_sorted, bt_sorted, nn_sorted⟩, ⟨B.gl rfl, rfl, T.b_list, bt_list, nn_list⟩, B.no rfl rfl rfl, trivial⟩
abbrev N_woken : List Str := ["thing", "made"]
theorem sc_woken : FnScope N_woken ["thing"] (defScope s_woken) := ⟨rfl, rfl, rfl, by decide +kernel, rfl, by decide +kernel, by decide +kernel⟩
theorem nm_woken {C : Cl} {X : Cx} (T : Txt X.K X.mg C) (B : Nf X N_woken (defScope s_woken)) : Nm X.N X.env 0 "thing" ∧ Nm X.N X.env 1 "made" ∧ Nl X.N X.env X.fn 0 "thing" ∧ Nl X.N X.env X.fn 1 "made" ∧ Gd X.env "Store" ∧ Bn X.env X.mg "list" (.type "list") ∧ Bn X.env X.mg "dict" (.type "dict") ∧ True :=
  ⟨B.nm rfl (Or.inl rfl) rfl rfl, B.nm rfl (Or.inl rfl) rfl rfl, B.nl rfl (Or.inl rfl), B.nl rfl (Or.inl rfl), B.gd rfl rfl, ⟨B.gl rfl, rfl, T.b_list, bt_list, nn_list⟩, ⟨B.gl rfl, rfl, T.b_dict, bt_dict, nn_dict⟩, trivial⟩
abbrev N__law_cell_at : List Str := ["script", "k"]
theorem sc__law_cell_at : FnScope N__law_cell_at ["script", "k"] (defScope s__law_cell_at) := ⟨rfl, rfl, rfl, by decide +kernel, rfl, by decide +kernel, by decide +kernel⟩
theorem nm__law_cell_at {C : Cl} {X : Cx} (T : Txt X.K X.mg C) (B : Nf X N__law_cell_at (defScope s__law_cell_at)) : Nm X.N X.env 0 "script" ∧ Nm X.N X.env 1 "k" ∧ Nl X.N X.env X.fn 0 "script" ∧ Nl X.N X.env X.fn 1 "k" ∧ Bn X.env X.mg "len" (.builtin "len") ∧ True :=
  ⟨B.nm rfl (Or.inl rfl) rfl rfl, B.nm rfl (Or.inl rfl) rfl rfl, B.nl rfl (Or.inl rfl), B.nl rfl (Or.inl rfl), ⟨B.gl rfl, rfl, T.b_len, bt_len, nn_len⟩, trivial⟩
abbrev N__law_mixed : List Str := ["script", "k", "many", "drawn"]
theorem sc__law_mixed : FnScope N__law_mixed ["script", "k", "many"] (defScope s__law_mixed) := ⟨rfl, rfl, rfl, by decide +kernel, rfl, by decide +kernel, by decide +kernel⟩
theorem nm__law_mixed {C : Cl} {X : Cx} (T : Txt X.K X.mg C) (B : Nf X N__law_mixed (defScope s__law_mixed)) : Nm X.N X.env 0 "script" ∧ Nm X.N X.env 1 "k" ∧ Nm X.N X.env 2 "many" ∧ Nm X.N X.env 3 "drawn" ∧ Nl X.N X.env X.fn 0 "script" ∧ Nl X.N X.env X.fn 1 "k" ∧ Nl X.N X.env X.fn 2 "many" ∧ Nl X.N X.env X.fn 3 "drawn" ∧ Gd X.env "_law_cell_at" ∧ True :=
  ⟨B.nm rfl (Or.inl rfl) rfl rfl, B.nm rfl (Or.inl rfl) rfl rfl, B.nm rfl (Or.inl rfl) rfl rfl, B.nm rfl (Or.inl rfl) rfl rfl, B.nl rfl (Or.inl rfl), B.nl rfl (Or.inl rfl), B.nl rfl (Or.inl rfl), B.nl rfl (Or.inl rfl), B.gd rfl rfl, trivial⟩
abbrev N__law_draw : List Str := ["script", "town", "many"]
theorem sc__law_draw : FnScope N__law_draw ["script", "town", "many"] (defScope s__law_draw) := ⟨rfl, rfl, rfl, by decide +kernel, rfl, by decide +kernel, by decide +kernel⟩
theorem nm__law_draw {C : Cl} {X : Cx} (T : Txt X.K X.mg C) (B : Nf X N__law_draw (defScope s__law_draw)) : Nm X.N X.env 0 "script" ∧ Nm X.N X.env 1 "town" ∧ Nm X.N X.env 2 "many" ∧ Nl X.N X.env X.fn 0 "script" ∧ Nl X.N X.env X.fn 1 "town" ∧ Nl X.N X.env X.fn 2 "many" ∧ Gd X.env "_law_mixed" ∧ Bn X.env X.mg "len" (.builtin "len") ∧ True :=
  ⟨B.nm rfl (Or.inl rfl) rfl rfl, B.nm rfl (Or.inl rfl) rfl rfl, B.nm rfl (Or.inl rfl) rfl rfl, B.nl rfl (Or.inl rfl), B.nl rfl (Or.inl rfl), B.nl rfl (Or.inl rfl), B.gd rfl rfl, ⟨B.gl rfl, rfl, T.b_len, bt_len, nn_len⟩, trivial⟩
abbrev N__law_pick : List Str := ["script", "town", "some"]
theorem sc__law_pick : FnScope N__law_pick ["script", "town", "some"] (defScope s__law_pick) := ⟨rfl, rfl, rfl, by decide +kernel, rfl, by decide +kernel, by decide +kernel⟩
theorem nm__law_pick {C : Cl} {X : Cx} (T : Txt X.K X.mg C) (B : Nf X N__law_pick (defScope s__law_pick)) : Nm X.N X.env 0 "script" ∧ Nm X.N X.env 1 "town" ∧ Nm X.N X.env 2 "some" ∧ Nl X.N X.env X.fn 0 "script" ∧ Nl X.N X.env X.fn 1 "town" ∧ Nl X.N X.env X.fn 2 "some" ∧ Gd X.env "_law_draw" ∧ Bn X.env X.mg "len" (.builtin "len") ∧ True :=
  ⟨B.nm rfl (Or.inl rfl) rfl rfl, B.nm rfl (Or.inl rfl) rfl rfl, B.nm rfl (Or.inl rfl) rfl rfl, B.nl rfl (Or.inl rfl), B.nl rfl (Or.inl rfl), B.nl rfl (Or.inl rfl), B.gd rfl rfl, ⟨B.gl rfl, rfl, T.b_len, bt_len, nn_len⟩, trivial⟩
abbrev N__law_settings : List Str := ["script", "town", "slots", "rounds"]
theorem sc__law_settings : FnScope N__law_settings ["script", "town"] (defScope s__law_settings) := ⟨rfl, rfl, rfl, by decide +kernel, rfl, by decide +kernel, by decide +kernel⟩
theorem nm__law_settings {C : Cl} {X : Cx} (T : Txt X.K X.mg C) (B : Nf X N__law_settings (defScope s__law_settings)) : Nm X.N X.env 0 "script" ∧ Nm X.N X.env 1 "town" ∧ Nm X.N X.env 2 "slots" ∧ Nm X.N X.env 3 "rounds" ∧ Nl X.N X.env X.fn 0 "script" ∧ Nl X.N X.env X.fn 1 "town" ∧ Nl X.N X.env X.fn 2 "slots" ∧ Nl X.N X.env X.fn 3 "rounds" ∧ Gd X.env "_law_pick" ∧ True :=
  ⟨B.nm rfl (Or.inl rfl) rfl rfl, B.nm rfl (Or.inl rfl) rfl rfl, B.nm rfl (Or.inl rfl) rfl rfl, B.nm rfl (Or.inl rfl) rfl rfl, B.nl rfl (Or.inl rfl), B.nl rfl (Or.inl rfl), B.nl rfl (Or.inl rfl), B.nl rfl (Or.inl rfl), B.gd rfl rfl, trivial⟩
abbrev N__law_some : List Str := ["script", "town", "settings", "known"]
theorem sc__law_some : FnScope N__law_some ["script", "town", "settings", "known"] (defScope s__law_some) := ⟨rfl, rfl, rfl, by decide +kernel, rfl, by decide +kernel, by decide +kernel⟩
theorem nm__law_some {C : Cl} {X : Cx} (T : Txt X.K X.mg C) (B : Nf X N__law_some (defScope s__law_some)) : Nm X.N X.env 0 "script" ∧ Nm X.N X.env 1 "town" ∧ Nm X.N X.env 2 "settings" ∧ Nm X.N X.env 3 "known" ∧ Nl X.N X.env X.fn 0 "script" ∧ Nl X.N X.env X.fn 1 "town" ∧ Nl X.N X.env X.fn 2 "settings" ∧ Nl X.N X.env X.fn 3 "known" ∧ Gd X.env "_law_draw" ∧ Bn X.env X.mg "min" (.builtin "min") ∧ Gd X.env "_law_pick" ∧ True :=
  ⟨B.nm rfl (Or.inl rfl) rfl rfl, B.nm rfl (Or.inl rfl) rfl rfl, B.nm rfl (Or.inl rfl) rfl rfl, B.nm rfl (Or.inl rfl) rfl rfl, B.nl rfl (Or.inl rfl), B.nl rfl (Or.inl rfl), B.nl rfl (Or.inl rfl), B.nl rfl (Or.inl rfl), B.gd rfl rfl, ⟨B.gl rfl, rfl, T.b_min, bt_min, nn_min⟩, B.gd rfl rfl, trivial⟩
abbrev N__law_deed : List Str := ["script", "town", "settings", "known", "kind", "worth", "handle"]
theorem sc__law_deed : FnScope N__law_deed ["script", "town", "settings", "known"] (defScope s__law_deed) := ⟨rfl, rfl, rfl, by decide +kernel, rfl, by decide +kernel, by decide +kernel⟩
theorem nm__law_deed {C : Cl} {X : Cx} (T : Txt X.K X.mg C) (B : Nf X N__law_deed (defScope s__law_deed)) : Nm X.N X.env 0 "script" ∧ Nm X.N X.env 1 "town" ∧ Nm X.N X.env 2 "settings" ∧ Nm X.N X.env 3 "known" ∧ Nm X.N X.env 4 "kind" ∧ Nm X.N X.env 5 "worth" ∧ Nm X.N X.env 6 "handle" ∧ Nl X.N X.env X.fn 0 "script" ∧ Nl X.N X.env X.fn 1 "town" ∧ Nl X.N X.env X.fn 2 "settings" ∧ Nl X.N X.env X.fn 3 "known" ∧ Nl X.N X.env X.fn 4 "kind" ∧ Nl X.N X.env X.fn 5 "worth" ∧ Nl X.N X.env X.fn 6 "handle" ∧ Gd X.env "_law_draw" ∧ Gd X.env "_law_some" ∧ True :=
  ⟨B.nm rfl (Or.inl rfl) rfl rfl, B.nm rfl (Or.inl rfl) rfl rfl, B.nm rfl (Or.inl rfl) rfl rfl, B.nm rfl (Or.inl rfl) rfl rfl, B.nm rfl (Or.inl rfl) rfl rfl, B.nm rfl (Or.inl rfl) rfl rfl, B.nm rfl (Or.inl rfl) rfl rfl, B.nl rfl (Or.inl rfl), B.nl rfl (Or.inl rfl), B.nl rfl (Or.inl rfl), B.nl rfl (Or.inl rfl), B.nl rfl (Or.inl rfl), B.nl rfl (Or.inl rfl), B.nl rfl (Or.inl rfl), B.gd rfl rfl, B.gd rfl rfl, trivial⟩
abbrev N__law_which : List Str := ["e", "own"]
theorem sc__law_which : FnScope N__law_which ["e"] (defScope s__law_which) := ⟨rfl, rfl, rfl, by decide +kernel, rfl, by decide +kernel, by decide +kernel⟩
theorem nm__law_which {C : Cl} {X : Cx} (T : Txt X.K X.mg C) (B : Nf X N__law_which (defScope s__law_which)) : Nm X.N X.env 0 "e" ∧ Nm X.N X.env 1 "own" ∧ Nl X.N X.env X.fn 0 "e" ∧ Nl X.N X.env X.fn 1 "own" ∧ Bn X.env X.mg "isinstance" (.builtin "isinstance") ∧ Gd X.env "NoSettings" ∧ Gd X.env "NoWorth" ∧ Gd X.env "NoHandle" ∧ Gd X.env "Stale" ∧ Gd X.env "Full" ∧ Gd X.env "NoPlace" ∧ Gd X.env "NoList" ∧ Gd X.env "NoNumber" ∧ Gd X.env "NotEmpty" ∧ Gd X.env "NoDeed" ∧ Bn X.env X.mg "ValueError" (.type "ValueError") ∧ True :=
  ⟨B.nm rfl (Or.inl rfl) rfl rfl, B.nm rfl (Or.inl rfl) rfl rfl, B.nl rfl (Or.inl rfl), B.nl rfl (Or.inl rfl), ⟨B.gl rfl, rfl, T.b_isinstance, bt_isinstance, nn_isinstance⟩, B.gd rfl rfl, B.gd rfl rfl, B.gd rfl rfl, B.gd rfl rfl, B.gd rfl rfl, B.gd rfl rfl, B.gd rfl rfl, B.gd rfl rfl, B.gd rfl rfl, B.gd rfl rfl, ⟨B.gl rfl, rfl, T.b_ValueError, bt_ValueError, nn_ValueError⟩, trivial⟩
abbrev N__law_do : List Str := ["store", "deed", "e"]
theorem sc__law_do : FnScope N__law_do ["store", "deed"] (defScope s__law_do) := ⟨rfl, rfl, rfl, by decide +kernel, rfl, by decide +kernel, by decide +kernel⟩
theorem nm__law_do {C : Cl} {X : Cx} (T : Txt X.K X.mg C) (B : Nf X N__law_do (defScope s__law_do)) : Nm X.N X.env 0 "store" ∧ Nm X.N X.env 1 "deed" ∧ Nm X.N X.env 2 "e" ∧ Nl X.N X.env X.fn 0 "store" ∧ Nl X.N X.env X.fn 1 "deed" ∧ Nl X.N X.env X.fn 2 "e" ∧ Gd X.env "HandError" ∧ Gd X.env "_law_which" ∧ X.env.kindOf "e" = some .local ∧ True :=
  ⟨B.nm rfl (Or.inl rfl) rfl rfl, B.nm rfl (Or.inl rfl) rfl rfl, B.nm rfl (Or.inl rfl) rfl rfl, B.nl rfl (Or.inl rfl), B.nl rfl (Or.inl rfl), B.nl rfl (Or.inl rfl), B.gd rfl rfl, B.gd rfl rfl, B.lk rfl, trivial⟩
abbrev N__law_seen : List Str := ["store"]
theorem sc__law_seen : FnScope N__law_seen ["store"] (defScope s__law_seen) := ⟨rfl, rfl, rfl, by decide +kernel, rfl, by decide +kernel, by decide +kernel⟩
theorem nm__law_seen {C : Cl} {X : Cx} (T : Txt X.K X.mg C) (B : Nf X N__law_seen (defScope s__law_seen)) : Nm X.N X.env 0 "store" ∧ Nl X.N X.env X.fn 0 "store" ∧ True :=
  ⟨B.nm rfl (Or.inl rfl) rfl rfl, B.nl rfl (Or.inl rfl), trivial⟩
abbrev N_law : List Str := ["script", "town", "settings", "store", "known", "k", "told", "thing", "other", "third", "before", "deed"]
theorem sc_law : FnScope N_law ["script"] (defScope s_law) := ⟨rfl, rfl, rfl, by decide +kernel, rfl, by decide +kernel, by decide +kernel⟩
theorem nm_law {C : Cl} {X : Cx} (T : Txt X.K X.mg C) (B : Nf X N_law (defScope s_law)) : Nm X.N X.env 0 "script" ∧ Nm X.N X.env 1 "town" ∧ Nm X.N X.env 2 "settings" ∧ Nm X.N X.env 3 "store" ∧ Nm X.N X.env 4 "known" ∧ Nm X.N X.env 5 "k" ∧ Nm X.N X.env 6 "told" ∧ Nm X.N X.env 7 "thing" ∧ Nm X.N X.env 8 "other" ∧ Nm X.N X.env 9 "third" ∧ Nm X.N X.env 10 "before" ∧ Nm X.N X.env 11 "deed" ∧ Nl X.N X.env X.fn 0 "script" ∧ Nl X.N X.env X.fn 1 "town" ∧ Nl X.N X.env X.fn 2 "settings" ∧ Nl X.N X.env X.fn 3 "store" ∧ Nl X.N X.env X.fn 4 "known" ∧ Nl X.N X.env X.fn 5 "k" ∧ Nl X.N X.env X.fn 6 "told" ∧ Nl X.N X.env X.fn 7 "thing" ∧ Nl X.N X.env X.fn 8 "other" ∧ Nl X.N X.env X.fn 9 "third" ∧ Nl X.N X.env X.fn 10 "before" ∧ Nl X.N X.env X.fn 11 "deed" ∧ Gd X.env "_law_settings" ∧ Gd X.env "Store" ∧ Bn X.env X.mg "range" (.type "range") ∧ Gd X.env "_law_draw" ∧ Gd X.env "_law_do" ∧ Gd X.env "_law_deed" ∧ Bn X.env X.mg "isinstance" (.builtin "isinstance") ∧ Bn X.env X.mg "tuple" (.type "tuple") ∧ Gd X.env "woken" ∧ Gd X.env "_law_seen" ∧ True :=
  ⟨B.nm rfl (Or.inl rfl) rfl rfl, B.nm rfl (Or.inl rfl) rfl rfl, B.nm rfl (Or.inl rfl) rfl rfl, B.nm rfl (Or.inl rfl) rfl rfl, B.nm rfl (Or.inl rfl) rfl rfl, B.nm rfl (Or.inl rfl) rfl rfl, B.nm rfl (Or.inl rfl) rfl rfl, B.nm rfl (Or.inl rfl) rfl rfl, B.nm rfl (Or.inl rfl) rfl rfl, B.nm rfl (Or.inl rfl) rfl rfl, B.nm rfl (Or.inl rfl) rfl rfl, B.nm rfl (Or.inl rfl) rfl rfl, B.nl rfl (Or.inl rfl), B.nl rfl (Or.inl rfl), B.nl rfl (Or.inl rfl), B.nl rfl (Or.inl rfl), B.nl rfl (Or.inl rfl), B.nl rfl (Or.inl rfl), B.nl rfl (Or.inl rfl), B.nl rfl (Or.inl rfl), B.nl rfl (Or.inl rfl), B.nl rfl (Or.inl rfl), B.nl rfl (Or.inl rfl), B.nl rfl (Or.inl rfl), B.gd rfl rfl, B.gd rfl rfl, ⟨B.gl rfl, rfl, T.b_range, bt_range, nn_range⟩, B.gd rfl rfl, B.gd rfl rfl, B.gd rfl rfl, ⟨B.gl rfl, rfl, T.b_isinstance, bt_isinstance, nn_isinstance⟩, ⟨B.gl rfl, rfl, T.b_tuple, bt_tuple, nn_tuple⟩, B.gd rfl rfl, B.gd rfl rfl, trivial⟩
end Sh
namespace Sh
/-! ### settings -/
section
variable {P : Program} {w : World} {K : PySem.W.Frag} {mg : Str → Option Value} {base : Heap} {C : Cl}
theorem dn_is_whole (T : Txt K mg C) : Dn P w K mg base 1 "is_whole" ["thing", "low", "most"] (spIsWhole K) := by
  refine dn_of T.d_is_whole sc_is_whole (fun vs H Q E ⟨_, _, _, _, h, _⟩ => by rw [h] <;> rfl) fun X e1 e2 e3 e4 e5 B vs H Q E tk h => ?_
  subst e1 e2 e3 e4 e5
  obtain ⟨v, d, lo, hi, rfl, hd, q⟩ := h
  obtain ⟨n_thing, n_low, n_most, l_thing, l_low, l_most, g_isinstance, g_int, g_bool, -⟩ := nm_is_whole T B.nf
  w_dflts xx
  refine wc_isi hd (isi_int d) ?_
  w_dflts xx
  refine ite_b (fun h1 => ?_) fun h1 => ?_
  · w_dflts xx
    refine wc_isi hd (isi_bool d) ?_
    w_dflts xx
    refine ite_b (fun h2 => ?_) fun h2 => ?_
    · cases hd with
      | int i =>
        w_dflts xx
        refine ite_b (fun h3 => ?_) fun h3 => ?_
        · w_dflts xx
          have e : isWhole (.int i) lo hi = decide (i ≤ hi) := by show (decide (lo ≤ i) && decide (i ≤ hi)) = _; rw [h3] <;> rfl
          rw [← e]; exact q
        · have e : isWhole (.int i) lo hi = false := by show (decide (lo ≤ i) && decide (i ≤ hi)) = _; rw [h3] <;> rfl
          rw [← e]; exact q
      | bl b => cases h2
      | _ => cases h1
    · cases hd with
      | bl b => exact q
      | int i => cases h2
      | _ => cases h1
  · cases hd with
    | int i => cases h1
    | bl b => cases h1
    | _ => exact q
theorem dn_are_settings (T : Txt K mg C) : Dn P w K mg base 2 "are_settings" ["thing"] (spAreSettings K) := by
  refine dn_of T.d_are_settings sc_are_settings (fun vs H Q E ⟨_, _, h, _⟩ => by rw [h] <;> rfl) fun X e1 e2 e3 e4 e5 B vs H Q E tk h => ?_
  subst e1 e2 e3 e4 e5
  obtain ⟨v, d, rfl, hd, q⟩ := h
  obtain ⟨n_thing, l_thing, g_isinstance, g_tuple, g_len, g_is_whole, g_SLOTS, g_ROUNDS, g_str, g_ORDERS, g_ENDS, -⟩ := nm_are_settings T B.nf
  w_dflts xx
  refine wc_isi hd (isi_tuple d) ?_
  w_dflts xx
  refine ite_b (fun h1 => ?_) fun h1 => ?_
  · rw [if_pos rfl]
    w_dflts xx
    cases hd with
    | tup _ _ => cases h1
    | _ => exact q
  · cases hd with
    | @tup a xs ds ha hds =>
      w_dflts xx
      refine wc_lenT ha ?_
      w_dflts xx
      have hl := DpAll.len hds
      refine ite_b (fun h2 => ?_) fun h2 => ?_
      · w_dflts xx
        have ne : ds.length ≠ 4 := by
          intro e
          rw [hl, e] at h2
          revert h2
          decide
        have e : areSettings (.tuple ds) = false := by
          match ds, ne with
          | [], _ => rfl
          | [_], _ => rfl
          | [_, _], _ => rfl
          | [_, _, _], _ => rfl
          | [_, _, _, _], ne => exact absurd rfl ne
          | _ :: _ :: _ :: _ :: _ :: _, _ => rfl
        rw [← e]; exact q
      · have l4 : ds.length = 4 := by
          by_cases e : ds.length = 4
          · exact e
          · exfalso
            rw [hl] at h2
            revert h2
            simp only [Bool.not_eq_false', decide_eq_true_eq, V.int.injEq]
            omega
        obtain ⟨d0, d1, d2, d3, rfl⟩ : ∃ d0 d1 d2 d3, ds = [d0, d1, d2, d3] := by
          match ds, l4 with
          | [a, b, c, d], _ => exact ⟨a, b, c, d, rfl⟩
        cases hds with
        | @cons x0 _ _ _ k0 hds =>
        cases hds with
        | @cons x1 _ _ _ k1 hds =>
        cases hds with
        | @cons x2 _ _ _ k2 hds =>
        cases hds with
        | @cons x3 _ _ _ k3 hds =>
        cases hds
        have E0 : ∀ b : Bool, areSettings (.tuple [d0, d1, d2, d3]) = b → Q (.bl b) H := fun b e => e ▸ q
        have E1 : areSettings (.tuple [d0, d1, d2, d3]) = (isWhole d0 1 60 && isWhole d1 1 1000 && isOne "first" "last" d2 && isOne "worn" "round" d3) := rfl
        w_dflts xx
        refine we_call tk B.hr g_is_whole (dn_is_whole T) (by decide) ?_
        w_dflts xx
        refine ws_tup ha rfl ?_
        w_dflts xx
        refine we_gint g_SLOTS T.c_SLOTS ?_
        w_dflts xx
        refine ⟨_, d0, _, _, rfl, k0, ?_⟩
        w_dflts xx
        refine ite_b (fun h3 => ?_) fun h3 => ?_
        · rw [if_pos rfl]
          w_dflts xx
          refine E0 _ ?_
          rw [E1]
          revert h3
          cases isWhole d0 1 60 <;> simp
        w_dflts xx
        refine we_call tk B.hr g_is_whole (dn_is_whole T) (by decide) ?_
        w_dflts xx
        refine ws_tup ha rfl ?_
        w_dflts xx
        refine we_gint g_ROUNDS T.c_ROUNDS ?_
        w_dflts xx
        refine ⟨_, d1, _, _, rfl, k1, ?_⟩
        w_dflts xx
        refine ite_b (fun h4 => ?_) fun h4 => ?_
        · w_dflts xx
          refine E0 _ ?_
          rw [E1]
          revert h3 h4
          cases isWhole d0 1 60 <;> cases isWhole d1 1 1000 <;> simp
        have h34 : (isWhole d0 1 60 && isWhole d1 1 1000) = true := by
          revert h3 h4
          cases isWhole d0 1 60 <;> cases isWhole d1 1 1000 <;> simp
        rw [h34, Bool.true_and] at E1
        w_dflts xx
        refine ws_tup ha rfl ?_
        w_dflts xx
        refine wc_isi k2 (isi_str d2) ?_
        w_dflts xx
        refine ite_b (fun h5 => ?_) fun h5 => ?_
        · rw [if_pos rfl]
          w_dflts xx
          refine E0 _ ?_
          rw [E1]
          cases d2 with
          | str s => cases h5
          | _ => rfl
        cases k2 with
        | str s =>
          w_dflts xx
          refine ws_tup ha rfl ?_
          obtain ⟨ao, mo, so⟩ := T.c_ORDERS
          refine we_gref g_ORDERS mo ?_
          refine of_op op_notIn_seq ⟨ao, _, rfl, .inr (so _), rfl, rfl, ?_⟩
          w_dflts xx
          rw [if_pos rfl, inV2, eqV_str, eqV_str]
          refine ite_b (fun h6 => ?_) fun h6 => ?_
          · w_dflts xx
            refine E0 _ ?_
            rw [E1]
            rw [Bool.not_eq_true'] at h6
            show (isOne "first" "last" (.str s) && _) = false
            rw [show isOne "first" "last" (.str s) = false from h6] <;> rfl
          have h7 : isOne "first" "last" (.str s) = true := by rw [Bool.not_eq_false'] at h6; exact h6
          rw [h7, Bool.true_and] at E1
          w_dflts xx
          refine ws_tup ha rfl ?_
          w_dflts xx
          refine wc_isi k3 (isi_str d3) ?_
          w_dflts xx
          refine ite_b (fun h8 => ?_) fun h8 => ?_
          · cases k3 with
            | str z =>
              w_dflts xx
              refine ws_tup ha rfl ?_
              obtain ⟨ae, me, se⟩ := T.c_ENDS
              refine we_gref g_ENDS me ?_
              refine of_op op_in_seq ⟨ae, _, rfl, .inr (se _), rfl, rfl, ?_⟩
              rw [if_neg Bool.false_ne_true, inV2, eqV_str, eqV_str]
              exact E0 _ E1
            | _ => cases h8
          · refine E0 _ ?_
            rw [E1]
            cases d3 with
            | str s => cases h8
            | _ => rfl
        | _ => cases h5
    | _ => cases h1
theorem dn_checked (T : Txt K mg C) : Dn P w K mg base 3 "checked" ["settings"] (spChecked K C) := by
  refine dn_of T.d_checked sc_checked (fun vs H Q E ⟨_, _, h, _⟩ => by rw [h] <;> rfl) fun X e1 e2 e3 e4 e5 B vs H Q E tk h => ?_
  subst e1 e2 e3 e4 e5
  obtain ⟨v, d, rfl, hd, q1, q2⟩ := h
  obtain ⟨n_settings, l_settings, g_are_settings, g_NoSettings, -⟩ := nm_checked T B.nf
  w_dflts xx
  refine we_call tk B.hr g_are_settings (dn_are_settings T) (by decide) ?_
  w_dflts xx
  refine ⟨_, d, rfl, hd, ?_⟩
  w_dflts xx
  refine ite_b (fun h1 => ?_) fun h1 => ?_
  · w_dflts xx
    refine ws_raiseX B.calm tk g_NoSettings T.x_NoSettings (q2 ?_)
    simpa using h1
  · w_dflts xx
    refine q1 ?_
    simpa using h1
theorem dn_need_worth (T : Txt K mg C) : Dn P w K mg base 2 "need_worth" ["worth"] (spNeedWorth K C) := by
  refine dn_of T.d_need_worth sc_need_worth (fun vs H Q E ⟨_, _, h, _⟩ => by rw [h] <;> rfl) fun X e1 e2 e3 e4 e5 B vs H Q E tk h => ?_
  subst e1 e2 e3 e4 e5
  obtain ⟨v, d, rfl, hd, q1, q2⟩ := h
  obtain ⟨n_worth, l_worth, g_is_whole, g_WORTHS, g_NoWorth, -⟩ := nm_need_worth T B.nf
  w_dflts xx
  refine we_call tk B.hr g_is_whole (dn_is_whole T) (by decide) ?_
  w_dflts xx
  refine we_gint g_WORTHS T.c_WORTHS ?_
  w_dflts xx
  refine ⟨_, d, _, _, rfl, hd, ?_⟩
  w_dflts xx
  refine ite_b (fun h1 => ?_) fun h1 => ?_
  · w_dflts xx
    refine ws_raiseX B.calm tk g_NoWorth T.x_NoWorth (q2 ?_)
    simpa using h1
  · w_dflts xx
    refine q1 ?_
    simpa using h1
theorem dn_is_handle (T : Txt K mg C) : Dn P w K mg base 2 "is_handle" ["settings", "thing"] (spIsHandle K) := by
  refine dn_of T.d_is_handle sc_is_handle (fun vs H Q E ⟨_, _, _, _, _, h, _⟩ => by rw [h] <;> rfl) fun X e1 e2 e3 e4 e5 B vs H Q E tk h => ?_
  subst e1 e2 e3 e4 e5
  obtain ⟨s, v, n, r, d, rfl, ⟨sa, sc, sd, rfl, hs⟩, hd, q⟩ := h
  obtain ⟨n_settings, n_thing, l_settings, l_thing, g_isinstance, g_tuple, g_len, g_is_whole, -⟩ := nm_is_handle T B.nf
  w_dflts xx
  refine wc_isi hd (isi_tuple d) ?_
  w_dflts xx
  refine ite_b (fun h1 => ?_) fun h1 => ?_
  · rw [if_pos rfl]
    w_dflts xx
    cases hd with
    | tup _ _ => cases h1
    | _ => exact q
  cases hd with
  | @tup a xs ds ha hds =>
    w_dflts xx
    refine wc_lenT ha ?_
    w_dflts xx
    have hl := DpAll.len hds
    refine ite_b (fun h2 => ?_) fun h2 => ?_
    · w_dflts xx
      have ne : ds.length ≠ 2 := by
        intro e
        rw [hl, e] at h2
        revert h2
        decide
      have e : isHandle n r (.tuple ds) = false := by
        match ds, ne with
        | [], _ => rfl
        | [_], _ => rfl
        | [_, _], ne => exact absurd rfl ne
        | _ :: _ :: _ :: _, _ => rfl
      rw [← e]; exact q
    have l2 : ds.length = 2 := by
      by_cases e : ds.length = 2
      · exact e
      · exfalso
        rw [hl] at h2
        revert h2
        simp only [Bool.not_eq_false', decide_eq_true_eq, V.int.injEq]
        omega
    obtain ⟨d0, d1, rfl⟩ : ∃ d0 d1, ds = [d0, d1] := by
      match ds, l2 with
      | [a, b], _ => exact ⟨a, b, rfl⟩
    cases hds with
    | @cons x0 _ _ _ k0 hds =>
    cases hds with
    | @cons x1 _ _ _ k1 hds =>
    cases hds
    w_dflts xx
    refine we_call tk B.hr g_is_whole (dn_is_whole T) (by decide) ?_
    w_dflts xx
    refine ws_tup ha rfl ?_
    w_dflts xx
    refine ws_tup hs rfl ?_
    w_dflts xx
    refine ⟨_, d0, _, _, rfl, k0, ?_⟩
    w_dflts xx
    have E0 : ∀ b : Bool, isHandle n r (.tuple [d0, d1]) = b → Q (.bl b) H := fun b e => e ▸ q
    have E1 : isHandle n r (.tuple [d0, d1]) = (isWhole d0 0 (n - 1) && isWhole d1 0 (r - 1)) := rfl
    refine ite_b (fun h3 => ?_) fun h3 => ?_
    · w_dflts xx
      refine we_call tk B.hr g_is_whole (dn_is_whole T) (by decide) ?_
      w_dflts xx
      refine ws_tup ha rfl ?_
      w_dflts xx
      refine ws_tup hs rfl ?_
      w_dflts xx
      refine ⟨_, d1, _, _, rfl, k1, E0 _ ?_⟩
      rw [E1, h3, Bool.true_and]
    · refine E0 _ ?_
      rw [E1, h3, Bool.false_and]
  | _ => cases h1
theorem dn_need_handle (T : Txt K mg C) : Dn P w K mg base 3 "need_handle" ["settings", "thing"] (spNeedHandle K C) := by
  refine dn_of T.d_need_handle sc_need_handle (fun vs H Q E ⟨_, _, _, _, _, h, _⟩ => by rw [h] <;> rfl) fun X e1 e2 e3 e4 e5 B vs H Q E tk h => ?_
  subst e1 e2 e3 e4 e5
  obtain ⟨s, v, n, r, d, rfl, hs, hd, q1, q2⟩ := h
  obtain ⟨n_settings, n_thing, l_settings, l_thing, g_is_handle, g_NoHandle, -⟩ := nm_need_handle T B.nf
  w_dflts xx
  refine we_call tk B.hr g_is_handle (dn_is_handle T) (by decide) ?_
  w_dflts xx
  refine ⟨_, _, n, r, d, rfl, hs, hd, ?_⟩
  w_dflts xx
  refine ite_b (fun h1 => ?_) fun h1 => ?_
  · w_dflts xx
    refine ws_raiseX B.calm tk g_NoHandle T.x_NoHandle (q2 ?_)
    simpa using h1
  · w_dflts xx
    refine q1 ?_
    simpa using h1
end
end Sh
namespace Sh
/-! ### a store -/
section
variable {X : Cx} {H : Hp} {R : V → Prop} {L : List Asn} {p : Addr} {C : Cl} {q : StAd}
theorem fs_settings (h : Own H L) (m : pt p (.ins C.Store q.dx (sflds q)) ∈ L) (T : Txt X.K X.mg C) (k : R (.ref q.s)) :
    ∃ a C' dx' fs' v', V.ref p = .ref a ∧ H a = some (.ins C' dx' fs') ∧ Cls X.K C' ∧ NoAttr X.K C' "settings" ∧ fs'.lookup ("settings" : Str) = some v' ∧ R v' := fld_ok (h.pt m) T.k_Store.c T.a_Store_settings sf1 k
theorem fs_counts (h : Own H L) (m : pt p (.ins C.Store q.dx (sflds q)) ∈ L) (T : Txt X.K X.mg C) (k : R (.ref q.c)) :
    ∃ a C' dx' fs' v', V.ref p = .ref a ∧ H a = some (.ins C' dx' fs') ∧ Cls X.K C' ∧ NoAttr X.K C' "counts" ∧ fs'.lookup ("counts" : Str) = some v' ∧ R v' := fld_ok (h.pt m) T.k_Store.c T.a_Store_counts sf2 k
theorem fs_worths (h : Own H L) (m : pt p (.ins C.Store q.dx (sflds q)) ∈ L) (T : Txt X.K X.mg C) (k : R (.ref q.w)) :
    ∃ a C' dx' fs' v', V.ref p = .ref a ∧ H a = some (.ins C' dx' fs') ∧ Cls X.K C' ∧ NoAttr X.K C' "worths" ∧ fs'.lookup ("worths" : Str) = some v' ∧ R v' := fld_ok (h.pt m) T.k_Store.c T.a_Store_worths sf3 k
theorem fs_line (h : Own H L) (m : pt p (.ins C.Store q.dx (sflds q)) ∈ L) (T : Txt X.K X.mg C) (k : R (.ref q.l)) :
    ∃ a C' dx' fs' v', V.ref p = .ref a ∧ H a = some (.ins C' dx' fs') ∧ Cls X.K C' ∧ NoAttr X.K C' "line" ∧ fs'.lookup ("line" : Str) = some v' ∧ R v' := fld_ok (h.pt m) T.k_Store.c T.a_Store_line sf4 k
theorem fs_gone (h : Own H L) (m : pt p (.ins C.Store q.dx (sflds q)) ∈ L) (T : Txt X.K X.mg C) (k : R (.ref q.g)) :
    ∃ a C' dx' fs' v', V.ref p = .ref a ∧ H a = some (.ins C' dx' fs') ∧ Cls X.K C' ∧ NoAttr X.K C' "gone" ∧ fs'.lookup ("gone" : Str) = some v' ∧ R v' := fld_ok (h.pt m) T.k_Store.c T.a_Store_gone sf5 k
end
end Sh
local macro_rules | `(tactic| w_dflts xh) => `(tactic| first
  | refine fs_settings (by w_dflts ow) (by w_dflts mm) (by w_dflts ow) ?_ | refine fs_counts (by w_dflts ow) (by w_dflts mm) (by w_dflts ow) ?_
  | refine fs_worths (by w_dflts ow) (by w_dflts mm) (by w_dflts ow) ?_ | refine fs_line (by w_dflts ow) (by w_dflts mm) (by w_dflts ow) ?_
  | refine fs_gone (by w_dflts ow) (by w_dflts mm) (by w_dflts ow) ?_
  | refine recvP (by w_dflts ow) (by w_dflts mm) (by rfl) ?_
  | refine recvS (by w_dflts ow) (by w_dflts mm) (fun _ => rfl) ?_
  | refine isL_ok (by w_dflts ow) (by w_dflts mm) ?_ | refine isD_ok (by w_dflts ow) (by w_dflts mm) ?_
  | refine o_lenL (by w_dflts ow) (by w_dflts mm) ?_ | refine o_lenT (by w_dflts ow) (by w_dflts mm) ?_
  | refine o_subT (by w_dflts ow) (by w_dflts mm) rfl ?_)
local macro_rules | `(tactic| w_dflts xy) => `(tactic| repeat (first | w_dflts x1 | w_dflts xh))
namespace Sh
/-! ### what the laws draw -/
section
variable {P : Program} {w : World} {K : PySem.W.Frag} {mg : Str → Option Value} {base : Heap} {C : Cl}
theorem dn_cell (T : Txt K mg C) : Dn P w K mg base 1 "_law_cell_at" ["script", "k"] (spCell K) := by
  refine dn_of T.d__law_cell_at sc__law_cell_at (fun vs H Q E ⟨_, _, _, _, h, _⟩ => by rw [h] <;> rfl) fun X e1 e2 e3 e4 e5 B vs H Q E tk h => ?_
  subst e1 e2 e3 e4 e5
  obtain ⟨a, ns, k, L, rfl, hO, hm, hk, q⟩ := h
  obtain ⟨n_script, n_k, l_script, l_k, g_len, -⟩ := nm__law_cell_at T B.nf
  w_dflts xx
  refine wc_lenL (hO.sq hm) ?_
  rw [iv_len]
  w_dflts xx
  refine ite_b (fun h1 => ?_) fun h1 => ?_
  · have hlt : k < ns.length := by simpa using h1
    obtain ⟨j, rfl⟩ : ∃ j : Nat, k = j := ⟨k.toNat, by omega⟩
    w_dflts xx
    refine ws_list (hO.sq hm) (atI_nat (iv_get (by omega))) (q _ _ hO)
  · w_dflts xx
    refine ⟨by decide, fun e0 H1 hn e => ?_⟩
    replace hO := hO.newE hn e
    have hm' : sq X.K a (iv ns) ∈ pt e0 (.lst []) :: L := List.mem_cons_of_mem _ hm
    refine wop_eqP (j := 1) B.hr (.lst (hO.sq hm') (dpAll_iv ns)) (.lst (SqL.of (hO.pt (by w_dflts mm))) .nil) (pl_ids 0 ns) rfl (by decide) fun b hb => ?_
    w_dflts xx
    refine ite_b (fun h2 => ?_) fun h2 => ?_
    · w_dflts xx
      exact q _ _ hO.drop
    · have hne : ns ≠ [] := fun z => by
        rw [hb.mpr (by rw [z] <;> rfl)] at h2
        cases h2
      have hlen : 0 < ns.length := List.length_pos_iff.mpr hne
      w_dflts xx
      refine wc_lenL (hO.sq hm') ?_
      rw [iv_len]
      refine wop_mod (by omega) ?_
      obtain ⟨j, hj⟩ : ∃ j : Nat, k % (ns.length : Int) = j := ⟨(k % (ns.length : Int)).toNat, by have := Int.emod_nonneg k (show (ns.length : Int) ≠ 0 by omega); omega⟩
      have hj2 : j < ns.length := by have := Int.emod_lt_of_pos k (show (0 : Int) < ns.length by omega); omega
      rw [hj]
      refine ws_list (hO.sq hm') (atI_nat (iv_get hj2)) ?_
      w_dflts xx
      refine wop_mul (.inr (by decide)) ?_
      w_dflts xx
      exact q _ _ hO.drop
theorem dn_mixed (T : Txt K mg C) : Dn P w K mg base 2 "_law_mixed" ["script", "k", "many"] (spMixed K) := by
  refine dn_of T.d__law_mixed sc__law_mixed (fun vs H Q E ⟨_, _, _, _, _, h, _⟩ => by rw [h] <;> rfl) fun X e1 e2 e3 e4 e5 B vs H Q E tk h => ?_
  subst e1 e2 e3 e4 e5
  obtain ⟨a, ns, k, m, L, rfl, hO, hm, hk, h0, q⟩ := h
  obtain ⟨n_script, n_k, n_many, n_drawn, l_script, l_k, l_many, l_drawn, g__law_cell_at, -⟩ := nm__law_mixed T B.nf
  have nd := B.nd
  w_dflts xx
  refine we_call tk B.hr g__law_cell_at (dn_cell T) (by decide) ?_
  w_dflts xx
  refine ⟨a, ns, k, L, rfl, hO, hm, hk, fun i H1 hO => ?_⟩
  w_dflts xx
  refine wop_mul (.inl (by decide)) ?_
  w_dflts xx
  refine wop_mul (.inr (by decide)) ?_
  w_dflts xx
  refine wop_mod (by decide) ?_
  w_dflts xx
  generalize hz : (i + 7919 * k + 1) * 48271 % 2147483647 = z
  have z0 : 0 ≤ z := by rw [← hz]; exact Int.emod_nonneg _ (by decide)
  have z1 : z < 2147483647 := by rw [← hz]; exact Int.emod_lt_of_pos _ (by decide)
  refine wop_mul (.inl ⟨by omega, by omega⟩) ?_
  w_dflts xx
  refine wop_mul (.inl (by decide)) ?_
  w_dflts xx
  refine wop_mod (by decide) ?_
  w_dflts xx
  refine wop_mod h0 ?_
  exact q _ _ (Int.emod_nonneg _ (by omega)) (Int.emod_lt_of_pos _ h0) hO
theorem dn_draw (T : Txt K mg C) : Dn P w K mg base 3 "_law_draw" ["script", "town", "many"] (spDraw K) := by
  refine dn_of T.d__law_draw sc__law_draw (fun vs H Q E ⟨_, _, _, _, _, _, h, _⟩ => by rw [h] <;> rfl) fun X e1 e2 e3 e4 e5 B vs H Q E tk h => ?_
  subst e1 e2 e3 e4 e5
  obtain ⟨a, t, ns, n, m, L, rfl, hO, hn, h0, q⟩ := h
  obtain ⟨n_script, n_town, n_many, l_script, l_town, l_many, g__law_mixed, g_len, -⟩ := nm__law_draw T B.nf
  unfold town at hO
  w_dflts xx
  refine we_append ?_
  w_dflts xx
  refine ⟨⟨_, SqL.of (hO.pt (by w_dflts mm))⟩, ?_⟩
  w_dflts xx
  refine ⟨_, hO.pt (by w_dflts mm), szl (by unfold zs; rw [List.length_replicate]; omega), fun H1 e1 => ?_⟩
  rw [zs_app] at e1
  replace hO := hO.wrE e1 (by w_dflts mm) ntL (by w_dflts rp)
  w_dflts xx
  refine we_call tk B.hr g__law_mixed (dn_mixed T) (by decide) ?_
  w_dflts xx
  refine o_lenL hO (by w_dflts mm) ?_
  w_dflts xx
  exact ⟨a, ns, _, m, _, rfl, hO, by w_dflts mm, by omega, h0, fun i H' h1 h2 hO => q i H' h1 h2 hO⟩
theorem dn_pick (T : Txt K mg C) : Dn P w K mg base 4 "_law_pick" ["script", "town", "some"] (spPick K) := by
  refine dn_of T.d__law_pick sc__law_pick (fun vs H Q E ⟨_, _, _, _, _, _, _, h, _⟩ => by rw [h] <;> rfl) fun X e1 e2 e3 e4 e5 B vs H Q E tk h => ?_
  subst e1 e2 e3 e4 e5
  obtain ⟨a, t, l, ns, n, xs, L, rfl, hO, hn, h0, q⟩ := h
  obtain ⟨n_script, n_town, n_some, l_script, l_town, l_some, g__law_draw, g_len, -⟩ := nm__law_pick T B.nf
  w_dflts xx
  refine we_call tk B.hr g__law_draw (dn_draw T) (by decide) ?_
  w_dflts xx
  refine o_lenL hO (by w_dflts mm) ?_
  w_dflts xx
  refine ⟨a, t, ns, n, _, _, rfl, hO, hn, by omega, fun i H1 h1 h2 hO => ?_⟩
  obtain ⟨j, rfl⟩ : ∃ j : Nat, i = j := ⟨i.toNat, by omega⟩
  have hj : j < xs.length := by omega
  refine o_subL hO (by w_dflts mm) (atI_nat (List.getElem?_eq_getElem hj)) (q _ _ (List.getElem_mem hj) hO)
end
end Sh
namespace Sh
/-! ### which refusal it was -/
section
variable {P : Program} {w : World} {K : PySem.W.Frag} {mg : Str → Option Value} {base : Heap} {C : Cl}
theorem countB {b0 b1 b2 b3 b4 b5 b6 b7 b8 b9 : Bool} : True := trivial
theorem en_which (T : Txt K mg C) : En P w K mg base 1 "_law_which" ["e"] (spWhich C) := by
  refine en_of T.d__law_which sc__law_which (fun a D vs H Q E ⟨_, _, h, _⟩ => by rw [h] <;> rfl) fun X e1 e2 e3 e4 e5 a oe D B vs H Q E h => ?_
  subst e1 e2 e3 e4 e5
  obtain ⟨e, L, rfl, rfl, hO, q⟩ := h
  obtain ⟨n_e, n_own, l_e, l_own, g_isinstance, g_NoSettings, g_NoWorth, g_NoHandle, g_Stale, g_Full, g_NoPlace, g_NoList, g_NoNumber, g_NotEmpty, g_NoDeed, g_ValueError, -⟩ := nm__law_which T B.nf
  have nd := B.nd
  have isi : ∀ (f : Er) {Q' : VK} {H' : Hp}, Q' (.bl (decide (e = f))) H' → Wcall X (.builtin "isinstance") [.ref a, .ref (C.of f)] H' Q' := fun f Q' H' k =>
    wc_isE B.pn (T.w_e e) B.zc B.fl (cv := .ref (C.of f)) (fun u r => r) (T.w_k e f) k
  w_dflts xx
  refine we_gref g_NoSettings T.x_NoSettings.g ?_
  w_dflts xx
  refine isi .NoSettings ?_
  w_dflts xx
  refine we_gref g_NoWorth T.x_NoWorth.g ?_
  w_dflts xx
  refine isi .NoWorth ?_
  w_dflts xx
  refine we_gref g_NoHandle T.x_NoHandle.g ?_
  w_dflts xx
  refine isi .NoHandle ?_
  w_dflts xx
  refine we_gref g_Stale T.x_Stale.g ?_
  w_dflts xx
  refine isi .Stale ?_
  w_dflts xx
  refine ⟨sz (Nat.le_of_ble_eq_true rfl), fun l0 H1 hn e0 => ?_⟩
  replace hO := hO.newE hn e0
  w_dflts xx
  refine we_extend ?_
  w_dflts xx
  refine isL_ok hO (by w_dflts mm) ?_
  w_dflts xx
  refine we_gref g_Full T.x_Full.g ?_
  w_dflts xx
  refine isi .Full ?_
  w_dflts xx
  refine we_gref g_NoPlace T.x_NoPlace.g ?_
  w_dflts xx
  refine isi .NoPlace ?_
  w_dflts xx
  refine we_gref g_NoList T.x_NoList.g ?_
  w_dflts xx
  refine isi .NoList ?_
  w_dflts xx
  refine we_gref g_NoNumber T.x_NoNumber.g ?_
  w_dflts xx
  refine isi .NoNumber ?_
  w_dflts xx
  refine ⟨sz (Nat.le_of_ble_eq_true rfl), fun l1 H2 hn e0 => ?_⟩
  replace hO := hO.newE hn e0
  w_dflts xx
  refine ⟨_, _, _, rfl, hO.pt (by w_dflts mm), hO.pt (by w_dflts mm), sz (Nat.le_of_ble_eq_true rfl), fun H3 e3 => ?_⟩
  replace hO := (hO.wrE e3 (by w_dflts mm) ntL (by w_dflts rp)).drop
  w_dflts xx
  refine we_extend ?_
  w_dflts xx
  refine isL_ok hO (by w_dflts mm) ?_
  w_dflts xx
  refine we_gref g_NotEmpty T.x_NotEmpty.g ?_
  w_dflts xx
  refine isi .NotEmpty ?_
  w_dflts xx
  refine we_gref g_NoDeed T.x_NoDeed.g ?_
  w_dflts xx
  refine isi .NoDeed ?_
  w_dflts xx
  refine ⟨sz (Nat.le_of_ble_eq_true rfl), fun l2 H4 hn e0 => ?_⟩
  replace hO := hO.newE hn e0
  w_dflts xx
  refine ⟨_, _, _, rfl, hO.pt (by w_dflts mm), hO.pt (by w_dflts mm), sz (Nat.le_of_ble_eq_true rfl), fun H5 e5 => ?_⟩
  replace hO := (hO.wrE e5 (by w_dflts mm) ntL (by w_dflts rp)).drop
  w_dflts xx
  refine we_count ?_
  w_dflts xx
  refine isL_ok hO (by w_dflts mm) ?_
  w_dflts xx
  refine ⟨_, SqL.of (hO.pt (by w_dflts mm)), rfl, rfl, ?_⟩
  w_dflts xx
  refine ite_f (by cases e <;> decide) ?_
  w_dflts xx
  refine wc_isE B.pn (T.w_e e) B.zc B.fl (cv := .type "ValueError") (fun u r => r) (T.w_v e) ?_
  w_dflts xx
  refine we_index ?_
  w_dflts xx
  refine isL_ok hO (by w_dflts mm) ?_
  w_dflts xx
  refine ⟨_, (erI e).toNat, .bl true, SqL.of (hO.pt (by w_dflts mm)), rfl, rfl, by cases e <;> decide, rfl, fun m z' hm hz => ?_, ?_⟩
  · exact which_min e hm hz
  · w_dflts xx
    refine ⟨sz (Nat.le_of_ble_eq_true rfl), fun t H6 hn e6 => ?_⟩
    replace hO := hO.newTE hn e6
    have ee : (((erI e).toNat : Nat) : Int) = erI e := by cases e <;> rfl
    rw [ee] at hO
    exact q t H6 (hO.front (.there .here)).drop
theorem roomH_mark {A : Around} {k : Nat} (r : Room k A) (v : Option Value) : L2H.RoomH k (A.mark v) := ⟨r.dp, r.un⟩
/-- except HandError as e: return _law_which(e) -/
theorem caught {X : Cx} {i k : Nat} {D : Ends} {σ : St} {H : Hp} {L : List Asn} {Wout : WX} {p1 p2 p3 p4 : Pos} (T : Txt X.K X.mg C) (hr : Room k X.A) (hk : 1 ≤ k) (n_e : Nm X.N X.env i "e") (g : Gd X.env "_law_which") (hi : i < σ.length) (e : Er) (hO : Own H L)
    (q : ∀ t H', Own H' (tp t [.str "refused", .int (erI e)] :: L) → D.rt (.ref t) H') :
    wAs X.K (.ref C.HandError) i (fun a cls d D σ H => ∀ (oe : Obj) (pn' : List (Addr × Obj)), L2N.Zn cls d oe → (∃ vs, oe.data = .fields vs) →
      Wb (X.suite a ((a, oe) :: pn')) [.Return (some (.Call (.Name "_law_which" p1) [.Name "e" p2] [] p3)) p4] D σ H) Wout D (.ref (C.of e)) none σ H := by
  refine ⟨true, T.w_h e, fun _ a ha oe pn' hz hf => ?_, fun z => by cases z⟩
  refine wb_one (ws_ret ?_)
  refine we_callE (X := X.suite a ((a, oe) :: pn')) (l := k) (ad := a) (oe := oe) (De := C.of e) (roomH_mark hr _) ⟨rfl, hz.zc, hf⟩ List.mem_cons_self g (en_which T) hk ?_
  refine wa_cons (we_var n_e (List.getElem?_set_self hi) (wa_nil ?_))
  exact ⟨e, L, rfl, rfl, hO, q⟩
end
end Sh
namespace Sh
/-! ### settings that a law draws -/
section
variable {P : Program} {w : World} {K : PySem.W.Frag} {mg : Str → Option Value} {base : Heap} {C : Cl}
theorem dn_lawset (T : Txt K mg C) : Dn P w K mg base 5 "_law_settings" ["script", "town"] (spSettings K) := by
  refine dn_of T.d__law_settings sc__law_settings (fun vs H Q E ⟨_, _, _, _, _, h, _⟩ => by rw [h] <;> rfl) fun X e1 e2 e3 e4 e5 B vs H Q E tk h => ?_
  subst e1 e2 e3 e4 e5
  obtain ⟨a, t, ns, n, L, rfl, hO, hn, q⟩ := h
  obtain ⟨n_script, n_town, n_slots, n_rounds, l_script, l_town, l_slots, l_rounds, g__law_pick, -⟩ := nm__law_settings T B.nf
  have nd := B.nd
  w_dflts xx
  refine we_call tk B.hr g__law_pick (dn_pick T) (by decide) ?_
  w_dflts xx
  refine ⟨sz (Nat.le_of_ble_eq_true rfl), fun l H1 hn1 e => ?_⟩
  replace hO := hO.newE hn1 e
  w_dflts xx
  refine ⟨a, t, l, ns, n, _, _, rfl, Own.pq (by w_dflts pq) hO, by omega, by exact Nat.zero_lt_succ _, fun v H1 hv hO => ?_⟩
  obtain ⟨m, rfl, hm⟩ := mem_iv (xs := [1, 2, 3, 4, 6, 60]) hv
  replace hO := hO.sub (G := sq X.K a (iv ns) :: town t (n + 1) :: L) (by w_dflts sb)
  w_dflts xx
  refine we_call tk B.hr g__law_pick (dn_pick T) (by decide) ?_
  w_dflts xx
  refine ⟨sz (Nat.le_of_ble_eq_true rfl), fun l H2 hn1 e => ?_⟩
  replace hO := hO.newE hn1 e
  w_dflts xx
  refine ⟨a, t, l, ns, _, _, _, rfl, Own.pq (by w_dflts pq) hO, by omega, by exact Nat.zero_lt_succ _, fun v H2 hv hO => ?_⟩
  obtain ⟨r, rfl, hr⟩ := mem_iv (xs := [1, 2, 3, 5, 1000]) hv
  replace hO := hO.sub (G := sq X.K a (iv ns) :: town t (n + 1 + 1) :: L) (by w_dflts sb)
  w_dflts xx
  refine we_call tk B.hr g__law_pick (dn_pick T) (by decide) ?_
  w_dflts xx
  refine ⟨sz (Nat.le_of_ble_eq_true rfl), fun l H2 hn1 e => ?_⟩
  replace hO := hO.newE hn1 e
  w_dflts xx
  refine ⟨a, t, l, ns, _, _, _, rfl, Own.pq (by w_dflts pq) hO, by omega, by exact Nat.zero_lt_succ _, fun v H2 hv hO => ?_⟩
  obtain ⟨la, rfl⟩ : ∃ la, v = .str (ordS la) := by
    simp only [List.mem_cons, List.not_mem_nil, or_false] at hv
    rcases hv with rfl | rfl
    · exact ⟨false, rfl⟩
    · exact ⟨true, rfl⟩
  replace hO := hO.sub (G := sq X.K a (iv ns) :: town t (n + 1 + 1 + 1) :: L) (by w_dflts sb)
  w_dflts xx
  refine we_call tk B.hr g__law_pick (dn_pick T) (by decide) ?_
  w_dflts xx
  refine ⟨sz (Nat.le_of_ble_eq_true rfl), fun l H2 hn1 e => ?_⟩
  replace hO := hO.newE hn1 e
  w_dflts xx
  refine ⟨a, t, l, ns, _, _, _, rfl, Own.pq (by w_dflts pq) hO, by omega, by exact Nat.zero_lt_succ _, fun v H2 hv hO => ?_⟩
  obtain ⟨rn, rfl⟩ : ∃ la, v = .str (endS la) := by
    simp only [List.mem_cons, List.not_mem_nil, or_false] at hv
    rcases hv with rfl | rfl
    · exact ⟨false, rfl⟩
    · exact ⟨true, rfl⟩
  replace hO := hO.sub (G := sq X.K a (iv ns) :: town t (n + 4) :: L) (by w_dflts sb)
  w_dflts xx
  refine ⟨sz (Nat.le_of_ble_eq_true rfl), fun s H5 hn1 e => ?_⟩
  exact q s m r la rn H5 hm hr (hO.newTE hn1 e)
end
end Sh
namespace Sh
/-! ### a store, its methods -/
section
variable {P : Program} {w : World} {K : PySem.W.Frag} {mg : Str → Option Value} {base : Heap} {C : Cl}
theorem mn_init (T : Txt K mg C) : Mn P w K mg base 4 C.Store "__init__" ["self", "settings"] (spInitS K C) := by
  refine mn_of T.d_Store___init__ sc_Store___init__ (fun vs H Q E ⟨_, _, _, _, h, _⟩ => by rw [h] <;> rfl) fun X e1 e2 e3 e4 e5 B vs H Q E tk h => ?_
  subst e1 e2 e3 e4 e5
  obtain ⟨x, dx, v, L, rfl, hO, h⟩ := h
  obtain ⟨n_self, n_settings, l_self, l_settings, g_checked, -⟩ := nm_Store___init__ T B.nf
  have nd := B.nd
  w_dflts xx
  refine we_call tk B.hr g_checked (dn_checked T) (by decide) ?_
  w_dflts xx
  rcases h with ⟨a, n, r, la, rn, rfl, ma, h1, h2, h3, h4, q⟩ | ⟨d, hd, hs, q⟩
  · have ht := hO.get (A := tp a (setV n r la rn)) (List.mem_cons_of_mem _ ma)
    have hS := areSet la rn h1 h2 h3 h4
    refine ⟨_, _, rfl, (dtSet ht).dp, fun _ => ?_, fun z => by rw [hS] at z; cases z⟩
    w_dflts xx
    refine ws_fldO (fs' := [("settings", .ref a)]) hO T.k_Store.c T.a_Store_settings (by w_dflts mm) (by simp) rfl (by w_dflts rp) fun H1 hO => ?_
    w_dflts xx
    refine ⟨by decide, fun pc H2 hn e => ?_⟩
    replace hO := hO.newE hn e
    w_dflts xx
    refine ws_fldO (fs' := [("settings", .ref a), ("counts", .ref pc)]) hO T.k_Store.c T.a_Store_counts (by w_dflts mm) (by simp) rfl (by w_dflts rp) fun H3 hO => ?_
    w_dflts xx
    refine we_dict0 fun pw H4 hn e => ?_
    replace hO := hO.newE hn e
    w_dflts xx
    refine ws_fldO (fs' := [("settings", .ref a), ("counts", .ref pc), ("worths", .ref pw)]) hO T.k_Store.c T.a_Store_worths (by w_dflts mm) (by simp) rfl (by w_dflts rp) fun H5 hO => ?_
    w_dflts xx
    refine ⟨by decide, fun pl H6 hn e => ?_⟩
    replace hO := hO.newE hn e
    w_dflts xx
    refine ws_fldO (fs' := [("settings", .ref a), ("counts", .ref pc), ("worths", .ref pw), ("line", .ref pl)]) hO T.k_Store.c T.a_Store_line (by w_dflts mm) (by simp) rfl (by w_dflts rp) fun H7 hO => ?_
    w_dflts xx
    refine ⟨by decide, fun pg H8 hn e => ?_⟩
    replace hO := hO.newE hn e
    w_dflts xx
    refine ws_fldO (fs' := [("settings", .ref a), ("counts", .ref pc), ("worths", .ref pw), ("line", .ref pl), ("gone", .ref pg)]) hO T.k_Store.c T.a_Store_gone (by w_dflts mm) (by simp) rfl (by w_dflts rp) fun H9 hO => ?_
    refine q _ (StoreAt.cl ⟨dx, a, pc, pw, pl, pg⟩ ?_)
    have hT : H9 a = some (.tup (setV n r la rn)) := hO.get (A := tp a (setV n r la rn)) (List.mem_cons_of_mem _ (List.mem_cons_of_mem _ (List.mem_cons_of_mem _ (List.mem_cons_of_mem _ (List.mem_cons_of_mem _ ma)))))
    have hO := hO.addT hT
    have hO : Own H9 (tp a (SS.new n r la rn).sets :: pt pg (.lst (iv [])) :: pt pl (.lst (iv [])) :: pt pw (.dK (kw [])) :: pt pc (.lst (iv [])) :: pt x (.ins C.Store dx (sflds ⟨dx, a, pc, pw, pl, pg⟩)) :: L) := hO
    exact Own.pq (by w_dflts pq) hO
  · refine ⟨_, d, rfl, hd, fun z => (by rw [hs] at z; cases z), fun _ => q⟩
theorem mn_putIn (T : Txt K mg C) : Mn P w K mg base 1 C.Store "put_in" ["self", "worth"] (spPutIn C) := by
  refine mn_of T.d_Store_put_in sc_Store_put_in (fun vs H Q E ⟨_, _, _, _, h, _⟩ => by rw [h] <;> rfl) fun X e1 e2 e3 e4 e5 B vs H Q E tk h => ?_
  subst e1 e2 e3 e4 e5
  obtain ⟨p, S, v, L, rfl, ok, hO, q1, q2⟩ := h
  obtain ⟨n_self, n_worth, n_slot, l_self, l_worth, l_slot, g_int, g_len, g_Full, -⟩ := nm_Store_put_in T B.nf
  have nd := B.nd
  obtain ⟨q, hO⟩ := StoreAt.op hO
  w_dflts xy
  refine ⟨by decide, fun e0 H1 hn e => ?_⟩
  replace hO := hO.newE hn e
  refine wop_neNil B.hr hO (by w_dflts mm) (by w_dflts mm) ?_
  replace hO := hO.drop
  w_dflts xy
  refine ite_b (fun h1 => ?_) fun h1 => ?_
  · have hne : S.ln ≠ [] := by simpa using h1
    have hlen : 0 < S.ln.length := List.length_pos_iff.mpr hne
    w_dflts xy
    refine we_popAt ?_
    w_dflts xy
    refine ⟨by decide, fun l0 H2 hn e => ?_⟩
    replace hO := hO.newE hn e
    w_dflts xy
    have ec : (decide (V.str (ordS S.last) = V.str "last")) = S.last := by cases S.last <;> decide
    rw [ec]
    refine of_cr call_int1 (.inr ⟨S.last, rfl, ?_⟩)
    have hsl : (if S.last then S.ln.getLastD 0 else S.ln.headD 0) ∈ S.ln := by
      split
      · rw [getLastD_eq _ hne, List.getD_eq_getElem?_getD, List.getElem?_eq_getElem (by omega)]
        exact List.getElem_mem _
      · rw [headD_eq, List.getD_eq_getElem?_getD, List.getElem?_eq_getElem hlen]
        exact List.getElem_mem _
    have rng := ok.rngL hsl
    cases hl : S.last with
    | false =>
      simp only [hl, Bool.false_eq_true, ↓reduceIte] at hsl rng
      have E1 : S.putIn v = .ok ((S.ln.headD 0, S.cnt (S.ln.headD 0)), { S with ln := S.ln.tail, ws := putK S.ws (S.ln.headD 0) v }) := by
        unfold SS.putIn
        rw [if_pos hne]
        simp [hl]
      refine o_subL hO (by w_dflts mm) (v := .int 0) (by rfl) ?_
      refine ⟨0, iv S.ln, 0, .int (S.ln.headD 0), rfl, hO.pt (by w_dflts mm), by decide, by decide, ?_, ?_, fun H3 e3 => ?_⟩
      · unfold seqIndex?
        rw [iv_len]
        simp [hlen]
      · rw [iv_get hlen, headD_eq]
      · rw [iv_erase, List.eraseIdx_zero] at e3
        replace hO := (hO.wrE e3 (by w_dflts mm) ntL (by w_dflts rp)).drop
        w_dflts xy
        refine ws_dput B.hu ?_
        w_dflts xy
        refine own_dput (k := Sum.inl _) hO (by w_dflts mm) (by w_dflts rp) (szl (by rw [kw_len]; have := ok.lenW; omega)) fun H4 hO => ?_
        w_dflts xy
        refine o_subL hO (by w_dflts mm) (at_cnt rng) ?_
        w_dflts xy
        refine ⟨sz (Nat.le_of_ble_eq_true rfl), fun t H5 hn e => ?_⟩
        replace hO := hO.newTE hn e
        rw [putK_kw] at hO
        exact q1 _ _ _ E1 t H5 (StoreAt.cl1 q (Own.pq (by w_dflts pq) hO))
    | true =>
      simp only [hl, ↓reduceIte] at hsl rng
      have E1 : S.putIn v = .ok ((S.ln.getLastD 0, S.cnt (S.ln.getLastD 0)), { S with ln := S.ln.dropLast, ws := putK S.ws (S.ln.getLastD 0) v }) := by
        unfold SS.putIn
        rw [if_pos hne]
        simp [hl]
      refine o_subL hO (by w_dflts mm) (v := .int (-1)) (by rfl) ?_
      refine ⟨-1, iv S.ln, S.ln.length - 1, .int (S.ln.getLastD 0), rfl, hO.pt (by w_dflts mm), by decide, by decide, ?_, ?_, fun H3 e3 => ?_⟩
      · unfold seqIndex?
        rw [iv_len]
        have : (-1 + (S.ln.length : Int)) = ((S.ln.length - 1 : Nat) : Int) := by omega
        simp only [show (-1 : Int) < 0 from by decide, ↓reduceIte, this]
        rw [if_pos (by simp; omega)]
        rfl
      · rw [iv_get (by omega), getLastD_eq _ hne]
      · rw [iv_erase, erase_last] at e3
        replace hO := (hO.wrE e3 (by w_dflts mm) ntL (by w_dflts rp)).drop
        w_dflts xy
        refine ws_dput B.hu ?_
        w_dflts xy
        refine own_dput (k := Sum.inl _) hO (by w_dflts mm) (by w_dflts rp) (szl (by rw [kw_len]; have := ok.lenW; omega)) fun H4 hO => ?_
        w_dflts xy
        refine o_subL hO (by w_dflts mm) (at_cnt rng) ?_
        w_dflts xy
        refine ⟨sz (Nat.le_of_ble_eq_true rfl), fun t H5 hn e => ?_⟩
        replace hO := hO.newTE hn e
        rw [putK_kw] at hO
        exact q1 _ _ _ E1 t H5 (StoreAt.cl1 q (Own.pq (by w_dflts pq) hO))
  · have hnil : S.ln = [] := by simpa using h1
    w_dflts xy
    rw [iv_len]
    refine ite_b (fun h2 => ?_) fun h2 => ?_
    · have hlt : (S.cs.length : Int) < S.n := by simpa using h2
      have E1 : S.putIn v = .ok (((S.cs.length : Int), 0), { S with cs := S.cs ++ [0], ws := putK S.ws (S.cs.length : Int) v }) := by
        unfold SS.putIn
        rw [if_neg (by simp [hnil]), if_pos hlt]
      w_dflts xy
      rw [iv_len]
      w_dflts xy
      refine we_append ?_
      w_dflts xy
      refine ⟨_, hO.pt (by w_dflts mm), szl (by rw [iv_len]; have := ok.lenC; omega), fun H2 e2 => ?_⟩
      rw [iv_app] at e2
      replace hO := hO.wrE e2 (by w_dflts mm) ntL (by w_dflts rp)
      w_dflts xy
      refine ws_dput B.hu ?_
      w_dflts xy
      refine own_dput (k := Sum.inl _) hO (by w_dflts mm) (by w_dflts rp) (szl (by rw [kw_len]; have := ok.lenW; omega)) fun H4 hO => ?_
      w_dflts xy
      refine o_subL hO (by w_dflts mm) (v := .int 0) (atI_nat (by rw [iv_get (by simp)]; simp)) ?_
      w_dflts xy
      refine ⟨sz (Nat.le_of_ble_eq_true rfl), fun t H5 hn e => ?_⟩
      replace hO := hO.newTE hn e
      rw [putK_kw] at hO
      exact q1 _ _ _ E1 t H5 (StoreAt.cl1 q (Own.pq (by w_dflts pq) hO))
    · have hlt : ¬ (S.cs.length : Int) < S.n := by simpa using h2
      w_dflts xy
      refine ws_raiseX B.calm tk g_Full T.x_Full (q2 .Full ?_ _ (StoreAt.cl q hO))
      unfold SS.putIn
      rw [if_neg (by simp [hnil]), if_neg hlt]
theorem mn_put (T : Txt K mg C) : Mn P w K mg base 3 C.Store "put" ["self", "worth"] (spPut K C) := by
  refine mn_of T.d_Store_put sc_Store_put (fun vs H Q E ⟨_, _, _, _, _, h, _⟩ => by rw [h] <;> rfl) fun X e1 e2 e3 e4 e5 B vs H Q E tk h => ?_
  subst e1 e2 e3 e4 e5
  obtain ⟨p, S, v, d, L, rfl, ok, hO, hd, q0, q1, q2⟩ := h
  obtain ⟨n_self, n_worth, l_self, l_worth, g_need_worth, -⟩ := nm_Store_put T B.nf
  w_dflts xx
  refine we_call tk B.hr g_need_worth (dn_need_worth T) (by decide) ?_
  w_dflts xx
  refine ⟨_, d, rfl, hd, fun h1 => ?_, q0⟩
  w_dflts xx
  refine we_meth tk B.hr T.k_Store.c (mn_putIn T) (by decide) ?_
  w_dflts xy
  exact ⟨p, S, v, L, rfl, ok, hO, q1 h1, q2 h1⟩
theorem mn_holds (T : Txt K mg C) : Mn P w K mg base 1 C.Store "holds" ["self", "handle"] (spHold K C) := by
  refine mn_of T.d_Store_holds sc_Store_holds (fun vs H Q E ⟨_, _, _, _, _, _, h, _⟩ => by rw [h] <;> rfl) fun X e1 e2 e3 e4 e5 B vs H Q E tk h => ?_
  subst e1 e2 e3 e4 e5
  obtain ⟨p, S, t, s, c, L, rfl, ok, hO, ht, q1⟩ := h
  obtain ⟨n_self, n_handle, l_self, l_handle, -⟩ := nm_Store_holds T B.nf
  obtain ⟨q, hO⟩ := StoreAt.op hO
  w_dflts xy
  refine ws_tup ht rfl ?_
  w_dflts xy
  refine wop_in B.hu (DGet.k (k := Sum.inl s) (hO.pt (by w_dflts mm))) ?_
  rw [valV_kw]
  w_dflts xy
  refine ite_b (fun h1 => ?_) fun h1 => ?_
  · w_dflts xy
    refine ws_tup ht rfl ?_
    have rng := ok.rngW ((valV_mem _ _).mp h1)
    refine o_subL hO (by w_dflts mm) (at_cnt rng) ?_
    w_dflts xy
    refine ws_tup ht rfl ?_
    w_dflts xy
    have e : S.holds s c = decide (V.int (S.cnt s) = V.int c) := by
      unfold SS.holds
      rw [h1, Bool.true_and]
      exact decide_eq_decide.mpr ⟨fun z => by rw [z], fun z => V.int.inj z⟩
    rw [← e]; exact q1
  · have e : S.holds s c = false := by
      unfold SS.holds
      rw [h1, Bool.false_and]
    rw [← e]; exact q1
theorem mn_need (T : Txt K mg C) : Mn P w K mg base 4 C.Store "need" ["self", "handle"] (spNeed K C) := by
  refine mn_of T.d_Store_need sc_Store_need (fun vs H Q E ⟨_, _, _, _, _, h, _⟩ => by rw [h] <;> rfl) fun X e1 e2 e3 e4 e5 B vs H Q E tk h => ?_
  subst e1 e2 e3 e4 e5
  obtain ⟨p, S, v, d, L, rfl, ok, hO, hd, q1, q2⟩ := h
  obtain ⟨n_self, n_handle, l_self, l_handle, g_need_handle, g_Stale, -⟩ := nm_Store_need T B.nf
  obtain ⟨q, hO'⟩ := StoreAt.op hO
  w_dflts xx
  refine we_call tk B.hr g_need_handle (dn_need_handle T) (by decide) ?_
  w_dflts xy
  have hh := isHandle_asH S.n S.r d
  refine ⟨_, _, S.n, S.r, d, rfl, sets_at hO' (by w_dflts mm), hd, fun h1 => ?_, fun h1 => ?_⟩
  · w_dflts xx
    rw [h1] at hh
    obtain ⟨⟨s, c⟩, e⟩ := Option.isSome_iff_exists.mp hh.symm
    obtain ⟨rfl, rr⟩ := asH_some e
    obtain ⟨t, xs, rfl, ht, hds⟩ := Dp.tupI hd
    cases hds with
    | cons k0 hds =>
    cases k0
    cases hds with
    | cons k1 hds =>
    cases k1
    cases hds
    refine we_meth tk B.hr T.k_Store.c (mn_holds T) (by decide) ?_
    w_dflts xy
    refine ⟨p, S, t, s, c, L, rfl, ok, hO, ht, ?_⟩
    w_dflts xx
    refine ite_b (fun h2 => ?_) fun h2 => ?_
    · w_dflts xx
      refine ws_raiseX B.calm tk g_Stale T.x_Stale (q2 .Stale ?_)
      have : S.holds s c = false := by simpa using h2
      unfold SS.at
      rw [e]
      dsimp only
      rw [this, if_neg Bool.false_ne_true]
    · w_dflts xx
      refine q1 (s, c) ?_ _ rfl
      have : S.holds s c = true := by simpa using h2
      unfold SS.at
      rw [e]
      dsimp only
      rw [this, if_pos rfl]
  · refine q2 .NoHandle ?_
    unfold SS.at
    rw [asH_none h1]
theorem at_tup {S : SS} {d : PyData} {s c : Int} {H : Hp} {v : V} (h : S.at d = .ok (s, c)) (hd : Dp K H v d) : ∃ t, v = .ref t ∧ SqT K H t [.int s, .int c] := by
  obtain ⟨rfl, _⟩ := SS.at_ok h
  obtain ⟨t, xs, rfl, ht, hds⟩ := Dp.tupI hd
  cases hds with
  | cons k0 hds =>
  cases k0
  cases hds with
  | cons k1 hds =>
  cases k1
  cases hds
  exact ⟨t, rfl, ht⟩
theorem at_val {S : SS} {d : PyData} {s c : Int} (h : S.at d = .ok (s, c)) : ∃ y, valV S.ws s = some y := by
  obtain ⟨_, hh, _⟩ := SS.at_ok h
  exact Option.isSome_iff_exists.mp ((valV_mem _ _).mpr (SS.holds_in hh).1)
theorem mn_get (T : Txt K mg C) : Mn P w K mg base 5 C.Store "get" ["self", "handle"] (spGet K C) := by
  refine mn_of T.d_Store_get sc_Store_get (fun vs H Q E ⟨_, _, _, _, _, h, _⟩ => by rw [h] <;> rfl) fun X e1 e2 e3 e4 e5 B vs H Q E tk h => ?_
  subst e1 e2 e3 e4 e5
  obtain ⟨p, S, v, d, L, rfl, ok, hO, hd, q1, q2⟩ := h
  obtain ⟨n_self, n_handle, l_self, l_handle, -⟩ := nm_Store_get T B.nf
  obtain ⟨q, hO'⟩ := StoreAt.op hO
  w_dflts xx
  refine we_meth tk B.hr T.k_Store.c (mn_need T) (by decide) ?_
  w_dflts xy
  refine ⟨p, S, v, d, L, rfl, ok, hO, hd, fun sc h1 y ey => ?_, q2⟩
  obtain ⟨s, c⟩ := sc
  obtain ⟨t, rfl, ht⟩ := at_tup h1 hd
  obtain ⟨y, hy⟩ := at_val h1
  w_dflts xy
  refine ws_tup ht rfl ?_
  exact o_subD (k := Sum.inl s) B.hu hO' (by w_dflts mm) (by rw [valV_kw]; exact hy) (q1 _ h1 _ hy)
theorem mn_change (T : Txt K mg C) : Mn P w K mg base 5 C.Store "change" ["self", "handle", "worth"] (spChange K C) := by
  refine mn_of T.d_Store_change sc_Store_change (fun vs H Q E ⟨_, _, _, _, _, _, _, h, _⟩ => by rw [h] <;> rfl) fun X e1 e2 e3 e4 e5 B vs H Q E tk h => ?_
  subst e1 e2 e3 e4 e5
  obtain ⟨p, S, v, w, d, dw, L, rfl, ok, hO, hd, hw, q1, q2, q3⟩ := h
  obtain ⟨n_self, n_handle, n_worth, n_old, l_self, l_handle, l_worth, l_old, g_need_worth, -⟩ := nm_Store_change T B.nf
  have nd := B.nd
  obtain ⟨q, hO'⟩ := StoreAt.op hO
  w_dflts xx
  refine we_meth tk B.hr T.k_Store.c (mn_need T) (by decide) ?_
  w_dflts xy
  refine ⟨p, S, v, d, L, rfl, ok, hO, hd, fun sc h1 y ey => ?_, q1⟩
  obtain ⟨s, c⟩ := sc
  obtain ⟨t, rfl, ht⟩ := at_tup h1 hd
  obtain ⟨y, hy⟩ := at_val h1
  w_dflts xx
  refine we_call tk B.hr g_need_worth (dn_need_worth T) (by decide) ?_
  w_dflts xx
  refine ⟨_, dw, rfl, hw, fun h2 => ?_, q2 _ h1⟩
  w_dflts xy
  refine ws_tup ht rfl ?_
  refine o_subD (k := Sum.inl s) B.hu hO' (by w_dflts mm) (by rw [valV_kw]; exact hy) ?_
  w_dflts xy
  refine ws_dput B.hu ?_
  w_dflts xy
  refine ws_tup ht rfl ?_
  refine own_dput (k := Sum.inl s) hO' (by w_dflts mm) (by w_dflts rp) (szl (by rw [kw_len]; have := ok.lenW; omega)) fun H4 hO => ?_
  rw [putK_kw] at hO
  w_dflts xy
  exact q3 s c y h1 h2 hy H4 (StoreAt.cl q hO)
theorem mn_drop (T : Txt K mg C) : Mn P w K mg base 5 C.Store "drop" ["self", "handle"] (spDrop K C) := by
  refine mn_of T.d_Store_drop sc_Store_drop (fun vs H Q E ⟨_, _, _, _, _, h, _⟩ => by rw [h] <;> rfl) fun X e1 e2 e3 e4 e5 B vs H Q E tk h => ?_
  subst e1 e2 e3 e4 e5
  obtain ⟨p, S, v, d, L, rfl, ok, hO, hd, q1, q2⟩ := h
  obtain ⟨n_self, n_handle, n_slot, n_later, l_self, l_handle, l_slot, l_later, -⟩ := nm_Store_drop T B.nf
  have nd := B.nd
  obtain ⟨q, hO'⟩ := StoreAt.op hO
  w_dflts xx
  refine we_meth tk B.hr T.k_Store.c (mn_need T) (by decide) ?_
  w_dflts xy
  refine ⟨p, S, v, d, L, rfl, ok, hO, hd, fun sc h1 y ey => ?_, q2⟩
  obtain ⟨s, c⟩ := sc
  obtain ⟨t, rfl, ht⟩ := at_tup h1 hd
  obtain ⟨y, hy⟩ := at_val h1
  replace hO := hO'
  have rng := ok.rngW (SS.holds_in (SS.at_ok h1).2.1).1
  w_dflts xy
  refine ws_tup ht rfl ?_
  w_dflts xy
  refine o_subL hO (by w_dflts mm) (at_cnt rng) ?_
  w_dflts xy
  refine ite_b (fun h2 => ?_) fun h2 => ?_
  · have hlt : S.cnt s + 1 < S.r := by simpa using h2
    w_dflts xy
    refine ws_lset ?_
    w_dflts xy
    refine own_set hO (by w_dflts mm) (by w_dflts rp) (by rw [iv_len]; exact ixN_of rng) fun H2 hO => ?_
    rw [iv_set] at hO
    w_dflts xy
    refine we_append ?_
    w_dflts xy
    refine ⟨_, hO.pt (by w_dflts mm), szl (by rw [iv_len]; have := ok.lenL; omega), fun H3 e3 => ?_⟩
    rw [iv_app] at e3
    replace hO := hO.wrE e3 (by w_dflts mm) ntL (by w_dflts rp)
    w_dflts xy
    refine we_dpop ?_ ⟨rfl, rfl, rfl, rfl⟩
    w_dflts xy
    refine ⟨_, Sum.inl s, y, hO.pt (by w_dflts mm), rfl, by rw [valV_kw]; exact hy, fun H4 e4 => ?_⟩
    rw [dropK_kw] at e4
    replace hO := hO.wrE e4 (by w_dflts mm) ntK (by w_dflts rp)
    refine q1 s c y h1 hy H4 (StoreAt.cl q ?_)
    unfold SS.dropAt
    rw [if_pos hlt]
    exact hO
  · have hlt : ¬ S.cnt s + 1 < S.r := by simpa using h2
    w_dflts xy
    have ec : (decide (V.str (endS S.rnd) = V.str "round")) = S.rnd := by cases S.rnd <;> decide
    rw [ec]
    refine ite_b (fun h3 => ?_) fun h3 => ?_
    · w_dflts xy
      refine ws_lset ?_
      w_dflts xy
      refine own_set hO (by w_dflts mm) (by w_dflts rp) (by rw [iv_len]; exact ixN_of rng) fun H2 hO => ?_
      rw [iv_set] at hO
      w_dflts xy
      refine we_append ?_
      w_dflts xy
      refine ⟨_, hO.pt (by w_dflts mm), szl (by rw [iv_len]; have := ok.lenL; omega), fun H3 e3 => ?_⟩
      rw [iv_app] at e3
      replace hO := hO.wrE e3 (by w_dflts mm) ntL (by w_dflts rp)
      w_dflts xy
      refine we_dpop ?_ ⟨rfl, rfl, rfl, rfl⟩
      w_dflts xy
      refine ⟨_, Sum.inl s, y, hO.pt (by w_dflts mm), rfl, by rw [valV_kw]; exact hy, fun H4 e4 => ?_⟩
      rw [dropK_kw] at e4
      replace hO := hO.wrE e4 (by w_dflts mm) ntK (by w_dflts rp)
      refine q1 s c y h1 hy H4 (StoreAt.cl q ?_)
      unfold SS.dropAt
      rw [if_neg hlt, if_pos h3]
      exact hO
    · w_dflts xy
      refine we_append ?_
      w_dflts xy
      refine ⟨_, hO.pt (by w_dflts mm), szl (by rw [iv_len]; have := ok.lenG; omega), fun H3 e3 => ?_⟩
      rw [iv_app] at e3
      replace hO := hO.wrE e3 (by w_dflts mm) ntL (by w_dflts rp)
      w_dflts xy
      refine we_dpop ?_ ⟨rfl, rfl, rfl, rfl⟩
      w_dflts xy
      refine ⟨_, Sum.inl s, y, hO.pt (by w_dflts mm), rfl, by rw [valV_kw]; exact hy, fun H4 e4 => ?_⟩
      rw [dropK_kw] at e4
      replace hO := hO.wrE e4 (by w_dflts mm) ntK (by w_dflts rp)
      refine q1 s c y h1 hy H4 (StoreAt.cl q ?_)
      unfold SS.dropAt
      rw [if_neg hlt, if_neg (by rw [h3]; exact Bool.false_ne_true)]
      exact hO
theorem mn_many (T : Txt K mg C) : Mn P w K mg base 1 C.Store "many" ["self"] (spTell C fun S => .int S.ws.length) := by
  refine mn_of T.d_Store_many sc_Store_many (fun vs H Q E ⟨_, _, _, h, _⟩ => by rw [h] <;> rfl) fun X e1 e2 e3 e4 e5 B vs H Q E tk h => ?_
  subst e1 e2 e3 e4 e5
  obtain ⟨p, S, L, rfl, ok, hO, q1⟩ := h
  obtain ⟨n_self, l_self, g_len, -⟩ := nm_Store_many T B.nf
  obtain ⟨q, hO⟩ := StoreAt.op hO
  w_dflts xy
  refine o_lenD hO (by w_dflts mm) ?_
  rw [kw_len]; exact q1
theorem mn_made (T : Txt K mg C) : Mn P w K mg base 1 C.Store "made" ["self"] (spTell C fun S => .int S.cs.length) := by
  refine mn_of T.d_Store_made sc_Store_made (fun vs H Q E ⟨_, _, _, h, _⟩ => by rw [h] <;> rfl) fun X e1 e2 e3 e4 e5 B vs H Q E tk h => ?_
  subst e1 e2 e3 e4 e5
  obtain ⟨p, S, L, rfl, ok, hO, q1⟩ := h
  obtain ⟨n_self, l_self, g_len, -⟩ := nm_Store_made T B.nf
  obtain ⟨q, hO⟩ := StoreAt.op hO
  w_dflts xy
  rw [iv_len]; exact q1
theorem mn_room (T : Txt K mg C) : Mn P w K mg base 1 C.Store "room" ["self"] (spTell C fun S => .int (S.ln.length + S.n - S.cs.length)) := by
  refine mn_of T.d_Store_room sc_Store_room (fun vs H Q E ⟨_, _, _, h, _⟩ => by rw [h] <;> rfl) fun X e1 e2 e3 e4 e5 B vs H Q E tk h => ?_
  subst e1 e2 e3 e4 e5
  obtain ⟨p, S, L, rfl, ok, hO, q1⟩ := h
  obtain ⟨n_self, l_self, g_len, -⟩ := nm_Store_room T B.nf
  obtain ⟨q, hO⟩ := StoreAt.op hO
  w_dflts xy
  rw [iv_len, iv_len]; exact q1
theorem mn_free (T : Txt K mg C) : Mn P w K mg base 1 C.Store "free" ["self"] (spTellL C SS.freeL) := by
  refine mn_of T.d_Store_free sc_Store_free (fun vs H Q E ⟨_, _, _, h, _⟩ => by rw [h] <;> rfl) fun X e1 e2 e3 e4 e5 B vs H Q E tk h => ?_
  subst e1 e2 e3 e4 e5
  obtain ⟨p, S, L, rfl, ok, hO, q1⟩ := h
  obtain ⟨n_self, l_self, g_list, -⟩ := nm_Store_free T B.nf
  obtain ⟨q, hO⟩ := StoreAt.op hO
  have ec : (decide (V.str (ordS S.last) = V.str "last")) = S.last := by cases S.last <;> decide
  w_dflts xy
  rw [ec]
  refine ite_b (fun h1 => ?_) fun h1 => ?_
  · w_dflts xy
    refine we_rev ?_
    w_dflts xy
    refine ⟨_, _, rfl, SqL.of (hO.pt (by w_dflts mm)), fun l H1 hn e => ?_⟩
    have e2 : (iv S.ln).reverse = iv S.freeL := by
      unfold SS.freeL
      rw [h1, if_pos rfl]
      simp [iv]
    rw [e2] at e
    replace hO := hO.newE hn e
    exact q1 l H1 (StoreAt.cl1 q (Own.pq (by w_dflts pq) hO))
  · w_dflts xy
    have e2 : S.ln = S.freeL := by
      unfold SS.freeL
      rw [h1, if_neg Bool.false_ne_true]
    refine of_cr call_list_of ⟨_, _, rfl, .inl (SqL.of (hO.pt (by w_dflts mm))), fun l hn => ?_⟩
    replace hO := hO.newE (o := .lst (iv S.freeL)) hn (by rw [← e2])
    exact q1 l _ (StoreAt.cl1 q (Own.pq (by w_dflts pq) hO))
theorem mn_worn (T : Txt K mg C) : Mn P w K mg base 1 C.Store "worn" ["self"] (spTellL C fun S => srt S.gn) := by
  refine mn_of T.d_Store_worn sc_Store_worn (fun vs H Q E ⟨_, _, _, h, _⟩ => by rw [h] <;> rfl) fun X e1 e2 e3 e4 e5 B vs H Q E tk h => ?_
  subst e1 e2 e3 e4 e5
  obtain ⟨p, S, L, rfl, ok, hO, q1⟩ := h
  obtain ⟨n_self, l_self, g_sorted, -⟩ := nm_Store_worn T B.nf
  obtain ⟨q, hO⟩ := StoreAt.op hO
  w_dflts xy
  refine wc_sorted hO (by w_dflts mm) fun l H' hn e => ?_
  exact q1 l _ (StoreAt.cl1 q (Own.pq (by w_dflts pq) (hO.newE hn e)))
theorem mn_live (T : Txt K mg C) : Mn P w K mg base 1 C.Store "live" ["self"] (spLive C) := by
  refine mn_of T.d_Store_live sc_Store_live (fun vs H Q E ⟨_, _, _, h, _⟩ => by rw [h] <;> rfl) fun X e1 e2 e3 e4 e5 B vs H Q E tk h => ?_
  subst e1 e2 e3 e4 e5
  obtain ⟨p, S, L, rfl, ok, hO, q1⟩ := h
  obtain ⟨n_self, l_self, g_sorted, g_list, o_slot, -⟩ := nm_Store_live T B.nf
  have nd := B.nd
  obtain ⟨q, hO⟩ := StoreAt.op hO
  w_dflts xy
  refine we_lcL B.calm nd o_slot.at' (B.nf.blk (by decide +kernel)) rfl ?_
  unfold LcL
  w_dflts xy
  refine wc_listD B.calm hO (by w_dflts mm) fun l0 H0 hn e => ?_
  replace hO := hO.newE hn e
  w_dflts xy
  refine wc_sorted hO (by w_dflts mm) fun l1 H1 hn e => ?_
  replace hO : Own _ (pt l1 (.lst (iv S.keys)) :: _) := hO.newE hn e
  refine ⟨l1, iv S.keys, rfl, SqL.of (hO.pt (by w_dflts mm)), fun dl H2 hn e => ?_⟩
  replace hO := hO.newE hn e
  refine ⟨fun j H => ∃ vs, Own H (pt dl (.lst vs) :: dts vs ((S.live.take j).map hD) :: pt l1 (.lst (iv S.keys)) :: pt p (.ins C.Store q.dx (sflds q)) :: pt q.c (.lst (iv S.cs)) :: pt q.w (.dK (kw S.ws)) :: pt q.l (.lst (iv S.ln)) :: pt q.g (.lst (iv S.gn)) :: tp q.s S.sets :: L) ∧ vs.length = j,
    ⟨[], (hO.addDs .nil).sub (by w_dflts sb), rfl⟩, ?_, ?_, ?_⟩
  · rintro j H - ⟨vs, hO, -⟩
    exact SqL.of (hO.pt (by w_dflts mm))
  · rintro j y H hj ⟨vs, hO, hv⟩ s1 Hs C1 cl fp
    have hj2 : j < S.keys.length := by
      have := (List.getElem?_eq_some_iff.mp hj).1
      rwa [iv_len] at this
    rw [iv_get hj2] at hj
    cases hj
    have ks : S.keys.getD j 0 = S.keys[j] := by rw [List.getD_eq_getElem?_getD, List.getElem?_eq_getElem hj2]; rfl
    have kin : S.keys.getD j 0 ∈ S.ws.map (·.1) := by rw [ks]; exact mem_srt.mp (List.getElem_mem hj2)
    have rng := ok.rngW kin
    have kl : S.keys.length ≤ 60 := by
      unfold SS.keys
      rw [srt_len, List.length_map]
      exact ok.lenW
    w_dflts xy
    refine o_subL hO (by w_dflts mm) (at_cnt rng) ?_
    w_dflts xy
    refine ⟨sz (Nat.le_of_ble_eq_true rfl), fun t H4 hn e => ?_⟩
    replace hO := hO.newTE hn e
    refine ⟨_, hO.pt (by w_dflts mm), szl (by omega), fun H5 e5 => ?_⟩
    have hd := DtAll.snoc (hO.dts (by w_dflts mm)) (Dt.tup (hO.tp (by w_dflts mm)) (.cons (.int _) (.cons (.int _) .nil)))
    replace hO := hO.addDs hd
    replace hO := hO.wrE e5 (by w_dflts mm) ntL (by w_dflts rp)
    have et : (S.live.take j).map hD ++ [PyData.tuple [.int (S.keys.getD j 0), .int (S.cnt (S.keys.getD j 0))]] = (S.live.take (j + 1)).map hD := by
      have hjl : j < S.live.length := by unfold SS.live; rw [List.length_map]; exact hj2
      rw [← List.take_append_getElem hjl, List.map_append]
      congr 1
      show _ = [hD S.live[j]]
      have : S.live[j] = (S.keys.getD j 0, S.cnt (S.keys.getD j 0)) := by
        rw [ks]
        exact List.getElem_map (fun s => (s, S.cnt s))
      rw [this]; rfl
    rw [et] at hO
    exact ⟨_, hO.sub (by w_dflts sb), by simp [hv]⟩
  · rintro H ⟨vs, hO, -⟩
    have et : S.live.take (iv S.keys).length = S.live := by
      rw [iv_len]
      refine List.take_of_length_le ?_
      unfold SS.live
      rw [List.length_map]
      exact Nat.le_refl _
    rw [et] at hO
    exact q1 dl H (StoreAt.cl1 q (Own.pq (by w_dflts pq) (ld.cl (hO.sub (G := pt dl (.lst vs) :: dts vs (S.live.map hD) :: pt p (.ins C.Store q.dx (sflds q)) :: pt q.c (.lst (iv S.cs)) :: pt q.w (.dK (kw S.ws)) :: pt q.l (.lst (iv S.ln)) :: pt q.g (.lst (iv S.gn)) :: tp q.s S.sets :: L) (by w_dflts sb)))))
theorem mn_left (T : Txt K mg C) : Mn P w K mg base 1 C.Store "left" ["self"] (spLeft C) := by
  refine mn_of T.d_Store_left sc_Store_left (fun vs H Q E ⟨_, _, _, h, _⟩ => by rw [h] <;> rfl) fun X e1 e2 e3 e4 e5 B vs H Q E tk h => ?_
  subst e1 e2 e3 e4 e5
  obtain ⟨p, S, L, rfl, ok, hO, q1⟩ := h
  obtain ⟨n_self, n_used, l_self, l_used, g_sum, g_range, g_len, o_slot, -⟩ := nm_Store_left T B.nf
  have nd := B.nd
  obtain ⟨q, hO⟩ := StoreAt.op hO
  have ec : (decide (V.str (endS S.rnd) = V.str "round")) = S.rnd := by cases S.rnd <;> decide
  w_dflts xy
  rw [ec]
  refine ite_b (fun h1 => ?_) fun h1 => ?_
  · have e : S.left = .non := by unfold SS.left; rw [h1]; rfl
    w_dflts xy
    rw [← e]
    exact q1 _ (StoreAt.cl q hO)
  · have e : S.left = .int (S.n * S.r - ((S.cs.map (· + 1)).sum - S.ln.length)) := by unfold SS.left; rw [h1]; rfl
    w_dflts xy
    refine we_lcR B.calm nd o_slot.at' (B.nf.blk (by decide +kernel)) rfl g_range ?_
    unfold LcR
    w_dflts xy
    rw [iv_len]
    refine ⟨by omega, by have := ok.lenC; omega, fun dl H2 hn e2 => ?_⟩
    replace hO := hO.newE hn e2
    rw [Int.toNat_natCast]
    refine ⟨fun j H => Own H (pt dl (.lst (iv ((S.cs.map (· + 1)).take j))) :: pt p (.ins C.Store q.dx (sflds q)) :: pt q.c (.lst (iv S.cs)) :: pt q.w (.dK (kw S.ws)) :: pt q.l (.lst (iv S.ln)) :: pt q.g (.lst (iv S.gn)) :: tp q.s S.sets :: L), hO, ?_, ?_⟩
    · rintro j H hj hO s1 Hs C1 cl fp
      w_dflts xy
      refine o_subL hO (by w_dflts mm) (at_cnt (s := (j : Int)) (by omega)) ?_
      w_dflts xy
      refine ⟨_, hO.pt (by w_dflts mm), szl (by rw [iv_len]; have := ok.lenC; have := List.length_take_le j (S.cs.map (· + 1)); omega), fun H5 e5 => ?_⟩
      rw [iv_app] at e5
      have et : (S.cs.map (· + 1)).take j ++ [S.cnt (j : Int) + 1] = (S.cs.map (· + 1)).take (j + 1) := by
        have hjl : j < (S.cs.map (· + 1)).length := by rw [List.length_map]; exact hj
        rw [← List.take_append_getElem hjl]
        congr 1
        rw [List.getElem_map]
        unfold SS.cnt
        rw [Int.toNat_natCast, List.getD_eq_getElem?_getD, List.getElem?_eq_getElem hj]
        rfl
      rw [et] at e5
      exact hO.wrE e5 (by w_dflts mm) ntL (by w_dflts rp)
    · rintro H hO
      have et : (S.cs.map (· + 1)).take S.cs.length = S.cs.map (· + 1) := List.take_of_length_le (by rw [List.length_map]; exact Nat.le_refl _)
      rw [et] at hO
      w_dflts xy
      refine wc_sum B.calm hO (by w_dflts mm) ?_
      w_dflts xy
      rw [iv_len]
      w_dflts xy
      have b1 := ok.n1; have b2 := ok.n60; have b3 := ok.r1; have b4 := ok.rk
      refine wop_mul (.inl ⟨by omega, by omega⟩) ?_
      w_dflts xy
      rw [← e]
      exact q1 _ (StoreAt.cl q hO.drop)
end
end Sh
namespace Sh
/-! ### how the defs may be called, over assertions -/
section
variable {P : Program} {w : World} {K : PySem.W.Frag} {mg : Str → Option Value} {base : Heap} {C : Cl}
theorem dl_draw (T : Txt K mg C) : Dn P w K mg base 3 "_law_draw" ["script", "town", "many"] (lsp C (sDraw K)) := (dn_draw T).imp sDraw.h
end
end Sh
local macro_rules | `(tactic| w_dflts yk) => `(tactic| ((with_reducible apply el_idk (z := "_law_draw")); refine el_call (by assumption) (by w_dflts nm) (dl_draw (by assumption)) (by decide) ?_))
local macro_rules | `(tactic| w_dflts ys) => `(tactic| refine sDraw.i (by w_dflts ru) (by w_dflts om) (by w_dflts om) ?_)
namespace Sh
/-! ### picks, settings -/
section
variable {P : Program} {w : World} {K : PySem.W.Frag} {mg : Str → Option Value} {base : Heap} {C : Cl}
theorem dl_pick (T : Txt K mg C) : Dn P w K mg base 4 "_law_pick" ["script", "town", "some"] (lsp C (sPick K)) := by
  refine dl_of T.d__law_pick sc__law_pick (fun vs L Q E ⟨_, _, _, _, _, h, _⟩ => by rw [h] <;> rfl) fun X e1 e2 e3 e4 e5 B vs L Q E W h => ?_
  subst e1 e2 e3 e4 e5
  obtain ⟨a, t, l, N, L1, rfl, r, hN, h⟩ := h
  refine BL.sub (imp_rm r) ?_
  obtain ⟨n_script, n_town, n_some, l_script, l_town, l_some, g__law_draw, g_len, -⟩ := nm__law_pick T B.nf
  rcases h with ⟨xs, m1, hl, q⟩ | ⟨ds, m1, hl, q⟩
  · w_dflts ll
    intro i i0 i1
    obtain ⟨j, rfl⟩ : ∃ j : Nat, i = j := ⟨i.toNat, by omega⟩
    have hj : j < xs.length := by omega
    exact xl_L (.tail _ m1) (atI_nat (List.getElem?_eq_getElem hj)) ⟨_, Imp.rfl, q _ (List.getElem_mem hj)⟩
  · w_dflts ll
    intro i i0 i1
    obtain ⟨j, rfl⟩ : ∃ j : Nat, i = j := ⟨i.toNat, by omega⟩
    have hj : j < ds.length := by omega
    have at' : atI ds (j : Int) = some ds[j] := by
      unfold atI
      rw [ixN_of (by omega), Int.toNat_natCast]
      exact List.getElem?_eq_getElem hj
    exact xl_ld (.tail _ m1) at' fun v => ⟨_, Imp.rfl, q _ (List.getElem_mem hj) v⟩
theorem dl_sets (T : Txt K mg C) : Dn P w K mg base 5 "_law_settings" ["script", "town"] (lsp C (sSets K)) := (dn_lawset T).imp sSets.h
end
end Sh
local macro_rules | `(tactic| w_dflts yk) => `(tactic| ((with_reducible apply el_idk (z := "_law_pick")); refine el_call (by assumption) (by w_dflts nm) (dl_pick (by assumption)) (by decide) ?_))
local macro_rules | `(tactic| w_dflts ys) => `(tactic| first | refine sPick.v (by w_dflts ru) (by w_dflts om) (by w_dflts mm) (by w_dflts om) ?_ | refine sPick.d (by w_dflts ru) (by w_dflts om) (by w_dflts mm) (by w_dflts om) ?_)
local macro_rules | `(tactic| w_dflts yk) => `(tactic| ((with_reducible apply el_idk (z := "_law_settings")); refine el_call (by assumption) (by w_dflts nm) (dl_sets (by assumption)) (by decide) ?_))
local macro_rules | `(tactic| w_dflts ys) => `(tactic| refine sSets.i (by w_dflts ru) (by w_dflts om) ?_)
namespace Sh
/-! ### a store's methods, over assertions -/
section
variable {P : Program} {w : World} {K : PySem.W.Frag} {mg : Str → Option Value} {base : Heap} {C : Cl}
theorem kS (T : Txt K mg C) : Cls K C.Store := T.k_Store.c
theorem cl_Store (T : Txt K mg C) : Cn P w K mg base 4 "Store" C.Store ["self", "settings"] (lsp C (sInit K C)) := cn_of T.k_Store ((mn_init T).imp sInit.h)
theorem ml_put (T : Txt K mg C) : Mn P w K mg base 3 C.Store "put" ["self", "worth"] (lsp C (sPut K C)) := (mn_put T).imp sPut.h
theorem ml_get (T : Txt K mg C) : Mn P w K mg base 5 C.Store "get" ["self", "handle"] (lsp C (sGet K C)) := (mn_get T).imp sAsk.h
theorem ml_change (T : Txt K mg C) : Mn P w K mg base 5 C.Store "change" ["self", "handle", "worth"] (lsp C (sChange K C)) := (mn_change T).imp sChange.h
theorem ml_drop (T : Txt K mg C) : Mn P w K mg base 5 C.Store "drop" ["self", "handle"] (lsp C (sDrop K C)) := (mn_drop T).imp sDrop.h
theorem ml_many (T : Txt K mg C) : Mn P w K mg base 1 C.Store "many" ["self"] (lsp C (sTell C fun S => .int S.ws.length)) := (mn_many T).imp sTell.h
theorem ml_made (T : Txt K mg C) : Mn P w K mg base 1 C.Store "made" ["self"] (lsp C (sTell C fun S => .int S.cs.length)) := (mn_made T).imp sTell.h
theorem ml_room (T : Txt K mg C) : Mn P w K mg base 1 C.Store "room" ["self"] (lsp C (sTell C fun S => .int (S.ln.length + S.n - S.cs.length))) := (mn_room T).imp sTell.h
theorem ml_left (T : Txt K mg C) : Mn P w K mg base 1 C.Store "left" ["self"] (lsp C (sTell C SS.left)) := (mn_left T).imp sLeft.h
theorem ml_free (T : Txt K mg C) : Mn P w K mg base 1 C.Store "free" ["self"] (lsp C (sTellL C SS.freeL)) := (mn_free T).imp sTellL.h
theorem ml_worn (T : Txt K mg C) : Mn P w K mg base 1 C.Store "worn" ["self"] (lsp C (sTellL C fun S => srt S.gn)) := (mn_worn T).imp sTellL.h
theorem ml_live (T : Txt K mg C) : Mn P w K mg base 1 C.Store "live" ["self"] (lsp C (sLive C)) := (mn_live T).imp sLive.h
end
end Sh
local macro_rules | `(tactic| w_dflts yk) => `(tactic| ((with_reducible apply el_idk (z := "Store")); refine el_make (by assumption) (by w_dflts nm) (cl_Store (by assumption)) (by decide) ?_))
local macro_rules | `(tactic| w_dflts ym) => `(tactic| first
  | ((with_reducible apply el_idm (m := "put")); refine el_mN (by assumption) (by w_dflts nm) (by exact rfl) (Rc.store (by w_dflts mm) (fun _ => rfl)) (kS (by assumption)) (ml_put (by assumption)) (by decide) ?_)
  | ((with_reducible apply el_idm (m := "get")); refine el_mN (by assumption) (by w_dflts nm) (by exact rfl) (Rc.store (by w_dflts mm) (fun _ => rfl)) (kS (by assumption)) (ml_get (by assumption)) (by decide) ?_)
  | ((with_reducible apply el_idm (m := "drop")); refine el_mN (by assumption) (by w_dflts nm) (by exact rfl) (Rc.store (by w_dflts mm) (fun _ => rfl)) (kS (by assumption)) (ml_drop (by assumption)) (by decide) ?_)
  | ((with_reducible apply el_idm (m := "change")); refine el_mN (by assumption) (by w_dflts nm) (by exact rfl) (Rc.store (by w_dflts mm) (fun _ => rfl)) (kS (by assumption)) (ml_change (by assumption)) (by decide) ?_)
  | ((with_reducible apply el_idm (m := "many")); refine el_mN0 (by assumption) (by w_dflts nm) (by exact rfl) (Rc.store (by w_dflts mm) (fun _ => rfl)) (kS (by assumption)) (ml_many (by assumption)) (by decide) ?_)
  | ((with_reducible apply el_idm (m := "made")); refine el_mN0 (by assumption) (by w_dflts nm) (by exact rfl) (Rc.store (by w_dflts mm) (fun _ => rfl)) (kS (by assumption)) (ml_made (by assumption)) (by decide) ?_)
  | ((with_reducible apply el_idm (m := "room")); refine el_mN0 (by assumption) (by w_dflts nm) (by exact rfl) (Rc.store (by w_dflts mm) (fun _ => rfl)) (kS (by assumption)) (ml_room (by assumption)) (by decide) ?_)
  | ((with_reducible apply el_idm (m := "left")); refine el_mN0 (by assumption) (by w_dflts nm) (by exact rfl) (Rc.store (by w_dflts mm) (fun _ => rfl)) (kS (by assumption)) (ml_left (by assumption)) (by decide) ?_)
  | ((with_reducible apply el_idm (m := "free")); refine el_mN0 (by assumption) (by w_dflts nm) (by exact rfl) (Rc.store (by w_dflts mm) (fun _ => rfl)) (kS (by assumption)) (ml_free (by assumption)) (by decide) ?_)
  | ((with_reducible apply el_idm (m := "worn")); refine el_mN0 (by assumption) (by w_dflts nm) (by exact rfl) (Rc.store (by w_dflts mm) (fun _ => rfl)) (kS (by assumption)) (ml_worn (by assumption)) (by decide) ?_)
  | ((with_reducible apply el_idm (m := "live")); refine el_mN0 (by assumption) (by w_dflts nm) (by exact rfl) (Rc.store (by w_dflts mm) (fun _ => rfl)) (kS (by assumption)) (ml_live (by assumption)) (by decide) ?_)
  | fail)
local macro_rules | `(tactic| w_dflts ys) => `(tactic| first
  | refine sHas.i (by w_dflts mm) (by assumption) (by w_dflts dc) ?_ | refine sTell.i (by w_dflts mm) (by assumption) ?_ | refine sTellL.i (by w_dflts mm) (by assumption) ?_ | refine sLive.i (by w_dflts mm) (by assumption) ?_)
namespace Sh
/-! ### deeds that a law draws, and does -/
section
variable {P : Program} {w : World} {K : PySem.W.Frag} {mg : Str → Option Value} {base : Heap} {C : Cl}
theorem dl_some (T : Txt K mg C) : Dn P w K mg base 5 "_law_some" ["script", "town", "settings", "known"] (lsp C (sSome K)) := by
  refine dl_of T.d__law_some sc__law_some (fun vs L Q E ⟨_, _, _, _, _, _, _, _, _, _, _, h, _⟩ => by rw [h] <;> rfl) fun X e1 e2 e3 e4 e5 B vs L Q E W h => ?_
  subst e1 e2 e3 e4 e5
  obtain ⟨a, t, s, kn, n, r, la, rn, hs, N, L1, rfl, rp, hN, m1, n1, r1, m2, hin, q⟩ := h
  refine BL.sub (imp_rm rp) ?_
  obtain ⟨n_script, n_town, n_settings, n_known, l_script, l_town, l_settings, l_known, g__law_draw, g_min, g__law_pick, -⟩ := nm__law_some T B.nf
  have hc := B.calm
  w_dflts ll
  intro e0
  w_dflts ll
  refine ite_q (fun h => ?_) fun h => ?_
  · refine ite_t rfl ?_
    w_dflts ll
    intro x x0 x1
    w_dflts ll
    intro y y0 y1
    w_dflts ll
    intro tt
    refine ⟨_, ?_, q (x, y) (.ref tt) ?_⟩
    · w_dflts im
    · unfold InR
      dsimp only
      split at y1 <;> omega
  · have hne : hs ≠ [] := fun z => h (by rw [z] <;> rfl)
    have hl : 0 < (hs.map hD).length := by rw [List.length_map]; exact List.length_pos_iff.mpr hne
    w_dflts ll
    intro x x0 x1
    w_dflts ll
    refine ite_d (fun _ => ?_) fun _ => ?_
    · w_dflts ll
      intro x x0 x1
      w_dflts ll
      intro y y0 y1
      w_dflts ll
      intro tt
      refine ⟨_, ?_, q (x, y) (.ref tt) ?_⟩
      · w_dflts im
      · unfold InR
        dsimp only
        split at y1 <;> omega
    · w_dflts ll
      intro d hd v
      obtain ⟨k, hk, rfl⟩ := List.mem_map.mp hd
      exact ⟨_, by w_dflts im, q k v (hin k hk)⟩
theorem dl_deed (T : Txt K mg C) : Dn P w K mg base 6 "_law_deed" ["script", "town", "settings", "known"] (lsp C (sDeed K)) := by
  refine dl_of T.d__law_deed sc__law_deed (fun vs L Q E ⟨_, _, _, _, _, _, _, _, _, _, _, h, _⟩ => by rw [h] <;> rfl) fun X e1 e2 e3 e4 e5 B vs L Q E W h => ?_
  subst e1 e2 e3 e4 e5
  obtain ⟨a, t, s, kn, n, r, la, rn, hs, N, L1, rfl, rp, hN, m1, n1, r1, m2, hin, q⟩ := h
  refine BL.sub (imp_rm rp) ?_
  obtain ⟨n_script, n_town, n_settings, n_known, n_kind, n_worth, n_handle, l_script, l_town, l_settings, l_known, l_kind, l_worth, l_handle, g__law_draw, g__law_some, -⟩ := nm__law_deed T B.nf
  have hc := B.calm
  have nd := B.nd
  w_dflts ll
  intro k k0 k1
  w_dflts ll
  intro x x0 x1
  w_dflts ll
  refine ite_d (fun h1 => ?_) fun h1 => ?_
  · w_dflts ll
    intro tt
    refine ⟨_, by w_dflts im, q (.put (.int x)) (.ref tt) ⟨x, rfl, x0, by omega⟩⟩
  · w_dflts ll
    refine el_call (by assumption) (by w_dflts nm) (dl_some (by assumption)) (by decide) ?_
    w_dflts ll
    refine sSome.i (by w_dflts ru) (by omega) (by w_dflts mm) n1 r1 (by w_dflts mm) hin fun h v hr => ?_
    w_dflts ll
    refine ite_d (fun h2 => ?_) fun h2 => ?_
    · w_dflts ll
      intro tt
      refine ⟨_, by w_dflts im, q (.drop (hD h)) (.ref tt) ⟨h, rfl, hr⟩⟩
    · w_dflts ll
      intro t1
      w_dflts ll
      intro t2
      w_dflts ll
      intro l0
      w_dflts ll
      have hk : k = 8 ∨ k = 9 := by omega
      rcases hk with rfl | rfl
      · refine xl_L (by w_dflts mm) (v := .ref t1) (by rfl) ?_
        exact ⟨_, by w_dflts im, q (.get (hD h)) _ ⟨h, rfl, hr⟩⟩
      · refine xl_L (by w_dflts mm) (v := .ref t2) (by rfl) ?_
        exact ⟨_, by w_dflts im, q (.change (hD h) (.int x)) _ ⟨⟨h, rfl, hr⟩, x, rfl, x0, by omega⟩⟩
end
end Sh
local macro_rules | `(tactic| w_dflts yk) => `(tactic| ((with_reducible apply el_idk (z := "_law_some")); refine el_call (by assumption) (by w_dflts nm) (dl_some (by assumption)) (by decide) ?_))
local macro_rules | `(tactic| w_dflts yk) => `(tactic| ((with_reducible apply el_idk (z := "_law_deed")); refine el_call (by assumption) (by w_dflts nm) (dl_deed (by assumption)) (by decide) ?_))
local macro_rules | `(tactic| w_dflts ys) => `(tactic| first | refine sSome.i (by w_dflts ru) (by w_dflts om) (by w_dflts mm) (by w_dflts om) (by w_dflts om) (by w_dflts mm) (by assumption) ?_ | refine sDeed.i (by w_dflts ru) (by w_dflts om) (by w_dflts mm) (by w_dflts om) (by w_dflts om) (by w_dflts mm) (by assumption) ?_)
namespace Sh
/-! ### what is caught, what is told -/
section
variable {P : Program} {w : World} {K : PySem.W.Frag} {mg : Str → Option Value} {base : Heap} {C : Cl}
/-- try: .. except HandError as e: return _law_which(e) -/
theorem sl_try {X : Cx} {N : List Str} {sc : Scope} {k i : Nat} {E : EK} {D : DL} {σ : St} {L : As} {body : List Stmt} {np pos pos' p1 p2 p3 p4 : Pos} (T : Txt X.K X.mg C) (B : Bd X k N sc) (W : Wk X C k E) (hk : 1 ≤ k) (n_e : Nm X.N X.env i "e") (k_e : X.env.kindOf "e" = some .local)
    (gH : Gd X.env "HandError") (gW : Gd X.env "_law_which")
    (q : ∀ (pn : List (Addr × Obj)) (xe : Value → Shared → Prop), Wk (X.tr pn xe) C k (fun er σ L => i < σ.length ∧ ∀ v, D.rt v (dt v (refD er) :: L)) → PassesOwn (model X.prog X.w) X.A X.env xe → BL (X.tr pn xe) body D σ L) :
    SL X (.Try body [.ExceptHandler (some (.Name "HandError" np)) (some "e") [.Return (some (.Call (.Name "_law_which" p1) [.Name "e" p2] [] p3)) p4] pos'] [] [] pos) D σ L := by
  refine ⟨fun H o => ws_try (i := i) B.stk B.frm B.nd n_e.at' k_e ⟨gH.gl, gH.hd, .inl T.x_HandError.g⟩ W.tk fun pn xe tk' po => ?_⟩
  refine (q pn xe ⟨tk'.imp fun cls d σ' H' z => ?_, W.hr⟩ po).run H o
  obtain ⟨er, L', rfl, rfl, o', hi, z⟩ := z
  exact caught T W.hr hk n_e gW hi er o' fun t H'' o'' => ⟨_, ref_dt' o'', z _⟩
theorem do_body {X : Cx} {p t : Addr} {xs : List V} {S : SS} {g : Dg} {L L1 : As} {Q : LK} {E : EK} (T : Txt X.K X.mg C) (B : Bd X 5 N__law_do (defScope s__law_do)) (W : Wk X C 5 E) (ok : S.Ok) (wi : S.Wi) (rp : Rm (StoreAt C.Store p S) L L1) (m : tp t xs ∈ L) (hd : DscA X.K L xs g.args)
    (q : ∀ r, up Q r (dt r (S.tell g).1 :: StoreAt C.Store p (S.tell g).2 :: L1)) : BL X (defBody s__law_do) { nx := fun _ L' => up Q .non L', rt := up Q } (start N__law_do [.ref p, .ref t]) L := by
  obtain ⟨n_store, n_deed, n_e, l_store, l_deed, l_e, g_HandError, g__law_which, k_e, -⟩ := nm__law_do T B.nf
  have hm : StoreAt C.Store p S ∈ L := rm_mem rp
  -- where it is refused the store is as before
  have rf : ∀ er r, S.tell g = (refD er, S) → up Q r (dt r (refD er) :: L) := fun er r e => by
    obtain ⟨L2, i2, q2⟩ := q r
    rw [e] at i2
    exact ⟨L2, (imp_same (imp_rm rp)).trans i2, q2⟩
  have tl : ∀ {y : V} {S' : SS} {i : Int}, S.tell g = (.int i, S') → y = .int i → up Q y (StoreAt C.Store p S' :: L1) := fun {y S' i} e ey => by
    obtain ⟨L2, i2, q2⟩ := q y
    rw [e] at i2
    exact ⟨L2, Imp.trans (imp_dsi (by rw [ey]; exact Dsi.int) Imp.rfl) i2, q2⟩
  w_dflts ll
  refine sl_try T B W (by decide) n_e k_e g_HandError g__law_which fun pn xe W' po => ?_
  cases g with
  | put d =>
    cases hd with
    | cons h0 hd =>
    cases hd with
    | cons h1 hd =>
    cases hd
    rename_i x0 x1
    refine BL.know (φ := x0 = .str "put") (fun H o => sv_dp (h0 H o) rfl) fun e => ?_
    subst e
    by_cases hw : isWhole d 0 9999 = true
    · obtain ⟨i, rfl, _, _⟩ := whole_int hw
      refine BL.know (φ := x1 = .int i) (fun H o => sv_dp (h1 H o) rfl) fun e => ?_
      subst e
      have e1 : S.tell (.put (.int i)) = (match S.putIn (.int i) with
          | .ok (h, S') => (hD h, S')
          | .error e => (refD e, S)) := by
        unfold SS.tell
        dsimp only
        rw [if_pos hw]; rfl
      w_dflts ll
      w_dflts st
      w_dflts ll
      refine sPut.wh ok rp h1 hw (fun s c S' es ok' tt => ?_) fun er es => ⟨(show (2 : Nat) < 3 by decide), fun v => rf _ _ (by rw [e1, es])⟩
      rw [es] at e1
      obtain ⟨L2, i2, q2⟩ := q (.ref tt)
      rw [e1] at i2
      exact ⟨L2, i2, q2⟩
    · have hw : isWhole d 0 9999 = false := by simpa using hw
      w_dflts ll
      w_dflts st
      w_dflts ll
      refine sPut.i ok rp h1 (fun z => ⟨(show (2 : Nat) < 3 by decide), fun v => rf _ _ ?_⟩) (fun z => by rw [hw] at z; cases z) fun z => by rw [hw] at z; cases z
      unfold SS.tell
      dsimp only
      rw [if_neg (by rw [z]; exact Bool.false_ne_true)]
  | get d =>
    cases hd with
    | cons h0 hd =>
    cases hd with
    | cons h1 hd =>
    cases hd
    rename_i x0 x1
    refine BL.know (φ := x0 = .str "get") (fun H o => sv_dp (h0 H o) rfl) fun e => ?_
    subst e
    w_dflts ll
    w_dflts st
    w_dflts ll
    w_dflts st
    w_dflts ll
    refine sGet.i ok hm h1 (fun sc es y ey => ?_) fun er es => ⟨(show (2 : Nat) < 3 by decide), fun v => rf _ _ (by unfold SS.tell; dsimp only; rw [es])⟩
    obtain ⟨s, c⟩ := sc
    obtain ⟨i, e⟩ := wi.at es
    rw [e] at ey
    cases ey
    obtain ⟨L2, i2, q2⟩ := tl (y := .int i) (S' := S) (i := i) (by unfold SS.tell; dsimp only; rw [es]; dsimp only; rw [SS.wth_of e]) rfl
    exact ⟨L2, (imp_rm rp).trans i2, q2⟩
  | change d w =>
    cases hd with
    | cons h0 hd =>
    cases hd with
    | cons h1 hd =>
    cases hd with
    | cons h2 hd =>
    cases hd
    rename_i x0 x1 x2
    refine BL.know (φ := x0 = .str "change") (fun H o => sv_dp (h0 H o) rfl) fun e => ?_
    subst e
    by_cases hw : isWhole w 0 9999 = true
    · obtain ⟨i, rfl, _, _⟩ := whole_int hw
      refine BL.know (φ := x2 = .int i) (fun H o => sv_dp (h2 H o) rfl) fun e => ?_
      subst e
      w_dflts ll
      w_dflts st
      w_dflts ll
      w_dflts st
      w_dflts ll
      w_dflts st
      w_dflts ll
      refine sChange.i ok rp h1 h2 (fun er es => ⟨(show (2 : Nat) < 3 by decide), fun v => rf _ _ (by unfold SS.tell; dsimp only; rw [es])⟩) (fun sc es z => by rw [hw] at z; cases z) fun s c y es _ ey ok' => ?_
      obtain ⟨j, e⟩ := wi.at es
      rw [e] at ey
      cases ey
      exact tl (y := .int j) (i := j) (by unfold SS.tell; dsimp only; rw [es]; dsimp only; rw [if_pos hw, SS.wth_of e]; rfl) rfl
    · have hw : isWhole w 0 9999 = false := by simpa using hw
      w_dflts ll
      w_dflts st
      w_dflts ll
      w_dflts st
      w_dflts ll
      w_dflts st
      w_dflts ll
      refine sChange.i ok rp h1 h2 (fun er es => ⟨(show (2 : Nat) < 3 by decide), fun v => rf _ _ (by unfold SS.tell; dsimp only; rw [es])⟩) (fun sc es z => ⟨(show (2 : Nat) < 3 by decide), fun v => rf _ _ ?_⟩) fun s c y es z => by rw [hw] at z; cases z
      unfold SS.tell
      dsimp only
      rw [es]
      dsimp only
      rw [if_neg (by rw [z]; exact Bool.false_ne_true)]
  | drop d =>
    cases hd with
    | cons h0 hd =>
    cases hd with
    | cons h1 hd =>
    cases hd
    rename_i x0 x1
    refine BL.know (φ := x0 = .str "drop") (fun H o => sv_dp (h0 H o) rfl) fun e => ?_
    subst e
    w_dflts ll
    w_dflts st
    w_dflts ll
    w_dflts st
    w_dflts ll
    w_dflts st
    w_dflts ll
    refine sDrop.i ok rp h1 (fun s c y es ey ok' => ?_) fun er es => ⟨(show (2 : Nat) < 3 by decide), fun v => rf _ _ (by unfold SS.tell; dsimp only; rw [es])⟩
    obtain ⟨i, e⟩ := wi.at es
    rw [e] at ey
    cases ey
    exact tl (y := .int i) (i := i) (by unfold SS.tell; dsimp only; rw [es]; dsimp only; rw [SS.wth_of e]) rfl
theorem dl_do (T : Txt K mg C) : Dn P w K mg base 6 "_law_do" ["store", "deed"] (lsp C (sDo K C)) := by
  refine dl_of T.d__law_do sc__law_do (fun vs L Q E ⟨_, _, _, _, _, h, _⟩ => by rw [h] <;> rfl) fun X e1 e2 e3 e4 e5 B vs L Q E W h => ?_
  subst e1 e2 e3 e4 e5
  obtain ⟨p, v, S, g, L1, rfl, ok, wi, rp, hd, q⟩ := h
  obtain ⟨n_store, n_deed, n_e, l_store, l_deed, l_e, g_HandError, g__law_which, k_e, -⟩ := nm__law_do T B.nf
  have tok := SS.tell_ok ok wi g
  replace q := q tok.1 tok.2.1
  rcases hd with m | ⟨t, xs, rfl, m, hd⟩
  · rw [Dg.d_args] at m
    refine BL.open_dt m fun t xs e => ?_
    subst e
    refine BL.know (φ := xs.length = g.args.length) (fun H o => DtAll.len (o.dts (vs := xs) (ds := g.args) (.tail _ (.head _)))) fun hl => ?_
    refine do_body T B W ok wi (.there (.there rp)) (.head _) (dts_all (.tail _ (.head _)) hl) fun r => ⟨_, ?_, q r⟩
    refine imp_same (imp_same ?_)
    exact imp_drop (imp_drop Imp.rfl)
  · exact do_body T B W ok wi rp m hd fun r => ⟨_, Imp.rfl, q r⟩
end
end Sh
local macro_rules | `(tactic| w_dflts yk) => `(tactic| ((with_reducible apply el_idk (z := "_law_do")); refine el_call (by assumption) (by w_dflts nm) (dl_do (by assumption)) (by decide) ?_))
local macro_rules | `(tactic| w_dflts ys) => `(tactic| refine sDo.i (by w_dflts ru) (by w_dflts mm) (by assumption) (by assumption) ?_)
local macro_rules | `(tactic| w_dflts ys) => `(tactic| first | refine sDo.put (by w_dflts ru) (by w_dflts mm) (by assumption) (by assumption) ?_ | refine sDo.get (by w_dflts ru) (by w_dflts mm) (by assumption) (by assumption) ?_ | refine sDo.drop (by w_dflts ru) (by w_dflts mm) (by assumption) (by assumption) ?_ | refine sDo.change (by w_dflts ru) (by w_dflts mm) (by assumption) (by assumption) ?_)
namespace Sh
/-! ### a store saved -/
end Sh
local macro_rules | `(tactic| w_dflts yf) => `(tactic| first
  | refine ⟨_, _, _, _, _, rfl, by w_dflts mm, kS (by assumption), Txt.a_Store_worths (by assumption), sf3, ?_⟩
  | refine ⟨_, _, _, _, _, rfl, by w_dflts mm, kS (by assumption), Txt.a_Store_counts (by assumption), sf2, ?_⟩
  | refine ⟨_, _, _, _, _, rfl, by w_dflts mm, kS (by assumption), Txt.a_Store_line (by assumption), sf4, ?_⟩
  | refine ⟨_, _, _, _, _, rfl, by w_dflts mm, kS (by assumption), Txt.a_Store_gone (by assumption), sf5, ?_⟩
  | refine ⟨_, _, _, _, _, rfl, by w_dflts mm, kS (by assumption), Txt.a_Store_settings (by assumption), sf1, ?_⟩)
namespace Sh
section
variable {P : Program} {w : World} {K : PySem.W.Frag} {mg : Str → Option Value} {base : Heap} {C : Cl}
theorem ml_savedF (T : Txt K mg C) : Mn P w K mg base 1 C.Store "saved" ["self"] (lsp C (sSavedF C)) := by
  refine ml_of T.d_Store_saved sc_Store_saved (fun vs L Q E ⟨_, _, h, _⟩ => by rw [h] <;> rfl) fun X e1 e2 e3 e4 e5 B vs L Q E W h => ?_
  subst e1 e2 e3 e4 e5
  obtain ⟨p, S, rfl, ok, wi, m, q⟩ := h
  obtain ⟨n_self, n_worths, l_self, l_worths, g_tuple, g_sorted, g_list, o_slot, -⟩ := nm_Store_saved T B.nf
  have nd := B.nd
  have hc := B.calm
  have hu := B.hu
  obtain ⟨L1, r⟩ := mem_rm m
  have back : Imp (StoreAt C.Store p S :: L1) L := fun T h s => s.back r
  refine BL.openS r fun w => ?_
  w_dflts ll
  refine el_lcV hc nd o_slot.at' (B.nf.blk (by decide +kernel)) rfl ?_
  unfold LcLV
  w_dflts ll
  intro l0
  w_dflts ll
  intro l1
  have hk : S.keys.length ≤ 60 := by
    unfold SS.keys
    rw [srt_len, List.length_map]
    exact ok.lenW
  refine ⟨l1, iv S.keys, rfl, by w_dflts mz, by rw [iv_len]; omega, Unit, fun j => ⟨fun _ => True, fun _ => (S.keys.take j).map fun s => .tuple [.int s, S.wth s],
    fun _ => [pt l1 (.lst (iv S.keys)), pt p (.ins C.Store w.dx (sflds w)), pt w.c (.lst (iv S.cs)), pt w.w (.dK (kw S.ws)), pt w.l (.lst (iv S.ln)), pt w.g (.lst (iv S.gn)), tp w.s S.sets] ++ L1⟩, ⟨(), trivial, rfl, ?_⟩, fun j x _ => ?_, fun j x dl y hy _ s Hs C' cl fp => ?_, fun x lp _ => ?_⟩
  · dsimp only [List.cons_append, List.nil_append]
    w_dflts im
  · dsimp only [List.cons_append, List.nil_append]
    w_dflts mm
  · refine EL.wk (W.blk s Hs cl fp) fun W' => ?_
    dsimp only [List.cons_append, List.nil_append]
    have hj : j < S.keys.length := by
      have := (List.getElem?_eq_some_iff.mp hy).1
      rwa [iv_len] at this
    have ey : y = .int S.keys[j] := by
      rw [iv_get hj] at hy
      cases hy
      rw [List.getD_eq_getElem?_getD, List.getElem?_eq_getElem hj]; rfl
    subst ey
    have kin : S.keys[j] ∈ S.ws.map (·.1) := mem_srt.mp (List.getElem_mem hj)
    obtain ⟨u, hu2⟩ := Option.isSome_iff_exists.mp ((valV_mem S.ws S.keys[j]).mpr kin)
    obtain ⟨i, rfl⟩ := wi _ _ hu2
    w_dflts ll
    refine xl_Di (by exact hu) (by w_dflts mm) (v := .int i) (by rw [valV_kw]; exact hu2) ?_
    w_dflts ll
    intro t1
    refine ⟨.tuple [.int S.keys[j], S.wth S.keys[j]], (), trivial, ?_, ?_⟩
    · rw [← List.take_append_getElem hj, List.map_append]; rfl
    · rw [SS.wth_of hu2]
      w_dflts im
  · dsimp only [List.cons_append, List.nil_append]
    rw [iv_len, List.take_of_length_le (Nat.le_refl _), saved_kv wi]
    refine al_nil ?_
    refine cl_tupF (by w_dflts mm) fun t1 => ?_
    w_dflts ll
    intro t2
    w_dflts ll
    intro t3
    w_dflts ll
    intro t4
    w_dflts ll
    intro t5
    refine ⟨_, Imp.trans (L1 := sv5 t5 S :: StoreAt C.Store p S :: L1) ?_ (imp_same back), q _⟩
    refine Imp.trans ?_ (imp_svC (a := t5) (S := S) (L := StoreAt C.Store p S :: L1) ⟨w.s, t2, t1, t3, t4⟩)
    refine imp_tp (by w_dflts mm) (imp_tp (by w_dflts mm) (imp_tp (by w_dflts mm) (imp_cons (by w_dflts rm) (imp_tp (by w_dflts mm) (imp_tp (by w_dflts mm) ?_)))))
    refine imp_st w (by w_dflts rm) (by w_dflts rm) (by w_dflts rm) (by w_dflts rm) (by w_dflts rm) (by w_dflts mm) ?_
    w_dflts im
theorem dl_woken (T : Txt K mg C) : Dn P w K mg base 6 "woken" ["thing"] (lsp C (sWoken C)) := by
  refine dl_of T.d_woken sc_woken (fun vs L Q E ⟨_, _, h, _⟩ => by rw [h] <;> rfl) fun X e1 e2 e3 e4 e5 B vs L Q E W h => ?_
  subst e1 e2 e3 e4 e5
  obtain ⟨t, S, rfl, ok, wi, m, q⟩ := h
  obtain ⟨n_thing, n_made, l_thing, l_made, g_Store, g_list, g_dict, -⟩ := nm_woken T B.nf
  have nd := B.nd
  have hc := B.calm
  have hu := B.hu
  obtain ⟨L1, r⟩ := mem_rm m
  have back : Imp (sv5 t S :: L1) L := fun T h s => s.back r
  refine BL.openV r fun v => ?_
  w_dflts ll
  intro p dx
  apply Sg.i
  refine sInit.i (n := S.n) (r := S.r) (last := S.last) (rnd := S.rnd) (.tail _ (.head _)) ok.n1 ok.n60 ok.r1 ok.rk fun _ => ⟨rfl, ?_⟩
  w_dflts lb
  refine BL.openS (by w_dflts ru) fun u => ?_
  apply bl_cons
  refine sl_fld ?_
  w_dflts ll
  intro c2
  w_dflts ll
  refine ⟨p, C.Store, u.dx, _, _, rfl, by w_dflts ro, T.k_Store.c, T.a_Store_counts, Nat.le_of_ble_eq_true rfl, ?_⟩
  rw [show putF ("counts" : Str) (.ref c2) (sflds u) = sflds ⟨u.dx, u.s, c2, u.w, u.l, u.g⟩ from rfl]
  apply bl_cons
  refine sl_fld ?_
  w_dflts ll
  refine cl_dictF hc (by w_dflts mm) (by rw [kvI_keys]; exact keys_nd ok) fun w2 => ?_
  w_dflts ll
  refine ⟨p, C.Store, u.dx, _, _, rfl, by w_dflts ro, T.k_Store.c, T.a_Store_worths, Nat.le_of_ble_eq_true rfl, ?_⟩
  rw [show putF ("worths" : Str) (.ref w2) (sflds ⟨u.dx, u.s, c2, u.w, u.l, u.g⟩) = sflds ⟨u.dx, u.s, c2, w2, u.l, u.g⟩ from rfl]
  apply bl_cons
  refine sl_fld ?_
  w_dflts ll
  intro l2
  w_dflts ll
  refine ⟨p, C.Store, u.dx, _, _, rfl, by w_dflts ro, T.k_Store.c, T.a_Store_line, Nat.le_of_ble_eq_true rfl, ?_⟩
  rw [show putF ("line" : Str) (.ref l2) (sflds ⟨u.dx, u.s, c2, w2, u.l, u.g⟩) = sflds ⟨u.dx, u.s, c2, w2, l2, u.g⟩ from rfl]
  apply bl_cons
  refine sl_fld ?_
  w_dflts ll
  intro g2
  w_dflts ll
  refine ⟨p, C.Store, u.dx, _, _, rfl, by w_dflts ro, T.k_Store.c, T.a_Store_gone, Nat.le_of_ble_eq_true rfl, ?_⟩
  rw [show putF ("gone" : Str) (.ref g2) (sflds ⟨u.dx, u.s, c2, w2, l2, u.g⟩) = sflds ⟨u.dx, u.s, c2, w2, l2, g2⟩ from rfl]
  w_dflts ll
  refine ⟨_, Imp.trans (L1 := StoreAt C.Store p S.nrm :: sv5 t S :: L1) ?_ (imp_same back), q p⟩
  refine Imp.trans ?_ (imp_stC (p := p) (C := C) (S := S.nrm) (L := sv5 t S :: L1) ⟨u.dx, u.s, c2, w2, l2, g2⟩)
  refine Imp.trans (L1 := pt p (.ins C.Store u.dx (sflds ⟨u.dx, u.s, c2, w2, l2, g2⟩)) :: pt c2 (.lst (iv S.cs)) :: pt w2 (.dK (kw (S.kvI.map fun p => (p.1, V.int p.2)))) :: pt l2 (.lst (iv S.ln)) :: pt g2 (.lst (iv S.gn)) :: tp u.s (SS.new S.n S.r S.last S.rnd).sets :: tp t [.ref v.s, .ref v.c, .ref v.w, .ref v.l, .ref v.g] :: tp v.s S.sets :: tp v.c (iv S.cs) :: pz v.w (S.kvI.map pD2) :: tp v.l (iv S.ln) :: tp v.g (iv S.gn) :: L1) ?_ (imp_same (imp_same (imp_same (imp_same (imp_same (imp_same (imp_svC v)))))))
  w_dflts im
end
section
variable {P : Program} {w : World} {K : PySem.W.Frag} {mg : Str → Option Value} {base : Heap} {C : Cl}
end
end Sh
local macro_rules | `(tactic| w_dflts yk) => `(tactic| ((with_reducible apply el_idk (z := "woken")); refine el_call (by assumption) (by w_dflts nm) (dl_woken (by assumption)) (by decide) ?_))
namespace Sh
section
variable {P : Program} {w : World} {K : PySem.W.Frag} {mg : Str → Option Value} {base : Heap} {C : Cl}
theorem ml_saved (T : Txt K mg C) : Mn P w K mg base 1 C.Store "saved" ["self"] (lsp C (sSaved C)) := by
  refine ml_of T.d_Store_saved sc_Store_saved (fun vs L Q E ⟨_, _, h, _⟩ => by rw [h] <;> rfl) fun X e1 e2 e3 e4 e5 B vs L Q E W h => ?_
  subst e1 e2 e3 e4 e5
  obtain ⟨p, S, rfl, ok, wi, m, q⟩ := h
  obtain ⟨n_self, n_worths, l_self, l_worths, g_tuple, g_sorted, g_list, o_slot, -⟩ := nm_Store_saved T B.nf
  have nd := B.nd
  have hc := B.calm
  have hu := B.hu
  obtain ⟨L1, r⟩ := mem_rm m
  have back : Imp (StoreAt C.Store p S :: L1) L := fun T h s => s.back r
  refine BL.openS r fun w => ?_
  w_dflts ll
  refine el_lcV hc nd o_slot.at' (B.nf.blk (by decide +kernel)) rfl ?_
  unfold LcLV
  w_dflts ll
  intro l0
  w_dflts ll
  intro l1
  have hk : S.keys.length ≤ 60 := by
    unfold SS.keys
    rw [srt_len, List.length_map]
    exact ok.lenW
  refine ⟨l1, iv S.keys, rfl, by w_dflts mz, by rw [iv_len]; omega, Unit, fun j => ⟨fun _ => True, fun _ => (S.keys.take j).map fun s => .tuple [.int s, S.wth s],
    fun _ => [pt l1 (.lst (iv S.keys)), pt p (.ins C.Store w.dx (sflds w)), pt w.c (.lst (iv S.cs)), pt w.w (.dK (kw S.ws)), pt w.l (.lst (iv S.ln)), pt w.g (.lst (iv S.gn)), tp w.s S.sets] ++ L1⟩, ⟨(), trivial, rfl, ?_⟩, fun j x _ => ?_, fun j x dl y hy _ s Hs C' cl fp => ?_, fun x lp _ => ?_⟩
  · dsimp only [List.cons_append, List.nil_append]
    w_dflts im
  · dsimp only [List.cons_append, List.nil_append]
    w_dflts mm
  · refine EL.wk (W.blk s Hs cl fp) fun W' => ?_
    dsimp only [List.cons_append, List.nil_append]
    have hj : j < S.keys.length := by
      have := (List.getElem?_eq_some_iff.mp hy).1
      rwa [iv_len] at this
    have ey : y = .int S.keys[j] := by
      rw [iv_get hj] at hy
      cases hy
      rw [List.getD_eq_getElem?_getD, List.getElem?_eq_getElem hj]; rfl
    subst ey
    have kin : S.keys[j] ∈ S.ws.map (·.1) := mem_srt.mp (List.getElem_mem hj)
    obtain ⟨u, hu2⟩ := Option.isSome_iff_exists.mp ((valV_mem S.ws S.keys[j]).mpr kin)
    obtain ⟨i, rfl⟩ := wi _ _ hu2
    w_dflts ll
    refine xl_Di (by exact hu) (by w_dflts mm) (v := .int i) (by rw [valV_kw]; exact hu2) ?_
    w_dflts ll
    intro t1
    refine ⟨.tuple [.int S.keys[j], S.wth S.keys[j]], (), trivial, ?_, ?_⟩
    · rw [← List.take_append_getElem hj, List.map_append]; rfl
    · rw [SS.wth_of hu2]
      w_dflts im
  · dsimp only [List.cons_append, List.nil_append]
    rw [iv_len, List.take_of_length_le (Nat.le_refl _)]
    w_dflts ll
    intro t1
    w_dflts ll
    intro t2
    w_dflts ll
    intro t3
    w_dflts ll
    intro t4
    w_dflts ll
    intro t5
    refine ⟨_, Imp.trans (L1 := dt (.ref t5) S.savedD :: StoreAt C.Store p S :: L1) ?_ (imp_same back), q _⟩
    refine imp_cons (by w_dflts rn) ?_
    refine imp_st w (by w_dflts rm) (by w_dflts rm) (by w_dflts rm) (by w_dflts rm) (by w_dflts rm) (by w_dflts mm) ?_
    w_dflts im
end
end Sh
local macro_rules | `(tactic| w_dflts ym) => `(tactic| ((with_reducible apply el_idm (m := "saved")); refine el_mN0 (by assumption) (by w_dflts nm) (by exact rfl) (Rc.store (by w_dflts mm) (fun _ => rfl)) (kS (by assumption)) (ml_saved (by assumption)) (by decide) ?_))
local macro_rules | `(tactic| w_dflts ys) => `(tactic| refine sSaved.i (by w_dflts mm) (by assumption) (by assumption) ?_)
namespace Sh
section
variable {P : Program} {w : World} {K : PySem.W.Frag} {mg : Str → Option Value} {base : Heap} {C : Cl}
theorem dl_seen (T : Txt K mg C) : Dn P w K mg base 2 "_law_seen" ["store"] (lsp C (sSeen C)) := by
  refine dl_of T.d__law_seen sc__law_seen (fun vs L Q E ⟨_, _, h, _⟩ => by rw [h] <;> rfl) fun X e1 e2 e3 e4 e5 B vs L Q E W h => ?_
  subst e1 e2 e3 e4 e5
  obtain ⟨p, S, rfl, ok, wi, m, q⟩ := h
  obtain ⟨n_store, l_store, -⟩ := nm__law_seen T B.nf
  w_dflts la
  intro v
  w_dflts la
  rename_i l f w0 b
  refine ⟨_, Imp.trans ?_ (imp_snC (L := L) ⟨l, f, w0, v⟩), q b⟩
  w_dflts im
end
end Sh
local macro_rules | `(tactic| w_dflts yk) => `(tactic| ((with_reducible apply el_idk (z := "_law_seen")); refine el_call (by assumption) (by w_dflts nm) (dl_seen (by assumption)) (by decide) ?_))
local macro_rules | `(tactic| w_dflts ys) => `(tactic| refine sSeen.i (by w_dflts mm) (by assumption) (by assumption) ?_)
namespace Sh
/-! ### some deeds, what they give is known -/
section
variable {P : Program} {w : World} {K : PySem.W.Frag} {mg : Str → Option Value} {base : Heap} {C : Cl}
def invKn (C : Cl) (K : PySem.W.Frag) (a t s p kn : Addr) (n r : Int) (la rn : Bool) (rest : St) (k : Nat) : LI (SS × List (Int × Int) × Option V × Option V) :=
  ⟨fun x => x.1.Ok ∧ x.1.Wi ∧ x.1.n = n ∧ x.1.r = r ∧ x.1.last = la ∧ x.1.rnd = rn ∧ (∀ h ∈ x.2.1, InR n r h) ∧ x.2.1.length ≤ k,
   fun x => some (.ref a) :: some (.ref t) :: some (.ref s) :: some (.ref p) :: some (.ref kn) :: x.2.2.1 :: x.2.2.2 :: rest,
   fun x => [StoreAt C.Store p x.1, ld kn (x.2.1.map hD), tp s (setV n r la rn), dr K a t (10 + 6 * k)]⟩
theorem bodyKn {X : Cx} {D : DL} (T : Txt X.K X.mg C) (B : Bd X 7 N_law (defScope s_law)) (W : Wk X C 7 (fun _ _ _ => False)) (a t s p kn : Addr) (n r : Int) (la rn : Bool) (n1 : 1 ≤ n) (n60 : n ≤ 60) (r1 : 1 ≤ r) (rk : r ≤ 1000) (rest : St)
    (k : Nat) (hk : k < 100) (S : SS) (hs : List (Int × Int)) (x1 x2 : Option V) (hx : (invKn C X.K a t s p kn n r la rn rest k).ok (S, hs, x1, x2)) :
    BL X (forBody (nth (defBody s_law) 4)) (D.loop (invKn C X.K a t s p kn n r la rn rest (k + 1)).at) (((invKn C X.K a t s p kn n r la rn rest k).st (S, hs, x1, x2)).set 5 (some (.int (k : Int)))) ((invKn C X.K a t s p kn n r la rn rest k).as (S, hs, x1, x2)) := by
  obtain ⟨n_script, n_town, n_settings, n_store, n_known, n_k, n_told, n_thing, n_other, n_third, n_before, n_deed, l_script, l_town, l_settings, l_store, l_known, l_k, l_told, l_thing, l_other, l_third, l_before, l_deed, g__law_settings, g_Store, g_range, g__law_draw, g__law_do, g__law_deed, g_isinstance, g_tuple, g_woken, g__law_seen, -⟩ := nm_law T B.nf
  have nd := B.nd
  have hc := B.calm
  obtain ⟨ok, wi, e1, e2, e3, e4, hin, hln⟩ := hx
  dsimp only at ok wi e1 e2 e3 e4 hin hln
  dsimp only [invKn]
  w_dflts ll
  intro g v hg
  w_dflts ll
  intro ok1 wi1 rr
  obtain ⟨_, _, f1, f2, f3, f4⟩ := SS.tell_ok ok wi g
  have fin : ∀ (L' : As) (hs' : List (Int × Int)) (p1 q1 : Option V), (∀ h ∈ hs', InR n r h) → hs'.length ≤ k + 1 →
      Imp L' [StoreAt C.Store p (S.tell g).2, ld kn (hs'.map hD), tp s (setV n r la rn), dr X.K a t (10 + 6 * (k + 1))] →
      (invKn C X.K a t s p kn n r la rn rest (k + 1)).at (some (.ref a) :: some (.ref t) :: some (.ref s) :: some (.ref p) :: some (.ref kn) :: p1 :: q1 :: rest) L' :=
    fun L' hs' p1 q1 hi hl im => ⟨((S.tell g).2, hs', p1, q1), ⟨ok1, wi1, f1.trans e1, f2.trans e2, f3.trans e3, f4.trans e4, hi, hl⟩, rfl, im⟩
  rcases tell_cases ok wi g with ⟨i, ei⟩ | ⟨h, ei, hh⟩ | ⟨er, ei⟩
  · rw [ei]
    w_dflts ll
    exact fin _ hs _ _ hin (by omega) (by w_dflts im)
  · rw [ei]
    have hl2 : (List.map hD hs).length < 10000000 := by rw [List.length_map]; omega
    w_dflts ll
    refine ite_nm (fun _ => ?_) fun _ => ?_
    · w_dflts ll
      rw [e1, e2] at hh
      refine fin _ (hs ++ [h]) _ _ (fun x hx => (List.mem_append.mp hx).elim (hin x) fun z => by rw [List.mem_singleton.mp z]; exact hh) (by rw [List.length_append, List.length_singleton]; omega) ?_
      rw [List.map_append]
      w_dflts im
    · w_dflts ll
      exact fin _ hs _ _ hin (by omega) (by w_dflts im)
  · rw [ei]
    w_dflts ll
    refine ite_n (fun z => absurd rfl z) fun _ => ?_
    w_dflts ll
    exact fin _ hs _ _ hin (by omega) (by w_dflts im)
theorem loopKn {X : Cx} {D : DL} (T : Txt X.K X.mg C) (B : Bd X 7 N_law (defScope s_law)) (W : Wk X C 7 (fun _ _ _ => False)) (a t s p kn : Addr) (n r : Int) (la rn : Bool) (n1 : 1 ≤ n) (n60 : n ≤ 60) (r1 : 1 ≤ r) (rk : r ≤ 1000) (rest : St) (x1 x2 : Option V)
    (q : ∀ (S : SS) (hs : List (Int × Int)) (y1 y2 : Option V), S.Ok → S.Wi → S.n = n → S.r = r → S.last = la → S.rnd = rn → (∀ h ∈ hs, InR n r h) → hs.length ≤ 100 → ∀ N, N ≤ 1000 → D.nx (some (.ref a) :: some (.ref t) :: some (.ref s) :: some (.ref p) :: some (.ref kn) :: y1 :: y2 :: rest) [StoreAt C.Store p S, ld kn (hs.map hD), tp s (setV n r la rn), dr X.K a t N]) :
    SL X (nth (defBody s_law) 4) D (some (.ref a) :: some (.ref t) :: some (.ref s) :: some (.ref p) :: some (.ref kn) :: x1 :: x2 :: rest) [pt kn (.lst []), StoreAt C.Store p (SS.new n r la rn), tp s (setV n r la rn), dr X.K a t 4] := by
  obtain ⟨n_script, n_town, n_settings, n_store, n_known, n_k, n_told, n_thing, n_other, n_third, n_before, n_deed, l_script, l_town, l_settings, l_store, l_known, l_k, l_told, l_thing, l_other, l_third, l_before, l_deed, g__law_settings, g_Store, g_range, g__law_draw, g__law_do, g__law_deed, g_isinstance, g_tuple, g_woken, g__law_seen, -⟩ := nm_law T B.nf
  have nd := B.nd
  have hc := B.calm
  refine sl_forR B.po B.calm nd l_k g_range ?_
  w_dflts ll
  intro m0 m1 m2
  obtain ⟨m, rfl⟩ : ∃ m : Nat, m0 = m := ⟨m0.toNat, by omega⟩
  refine ⟨_, rfl, by omega, by omega, _, invKn C X.K a t s p kn n r la rn rest, ⟨(SS.new n r la rn, [], _, _), ⟨SS.Ok.new n1 n60 r1 rk, SS.Wi.new, rfl, rfl, rfl, rfl, fun h hh => (by cases hh), Nat.le_refl 0⟩, rfl, ?_⟩, fun k x hk hx => ?_, fun x hx => ?_⟩
  · dsimp only [invKn]
    w_dflts im
  · obtain ⟨S, hs, x, y⟩ := x
    exact bodyKn T B W a t s p kn n r la rn n1 n60 r1 rk rest k (by omega) S hs x y hx
  · obtain ⟨S, hs, x, y⟩ := x
    obtain ⟨ok, wi, e1, e2, e3, e4, hin, hln⟩ := hx
    dsimp only at ok wi e1 e2 e3 e4 hin hln
    exact q S hs x y ok wi e1 e2 e3 e4 hin (by omega) _ (by omega)
end
end Sh
namespace Sh
section
variable {P : Program} {w : World} {K : PySem.W.Frag} {mg : Str → Option Value} {base : Heap} {C : Cl}
/-- both do the same -/
def inv08 (C : Cl) (K : PySem.W.Frag) (a t s p po kn : Addr) (n r : Int) (la rn : Bool) (hs : List (Int × Int)) (x6 x7 x9 x10 : Option V) (N k : Nat) : LI (SS × SS × Option V × Option V) :=
  ⟨fun x => x.1.Ok ∧ x.1.Wi ∧ x.2.1.Ok ∧ x.2.1.Wi ∧ Ev x.1 x.2.1,
   fun x => [some (.ref a), some (.ref t), some (.ref s), some (.ref p), some (.ref kn), x.2.2.1, x6, x7, some (.ref po), x9, x10, x.2.2.2],
   fun x => [StoreAt C.Store p x.1, StoreAt C.Store po x.2.1, ld kn (hs.map hD), tp s (setV n r la rn), dr K a t (N + 5 * k)]⟩
theorem body08 {X : Cx} {D : DL} (T : Txt X.K X.mg C) (B : Bd X 7 N_law (defScope s_law)) (W : Wk X C 7 (fun _ _ _ => False)) (a t s p po kn : Addr) (n r : Int) (la rn : Bool) (n1 : 1 ≤ n) (r1 : 1 ≤ r) (hs : List (Int × Int)) (hin : ∀ h ∈ hs, InR n r h) (x6 x7 x9 x10 : Option V) (N : Nat) (hN : N ≤ 2000)
    (k : Nat) (hk : k < 100) (x : SS × SS × Option V × Option V) (hx : (inv08 C X.K a t s p po kn n r la rn hs x6 x7 x9 x10 N k).ok x) :
    BL X (forBody (nth (defBody s_law) 12)) (D.loop (inv08 C X.K a t s p po kn n r la rn hs x6 x7 x9 x10 N (k + 1)).at) (((inv08 C X.K a t s p po kn n r la rn hs x6 x7 x9 x10 N k).st x).set 5 (some (.int (k : Int)))) ((inv08 C X.K a t s p po kn n r la rn hs x6 x7 x9 x10 N k).as x) := by
  obtain ⟨n_script, n_town, n_settings, n_store, n_known, n_k, n_told, n_thing, n_other, n_third, n_before, n_deed, l_script, l_town, l_settings, l_store, l_known, l_k, l_told, l_thing, l_other, l_third, l_before, l_deed, g__law_settings, g_Store, g_range, g__law_draw, g__law_do, g__law_deed, g_isinstance, g_tuple, g_woken, g__law_seen, -⟩ := nm_law T B.nf
  have nd := B.nd
  have hc := B.calm
  obtain ⟨S, S2, x5, x11⟩ := x
  obtain ⟨ok, wi, ok2, wi2, ev⟩ := hx
  dsimp only at ok wi ok2 wi2 ev
  dsimp only [inv08]
  w_dflts ll
  intro g v hg
  have pT := pl_tell ok wi g
  obtain ⟨e1, ev'⟩ := ev.tell g
  w_dflts ll
  intro ok1 wi1 r1'
  w_dflts ll
  intro ok2' wi2' r2'
  rw [e1]
  w_dflts ll
  intro b1
  w_dflts ll
  intro b2
  w_dflts ll
  refine ol_neD W (d := (S.tell g).2.seenD) (f := (S2.tell g).2.seenD) (Dsc.sn (by w_dflts mm)) (Dsc.sn (by w_dflts mm)) (j := 8) pl_seen pl_seen (by decide) ?_
  rw [ev'.seen ok1 ok2']
  w_dflts ll
  exact ⟨((S.tell g).2, (S2.tell g).2, _, _), ⟨ok1, wi1, ok2', wi2', ev'⟩, rfl, by w_dflts ig⟩
end
section
variable {P : Program} {w : World} {K : PySem.W.Frag} {mg : Str → Option Value} {base : Heap} {C : Cl}
/-- the third one does what it will -/
def inv08t (C : Cl) (K : PySem.W.Frag) (a t s p po p3 kn b : Addr) (n r : Int) (la rn : Bool) (S : SS) (hs : List (Int × Int)) (x6 x7 : Option V) (N k : Nat) : LI (SS × Option V) :=
  ⟨fun x => x.1.Ok ∧ x.1.Wi,
   fun x => [some (.ref a), some (.ref t), some (.ref s), some (.ref p), some (.ref kn), x.2, x6, x7, some (.ref po), some (.ref p3), some (.ref b), none],
   fun x => [StoreAt C.Store p3 x.1, StoreAt C.Store p S, StoreAt C.Store po S.nrm, sn b S, ld kn (hs.map hD), tp s (setV n r la rn), dr K a t (N + 5 * k)]⟩
theorem law_ok (T : Txt K mg C) {f : Addr} {fd : FuncData} (F : Fun K "law" "law" s_law f fd) : FnOk P w K mg base (L2N.CX P w) 8 f fd ["script"] (spLaw K) := by
  refine law_of (C := C) F sc_law rfl rfl (by first | exact .inl rfl | exact .inr rfl) fun X e1 e2 e3 e4 e5 B a t W => ?_
  subst e1 e2 e3 e4 e5
  obtain ⟨n_script, n_town, n_settings, n_store, n_known, n_k, n_told, n_thing, n_other, n_third, n_before, n_deed, l_script, l_town, l_settings, l_store, l_known, l_k, l_told, l_thing, l_other, l_third, l_before, l_deed, g__law_settings, g_Store, g_range, g__law_draw, g__law_do, g__law_deed, g_isinstance, g_tuple, g_woken, g__law_seen, -⟩ := nm_law T B.nf
  have nd := B.nd
  have hc := B.calm
  w_dflts ll
  intro s n r la rn hn hr
  obtain ⟨n1, n60⟩ := rngN hn
  obtain ⟨r1, rk⟩ := rngR hr
  w_dflts ll
  intro p dx
  refine sInit.i (n := n) (r := r) (last := la) (rnd := rn) (by w_dflts mz) n1 n60 r1 rk fun ok0 => ⟨rfl, ?_⟩
  w_dflts ll
  intro kn
  w_dflts lb
  apply bl_cons
  refine loopKn T B W a t s p kn n r la rn n1 n60 r1 rk _ _ _ fun S hs y1 y2 ok wi en er el ed hin hln N hN => ?_
  have okN := nrm_ok ok
  have ev := nrm_ev wi
  have wiN := ev.wi wi
  apply bl_cons
  refine sl_asgN ?_
  refine el_mN0 W n_store (by exact rfl) (Rc.store (by w_dflts mm) (fun _ => rfl)) (kS T) (ml_savedF T) (by decide) ?_
  apply Sg.i
  refine ⟨p, S, rfl, ok, wi, by w_dflts mm, fun th => ?_⟩
  w_dflts ll
  apply Sg.i
  refine ⟨th, S, rfl, ok, wi, by w_dflts mm, fun po => ?_⟩
  w_dflts ll
  apply Sg.i
  refine ⟨th, S, rfl, ok, wi, by w_dflts mm, fun p3 => ?_⟩
  w_dflts ll
  intro b
  w_dflts ll
  obtain ⟨dth, hth⟩ := Dsc.sv5 (K := X.K) (a := th) (S := S) (L := sn b S :: StoreAt C.Store p3 S.nrm :: StoreAt C.Store po S.nrm :: sv5 th S :: StoreAt C.Store p S :: ld kn (hs.map hD) :: tp s (setV n r la rn) :: [dr X.K a t N]) (by w_dflts mm)
  refine cl_isTt hth ?_
  w_dflts ll
  intro b2
  w_dflts ll
  refine ol_neD W (d := S.nrm.seenD) (f := S.seenD) (Dsc.sn (by w_dflts mm)) (Dsc.sn (by w_dflts mm)) (j := 8) pl_seen pl_seen (by decide) ?_
  rw [ev.seen ok okN]
  w_dflts lb
  refine BL.sub (L' := [StoreAt C.Store p3 S.nrm, StoreAt C.Store p S, StoreAt C.Store po S.nrm, sn b S, ld kn (hs.map hD), tp s (setV n r la rn), dr X.K a t N]) (by w_dflts im) ?_
  apply bl_cons
  refine sl_forR B.po B.calm nd l_k g_range ?_
  w_dflts ll
  refine ⟨by decide, by decide, _, inv08t C X.K a t s p po p3 kn b n r la rn S hs y2 (some (.ref th)) N, ⟨(S.nrm, y1), ⟨okN, wiN⟩, rfl, by dsimp only [inv08t]; w_dflts im⟩, fun k x hk hx => ?_, fun x hx => ?_⟩
  · obtain ⟨S3, x5⟩ := x
    obtain ⟨ok3, wi3⟩ := hx
    dsimp only at ok3 wi3
    have hk8 : k < 8 := hk
    dsimp only [inv08t]
    w_dflts ll
    intro g v hg
    w_dflts ll
    intro ok3' wi3' r3'
    exact ⟨((S3.tell g).2, _), ⟨ok3', wi3'⟩, rfl, by w_dflts ig⟩
  obtain ⟨S3, x5⟩ := x
  clear hx
  dsimp only [inv08t]
  w_dflts ll
  intro b3
  w_dflts ll
  refine ol_neD W (d := S.seenD) (f := S.seenD) (Dsc.sn (by w_dflts mm)) (Dsc.sn (by w_dflts mm)) (j := 8) pl_seen pl_seen (by decide) ?_
  w_dflts lb
  refine BL.sub (L' := [StoreAt C.Store p S, StoreAt C.Store po S.nrm, ld kn (hs.map hD), tp s (setV n r la rn), dr X.K a t (N + 5 * 8)]) (by w_dflts im) ?_
  apply bl_cons
  refine sl_forR B.po B.calm nd l_k g_range ?_
  w_dflts ll
  intro m0 m1 m2
  obtain ⟨m, rfl⟩ : ∃ m : Nat, m0 = m := ⟨m0.toNat, by omega⟩
  refine ⟨_, rfl, by omega, by omega, _, inv08 C X.K a t s p po kn n r la rn hs y2 (some (.ref th)) (some (.ref p3)) (some (.ref b)) (N + 5 * 8 + 1), ⟨(S, S.nrm, _, _), ⟨ok, wi, okN, wiN, ev⟩, rfl, by dsimp only [inv08]; w_dflts im⟩, fun k x hk hx => body08 T B W a t s p po kn n r la rn n1 r1 hs hin y2 (some (.ref th)) (some (.ref p3)) (some (.ref b)) _ (by omega) k (by omega) x hx, fun x hx => ?_⟩
  w_dflts ll
  rfl
end
end Sh
namespace Sh
theorem all_mk {P : Program} {w : World} {K : PySem.W.Frag} {h : Heap} {mg : Str → Option Value} {fa : Addr} (X : K.In h) (G : h.Ns mainGlobals mg) (hfa : mg "law" = some (.ref fa))
    {t_SLOTS : Tok}
    {t_ROUNDS : Tok}
    {t_WORTHS : Tok}
    {a_ORDERS : Addr} {t_ORDERS0 t_ORDERS1 : Tok} {o_ORDERS : Option Addr} {n_ORDERS : Nat} {s_ORDERS : Array (Option Value)}
    {a_ENDS : Addr} {t_ENDS0 t_ENDS1 : Tok} {o_ENDS : Option Addr} {n_ENDS : Nat} {s_ENDS : Array (Option Value)}
    {c_HandError : Addr}
    {c_NoSettings : Addr}
    {c_NoWorth : Addr}
    {c_NoHandle : Addr}
    {c_Stale : Addr}
    {c_Full : Addr}
    {c_NoPlace : Addr}
    {c_NoList : Addr}
    {c_NoNumber : Addr}
    {c_NotEmpty : Addr}
    {c_NoDeed : Addr}
    {c_Store : Addr}
    {f_is_whole : Addr} {oc_is_whole kV_is_whole dc_is_whole pm_is_whole cd_is_whole ct_is_whole : Value} {od_is_whole an_is_whole : Option Addr} {sl_is_whole : Array (Option Value)}
    {f_are_settings : Addr} {oc_are_settings kV_are_settings dc_are_settings pm_are_settings cd_are_settings ct_are_settings : Value} {od_are_settings an_are_settings : Option Addr} {sl_are_settings : Array (Option Value)}
    {f_checked : Addr} {oc_checked kV_checked dc_checked pm_checked cd_checked ct_checked : Value} {od_checked an_checked : Option Addr} {sl_checked : Array (Option Value)}
    {f_need_worth : Addr} {oc_need_worth kV_need_worth dc_need_worth pm_need_worth cd_need_worth ct_need_worth : Value} {od_need_worth an_need_worth : Option Addr} {sl_need_worth : Array (Option Value)}
    {f_is_handle : Addr} {oc_is_handle kV_is_handle dc_is_handle pm_is_handle cd_is_handle ct_is_handle : Value} {od_is_handle an_is_handle : Option Addr} {sl_is_handle : Array (Option Value)}
    {f_need_handle : Addr} {oc_need_handle kV_need_handle dc_need_handle pm_need_handle cd_need_handle ct_need_handle : Value} {od_need_handle an_need_handle : Option Addr} {sl_need_handle : Array (Option Value)}
    {f_Store___init__ : Addr} {oc_Store___init__ kV_Store___init__ dc_Store___init__ pm_Store___init__ cd_Store___init__ ct_Store___init__ : Value} {od_Store___init__ an_Store___init__ : Option Addr} {sl_Store___init__ : Array (Option Value)}
    {f_Store_put : Addr} {oc_Store_put kV_Store_put dc_Store_put pm_Store_put cd_Store_put ct_Store_put : Value} {od_Store_put an_Store_put : Option Addr} {sl_Store_put : Array (Option Value)}
    {f_Store_put_in : Addr} {oc_Store_put_in kV_Store_put_in dc_Store_put_in pm_Store_put_in cd_Store_put_in ct_Store_put_in : Value} {od_Store_put_in an_Store_put_in : Option Addr} {sl_Store_put_in : Array (Option Value)}
    {f_Store_holds : Addr} {oc_Store_holds kV_Store_holds dc_Store_holds pm_Store_holds cd_Store_holds ct_Store_holds : Value} {od_Store_holds an_Store_holds : Option Addr} {sl_Store_holds : Array (Option Value)}
    {f_Store_need : Addr} {oc_Store_need kV_Store_need dc_Store_need pm_Store_need cd_Store_need ct_Store_need : Value} {od_Store_need an_Store_need : Option Addr} {sl_Store_need : Array (Option Value)}
    {f_Store_get : Addr} {oc_Store_get kV_Store_get dc_Store_get pm_Store_get cd_Store_get ct_Store_get : Value} {od_Store_get an_Store_get : Option Addr} {sl_Store_get : Array (Option Value)}
    {f_Store_change : Addr} {oc_Store_change kV_Store_change dc_Store_change pm_Store_change cd_Store_change ct_Store_change : Value} {od_Store_change an_Store_change : Option Addr} {sl_Store_change : Array (Option Value)}
    {f_Store_drop : Addr} {oc_Store_drop kV_Store_drop dc_Store_drop pm_Store_drop cd_Store_drop ct_Store_drop : Value} {od_Store_drop an_Store_drop : Option Addr} {sl_Store_drop : Array (Option Value)}
    {f_Store_live : Addr} {oc_Store_live kV_Store_live dc_Store_live pm_Store_live cd_Store_live ct_Store_live : Value} {od_Store_live an_Store_live : Option Addr} {sl_Store_live : Array (Option Value)}
    {f_Store_many : Addr} {oc_Store_many kV_Store_many dc_Store_many pm_Store_many cd_Store_many ct_Store_many : Value} {od_Store_many an_Store_many : Option Addr} {sl_Store_many : Array (Option Value)}
    {f_Store_made : Addr} {oc_Store_made kV_Store_made dc_Store_made pm_Store_made cd_Store_made ct_Store_made : Value} {od_Store_made an_Store_made : Option Addr} {sl_Store_made : Array (Option Value)}
    {f_Store_free : Addr} {oc_Store_free kV_Store_free dc_Store_free pm_Store_free cd_Store_free ct_Store_free : Value} {od_Store_free an_Store_free : Option Addr} {sl_Store_free : Array (Option Value)}
    {f_Store_worn : Addr} {oc_Store_worn kV_Store_worn dc_Store_worn pm_Store_worn cd_Store_worn ct_Store_worn : Value} {od_Store_worn an_Store_worn : Option Addr} {sl_Store_worn : Array (Option Value)}
    {f_Store_room : Addr} {oc_Store_room kV_Store_room dc_Store_room pm_Store_room cd_Store_room ct_Store_room : Value} {od_Store_room an_Store_room : Option Addr} {sl_Store_room : Array (Option Value)}
    {f_Store_left : Addr} {oc_Store_left kV_Store_left dc_Store_left pm_Store_left cd_Store_left ct_Store_left : Value} {od_Store_left an_Store_left : Option Addr} {sl_Store_left : Array (Option Value)}
    {f_Store_saved : Addr} {oc_Store_saved kV_Store_saved dc_Store_saved pm_Store_saved cd_Store_saved ct_Store_saved : Value} {od_Store_saved an_Store_saved : Option Addr} {sl_Store_saved : Array (Option Value)}
    {f_woken : Addr} {oc_woken kV_woken dc_woken pm_woken cd_woken ct_woken : Value} {od_woken an_woken : Option Addr} {sl_woken : Array (Option Value)}
    {f__law_cell_at : Addr} {oc__law_cell_at kV__law_cell_at dc__law_cell_at pm__law_cell_at cd__law_cell_at ct__law_cell_at : Value} {od__law_cell_at an__law_cell_at : Option Addr} {sl__law_cell_at : Array (Option Value)}
    {f__law_mixed : Addr} {oc__law_mixed kV__law_mixed dc__law_mixed pm__law_mixed cd__law_mixed ct__law_mixed : Value} {od__law_mixed an__law_mixed : Option Addr} {sl__law_mixed : Array (Option Value)}
    {f__law_draw : Addr} {oc__law_draw kV__law_draw dc__law_draw pm__law_draw cd__law_draw ct__law_draw : Value} {od__law_draw an__law_draw : Option Addr} {sl__law_draw : Array (Option Value)}
    {f__law_pick : Addr} {oc__law_pick kV__law_pick dc__law_pick pm__law_pick cd__law_pick ct__law_pick : Value} {od__law_pick an__law_pick : Option Addr} {sl__law_pick : Array (Option Value)}
    {f__law_settings : Addr} {oc__law_settings kV__law_settings dc__law_settings pm__law_settings cd__law_settings ct__law_settings : Value} {od__law_settings an__law_settings : Option Addr} {sl__law_settings : Array (Option Value)}
    {f__law_some : Addr} {oc__law_some kV__law_some dc__law_some pm__law_some cd__law_some ct__law_some : Value} {od__law_some an__law_some : Option Addr} {sl__law_some : Array (Option Value)}
    {f__law_deed : Addr} {oc__law_deed kV__law_deed dc__law_deed pm__law_deed cd__law_deed ct__law_deed : Value} {od__law_deed an__law_deed : Option Addr} {sl__law_deed : Array (Option Value)}
    {f__law_which : Addr} {oc__law_which kV__law_which dc__law_which pm__law_which cd__law_which ct__law_which : Value} {od__law_which an__law_which : Option Addr} {sl__law_which : Array (Option Value)}
    {f__law_do : Addr} {oc__law_do kV__law_do dc__law_do pm__law_do cd__law_do ct__law_do : Value} {od__law_do an__law_do : Option Addr} {sl__law_do : Array (Option Value)}
    {f__law_seen : Addr} {oc__law_seen kV__law_seen dc__law_seen pm__law_seen cd__law_seen ct__law_seen : Value} {od__law_seen an__law_seen : Option Addr} {sl__law_seen : Array (Option Value)}
    {f_law : Addr} {oc_law kV_law dc_law pm_law cd_law ct_law : Value} {od_law an_law : Option Addr} {sl_law : Array (Option Value)}
    (z_isinstance : PySem.W.nsIn K mainGlobals "isinstance" = some none)
    (z_int : PySem.W.nsIn K mainGlobals "int" = some none)
    (z_bool : PySem.W.nsIn K mainGlobals "bool" = some none)
    (z_tuple : PySem.W.nsIn K mainGlobals "tuple" = some none)
    (z_len : PySem.W.nsIn K mainGlobals "len" = some none)
    (z_str : PySem.W.nsIn K mainGlobals "str" = some none)
    (z_sorted : PySem.W.nsIn K mainGlobals "sorted" = some none)
    (z_list : PySem.W.nsIn K mainGlobals "list" = some none)
    (z_sum : PySem.W.nsIn K mainGlobals "sum" = some none)
    (z_range : PySem.W.nsIn K mainGlobals "range" = some none)
    (z_dict : PySem.W.nsIn K mainGlobals "dict" = some none)
    (z_min : PySem.W.nsIn K mainGlobals "min" = some none)
    (z_ValueError : PySem.W.nsIn K mainGlobals "ValueError" = some none)
    (q_SLOTS : PySem.W.nsIn K mainGlobals "SLOTS" = some (some (.int 60 t_SLOTS)))
    (q_ROUNDS : PySem.W.nsIn K mainGlobals "ROUNDS" = some (some (.int 1000 t_ROUNDS)))
    (q_WORTHS : PySem.W.nsIn K mainGlobals "WORTHS" = some (some (.int 9999 t_WORTHS)))
    (q_ORDERS : PySem.W.nsIn K mainGlobals "ORDERS" = some (some (.ref a_ORDERS)))
    (l_ORDERS : K.lookup a_ORDERS = some ⟨.type "tuple", o_ORDERS, .seq #[.str "first" t_ORDERS0, .str "last" t_ORDERS1] n_ORDERS, s_ORDERS⟩)
    (q_ENDS : PySem.W.nsIn K mainGlobals "ENDS" = some (some (.ref a_ENDS)))
    (l_ENDS : K.lookup a_ENDS = some ⟨.type "tuple", o_ENDS, .seq #[.str "worn" t_ENDS0, .str "round" t_ENDS1] n_ENDS, s_ENDS⟩)
    (xa_HandError : PySem.W.nsIn K mainGlobals "HandError" = some (some (.ref c_HandError)))
    (xe_HandError : PySem.W.excIn K c_HandError [.type "ValueError", .type "Exception", .type "BaseException", .type "object"] "ValueError.__new__" = true)
    (xk_HandError : PySem.W.keepIn K (.ref c_HandError) = true)
    (xb_HandError : PySem.W.subIn K (.ref c_HandError) (.type "BaseException") = some true)
    (xt_HandError : PySem.W.typeIn K (.ref c_HandError) = some (.type "type"))
    (xa_NoSettings : PySem.W.nsIn K mainGlobals "NoSettings" = some (some (.ref c_NoSettings)))
    (xe_NoSettings : PySem.W.excIn K c_NoSettings [.type "ValueError", .type "Exception", .type "BaseException", .type "object"] "ValueError.__new__" = true)
    (xk_NoSettings : PySem.W.keepIn K (.ref c_NoSettings) = true)
    (xb_NoSettings : PySem.W.subIn K (.ref c_NoSettings) (.type "BaseException") = some true)
    (xt_NoSettings : PySem.W.typeIn K (.ref c_NoSettings) = some (.type "type"))
    (xa_NoWorth : PySem.W.nsIn K mainGlobals "NoWorth" = some (some (.ref c_NoWorth)))
    (xe_NoWorth : PySem.W.excIn K c_NoWorth [.type "ValueError", .type "Exception", .type "BaseException", .type "object"] "ValueError.__new__" = true)
    (xk_NoWorth : PySem.W.keepIn K (.ref c_NoWorth) = true)
    (xb_NoWorth : PySem.W.subIn K (.ref c_NoWorth) (.type "BaseException") = some true)
    (xt_NoWorth : PySem.W.typeIn K (.ref c_NoWorth) = some (.type "type"))
    (xa_NoHandle : PySem.W.nsIn K mainGlobals "NoHandle" = some (some (.ref c_NoHandle)))
    (xe_NoHandle : PySem.W.excIn K c_NoHandle [.type "ValueError", .type "Exception", .type "BaseException", .type "object"] "ValueError.__new__" = true)
    (xk_NoHandle : PySem.W.keepIn K (.ref c_NoHandle) = true)
    (xb_NoHandle : PySem.W.subIn K (.ref c_NoHandle) (.type "BaseException") = some true)
    (xt_NoHandle : PySem.W.typeIn K (.ref c_NoHandle) = some (.type "type"))
    (xa_Stale : PySem.W.nsIn K mainGlobals "Stale" = some (some (.ref c_Stale)))
    (xe_Stale : PySem.W.excIn K c_Stale [.type "ValueError", .type "Exception", .type "BaseException", .type "object"] "ValueError.__new__" = true)
    (xk_Stale : PySem.W.keepIn K (.ref c_Stale) = true)
    (xb_Stale : PySem.W.subIn K (.ref c_Stale) (.type "BaseException") = some true)
    (xt_Stale : PySem.W.typeIn K (.ref c_Stale) = some (.type "type"))
    (xa_Full : PySem.W.nsIn K mainGlobals "Full" = some (some (.ref c_Full)))
    (xe_Full : PySem.W.excIn K c_Full [.type "ValueError", .type "Exception", .type "BaseException", .type "object"] "ValueError.__new__" = true)
    (xk_Full : PySem.W.keepIn K (.ref c_Full) = true)
    (xb_Full : PySem.W.subIn K (.ref c_Full) (.type "BaseException") = some true)
    (xt_Full : PySem.W.typeIn K (.ref c_Full) = some (.type "type"))
    (xa_NoPlace : PySem.W.nsIn K mainGlobals "NoPlace" = some (some (.ref c_NoPlace)))
    (xe_NoPlace : PySem.W.excIn K c_NoPlace [.type "ValueError", .type "Exception", .type "BaseException", .type "object"] "ValueError.__new__" = true)
    (xk_NoPlace : PySem.W.keepIn K (.ref c_NoPlace) = true)
    (xb_NoPlace : PySem.W.subIn K (.ref c_NoPlace) (.type "BaseException") = some true)
    (xt_NoPlace : PySem.W.typeIn K (.ref c_NoPlace) = some (.type "type"))
    (xa_NoList : PySem.W.nsIn K mainGlobals "NoList" = some (some (.ref c_NoList)))
    (xe_NoList : PySem.W.excIn K c_NoList [.type "ValueError", .type "Exception", .type "BaseException", .type "object"] "ValueError.__new__" = true)
    (xk_NoList : PySem.W.keepIn K (.ref c_NoList) = true)
    (xb_NoList : PySem.W.subIn K (.ref c_NoList) (.type "BaseException") = some true)
    (xt_NoList : PySem.W.typeIn K (.ref c_NoList) = some (.type "type"))
    (xa_NoNumber : PySem.W.nsIn K mainGlobals "NoNumber" = some (some (.ref c_NoNumber)))
    (xe_NoNumber : PySem.W.excIn K c_NoNumber [.type "ValueError", .type "Exception", .type "BaseException", .type "object"] "ValueError.__new__" = true)
    (xk_NoNumber : PySem.W.keepIn K (.ref c_NoNumber) = true)
    (xb_NoNumber : PySem.W.subIn K (.ref c_NoNumber) (.type "BaseException") = some true)
    (xt_NoNumber : PySem.W.typeIn K (.ref c_NoNumber) = some (.type "type"))
    (xa_NotEmpty : PySem.W.nsIn K mainGlobals "NotEmpty" = some (some (.ref c_NotEmpty)))
    (xe_NotEmpty : PySem.W.excIn K c_NotEmpty [.type "ValueError", .type "Exception", .type "BaseException", .type "object"] "ValueError.__new__" = true)
    (xk_NotEmpty : PySem.W.keepIn K (.ref c_NotEmpty) = true)
    (xb_NotEmpty : PySem.W.subIn K (.ref c_NotEmpty) (.type "BaseException") = some true)
    (xt_NotEmpty : PySem.W.typeIn K (.ref c_NotEmpty) = some (.type "type"))
    (xa_NoDeed : PySem.W.nsIn K mainGlobals "NoDeed" = some (some (.ref c_NoDeed)))
    (xe_NoDeed : PySem.W.excIn K c_NoDeed [.type "ValueError", .type "Exception", .type "BaseException", .type "object"] "ValueError.__new__" = true)
    (xk_NoDeed : PySem.W.keepIn K (.ref c_NoDeed) = true)
    (xb_NoDeed : PySem.W.subIn K (.ref c_NoDeed) (.type "BaseException") = some true)
    (xt_NoDeed : PySem.W.typeIn K (.ref c_NoDeed) = some (.type "type"))
    (wn : PySem.W.specialIn K (.builtin "object.__class__") "__get__" = some (some (.builtin "getset_descriptor.__get__")))
    (wd_HandError : PySem.W.hasDictIn K c_HandError = true)
    (wt : PySem.W.takesIn K (.builtin "object.__class__") = some true)
    (wg_NoSettings : PySem.W.findIn K (.ref c_NoSettings) "__getattribute__" = some (some (.builtin "BaseException.__getattribute__")))
    (wk_NoSettings : PySem.W.findIn K (.ref c_NoSettings) "__getattr__" = some none)
    (wd_NoSettings : PySem.W.hasDictIn K c_NoSettings = true)
    (wa_NoSettings : PySem.W.findIn K (.ref c_NoSettings) "__class__" = some (some (.builtin "object.__class__")))
    (wm_NoSettings : PySem.W.mroIn K c_NoSettings (.type "object") = some true)
    (wv_NoSettings : PySem.W.subIn K (.ref c_NoSettings) (.type "ValueError") = some true)
    (wh_NoSettings : PySem.W.subIn K (.ref c_NoSettings) (.ref c_HandError) = some true)
    (wq_NoSettings_NoSettings : PySem.W.subIn K (.ref c_NoSettings) (.ref c_NoSettings) = some true)
    (wq_NoSettings_NoWorth : PySem.W.subIn K (.ref c_NoSettings) (.ref c_NoWorth) = some false)
    (wq_NoSettings_NoHandle : PySem.W.subIn K (.ref c_NoSettings) (.ref c_NoHandle) = some false)
    (wq_NoSettings_Stale : PySem.W.subIn K (.ref c_NoSettings) (.ref c_Stale) = some false)
    (wq_NoSettings_Full : PySem.W.subIn K (.ref c_NoSettings) (.ref c_Full) = some false)
    (wq_NoSettings_NoPlace : PySem.W.subIn K (.ref c_NoSettings) (.ref c_NoPlace) = some false)
    (wq_NoSettings_NoList : PySem.W.subIn K (.ref c_NoSettings) (.ref c_NoList) = some false)
    (wq_NoSettings_NoNumber : PySem.W.subIn K (.ref c_NoSettings) (.ref c_NoNumber) = some false)
    (wq_NoSettings_NotEmpty : PySem.W.subIn K (.ref c_NoSettings) (.ref c_NotEmpty) = some false)
    (wq_NoSettings_NoDeed : PySem.W.subIn K (.ref c_NoSettings) (.ref c_NoDeed) = some false)
    (wg_NoWorth : PySem.W.findIn K (.ref c_NoWorth) "__getattribute__" = some (some (.builtin "BaseException.__getattribute__")))
    (wk_NoWorth : PySem.W.findIn K (.ref c_NoWorth) "__getattr__" = some none)
    (wd_NoWorth : PySem.W.hasDictIn K c_NoWorth = true)
    (wa_NoWorth : PySem.W.findIn K (.ref c_NoWorth) "__class__" = some (some (.builtin "object.__class__")))
    (wm_NoWorth : PySem.W.mroIn K c_NoWorth (.type "object") = some true)
    (wv_NoWorth : PySem.W.subIn K (.ref c_NoWorth) (.type "ValueError") = some true)
    (wh_NoWorth : PySem.W.subIn K (.ref c_NoWorth) (.ref c_HandError) = some true)
    (wq_NoWorth_NoSettings : PySem.W.subIn K (.ref c_NoWorth) (.ref c_NoSettings) = some false)
    (wq_NoWorth_NoWorth : PySem.W.subIn K (.ref c_NoWorth) (.ref c_NoWorth) = some true)
    (wq_NoWorth_NoHandle : PySem.W.subIn K (.ref c_NoWorth) (.ref c_NoHandle) = some false)
    (wq_NoWorth_Stale : PySem.W.subIn K (.ref c_NoWorth) (.ref c_Stale) = some false)
    (wq_NoWorth_Full : PySem.W.subIn K (.ref c_NoWorth) (.ref c_Full) = some false)
    (wq_NoWorth_NoPlace : PySem.W.subIn K (.ref c_NoWorth) (.ref c_NoPlace) = some false)
    (wq_NoWorth_NoList : PySem.W.subIn K (.ref c_NoWorth) (.ref c_NoList) = some false)
    (wq_NoWorth_NoNumber : PySem.W.subIn K (.ref c_NoWorth) (.ref c_NoNumber) = some false)
    (wq_NoWorth_NotEmpty : PySem.W.subIn K (.ref c_NoWorth) (.ref c_NotEmpty) = some false)
    (wq_NoWorth_NoDeed : PySem.W.subIn K (.ref c_NoWorth) (.ref c_NoDeed) = some false)
    (wg_NoHandle : PySem.W.findIn K (.ref c_NoHandle) "__getattribute__" = some (some (.builtin "BaseException.__getattribute__")))
    (wk_NoHandle : PySem.W.findIn K (.ref c_NoHandle) "__getattr__" = some none)
    (wd_NoHandle : PySem.W.hasDictIn K c_NoHandle = true)
    (wa_NoHandle : PySem.W.findIn K (.ref c_NoHandle) "__class__" = some (some (.builtin "object.__class__")))
    (wm_NoHandle : PySem.W.mroIn K c_NoHandle (.type "object") = some true)
    (wv_NoHandle : PySem.W.subIn K (.ref c_NoHandle) (.type "ValueError") = some true)
    (wh_NoHandle : PySem.W.subIn K (.ref c_NoHandle) (.ref c_HandError) = some true)
    (wq_NoHandle_NoSettings : PySem.W.subIn K (.ref c_NoHandle) (.ref c_NoSettings) = some false)
    (wq_NoHandle_NoWorth : PySem.W.subIn K (.ref c_NoHandle) (.ref c_NoWorth) = some false)
    (wq_NoHandle_NoHandle : PySem.W.subIn K (.ref c_NoHandle) (.ref c_NoHandle) = some true)
    (wq_NoHandle_Stale : PySem.W.subIn K (.ref c_NoHandle) (.ref c_Stale) = some false)
    (wq_NoHandle_Full : PySem.W.subIn K (.ref c_NoHandle) (.ref c_Full) = some false)
    (wq_NoHandle_NoPlace : PySem.W.subIn K (.ref c_NoHandle) (.ref c_NoPlace) = some false)
    (wq_NoHandle_NoList : PySem.W.subIn K (.ref c_NoHandle) (.ref c_NoList) = some false)
    (wq_NoHandle_NoNumber : PySem.W.subIn K (.ref c_NoHandle) (.ref c_NoNumber) = some false)
    (wq_NoHandle_NotEmpty : PySem.W.subIn K (.ref c_NoHandle) (.ref c_NotEmpty) = some false)
    (wq_NoHandle_NoDeed : PySem.W.subIn K (.ref c_NoHandle) (.ref c_NoDeed) = some false)
    (wg_Stale : PySem.W.findIn K (.ref c_Stale) "__getattribute__" = some (some (.builtin "BaseException.__getattribute__")))
    (wk_Stale : PySem.W.findIn K (.ref c_Stale) "__getattr__" = some none)
    (wd_Stale : PySem.W.hasDictIn K c_Stale = true)
    (wa_Stale : PySem.W.findIn K (.ref c_Stale) "__class__" = some (some (.builtin "object.__class__")))
    (wm_Stale : PySem.W.mroIn K c_Stale (.type "object") = some true)
    (wv_Stale : PySem.W.subIn K (.ref c_Stale) (.type "ValueError") = some true)
    (wh_Stale : PySem.W.subIn K (.ref c_Stale) (.ref c_HandError) = some true)
    (wq_Stale_NoSettings : PySem.W.subIn K (.ref c_Stale) (.ref c_NoSettings) = some false)
    (wq_Stale_NoWorth : PySem.W.subIn K (.ref c_Stale) (.ref c_NoWorth) = some false)
    (wq_Stale_NoHandle : PySem.W.subIn K (.ref c_Stale) (.ref c_NoHandle) = some false)
    (wq_Stale_Stale : PySem.W.subIn K (.ref c_Stale) (.ref c_Stale) = some true)
    (wq_Stale_Full : PySem.W.subIn K (.ref c_Stale) (.ref c_Full) = some false)
    (wq_Stale_NoPlace : PySem.W.subIn K (.ref c_Stale) (.ref c_NoPlace) = some false)
    (wq_Stale_NoList : PySem.W.subIn K (.ref c_Stale) (.ref c_NoList) = some false)
    (wq_Stale_NoNumber : PySem.W.subIn K (.ref c_Stale) (.ref c_NoNumber) = some false)
    (wq_Stale_NotEmpty : PySem.W.subIn K (.ref c_Stale) (.ref c_NotEmpty) = some false)
    (wq_Stale_NoDeed : PySem.W.subIn K (.ref c_Stale) (.ref c_NoDeed) = some false)
    (wg_Full : PySem.W.findIn K (.ref c_Full) "__getattribute__" = some (some (.builtin "BaseException.__getattribute__")))
    (wk_Full : PySem.W.findIn K (.ref c_Full) "__getattr__" = some none)
    (wd_Full : PySem.W.hasDictIn K c_Full = true)
    (wa_Full : PySem.W.findIn K (.ref c_Full) "__class__" = some (some (.builtin "object.__class__")))
    (wm_Full : PySem.W.mroIn K c_Full (.type "object") = some true)
    (wv_Full : PySem.W.subIn K (.ref c_Full) (.type "ValueError") = some true)
    (wh_Full : PySem.W.subIn K (.ref c_Full) (.ref c_HandError) = some true)
    (wq_Full_NoSettings : PySem.W.subIn K (.ref c_Full) (.ref c_NoSettings) = some false)
    (wq_Full_NoWorth : PySem.W.subIn K (.ref c_Full) (.ref c_NoWorth) = some false)
    (wq_Full_NoHandle : PySem.W.subIn K (.ref c_Full) (.ref c_NoHandle) = some false)
    (wq_Full_Stale : PySem.W.subIn K (.ref c_Full) (.ref c_Stale) = some false)
    (wq_Full_Full : PySem.W.subIn K (.ref c_Full) (.ref c_Full) = some true)
    (wq_Full_NoPlace : PySem.W.subIn K (.ref c_Full) (.ref c_NoPlace) = some false)
    (wq_Full_NoList : PySem.W.subIn K (.ref c_Full) (.ref c_NoList) = some false)
    (wq_Full_NoNumber : PySem.W.subIn K (.ref c_Full) (.ref c_NoNumber) = some false)
    (wq_Full_NotEmpty : PySem.W.subIn K (.ref c_Full) (.ref c_NotEmpty) = some false)
    (wq_Full_NoDeed : PySem.W.subIn K (.ref c_Full) (.ref c_NoDeed) = some false)
    (wg_NoPlace : PySem.W.findIn K (.ref c_NoPlace) "__getattribute__" = some (some (.builtin "BaseException.__getattribute__")))
    (wk_NoPlace : PySem.W.findIn K (.ref c_NoPlace) "__getattr__" = some none)
    (wd_NoPlace : PySem.W.hasDictIn K c_NoPlace = true)
    (wa_NoPlace : PySem.W.findIn K (.ref c_NoPlace) "__class__" = some (some (.builtin "object.__class__")))
    (wm_NoPlace : PySem.W.mroIn K c_NoPlace (.type "object") = some true)
    (wv_NoPlace : PySem.W.subIn K (.ref c_NoPlace) (.type "ValueError") = some true)
    (wh_NoPlace : PySem.W.subIn K (.ref c_NoPlace) (.ref c_HandError) = some true)
    (wq_NoPlace_NoSettings : PySem.W.subIn K (.ref c_NoPlace) (.ref c_NoSettings) = some false)
    (wq_NoPlace_NoWorth : PySem.W.subIn K (.ref c_NoPlace) (.ref c_NoWorth) = some false)
    (wq_NoPlace_NoHandle : PySem.W.subIn K (.ref c_NoPlace) (.ref c_NoHandle) = some false)
    (wq_NoPlace_Stale : PySem.W.subIn K (.ref c_NoPlace) (.ref c_Stale) = some false)
    (wq_NoPlace_Full : PySem.W.subIn K (.ref c_NoPlace) (.ref c_Full) = some false)
    (wq_NoPlace_NoPlace : PySem.W.subIn K (.ref c_NoPlace) (.ref c_NoPlace) = some true)
    (wq_NoPlace_NoList : PySem.W.subIn K (.ref c_NoPlace) (.ref c_NoList) = some false)
    (wq_NoPlace_NoNumber : PySem.W.subIn K (.ref c_NoPlace) (.ref c_NoNumber) = some false)
    (wq_NoPlace_NotEmpty : PySem.W.subIn K (.ref c_NoPlace) (.ref c_NotEmpty) = some false)
    (wq_NoPlace_NoDeed : PySem.W.subIn K (.ref c_NoPlace) (.ref c_NoDeed) = some false)
    (wg_NoList : PySem.W.findIn K (.ref c_NoList) "__getattribute__" = some (some (.builtin "BaseException.__getattribute__")))
    (wk_NoList : PySem.W.findIn K (.ref c_NoList) "__getattr__" = some none)
    (wd_NoList : PySem.W.hasDictIn K c_NoList = true)
    (wa_NoList : PySem.W.findIn K (.ref c_NoList) "__class__" = some (some (.builtin "object.__class__")))
    (wm_NoList : PySem.W.mroIn K c_NoList (.type "object") = some true)
    (wv_NoList : PySem.W.subIn K (.ref c_NoList) (.type "ValueError") = some true)
    (wh_NoList : PySem.W.subIn K (.ref c_NoList) (.ref c_HandError) = some true)
    (wq_NoList_NoSettings : PySem.W.subIn K (.ref c_NoList) (.ref c_NoSettings) = some false)
    (wq_NoList_NoWorth : PySem.W.subIn K (.ref c_NoList) (.ref c_NoWorth) = some false)
    (wq_NoList_NoHandle : PySem.W.subIn K (.ref c_NoList) (.ref c_NoHandle) = some false)
    (wq_NoList_Stale : PySem.W.subIn K (.ref c_NoList) (.ref c_Stale) = some false)
    (wq_NoList_Full : PySem.W.subIn K (.ref c_NoList) (.ref c_Full) = some false)
    (wq_NoList_NoPlace : PySem.W.subIn K (.ref c_NoList) (.ref c_NoPlace) = some false)
    (wq_NoList_NoList : PySem.W.subIn K (.ref c_NoList) (.ref c_NoList) = some true)
    (wq_NoList_NoNumber : PySem.W.subIn K (.ref c_NoList) (.ref c_NoNumber) = some false)
    (wq_NoList_NotEmpty : PySem.W.subIn K (.ref c_NoList) (.ref c_NotEmpty) = some false)
    (wq_NoList_NoDeed : PySem.W.subIn K (.ref c_NoList) (.ref c_NoDeed) = some false)
    (wg_NoNumber : PySem.W.findIn K (.ref c_NoNumber) "__getattribute__" = some (some (.builtin "BaseException.__getattribute__")))
    (wk_NoNumber : PySem.W.findIn K (.ref c_NoNumber) "__getattr__" = some none)
    (wd_NoNumber : PySem.W.hasDictIn K c_NoNumber = true)
    (wa_NoNumber : PySem.W.findIn K (.ref c_NoNumber) "__class__" = some (some (.builtin "object.__class__")))
    (wm_NoNumber : PySem.W.mroIn K c_NoNumber (.type "object") = some true)
    (wv_NoNumber : PySem.W.subIn K (.ref c_NoNumber) (.type "ValueError") = some true)
    (wh_NoNumber : PySem.W.subIn K (.ref c_NoNumber) (.ref c_HandError) = some true)
    (wq_NoNumber_NoSettings : PySem.W.subIn K (.ref c_NoNumber) (.ref c_NoSettings) = some false)
    (wq_NoNumber_NoWorth : PySem.W.subIn K (.ref c_NoNumber) (.ref c_NoWorth) = some false)
    (wq_NoNumber_NoHandle : PySem.W.subIn K (.ref c_NoNumber) (.ref c_NoHandle) = some false)
    (wq_NoNumber_Stale : PySem.W.subIn K (.ref c_NoNumber) (.ref c_Stale) = some false)
    (wq_NoNumber_Full : PySem.W.subIn K (.ref c_NoNumber) (.ref c_Full) = some false)
    (wq_NoNumber_NoPlace : PySem.W.subIn K (.ref c_NoNumber) (.ref c_NoPlace) = some false)
    (wq_NoNumber_NoList : PySem.W.subIn K (.ref c_NoNumber) (.ref c_NoList) = some false)
    (wq_NoNumber_NoNumber : PySem.W.subIn K (.ref c_NoNumber) (.ref c_NoNumber) = some true)
    (wq_NoNumber_NotEmpty : PySem.W.subIn K (.ref c_NoNumber) (.ref c_NotEmpty) = some false)
    (wq_NoNumber_NoDeed : PySem.W.subIn K (.ref c_NoNumber) (.ref c_NoDeed) = some false)
    (wg_NotEmpty : PySem.W.findIn K (.ref c_NotEmpty) "__getattribute__" = some (some (.builtin "BaseException.__getattribute__")))
    (wk_NotEmpty : PySem.W.findIn K (.ref c_NotEmpty) "__getattr__" = some none)
    (wd_NotEmpty : PySem.W.hasDictIn K c_NotEmpty = true)
    (wa_NotEmpty : PySem.W.findIn K (.ref c_NotEmpty) "__class__" = some (some (.builtin "object.__class__")))
    (wm_NotEmpty : PySem.W.mroIn K c_NotEmpty (.type "object") = some true)
    (wv_NotEmpty : PySem.W.subIn K (.ref c_NotEmpty) (.type "ValueError") = some true)
    (wh_NotEmpty : PySem.W.subIn K (.ref c_NotEmpty) (.ref c_HandError) = some true)
    (wq_NotEmpty_NoSettings : PySem.W.subIn K (.ref c_NotEmpty) (.ref c_NoSettings) = some false)
    (wq_NotEmpty_NoWorth : PySem.W.subIn K (.ref c_NotEmpty) (.ref c_NoWorth) = some false)
    (wq_NotEmpty_NoHandle : PySem.W.subIn K (.ref c_NotEmpty) (.ref c_NoHandle) = some false)
    (wq_NotEmpty_Stale : PySem.W.subIn K (.ref c_NotEmpty) (.ref c_Stale) = some false)
    (wq_NotEmpty_Full : PySem.W.subIn K (.ref c_NotEmpty) (.ref c_Full) = some false)
    (wq_NotEmpty_NoPlace : PySem.W.subIn K (.ref c_NotEmpty) (.ref c_NoPlace) = some false)
    (wq_NotEmpty_NoList : PySem.W.subIn K (.ref c_NotEmpty) (.ref c_NoList) = some false)
    (wq_NotEmpty_NoNumber : PySem.W.subIn K (.ref c_NotEmpty) (.ref c_NoNumber) = some false)
    (wq_NotEmpty_NotEmpty : PySem.W.subIn K (.ref c_NotEmpty) (.ref c_NotEmpty) = some true)
    (wq_NotEmpty_NoDeed : PySem.W.subIn K (.ref c_NotEmpty) (.ref c_NoDeed) = some false)
    (wg_NoDeed : PySem.W.findIn K (.ref c_NoDeed) "__getattribute__" = some (some (.builtin "BaseException.__getattribute__")))
    (wk_NoDeed : PySem.W.findIn K (.ref c_NoDeed) "__getattr__" = some none)
    (wd_NoDeed : PySem.W.hasDictIn K c_NoDeed = true)
    (wa_NoDeed : PySem.W.findIn K (.ref c_NoDeed) "__class__" = some (some (.builtin "object.__class__")))
    (wm_NoDeed : PySem.W.mroIn K c_NoDeed (.type "object") = some true)
    (wv_NoDeed : PySem.W.subIn K (.ref c_NoDeed) (.type "ValueError") = some true)
    (wh_NoDeed : PySem.W.subIn K (.ref c_NoDeed) (.ref c_HandError) = some true)
    (wq_NoDeed_NoSettings : PySem.W.subIn K (.ref c_NoDeed) (.ref c_NoSettings) = some false)
    (wq_NoDeed_NoWorth : PySem.W.subIn K (.ref c_NoDeed) (.ref c_NoWorth) = some false)
    (wq_NoDeed_NoHandle : PySem.W.subIn K (.ref c_NoDeed) (.ref c_NoHandle) = some false)
    (wq_NoDeed_Stale : PySem.W.subIn K (.ref c_NoDeed) (.ref c_Stale) = some false)
    (wq_NoDeed_Full : PySem.W.subIn K (.ref c_NoDeed) (.ref c_Full) = some false)
    (wq_NoDeed_NoPlace : PySem.W.subIn K (.ref c_NoDeed) (.ref c_NoPlace) = some false)
    (wq_NoDeed_NoList : PySem.W.subIn K (.ref c_NoDeed) (.ref c_NoList) = some false)
    (wq_NoDeed_NoNumber : PySem.W.subIn K (.ref c_NoDeed) (.ref c_NoNumber) = some false)
    (wq_NoDeed_NotEmpty : PySem.W.subIn K (.ref c_NoDeed) (.ref c_NotEmpty) = some false)
    (wq_NoDeed_NoDeed : PySem.W.subIn K (.ref c_NoDeed) (.ref c_NoDeed) = some true)
    (ka_Store : PySem.W.nsIn K mainGlobals "Store" = some (some (.ref c_Store)))
    (kp_Store : PySem.W.plainGet K c_Store Str.empty = true)
    (kh_Store : PySem.W.hasDictIn K c_Store = true)
    (ko_Store : PySem.W.plainOver K c_Store = true)
    (ks_Store : PySem.W.findIn K (.ref c_Store) "__setattr__" = some (some (.builtin "object.__setattr__")))
    (km_Store : PySem.W.makesIn K c_Store = true)
    (kk_Store : PySem.W.keepIn K (.ref c_Store) = true)
    (n_Store_settings : PySem.W.findIn K (.ref c_Store) "settings" = some none)
    (n_Store_counts : PySem.W.findIn K (.ref c_Store) "counts" = some none)
    (n_Store_worths : PySem.W.findIn K (.ref c_Store) "worths" = some none)
    (n_Store_line : PySem.W.findIn K (.ref c_Store) "line" = some none)
    (n_Store_gone : PySem.W.findIn K (.ref c_Store) "gone" = some none)
    (da_is_whole : PySem.W.nsIn K mainGlobals "is_whole" = some (some (.ref f_is_whole)))
    (dl_is_whole : K.lookup f_is_whole = some ⟨oc_is_whole, od_is_whole, .func (PySem.W.fnOf "is_whole" "is_whole" (defArgs s_is_whole) (defBody s_is_whole) (defScope s_is_whole) .none kV_is_whole dc_is_whole pm_is_whole an_is_whole cd_is_whole ct_is_whole), sl_is_whole⟩)
    (dc_is_whole' : PySem.W.codeIn K cd_is_whole "is_whole" = true)
    (dk_is_whole : PySem.W.keepIn K (.ref f_is_whole) = true)
    (da_are_settings : PySem.W.nsIn K mainGlobals "are_settings" = some (some (.ref f_are_settings)))
    (dl_are_settings : K.lookup f_are_settings = some ⟨oc_are_settings, od_are_settings, .func (PySem.W.fnOf "are_settings" "are_settings" (defArgs s_are_settings) (defBody s_are_settings) (defScope s_are_settings) .none kV_are_settings dc_are_settings pm_are_settings an_are_settings cd_are_settings ct_are_settings), sl_are_settings⟩)
    (dc_are_settings' : PySem.W.codeIn K cd_are_settings "are_settings" = true)
    (dk_are_settings : PySem.W.keepIn K (.ref f_are_settings) = true)
    (da_checked : PySem.W.nsIn K mainGlobals "checked" = some (some (.ref f_checked)))
    (dl_checked : K.lookup f_checked = some ⟨oc_checked, od_checked, .func (PySem.W.fnOf "checked" "checked" (defArgs s_checked) (defBody s_checked) (defScope s_checked) .none kV_checked dc_checked pm_checked an_checked cd_checked ct_checked), sl_checked⟩)
    (dc_checked' : PySem.W.codeIn K cd_checked "checked" = true)
    (dk_checked : PySem.W.keepIn K (.ref f_checked) = true)
    (da_need_worth : PySem.W.nsIn K mainGlobals "need_worth" = some (some (.ref f_need_worth)))
    (dl_need_worth : K.lookup f_need_worth = some ⟨oc_need_worth, od_need_worth, .func (PySem.W.fnOf "need_worth" "need_worth" (defArgs s_need_worth) (defBody s_need_worth) (defScope s_need_worth) .none kV_need_worth dc_need_worth pm_need_worth an_need_worth cd_need_worth ct_need_worth), sl_need_worth⟩)
    (dc_need_worth' : PySem.W.codeIn K cd_need_worth "need_worth" = true)
    (dk_need_worth : PySem.W.keepIn K (.ref f_need_worth) = true)
    (da_is_handle : PySem.W.nsIn K mainGlobals "is_handle" = some (some (.ref f_is_handle)))
    (dl_is_handle : K.lookup f_is_handle = some ⟨oc_is_handle, od_is_handle, .func (PySem.W.fnOf "is_handle" "is_handle" (defArgs s_is_handle) (defBody s_is_handle) (defScope s_is_handle) .none kV_is_handle dc_is_handle pm_is_handle an_is_handle cd_is_handle ct_is_handle), sl_is_handle⟩)
    (dc_is_handle' : PySem.W.codeIn K cd_is_handle "is_handle" = true)
    (dk_is_handle : PySem.W.keepIn K (.ref f_is_handle) = true)
    (da_need_handle : PySem.W.nsIn K mainGlobals "need_handle" = some (some (.ref f_need_handle)))
    (dl_need_handle : K.lookup f_need_handle = some ⟨oc_need_handle, od_need_handle, .func (PySem.W.fnOf "need_handle" "need_handle" (defArgs s_need_handle) (defBody s_need_handle) (defScope s_need_handle) .none kV_need_handle dc_need_handle pm_need_handle an_need_handle cd_need_handle ct_need_handle), sl_need_handle⟩)
    (dc_need_handle' : PySem.W.codeIn K cd_need_handle "need_handle" = true)
    (dk_need_handle : PySem.W.keepIn K (.ref f_need_handle) = true)
    (da_Store___init__ : PySem.W.findIn K (.ref c_Store) "__init__" = some (some (.ref f_Store___init__)))
    (di_Store___init__ : PySem.W.isFn K (.ref f_Store___init__) = true)
    (dl_Store___init__ : K.lookup f_Store___init__ = some ⟨oc_Store___init__, od_Store___init__, .func (PySem.W.fnOf "__init__" "Store.__init__" (defArgs s_Store___init__) (defBody s_Store___init__) (defScope s_Store___init__) .none kV_Store___init__ dc_Store___init__ pm_Store___init__ an_Store___init__ cd_Store___init__ ct_Store___init__), sl_Store___init__⟩)
    (dc_Store___init__' : PySem.W.codeIn K cd_Store___init__ "Store.__init__" = true)
    (dk_Store___init__ : PySem.W.keepIn K (.ref f_Store___init__) = true)
    (da_Store_put : PySem.W.findIn K (.ref c_Store) "put" = some (some (.ref f_Store_put)))
    (di_Store_put : PySem.W.isFn K (.ref f_Store_put) = true)
    (dl_Store_put : K.lookup f_Store_put = some ⟨oc_Store_put, od_Store_put, .func (PySem.W.fnOf "put" "Store.put" (defArgs s_Store_put) (defBody s_Store_put) (defScope s_Store_put) .none kV_Store_put dc_Store_put pm_Store_put an_Store_put cd_Store_put ct_Store_put), sl_Store_put⟩)
    (dc_Store_put' : PySem.W.codeIn K cd_Store_put "Store.put" = true)
    (dk_Store_put : PySem.W.keepIn K (.ref f_Store_put) = true)
    (da_Store_put_in : PySem.W.findIn K (.ref c_Store) "put_in" = some (some (.ref f_Store_put_in)))
    (di_Store_put_in : PySem.W.isFn K (.ref f_Store_put_in) = true)
    (dl_Store_put_in : K.lookup f_Store_put_in = some ⟨oc_Store_put_in, od_Store_put_in, .func (PySem.W.fnOf "put_in" "Store.put_in" (defArgs s_Store_put_in) (defBody s_Store_put_in) (defScope s_Store_put_in) .none kV_Store_put_in dc_Store_put_in pm_Store_put_in an_Store_put_in cd_Store_put_in ct_Store_put_in), sl_Store_put_in⟩)
    (dc_Store_put_in' : PySem.W.codeIn K cd_Store_put_in "Store.put_in" = true)
    (dk_Store_put_in : PySem.W.keepIn K (.ref f_Store_put_in) = true)
    (da_Store_holds : PySem.W.findIn K (.ref c_Store) "holds" = some (some (.ref f_Store_holds)))
    (di_Store_holds : PySem.W.isFn K (.ref f_Store_holds) = true)
    (dl_Store_holds : K.lookup f_Store_holds = some ⟨oc_Store_holds, od_Store_holds, .func (PySem.W.fnOf "holds" "Store.holds" (defArgs s_Store_holds) (defBody s_Store_holds) (defScope s_Store_holds) .none kV_Store_holds dc_Store_holds pm_Store_holds an_Store_holds cd_Store_holds ct_Store_holds), sl_Store_holds⟩)
    (dc_Store_holds' : PySem.W.codeIn K cd_Store_holds "Store.holds" = true)
    (dk_Store_holds : PySem.W.keepIn K (.ref f_Store_holds) = true)
    (da_Store_need : PySem.W.findIn K (.ref c_Store) "need" = some (some (.ref f_Store_need)))
    (di_Store_need : PySem.W.isFn K (.ref f_Store_need) = true)
    (dl_Store_need : K.lookup f_Store_need = some ⟨oc_Store_need, od_Store_need, .func (PySem.W.fnOf "need" "Store.need" (defArgs s_Store_need) (defBody s_Store_need) (defScope s_Store_need) .none kV_Store_need dc_Store_need pm_Store_need an_Store_need cd_Store_need ct_Store_need), sl_Store_need⟩)
    (dc_Store_need' : PySem.W.codeIn K cd_Store_need "Store.need" = true)
    (dk_Store_need : PySem.W.keepIn K (.ref f_Store_need) = true)
    (da_Store_get : PySem.W.findIn K (.ref c_Store) "get" = some (some (.ref f_Store_get)))
    (di_Store_get : PySem.W.isFn K (.ref f_Store_get) = true)
    (dl_Store_get : K.lookup f_Store_get = some ⟨oc_Store_get, od_Store_get, .func (PySem.W.fnOf "get" "Store.get" (defArgs s_Store_get) (defBody s_Store_get) (defScope s_Store_get) .none kV_Store_get dc_Store_get pm_Store_get an_Store_get cd_Store_get ct_Store_get), sl_Store_get⟩)
    (dc_Store_get' : PySem.W.codeIn K cd_Store_get "Store.get" = true)
    (dk_Store_get : PySem.W.keepIn K (.ref f_Store_get) = true)
    (da_Store_change : PySem.W.findIn K (.ref c_Store) "change" = some (some (.ref f_Store_change)))
    (di_Store_change : PySem.W.isFn K (.ref f_Store_change) = true)
    (dl_Store_change : K.lookup f_Store_change = some ⟨oc_Store_change, od_Store_change, .func (PySem.W.fnOf "change" "Store.change" (defArgs s_Store_change) (defBody s_Store_change) (defScope s_Store_change) .none kV_Store_change dc_Store_change pm_Store_change an_Store_change cd_Store_change ct_Store_change), sl_Store_change⟩)
    (dc_Store_change' : PySem.W.codeIn K cd_Store_change "Store.change" = true)
    (dk_Store_change : PySem.W.keepIn K (.ref f_Store_change) = true)
    (da_Store_drop : PySem.W.findIn K (.ref c_Store) "drop" = some (some (.ref f_Store_drop)))
    (di_Store_drop : PySem.W.isFn K (.ref f_Store_drop) = true)
    (dl_Store_drop : K.lookup f_Store_drop = some ⟨oc_Store_drop, od_Store_drop, .func (PySem.W.fnOf "drop" "Store.drop" (defArgs s_Store_drop) (defBody s_Store_drop) (defScope s_Store_drop) .none kV_Store_drop dc_Store_drop pm_Store_drop an_Store_drop cd_Store_drop ct_Store_drop), sl_Store_drop⟩)
    (dc_Store_drop' : PySem.W.codeIn K cd_Store_drop "Store.drop" = true)
    (dk_Store_drop : PySem.W.keepIn K (.ref f_Store_drop) = true)
    (da_Store_live : PySem.W.findIn K (.ref c_Store) "live" = some (some (.ref f_Store_live)))
    (di_Store_live : PySem.W.isFn K (.ref f_Store_live) = true)
    (dl_Store_live : K.lookup f_Store_live = some ⟨oc_Store_live, od_Store_live, .func (PySem.W.fnOf "live" "Store.live" (defArgs s_Store_live) (defBody s_Store_live) (defScope s_Store_live) .none kV_Store_live dc_Store_live pm_Store_live an_Store_live cd_Store_live ct_Store_live), sl_Store_live⟩)
    (dc_Store_live' : PySem.W.codeIn K cd_Store_live "Store.live" = true)
    (dk_Store_live : PySem.W.keepIn K (.ref f_Store_live) = true)
    (da_Store_many : PySem.W.findIn K (.ref c_Store) "many" = some (some (.ref f_Store_many)))
    (di_Store_many : PySem.W.isFn K (.ref f_Store_many) = true)
    (dl_Store_many : K.lookup f_Store_many = some ⟨oc_Store_many, od_Store_many, .func (PySem.W.fnOf "many" "Store.many" (defArgs s_Store_many) (defBody s_Store_many) (defScope s_Store_many) .none kV_Store_many dc_Store_many pm_Store_many an_Store_many cd_Store_many ct_Store_many), sl_Store_many⟩)
    (dc_Store_many' : PySem.W.codeIn K cd_Store_many "Store.many" = true)
    (dk_Store_many : PySem.W.keepIn K (.ref f_Store_many) = true)
    (da_Store_made : PySem.W.findIn K (.ref c_Store) "made" = some (some (.ref f_Store_made)))
    (di_Store_made : PySem.W.isFn K (.ref f_Store_made) = true)
    (dl_Store_made : K.lookup f_Store_made = some ⟨oc_Store_made, od_Store_made, .func (PySem.W.fnOf "made" "Store.made" (defArgs s_Store_made) (defBody s_Store_made) (defScope s_Store_made) .none kV_Store_made dc_Store_made pm_Store_made an_Store_made cd_Store_made ct_Store_made), sl_Store_made⟩)
    (dc_Store_made' : PySem.W.codeIn K cd_Store_made "Store.made" = true)
    (dk_Store_made : PySem.W.keepIn K (.ref f_Store_made) = true)
    (da_Store_free : PySem.W.findIn K (.ref c_Store) "free" = some (some (.ref f_Store_free)))
    (di_Store_free : PySem.W.isFn K (.ref f_Store_free) = true)
    (dl_Store_free : K.lookup f_Store_free = some ⟨oc_Store_free, od_Store_free, .func (PySem.W.fnOf "free" "Store.free" (defArgs s_Store_free) (defBody s_Store_free) (defScope s_Store_free) .none kV_Store_free dc_Store_free pm_Store_free an_Store_free cd_Store_free ct_Store_free), sl_Store_free⟩)
    (dc_Store_free' : PySem.W.codeIn K cd_Store_free "Store.free" = true)
    (dk_Store_free : PySem.W.keepIn K (.ref f_Store_free) = true)
    (da_Store_worn : PySem.W.findIn K (.ref c_Store) "worn" = some (some (.ref f_Store_worn)))
    (di_Store_worn : PySem.W.isFn K (.ref f_Store_worn) = true)
    (dl_Store_worn : K.lookup f_Store_worn = some ⟨oc_Store_worn, od_Store_worn, .func (PySem.W.fnOf "worn" "Store.worn" (defArgs s_Store_worn) (defBody s_Store_worn) (defScope s_Store_worn) .none kV_Store_worn dc_Store_worn pm_Store_worn an_Store_worn cd_Store_worn ct_Store_worn), sl_Store_worn⟩)
    (dc_Store_worn' : PySem.W.codeIn K cd_Store_worn "Store.worn" = true)
    (dk_Store_worn : PySem.W.keepIn K (.ref f_Store_worn) = true)
    (da_Store_room : PySem.W.findIn K (.ref c_Store) "room" = some (some (.ref f_Store_room)))
    (di_Store_room : PySem.W.isFn K (.ref f_Store_room) = true)
    (dl_Store_room : K.lookup f_Store_room = some ⟨oc_Store_room, od_Store_room, .func (PySem.W.fnOf "room" "Store.room" (defArgs s_Store_room) (defBody s_Store_room) (defScope s_Store_room) .none kV_Store_room dc_Store_room pm_Store_room an_Store_room cd_Store_room ct_Store_room), sl_Store_room⟩)
    (dc_Store_room' : PySem.W.codeIn K cd_Store_room "Store.room" = true)
    (dk_Store_room : PySem.W.keepIn K (.ref f_Store_room) = true)
    (da_Store_left : PySem.W.findIn K (.ref c_Store) "left" = some (some (.ref f_Store_left)))
    (di_Store_left : PySem.W.isFn K (.ref f_Store_left) = true)
    (dl_Store_left : K.lookup f_Store_left = some ⟨oc_Store_left, od_Store_left, .func (PySem.W.fnOf "left" "Store.left" (defArgs s_Store_left) (defBody s_Store_left) (defScope s_Store_left) .none kV_Store_left dc_Store_left pm_Store_left an_Store_left cd_Store_left ct_Store_left), sl_Store_left⟩)
    (dc_Store_left' : PySem.W.codeIn K cd_Store_left "Store.left" = true)
    (dk_Store_left : PySem.W.keepIn K (.ref f_Store_left) = true)
    (da_Store_saved : PySem.W.findIn K (.ref c_Store) "saved" = some (some (.ref f_Store_saved)))
    (di_Store_saved : PySem.W.isFn K (.ref f_Store_saved) = true)
    (dl_Store_saved : K.lookup f_Store_saved = some ⟨oc_Store_saved, od_Store_saved, .func (PySem.W.fnOf "saved" "Store.saved" (defArgs s_Store_saved) (defBody s_Store_saved) (defScope s_Store_saved) .none kV_Store_saved dc_Store_saved pm_Store_saved an_Store_saved cd_Store_saved ct_Store_saved), sl_Store_saved⟩)
    (dc_Store_saved' : PySem.W.codeIn K cd_Store_saved "Store.saved" = true)
    (dk_Store_saved : PySem.W.keepIn K (.ref f_Store_saved) = true)
    (da_woken : PySem.W.nsIn K mainGlobals "woken" = some (some (.ref f_woken)))
    (dl_woken : K.lookup f_woken = some ⟨oc_woken, od_woken, .func (PySem.W.fnOf "woken" "woken" (defArgs s_woken) (defBody s_woken) (defScope s_woken) .none kV_woken dc_woken pm_woken an_woken cd_woken ct_woken), sl_woken⟩)
    (dc_woken' : PySem.W.codeIn K cd_woken "woken" = true)
    (dk_woken : PySem.W.keepIn K (.ref f_woken) = true)
    (da__law_cell_at : PySem.W.nsIn K mainGlobals "_law_cell_at" = some (some (.ref f__law_cell_at)))
    (dl__law_cell_at : K.lookup f__law_cell_at = some ⟨oc__law_cell_at, od__law_cell_at, .func (PySem.W.fnOf "_law_cell_at" "_law_cell_at" (defArgs s__law_cell_at) (defBody s__law_cell_at) (defScope s__law_cell_at) .none kV__law_cell_at dc__law_cell_at pm__law_cell_at an__law_cell_at cd__law_cell_at ct__law_cell_at), sl__law_cell_at⟩)
    (dc__law_cell_at' : PySem.W.codeIn K cd__law_cell_at "_law_cell_at" = true)
    (dk__law_cell_at : PySem.W.keepIn K (.ref f__law_cell_at) = true)
    (da__law_mixed : PySem.W.nsIn K mainGlobals "_law_mixed" = some (some (.ref f__law_mixed)))
    (dl__law_mixed : K.lookup f__law_mixed = some ⟨oc__law_mixed, od__law_mixed, .func (PySem.W.fnOf "_law_mixed" "_law_mixed" (defArgs s__law_mixed) (defBody s__law_mixed) (defScope s__law_mixed) .none kV__law_mixed dc__law_mixed pm__law_mixed an__law_mixed cd__law_mixed ct__law_mixed), sl__law_mixed⟩)
    (dc__law_mixed' : PySem.W.codeIn K cd__law_mixed "_law_mixed" = true)
    (dk__law_mixed : PySem.W.keepIn K (.ref f__law_mixed) = true)
    (da__law_draw : PySem.W.nsIn K mainGlobals "_law_draw" = some (some (.ref f__law_draw)))
    (dl__law_draw : K.lookup f__law_draw = some ⟨oc__law_draw, od__law_draw, .func (PySem.W.fnOf "_law_draw" "_law_draw" (defArgs s__law_draw) (defBody s__law_draw) (defScope s__law_draw) .none kV__law_draw dc__law_draw pm__law_draw an__law_draw cd__law_draw ct__law_draw), sl__law_draw⟩)
    (dc__law_draw' : PySem.W.codeIn K cd__law_draw "_law_draw" = true)
    (dk__law_draw : PySem.W.keepIn K (.ref f__law_draw) = true)
    (da__law_pick : PySem.W.nsIn K mainGlobals "_law_pick" = some (some (.ref f__law_pick)))
    (dl__law_pick : K.lookup f__law_pick = some ⟨oc__law_pick, od__law_pick, .func (PySem.W.fnOf "_law_pick" "_law_pick" (defArgs s__law_pick) (defBody s__law_pick) (defScope s__law_pick) .none kV__law_pick dc__law_pick pm__law_pick an__law_pick cd__law_pick ct__law_pick), sl__law_pick⟩)
    (dc__law_pick' : PySem.W.codeIn K cd__law_pick "_law_pick" = true)
    (dk__law_pick : PySem.W.keepIn K (.ref f__law_pick) = true)
    (da__law_settings : PySem.W.nsIn K mainGlobals "_law_settings" = some (some (.ref f__law_settings)))
    (dl__law_settings : K.lookup f__law_settings = some ⟨oc__law_settings, od__law_settings, .func (PySem.W.fnOf "_law_settings" "_law_settings" (defArgs s__law_settings) (defBody s__law_settings) (defScope s__law_settings) .none kV__law_settings dc__law_settings pm__law_settings an__law_settings cd__law_settings ct__law_settings), sl__law_settings⟩)
    (dc__law_settings' : PySem.W.codeIn K cd__law_settings "_law_settings" = true)
    (dk__law_settings : PySem.W.keepIn K (.ref f__law_settings) = true)
    (da__law_some : PySem.W.nsIn K mainGlobals "_law_some" = some (some (.ref f__law_some)))
    (dl__law_some : K.lookup f__law_some = some ⟨oc__law_some, od__law_some, .func (PySem.W.fnOf "_law_some" "_law_some" (defArgs s__law_some) (defBody s__law_some) (defScope s__law_some) .none kV__law_some dc__law_some pm__law_some an__law_some cd__law_some ct__law_some), sl__law_some⟩)
    (dc__law_some' : PySem.W.codeIn K cd__law_some "_law_some" = true)
    (dk__law_some : PySem.W.keepIn K (.ref f__law_some) = true)
    (da__law_deed : PySem.W.nsIn K mainGlobals "_law_deed" = some (some (.ref f__law_deed)))
    (dl__law_deed : K.lookup f__law_deed = some ⟨oc__law_deed, od__law_deed, .func (PySem.W.fnOf "_law_deed" "_law_deed" (defArgs s__law_deed) (defBody s__law_deed) (defScope s__law_deed) .none kV__law_deed dc__law_deed pm__law_deed an__law_deed cd__law_deed ct__law_deed), sl__law_deed⟩)
    (dc__law_deed' : PySem.W.codeIn K cd__law_deed "_law_deed" = true)
    (dk__law_deed : PySem.W.keepIn K (.ref f__law_deed) = true)
    (da__law_which : PySem.W.nsIn K mainGlobals "_law_which" = some (some (.ref f__law_which)))
    (dl__law_which : K.lookup f__law_which = some ⟨oc__law_which, od__law_which, .func (PySem.W.fnOf "_law_which" "_law_which" (defArgs s__law_which) (defBody s__law_which) (defScope s__law_which) .none kV__law_which dc__law_which pm__law_which an__law_which cd__law_which ct__law_which), sl__law_which⟩)
    (dc__law_which' : PySem.W.codeIn K cd__law_which "_law_which" = true)
    (dk__law_which : PySem.W.keepIn K (.ref f__law_which) = true)
    (da__law_do : PySem.W.nsIn K mainGlobals "_law_do" = some (some (.ref f__law_do)))
    (dl__law_do : K.lookup f__law_do = some ⟨oc__law_do, od__law_do, .func (PySem.W.fnOf "_law_do" "_law_do" (defArgs s__law_do) (defBody s__law_do) (defScope s__law_do) .none kV__law_do dc__law_do pm__law_do an__law_do cd__law_do ct__law_do), sl__law_do⟩)
    (dc__law_do' : PySem.W.codeIn K cd__law_do "_law_do" = true)
    (dk__law_do : PySem.W.keepIn K (.ref f__law_do) = true)
    (da__law_seen : PySem.W.nsIn K mainGlobals "_law_seen" = some (some (.ref f__law_seen)))
    (dl__law_seen : K.lookup f__law_seen = some ⟨oc__law_seen, od__law_seen, .func (PySem.W.fnOf "_law_seen" "_law_seen" (defArgs s__law_seen) (defBody s__law_seen) (defScope s__law_seen) .none kV__law_seen dc__law_seen pm__law_seen an__law_seen cd__law_seen ct__law_seen), sl__law_seen⟩)
    (dc__law_seen' : PySem.W.codeIn K cd__law_seen "_law_seen" = true)
    (dk__law_seen : PySem.W.keepIn K (.ref f__law_seen) = true)
    (da_law : PySem.W.nsIn K mainGlobals "law" = some (some (.ref f_law)))
    (dl_law : K.lookup f_law = some ⟨oc_law, od_law, .func (PySem.W.fnOf "law" "law" (defArgs s_law) (defBody s_law) (defScope s_law) .none kV_law dc_law pm_law an_law cd_law ct_law), sl_law⟩)
    (dc_law' : PySem.W.codeIn K cd_law "law" = true)
    (dk_law : PySem.W.keepIn K (.ref f_law) = true) :
    ∃ fd : FuncData, (∀ (s : Shared) (v : Value), BindsTo s fd ⟨[v], []⟩ [("script", v)]) ∧ ∀ base : Heap, K.In base → base.Ns mainGlobals mg → FnOk P w K mg base (L2N.CX P w) 8 fa fd ["script"] (spLaw K) := by
  have T : Txt K mg ⟨c_HandError, c_NoSettings, c_NoWorth, c_NoHandle, c_Stale, c_Full, c_NoPlace, c_NoList, c_NoNumber, c_NotEmpty, c_NoDeed, c_Store, 0, 0, 0⟩ := by
    constructor
    case b_isinstance => exact PySem.W.mg_none_of X G z_isinstance
    case b_int => exact PySem.W.mg_none_of X G z_int
    case b_bool => exact PySem.W.mg_none_of X G z_bool
    case b_tuple => exact PySem.W.mg_none_of X G z_tuple
    case b_len => exact PySem.W.mg_none_of X G z_len
    case b_str => exact PySem.W.mg_none_of X G z_str
    case b_sorted => exact PySem.W.mg_none_of X G z_sorted
    case b_list => exact PySem.W.mg_none_of X G z_list
    case b_sum => exact PySem.W.mg_none_of X G z_sum
    case b_range => exact PySem.W.mg_none_of X G z_range
    case b_dict => exact PySem.W.mg_none_of X G z_dict
    case b_min => exact PySem.W.mg_none_of X G z_min
    case b_ValueError => exact PySem.W.mg_none_of X G z_ValueError
    case c_SLOTS => exact ⟨_, PySem.W.mg_of X G q_SLOTS⟩
    case c_ROUNDS => exact ⟨_, PySem.W.mg_of X G q_ROUNDS⟩
    case c_WORTHS => exact ⟨_, PySem.W.mg_of X G q_WORTHS⟩
    case c_ORDERS => exact ⟨_, PySem.W.mg_of X G q_ORDERS, fun _ => .inr ⟨_, _, _, l_ORDERS, rfl, rfl, by show 2 ≤ sizeLine; decide, .cons ⟨_, rfl⟩ (.cons ⟨_, rfl⟩ (.nil))⟩⟩
    case c_ENDS => exact ⟨_, PySem.W.mg_of X G q_ENDS, fun _ => .inr ⟨_, _, _, l_ENDS, rfl, rfl, by show 2 ≤ sizeLine; decide, .cons ⟨_, rfl⟩ (.cons ⟨_, rfl⟩ (.nil))⟩⟩
    case x_HandError => exact xn_mk X G xa_HandError xe_HandError xk_HandError xb_HandError xt_HandError
    case x_NoSettings => exact xn_mk X G xa_NoSettings xe_NoSettings xk_NoSettings xb_NoSettings xt_NoSettings
    case x_NoWorth => exact xn_mk X G xa_NoWorth xe_NoWorth xk_NoWorth xb_NoWorth xt_NoWorth
    case x_NoHandle => exact xn_mk X G xa_NoHandle xe_NoHandle xk_NoHandle xb_NoHandle xt_NoHandle
    case x_Stale => exact xn_mk X G xa_Stale xe_Stale xk_Stale xb_Stale xt_Stale
    case x_Full => exact xn_mk X G xa_Full xe_Full xk_Full xb_Full xt_Full
    case x_NoPlace => exact xn_mk X G xa_NoPlace xe_NoPlace xk_NoPlace xb_NoPlace xt_NoPlace
    case x_NoList => exact xn_mk X G xa_NoList xe_NoList xk_NoList xb_NoList xt_NoList
    case x_NoNumber => exact xn_mk X G xa_NoNumber xe_NoNumber xk_NoNumber xb_NoNumber xt_NoNumber
    case x_NotEmpty => exact xn_mk X G xa_NotEmpty xe_NotEmpty xk_NotEmpty xb_NotEmpty xt_NotEmpty
    case x_NoDeed => exact xn_mk X G xa_NoDeed xe_NoDeed xk_NoDeed xb_NoDeed xt_NoDeed
    case w_e => exact fun e => match e with | .NoSettings => ⟨wg_NoSettings, wk_NoSettings, xb_NoSettings, wd_NoSettings, wa_NoSettings, wn, wt, wm_NoSettings⟩ | .NoWorth => ⟨wg_NoWorth, wk_NoWorth, xb_NoWorth, wd_NoWorth, wa_NoWorth, wn, wt, wm_NoWorth⟩ | .NoHandle => ⟨wg_NoHandle, wk_NoHandle, xb_NoHandle, wd_NoHandle, wa_NoHandle, wn, wt, wm_NoHandle⟩ | .Stale => ⟨wg_Stale, wk_Stale, xb_Stale, wd_Stale, wa_Stale, wn, wt, wm_Stale⟩ | .Full => ⟨wg_Full, wk_Full, xb_Full, wd_Full, wa_Full, wn, wt, wm_Full⟩ | .NoPlace => ⟨wg_NoPlace, wk_NoPlace, xb_NoPlace, wd_NoPlace, wa_NoPlace, wn, wt, wm_NoPlace⟩ | .NoList => ⟨wg_NoList, wk_NoList, xb_NoList, wd_NoList, wa_NoList, wn, wt, wm_NoList⟩ | .NoNumber => ⟨wg_NoNumber, wk_NoNumber, xb_NoNumber, wd_NoNumber, wa_NoNumber, wn, wt, wm_NoNumber⟩ | .NotEmpty => ⟨wg_NotEmpty, wk_NotEmpty, xb_NotEmpty, wd_NotEmpty, wa_NotEmpty, wn, wt, wm_NotEmpty⟩ | .NoDeed => ⟨wg_NoDeed, wk_NoDeed, xb_NoDeed, wd_NoDeed, wa_NoDeed, wn, wt, wm_NoDeed⟩
    case w_k => exact fun e f => match e, f with | .NoSettings, .NoSettings => kit_self | .NoSettings, .NoWorth => kit_ref wd_NoWorth xt_NoWorth wq_NoSettings_NoSettings wq_NoSettings_NoWorth | .NoSettings, .NoHandle => kit_ref wd_NoHandle xt_NoHandle wq_NoSettings_NoSettings wq_NoSettings_NoHandle | .NoSettings, .Stale => kit_ref wd_Stale xt_Stale wq_NoSettings_NoSettings wq_NoSettings_Stale | .NoSettings, .Full => kit_ref wd_Full xt_Full wq_NoSettings_NoSettings wq_NoSettings_Full | .NoSettings, .NoPlace => kit_ref wd_NoPlace xt_NoPlace wq_NoSettings_NoSettings wq_NoSettings_NoPlace | .NoSettings, .NoList => kit_ref wd_NoList xt_NoList wq_NoSettings_NoSettings wq_NoSettings_NoList | .NoSettings, .NoNumber => kit_ref wd_NoNumber xt_NoNumber wq_NoSettings_NoSettings wq_NoSettings_NoNumber | .NoSettings, .NotEmpty => kit_ref wd_NotEmpty xt_NotEmpty wq_NoSettings_NoSettings wq_NoSettings_NotEmpty | .NoSettings, .NoDeed => kit_ref wd_NoDeed xt_NoDeed wq_NoSettings_NoSettings wq_NoSettings_NoDeed | .NoWorth, .NoSettings => kit_ref wd_NoSettings xt_NoSettings wq_NoWorth_NoWorth wq_NoWorth_NoSettings | .NoWorth, .NoWorth => kit_self | .NoWorth, .NoHandle => kit_ref wd_NoHandle xt_NoHandle wq_NoWorth_NoWorth wq_NoWorth_NoHandle | .NoWorth, .Stale => kit_ref wd_Stale xt_Stale wq_NoWorth_NoWorth wq_NoWorth_Stale | .NoWorth, .Full => kit_ref wd_Full xt_Full wq_NoWorth_NoWorth wq_NoWorth_Full | .NoWorth, .NoPlace => kit_ref wd_NoPlace xt_NoPlace wq_NoWorth_NoWorth wq_NoWorth_NoPlace | .NoWorth, .NoList => kit_ref wd_NoList xt_NoList wq_NoWorth_NoWorth wq_NoWorth_NoList | .NoWorth, .NoNumber => kit_ref wd_NoNumber xt_NoNumber wq_NoWorth_NoWorth wq_NoWorth_NoNumber | .NoWorth, .NotEmpty => kit_ref wd_NotEmpty xt_NotEmpty wq_NoWorth_NoWorth wq_NoWorth_NotEmpty | .NoWorth, .NoDeed => kit_ref wd_NoDeed xt_NoDeed wq_NoWorth_NoWorth wq_NoWorth_NoDeed | .NoHandle, .NoSettings => kit_ref wd_NoSettings xt_NoSettings wq_NoHandle_NoHandle wq_NoHandle_NoSettings | .NoHandle, .NoWorth => kit_ref wd_NoWorth xt_NoWorth wq_NoHandle_NoHandle wq_NoHandle_NoWorth | .NoHandle, .NoHandle => kit_self | .NoHandle, .Stale => kit_ref wd_Stale xt_Stale wq_NoHandle_NoHandle wq_NoHandle_Stale | .NoHandle, .Full => kit_ref wd_Full xt_Full wq_NoHandle_NoHandle wq_NoHandle_Full | .NoHandle, .NoPlace => kit_ref wd_NoPlace xt_NoPlace wq_NoHandle_NoHandle wq_NoHandle_NoPlace | .NoHandle, .NoList => kit_ref wd_NoList xt_NoList wq_NoHandle_NoHandle wq_NoHandle_NoList | .NoHandle, .NoNumber => kit_ref wd_NoNumber xt_NoNumber wq_NoHandle_NoHandle wq_NoHandle_NoNumber | .NoHandle, .NotEmpty => kit_ref wd_NotEmpty xt_NotEmpty wq_NoHandle_NoHandle wq_NoHandle_NotEmpty | .NoHandle, .NoDeed => kit_ref wd_NoDeed xt_NoDeed wq_NoHandle_NoHandle wq_NoHandle_NoDeed | .Stale, .NoSettings => kit_ref wd_NoSettings xt_NoSettings wq_Stale_Stale wq_Stale_NoSettings | .Stale, .NoWorth => kit_ref wd_NoWorth xt_NoWorth wq_Stale_Stale wq_Stale_NoWorth | .Stale, .NoHandle => kit_ref wd_NoHandle xt_NoHandle wq_Stale_Stale wq_Stale_NoHandle | .Stale, .Stale => kit_self | .Stale, .Full => kit_ref wd_Full xt_Full wq_Stale_Stale wq_Stale_Full | .Stale, .NoPlace => kit_ref wd_NoPlace xt_NoPlace wq_Stale_Stale wq_Stale_NoPlace | .Stale, .NoList => kit_ref wd_NoList xt_NoList wq_Stale_Stale wq_Stale_NoList | .Stale, .NoNumber => kit_ref wd_NoNumber xt_NoNumber wq_Stale_Stale wq_Stale_NoNumber | .Stale, .NotEmpty => kit_ref wd_NotEmpty xt_NotEmpty wq_Stale_Stale wq_Stale_NotEmpty | .Stale, .NoDeed => kit_ref wd_NoDeed xt_NoDeed wq_Stale_Stale wq_Stale_NoDeed | .Full, .NoSettings => kit_ref wd_NoSettings xt_NoSettings wq_Full_Full wq_Full_NoSettings | .Full, .NoWorth => kit_ref wd_NoWorth xt_NoWorth wq_Full_Full wq_Full_NoWorth | .Full, .NoHandle => kit_ref wd_NoHandle xt_NoHandle wq_Full_Full wq_Full_NoHandle | .Full, .Stale => kit_ref wd_Stale xt_Stale wq_Full_Full wq_Full_Stale | .Full, .Full => kit_self | .Full, .NoPlace => kit_ref wd_NoPlace xt_NoPlace wq_Full_Full wq_Full_NoPlace | .Full, .NoList => kit_ref wd_NoList xt_NoList wq_Full_Full wq_Full_NoList | .Full, .NoNumber => kit_ref wd_NoNumber xt_NoNumber wq_Full_Full wq_Full_NoNumber | .Full, .NotEmpty => kit_ref wd_NotEmpty xt_NotEmpty wq_Full_Full wq_Full_NotEmpty | .Full, .NoDeed => kit_ref wd_NoDeed xt_NoDeed wq_Full_Full wq_Full_NoDeed | .NoPlace, .NoSettings => kit_ref wd_NoSettings xt_NoSettings wq_NoPlace_NoPlace wq_NoPlace_NoSettings | .NoPlace, .NoWorth => kit_ref wd_NoWorth xt_NoWorth wq_NoPlace_NoPlace wq_NoPlace_NoWorth | .NoPlace, .NoHandle => kit_ref wd_NoHandle xt_NoHandle wq_NoPlace_NoPlace wq_NoPlace_NoHandle | .NoPlace, .Stale => kit_ref wd_Stale xt_Stale wq_NoPlace_NoPlace wq_NoPlace_Stale | .NoPlace, .Full => kit_ref wd_Full xt_Full wq_NoPlace_NoPlace wq_NoPlace_Full | .NoPlace, .NoPlace => kit_self | .NoPlace, .NoList => kit_ref wd_NoList xt_NoList wq_NoPlace_NoPlace wq_NoPlace_NoList | .NoPlace, .NoNumber => kit_ref wd_NoNumber xt_NoNumber wq_NoPlace_NoPlace wq_NoPlace_NoNumber | .NoPlace, .NotEmpty => kit_ref wd_NotEmpty xt_NotEmpty wq_NoPlace_NoPlace wq_NoPlace_NotEmpty | .NoPlace, .NoDeed => kit_ref wd_NoDeed xt_NoDeed wq_NoPlace_NoPlace wq_NoPlace_NoDeed | .NoList, .NoSettings => kit_ref wd_NoSettings xt_NoSettings wq_NoList_NoList wq_NoList_NoSettings | .NoList, .NoWorth => kit_ref wd_NoWorth xt_NoWorth wq_NoList_NoList wq_NoList_NoWorth | .NoList, .NoHandle => kit_ref wd_NoHandle xt_NoHandle wq_NoList_NoList wq_NoList_NoHandle | .NoList, .Stale => kit_ref wd_Stale xt_Stale wq_NoList_NoList wq_NoList_Stale | .NoList, .Full => kit_ref wd_Full xt_Full wq_NoList_NoList wq_NoList_Full | .NoList, .NoPlace => kit_ref wd_NoPlace xt_NoPlace wq_NoList_NoList wq_NoList_NoPlace | .NoList, .NoList => kit_self | .NoList, .NoNumber => kit_ref wd_NoNumber xt_NoNumber wq_NoList_NoList wq_NoList_NoNumber | .NoList, .NotEmpty => kit_ref wd_NotEmpty xt_NotEmpty wq_NoList_NoList wq_NoList_NotEmpty | .NoList, .NoDeed => kit_ref wd_NoDeed xt_NoDeed wq_NoList_NoList wq_NoList_NoDeed | .NoNumber, .NoSettings => kit_ref wd_NoSettings xt_NoSettings wq_NoNumber_NoNumber wq_NoNumber_NoSettings | .NoNumber, .NoWorth => kit_ref wd_NoWorth xt_NoWorth wq_NoNumber_NoNumber wq_NoNumber_NoWorth | .NoNumber, .NoHandle => kit_ref wd_NoHandle xt_NoHandle wq_NoNumber_NoNumber wq_NoNumber_NoHandle | .NoNumber, .Stale => kit_ref wd_Stale xt_Stale wq_NoNumber_NoNumber wq_NoNumber_Stale | .NoNumber, .Full => kit_ref wd_Full xt_Full wq_NoNumber_NoNumber wq_NoNumber_Full | .NoNumber, .NoPlace => kit_ref wd_NoPlace xt_NoPlace wq_NoNumber_NoNumber wq_NoNumber_NoPlace | .NoNumber, .NoList => kit_ref wd_NoList xt_NoList wq_NoNumber_NoNumber wq_NoNumber_NoList | .NoNumber, .NoNumber => kit_self | .NoNumber, .NotEmpty => kit_ref wd_NotEmpty xt_NotEmpty wq_NoNumber_NoNumber wq_NoNumber_NotEmpty | .NoNumber, .NoDeed => kit_ref wd_NoDeed xt_NoDeed wq_NoNumber_NoNumber wq_NoNumber_NoDeed | .NotEmpty, .NoSettings => kit_ref wd_NoSettings xt_NoSettings wq_NotEmpty_NotEmpty wq_NotEmpty_NoSettings | .NotEmpty, .NoWorth => kit_ref wd_NoWorth xt_NoWorth wq_NotEmpty_NotEmpty wq_NotEmpty_NoWorth | .NotEmpty, .NoHandle => kit_ref wd_NoHandle xt_NoHandle wq_NotEmpty_NotEmpty wq_NotEmpty_NoHandle | .NotEmpty, .Stale => kit_ref wd_Stale xt_Stale wq_NotEmpty_NotEmpty wq_NotEmpty_Stale | .NotEmpty, .Full => kit_ref wd_Full xt_Full wq_NotEmpty_NotEmpty wq_NotEmpty_Full | .NotEmpty, .NoPlace => kit_ref wd_NoPlace xt_NoPlace wq_NotEmpty_NotEmpty wq_NotEmpty_NoPlace | .NotEmpty, .NoList => kit_ref wd_NoList xt_NoList wq_NotEmpty_NotEmpty wq_NotEmpty_NoList | .NotEmpty, .NoNumber => kit_ref wd_NoNumber xt_NoNumber wq_NotEmpty_NotEmpty wq_NotEmpty_NoNumber | .NotEmpty, .NotEmpty => kit_self | .NotEmpty, .NoDeed => kit_ref wd_NoDeed xt_NoDeed wq_NotEmpty_NotEmpty wq_NotEmpty_NoDeed | .NoDeed, .NoSettings => kit_ref wd_NoSettings xt_NoSettings wq_NoDeed_NoDeed wq_NoDeed_NoSettings | .NoDeed, .NoWorth => kit_ref wd_NoWorth xt_NoWorth wq_NoDeed_NoDeed wq_NoDeed_NoWorth | .NoDeed, .NoHandle => kit_ref wd_NoHandle xt_NoHandle wq_NoDeed_NoDeed wq_NoDeed_NoHandle | .NoDeed, .Stale => kit_ref wd_Stale xt_Stale wq_NoDeed_NoDeed wq_NoDeed_Stale | .NoDeed, .Full => kit_ref wd_Full xt_Full wq_NoDeed_NoDeed wq_NoDeed_Full | .NoDeed, .NoPlace => kit_ref wd_NoPlace xt_NoPlace wq_NoDeed_NoDeed wq_NoDeed_NoPlace | .NoDeed, .NoList => kit_ref wd_NoList xt_NoList wq_NoDeed_NoDeed wq_NoDeed_NoList | .NoDeed, .NoNumber => kit_ref wd_NoNumber xt_NoNumber wq_NoDeed_NoDeed wq_NoDeed_NoNumber | .NoDeed, .NotEmpty => kit_ref wd_NotEmpty xt_NotEmpty wq_NoDeed_NoDeed wq_NoDeed_NotEmpty | .NoDeed, .NoDeed => kit_self
    case w_v => exact fun e => match e with | .NoSettings => kit_val wv_NoSettings | .NoWorth => kit_val wv_NoWorth | .NoHandle => kit_val wv_NoHandle | .Stale => kit_val wv_Stale | .Full => kit_val wv_Full | .NoPlace => kit_val wv_NoPlace | .NoList => kit_val wv_NoList | .NoNumber => kit_val wv_NoNumber | .NotEmpty => kit_val wv_NotEmpty | .NoDeed => kit_val wv_NoDeed
    case w_h => exact fun e => match e with | .NoSettings => PySem.W.exm_ref xb_HandError wd_HandError xt_HandError wh_NoSettings | .NoWorth => PySem.W.exm_ref xb_HandError wd_HandError xt_HandError wh_NoWorth | .NoHandle => PySem.W.exm_ref xb_HandError wd_HandError xt_HandError wh_NoHandle | .Stale => PySem.W.exm_ref xb_HandError wd_HandError xt_HandError wh_Stale | .Full => PySem.W.exm_ref xb_HandError wd_HandError xt_HandError wh_Full | .NoPlace => PySem.W.exm_ref xb_HandError wd_HandError xt_HandError wh_NoPlace | .NoList => PySem.W.exm_ref xb_HandError wd_HandError xt_HandError wh_NoList | .NoNumber => PySem.W.exm_ref xb_HandError wd_HandError xt_HandError wh_NoNumber | .NotEmpty => PySem.W.exm_ref xb_HandError wd_HandError xt_HandError wh_NotEmpty | .NoDeed => PySem.W.exm_ref xb_HandError wd_HandError xt_HandError wh_NoDeed
    case k_Store => exact kAt_mk X G ka_Store kp_Store kh_Store ko_Store ks_Store km_Store kk_Store
    case a_Store_settings => exact n_Store_settings
    case a_Store_counts => exact n_Store_counts
    case a_Store_worths => exact n_Store_worths
    case a_Store_line => exact n_Store_line
    case a_Store_gone => exact n_Store_gone
    case d_is_whole => exact defAt_mk X G da_is_whole dl_is_whole dc_is_whole' dk_is_whole (fun _ _ _ _ _ _ us hl => match us, hl with | [_, _, _], _ => rfl)
    case d_are_settings => exact defAt_mk X G da_are_settings dl_are_settings dc_are_settings' dk_are_settings (fun _ _ _ _ _ _ us hl => match us, hl with | [_], _ => rfl)
    case d_checked => exact defAt_mk X G da_checked dl_checked dc_checked' dk_checked (fun _ _ _ _ _ _ us hl => match us, hl with | [_], _ => rfl)
    case d_need_worth => exact defAt_mk X G da_need_worth dl_need_worth dc_need_worth' dk_need_worth (fun _ _ _ _ _ _ us hl => match us, hl with | [_], _ => rfl)
    case d_is_handle => exact defAt_mk X G da_is_handle dl_is_handle dc_is_handle' dk_is_handle (fun _ _ _ _ _ _ us hl => match us, hl with | [_, _], _ => rfl)
    case d_need_handle => exact defAt_mk X G da_need_handle dl_need_handle dc_need_handle' dk_need_handle (fun _ _ _ _ _ _ us hl => match us, hl with | [_, _], _ => rfl)
    case d_Store___init__ => exact methAt_mk da_Store___init__ di_Store___init__ dl_Store___init__ dc_Store___init__' dk_Store___init__ (fun _ _ _ _ _ _ us hl => match us, hl with | [_, _], _ => rfl)
    case d_Store_put => exact methAt_mk da_Store_put di_Store_put dl_Store_put dc_Store_put' dk_Store_put (fun _ _ _ _ _ _ us hl => match us, hl with | [_, _], _ => rfl)
    case d_Store_put_in => exact methAt_mk da_Store_put_in di_Store_put_in dl_Store_put_in dc_Store_put_in' dk_Store_put_in (fun _ _ _ _ _ _ us hl => match us, hl with | [_, _], _ => rfl)
    case d_Store_holds => exact methAt_mk da_Store_holds di_Store_holds dl_Store_holds dc_Store_holds' dk_Store_holds (fun _ _ _ _ _ _ us hl => match us, hl with | [_, _], _ => rfl)
    case d_Store_need => exact methAt_mk da_Store_need di_Store_need dl_Store_need dc_Store_need' dk_Store_need (fun _ _ _ _ _ _ us hl => match us, hl with | [_, _], _ => rfl)
    case d_Store_get => exact methAt_mk da_Store_get di_Store_get dl_Store_get dc_Store_get' dk_Store_get (fun _ _ _ _ _ _ us hl => match us, hl with | [_, _], _ => rfl)
    case d_Store_change => exact methAt_mk da_Store_change di_Store_change dl_Store_change dc_Store_change' dk_Store_change (fun _ _ _ _ _ _ us hl => match us, hl with | [_, _, _], _ => rfl)
    case d_Store_drop => exact methAt_mk da_Store_drop di_Store_drop dl_Store_drop dc_Store_drop' dk_Store_drop (fun _ _ _ _ _ _ us hl => match us, hl with | [_, _], _ => rfl)
    case d_Store_live => exact methAt_mk da_Store_live di_Store_live dl_Store_live dc_Store_live' dk_Store_live (fun _ _ _ _ _ _ us hl => match us, hl with | [_], _ => rfl)
    case d_Store_many => exact methAt_mk da_Store_many di_Store_many dl_Store_many dc_Store_many' dk_Store_many (fun _ _ _ _ _ _ us hl => match us, hl with | [_], _ => rfl)
    case d_Store_made => exact methAt_mk da_Store_made di_Store_made dl_Store_made dc_Store_made' dk_Store_made (fun _ _ _ _ _ _ us hl => match us, hl with | [_], _ => rfl)
    case d_Store_free => exact methAt_mk da_Store_free di_Store_free dl_Store_free dc_Store_free' dk_Store_free (fun _ _ _ _ _ _ us hl => match us, hl with | [_], _ => rfl)
    case d_Store_worn => exact methAt_mk da_Store_worn di_Store_worn dl_Store_worn dc_Store_worn' dk_Store_worn (fun _ _ _ _ _ _ us hl => match us, hl with | [_], _ => rfl)
    case d_Store_room => exact methAt_mk da_Store_room di_Store_room dl_Store_room dc_Store_room' dk_Store_room (fun _ _ _ _ _ _ us hl => match us, hl with | [_], _ => rfl)
    case d_Store_left => exact methAt_mk da_Store_left di_Store_left dl_Store_left dc_Store_left' dk_Store_left (fun _ _ _ _ _ _ us hl => match us, hl with | [_], _ => rfl)
    case d_Store_saved => exact methAt_mk da_Store_saved di_Store_saved dl_Store_saved dc_Store_saved' dk_Store_saved (fun _ _ _ _ _ _ us hl => match us, hl with | [_], _ => rfl)
    case d_woken => exact defAt_mk X G da_woken dl_woken dc_woken' dk_woken (fun _ _ _ _ _ _ us hl => match us, hl with | [_], _ => rfl)
    case d__law_cell_at => exact defAt_mk X G da__law_cell_at dl__law_cell_at dc__law_cell_at' dk__law_cell_at (fun _ _ _ _ _ _ us hl => match us, hl with | [_, _], _ => rfl)
    case d__law_mixed => exact defAt_mk X G da__law_mixed dl__law_mixed dc__law_mixed' dk__law_mixed (fun _ _ _ _ _ _ us hl => match us, hl with | [_, _, _], _ => rfl)
    case d__law_draw => exact defAt_mk X G da__law_draw dl__law_draw dc__law_draw' dk__law_draw (fun _ _ _ _ _ _ us hl => match us, hl with | [_, _, _], _ => rfl)
    case d__law_pick => exact defAt_mk X G da__law_pick dl__law_pick dc__law_pick' dk__law_pick (fun _ _ _ _ _ _ us hl => match us, hl with | [_, _, _], _ => rfl)
    case d__law_settings => exact defAt_mk X G da__law_settings dl__law_settings dc__law_settings' dk__law_settings (fun _ _ _ _ _ _ us hl => match us, hl with | [_, _], _ => rfl)
    case d__law_some => exact defAt_mk X G da__law_some dl__law_some dc__law_some' dk__law_some (fun _ _ _ _ _ _ us hl => match us, hl with | [_, _, _, _], _ => rfl)
    case d__law_deed => exact defAt_mk X G da__law_deed dl__law_deed dc__law_deed' dk__law_deed (fun _ _ _ _ _ _ us hl => match us, hl with | [_, _, _, _], _ => rfl)
    case d__law_which => exact defAt_mk X G da__law_which dl__law_which dc__law_which' dk__law_which (fun _ _ _ _ _ _ us hl => match us, hl with | [_], _ => rfl)
    case d__law_do => exact defAt_mk X G da__law_do dl__law_do dc__law_do' dk__law_do (fun _ _ _ _ _ _ us hl => match us, hl with | [_, _], _ => rfl)
    case d__law_seen => exact defAt_mk X G da__law_seen dl__law_seen dc__law_seen' dk__law_seen (fun _ _ _ _ _ _ us hl => match us, hl with | [_], _ => rfl)
    case d_law => exact defAt_mk X G da_law dl_law dc_law' dk_law (fun _ _ _ _ _ _ us hl => match us, hl with | [_], _ => rfl)
  have e := hfa.symm.trans (PySem.W.mg_of X G da_law)
  cases e
  have F := fun_mk (st := s_law) dl_law dc_law' dk_law
  exact ⟨_, fun s v => .of_eq rfl, fun base _ _ => law_ok T F⟩
end Sh
end
open PySem PySem.W PyProof.Rows
set_option maxRecDepth 100000 in
set_option maxHeartbeats 0 in
theorem PySem.Challenge.cw_stalehands_k08_whole_saved_holds : PySem.Challenge.rw_stalehands_k08_whole_saved.Holds := by
  w_on; o_law; k_head; (case hw => w_witness2)
  k_fill
  refine Sh.walkL (k := 8) (l := PySem.Challenge.rw_stalehands_k08_whole_saved) ⟨rfl, by decide, by decide⟩ rfl rfl (fun w h Y => PySem.W.kIn_of Y) ?F
  case F =>
    intro w mg fa h KX G hmg
    refine' Sh.all_mk KX G hmg ?z_isinstance ?z_int ?z_bool ?z_tuple ?z_len ?z_str ?z_sorted ?z_list ?z_sum ?z_range ?z_dict ?z_min ?z_ValueError ?q_SLOTS ?q_ROUNDS ?q_WORTHS ?q_ORDERS ?l_ORDERS ?q_ENDS ?l_ENDS ?xa_HandError ?xe_HandError ?xk_HandError ?xb_HandError ?xt_HandError ?xa_NoSettings ?xe_NoSettings ?xk_NoSettings ?xb_NoSettings ?xt_NoSettings ?xa_NoWorth ?xe_NoWorth ?xk_NoWorth ?xb_NoWorth ?xt_NoWorth ?xa_NoHandle ?xe_NoHandle ?xk_NoHandle ?xb_NoHandle ?xt_NoHandle ?xa_Stale ?xe_Stale ?xk_Stale ?xb_Stale ?xt_Stale ?xa_Full ?xe_Full ?xk_Full ?xb_Full ?xt_Full ?xa_NoPlace ?xe_NoPlace ?xk_NoPlace ?xb_NoPlace ?xt_NoPlace ?xa_NoList ?xe_NoList ?xk_NoList ?xb_NoList ?xt_NoList ?xa_NoNumber ?xe_NoNumber ?xk_NoNumber ?xb_NoNumber ?xt_NoNumber ?xa_NotEmpty ?xe_NotEmpty ?xk_NotEmpty ?xb_NotEmpty ?xt_NotEmpty ?xa_NoDeed ?xe_NoDeed ?xk_NoDeed ?xb_NoDeed ?xt_NoDeed ?wn ?wd_HandError ?wt ?wg_NoSettings ?wk_NoSettings ?wd_NoSettings ?wa_NoSettings ?wm_NoSettings ?wv_NoSettings ?wh_NoSettings ?wq_NoSettings_NoSettings ?wq_NoSettings_NoWorth ?wq_NoSettings_NoHandle ?wq_NoSettings_Stale ?wq_NoSettings_Full ?wq_NoSettings_NoPlace ?wq_NoSettings_NoList ?wq_NoSettings_NoNumber ?wq_NoSettings_NotEmpty ?wq_NoSettings_NoDeed ?wg_NoWorth ?wk_NoWorth ?wd_NoWorth ?wa_NoWorth ?wm_NoWorth ?wv_NoWorth ?wh_NoWorth ?wq_NoWorth_NoSettings ?wq_NoWorth_NoWorth ?wq_NoWorth_NoHandle ?wq_NoWorth_Stale ?wq_NoWorth_Full ?wq_NoWorth_NoPlace ?wq_NoWorth_NoList ?wq_NoWorth_NoNumber ?wq_NoWorth_NotEmpty ?wq_NoWorth_NoDeed ?wg_NoHandle ?wk_NoHandle ?wd_NoHandle ?wa_NoHandle ?wm_NoHandle ?wv_NoHandle ?wh_NoHandle ?wq_NoHandle_NoSettings ?wq_NoHandle_NoWorth ?wq_NoHandle_NoHandle ?wq_NoHandle_Stale ?wq_NoHandle_Full ?wq_NoHandle_NoPlace ?wq_NoHandle_NoList ?wq_NoHandle_NoNumber ?wq_NoHandle_NotEmpty ?wq_NoHandle_NoDeed ?wg_Stale ?wk_Stale ?wd_Stale ?wa_Stale ?wm_Stale ?wv_Stale ?wh_Stale ?wq_Stale_NoSettings ?wq_Stale_NoWorth ?wq_Stale_NoHandle ?wq_Stale_Stale ?wq_Stale_Full ?wq_Stale_NoPlace ?wq_Stale_NoList ?wq_Stale_NoNumber ?wq_Stale_NotEmpty ?wq_Stale_NoDeed ?wg_Full ?wk_Full ?wd_Full ?wa_Full ?wm_Full ?wv_Full ?wh_Full ?wq_Full_NoSettings ?wq_Full_NoWorth ?wq_Full_NoHandle ?wq_Full_Stale ?wq_Full_Full ?wq_Full_NoPlace ?wq_Full_NoList ?wq_Full_NoNumber ?wq_Full_NotEmpty ?wq_Full_NoDeed ?wg_NoPlace ?wk_NoPlace ?wd_NoPlace ?wa_NoPlace ?wm_NoPlace ?wv_NoPlace ?wh_NoPlace ?wq_NoPlace_NoSettings ?wq_NoPlace_NoWorth ?wq_NoPlace_NoHandle ?wq_NoPlace_Stale ?wq_NoPlace_Full ?wq_NoPlace_NoPlace ?wq_NoPlace_NoList ?wq_NoPlace_NoNumber ?wq_NoPlace_NotEmpty ?wq_NoPlace_NoDeed ?wg_NoList ?wk_NoList ?wd_NoList ?wa_NoList ?wm_NoList ?wv_NoList ?wh_NoList ?wq_NoList_NoSettings ?wq_NoList_NoWorth ?wq_NoList_NoHandle ?wq_NoList_Stale ?wq_NoList_Full ?wq_NoList_NoPlace ?wq_NoList_NoList ?wq_NoList_NoNumber ?wq_NoList_NotEmpty ?wq_NoList_NoDeed ?wg_NoNumber ?wk_NoNumber ?wd_NoNumber ?wa_NoNumber ?wm_NoNumber ?wv_NoNumber ?wh_NoNumber ?wq_NoNumber_NoSettings ?wq_NoNumber_NoWorth ?wq_NoNumber_NoHandle ?wq_NoNumber_Stale ?wq_NoNumber_Full ?wq_NoNumber_NoPlace ?wq_NoNumber_NoList ?wq_NoNumber_NoNumber ?wq_NoNumber_NotEmpty ?wq_NoNumber_NoDeed ?wg_NotEmpty ?wk_NotEmpty ?wd_NotEmpty ?wa_NotEmpty ?wm_NotEmpty ?wv_NotEmpty ?wh_NotEmpty ?wq_NotEmpty_NoSettings ?wq_NotEmpty_NoWorth ?wq_NotEmpty_NoHandle ?wq_NotEmpty_Stale ?wq_NotEmpty_Full ?wq_NotEmpty_NoPlace ?wq_NotEmpty_NoList ?wq_NotEmpty_NoNumber ?wq_NotEmpty_NotEmpty ?wq_NotEmpty_NoDeed ?wg_NoDeed ?wk_NoDeed ?wd_NoDeed ?wa_NoDeed ?wm_NoDeed ?wv_NoDeed ?wh_NoDeed ?wq_NoDeed_NoSettings ?wq_NoDeed_NoWorth ?wq_NoDeed_NoHandle ?wq_NoDeed_Stale ?wq_NoDeed_Full ?wq_NoDeed_NoPlace ?wq_NoDeed_NoList ?wq_NoDeed_NoNumber ?wq_NoDeed_NotEmpty ?wq_NoDeed_NoDeed ?ka_Store ?kp_Store ?kh_Store ?ko_Store ?ks_Store ?km_Store ?kk_Store ?n_Store_settings ?n_Store_counts ?n_Store_worths ?n_Store_line ?n_Store_gone ?da_is_whole ?dl_is_whole ?dc_is_whole' ?dk_is_whole ?da_are_settings ?dl_are_settings ?dc_are_settings' ?dk_are_settings ?da_checked ?dl_checked ?dc_checked' ?dk_checked ?da_need_worth ?dl_need_worth ?dc_need_worth' ?dk_need_worth ?da_is_handle ?dl_is_handle ?dc_is_handle' ?dk_is_handle ?da_need_handle ?dl_need_handle ?dc_need_handle' ?dk_need_handle ?da_Store___init__ ?di_Store___init__ ?dl_Store___init__ ?dc_Store___init__' ?dk_Store___init__ ?da_Store_put ?di_Store_put ?dl_Store_put ?dc_Store_put' ?dk_Store_put ?da_Store_put_in ?di_Store_put_in ?dl_Store_put_in ?dc_Store_put_in' ?dk_Store_put_in ?da_Store_holds ?di_Store_holds ?dl_Store_holds ?dc_Store_holds' ?dk_Store_holds ?da_Store_need ?di_Store_need ?dl_Store_need ?dc_Store_need' ?dk_Store_need ?da_Store_get ?di_Store_get ?dl_Store_get ?dc_Store_get' ?dk_Store_get ?da_Store_change ?di_Store_change ?dl_Store_change ?dc_Store_change' ?dk_Store_change ?da_Store_drop ?di_Store_drop ?dl_Store_drop ?dc_Store_drop' ?dk_Store_drop ?da_Store_live ?di_Store_live ?dl_Store_live ?dc_Store_live' ?dk_Store_live ?da_Store_many ?di_Store_many ?dl_Store_many ?dc_Store_many' ?dk_Store_many ?da_Store_made ?di_Store_made ?dl_Store_made ?dc_Store_made' ?dk_Store_made ?da_Store_free ?di_Store_free ?dl_Store_free ?dc_Store_free' ?dk_Store_free ?da_Store_worn ?di_Store_worn ?dl_Store_worn ?dc_Store_worn' ?dk_Store_worn ?da_Store_room ?di_Store_room ?dl_Store_room ?dc_Store_room' ?dk_Store_room ?da_Store_left ?di_Store_left ?dl_Store_left ?dc_Store_left' ?dk_Store_left ?da_Store_saved ?di_Store_saved ?dl_Store_saved ?dc_Store_saved' ?dk_Store_saved ?da_woken ?dl_woken ?dc_woken' ?dk_woken ?da__law_cell_at ?dl__law_cell_at ?dc__law_cell_at' ?dk__law_cell_at ?da__law_mixed ?dl__law_mixed ?dc__law_mixed' ?dk__law_mixed ?da__law_draw ?dl__law_draw ?dc__law_draw' ?dk__law_draw ?da__law_pick ?dl__law_pick ?dc__law_pick' ?dk__law_pick ?da__law_settings ?dl__law_settings ?dc__law_settings' ?dk__law_settings ?da__law_some ?dl__law_some ?dc__law_some' ?dk__law_some ?da__law_deed ?dl__law_deed ?dc__law_deed' ?dk__law_deed ?da__law_which ?dl__law_which ?dc__law_which' ?dk__law_which ?da__law_do ?dl__law_do ?dc__law_do' ?dk__law_do ?da__law_seen ?dl__law_seen ?dc__law_seen' ?dk__law_seen ?da_law ?dl_law ?dc_law' ?dk_law
    (case z_isinstance => k_is)
    (case z_int => k_is)
    (case z_bool => k_is)
    (case z_tuple => k_is)
    (case z_len => k_is)
    (case z_str => k_is)
    (case z_sorted => k_is)
    (case z_list => k_is)
    (case z_sum => k_is)
    (case z_range => k_is)
    (case z_dict => k_is)
    (case z_min => k_is)
    (case z_ValueError => k_is)
    (case q_SLOTS => k_is)
    (case q_ROUNDS => k_is)
    (case q_WORTHS => k_is)
    (case q_ORDERS => k_is)
    (case l_ORDERS => k_is)
    (case q_ENDS => k_is)
    (case l_ENDS => k_is)
    (case xa_HandError => k_is)
    (case xe_HandError => k_exc)
    (case xk_HandError => k_is)
    (case xb_HandError => k_is)
    (case xt_HandError => k_is)
    (case xa_NoSettings => k_is)
    (case xe_NoSettings => k_exc)
    (case xk_NoSettings => k_is)
    (case xb_NoSettings => k_is)
    (case xt_NoSettings => k_is)
    (case xa_NoWorth => k_is)
    (case xe_NoWorth => k_exc)
    (case xk_NoWorth => k_is)
    (case xb_NoWorth => k_is)
    (case xt_NoWorth => k_is)
    (case xa_NoHandle => k_is)
    (case xe_NoHandle => k_exc)
    (case xk_NoHandle => k_is)
    (case xb_NoHandle => k_is)
    (case xt_NoHandle => k_is)
    (case xa_Stale => k_is)
    (case xe_Stale => k_exc)
    (case xk_Stale => k_is)
    (case xb_Stale => k_is)
    (case xt_Stale => k_is)
    (case xa_Full => k_is)
    (case xe_Full => k_exc)
    (case xk_Full => k_is)
    (case xb_Full => k_is)
    (case xt_Full => k_is)
    (case xa_NoPlace => k_is)
    (case xe_NoPlace => k_exc)
    (case xk_NoPlace => k_is)
    (case xb_NoPlace => k_is)
    (case xt_NoPlace => k_is)
    (case xa_NoList => k_is)
    (case xe_NoList => k_exc)
    (case xk_NoList => k_is)
    (case xb_NoList => k_is)
    (case xt_NoList => k_is)
    (case xa_NoNumber => k_is)
    (case xe_NoNumber => k_exc)
    (case xk_NoNumber => k_is)
    (case xb_NoNumber => k_is)
    (case xt_NoNumber => k_is)
    (case xa_NotEmpty => k_is)
    (case xe_NotEmpty => k_exc)
    (case xk_NotEmpty => k_is)
    (case xb_NotEmpty => k_is)
    (case xt_NotEmpty => k_is)
    (case xa_NoDeed => k_is)
    (case xe_NoDeed => k_exc)
    (case xk_NoDeed => k_is)
    (case xb_NoDeed => k_is)
    (case xt_NoDeed => k_is)
    (case wn => k_is)
    (case wd_HandError => k_is)
    (case wt => k_is)
    (case wg_NoSettings => k_is)
    (case wk_NoSettings => k_is)
    (case wd_NoSettings => k_is)
    (case wa_NoSettings => k_is)
    (case wm_NoSettings => k_is)
    (case wv_NoSettings => k_is)
    (case wh_NoSettings => k_is)
    (case wq_NoSettings_NoSettings => k_is)
    (case wq_NoSettings_NoWorth => k_is)
    (case wq_NoSettings_NoHandle => k_is)
    (case wq_NoSettings_Stale => k_is)
    (case wq_NoSettings_Full => k_is)
    (case wq_NoSettings_NoPlace => k_is)
    (case wq_NoSettings_NoList => k_is)
    (case wq_NoSettings_NoNumber => k_is)
    (case wq_NoSettings_NotEmpty => k_is)
    (case wq_NoSettings_NoDeed => k_is)
    (case wg_NoWorth => k_is)
    (case wk_NoWorth => k_is)
    (case wd_NoWorth => k_is)
    (case wa_NoWorth => k_is)
    (case wm_NoWorth => k_is)
    (case wv_NoWorth => k_is)
    (case wh_NoWorth => k_is)
    (case wq_NoWorth_NoSettings => k_is)
    (case wq_NoWorth_NoWorth => k_is)
    (case wq_NoWorth_NoHandle => k_is)
    (case wq_NoWorth_Stale => k_is)
    (case wq_NoWorth_Full => k_is)
    (case wq_NoWorth_NoPlace => k_is)
    (case wq_NoWorth_NoList => k_is)
    (case wq_NoWorth_NoNumber => k_is)
    (case wq_NoWorth_NotEmpty => k_is)
    (case wq_NoWorth_NoDeed => k_is)
    (case wg_NoHandle => k_is)
    (case wk_NoHandle => k_is)
    (case wd_NoHandle => k_is)
    (case wa_NoHandle => k_is)
    (case wm_NoHandle => k_is)
    (case wv_NoHandle => k_is)
    (case wh_NoHandle => k_is)
    (case wq_NoHandle_NoSettings => k_is)
    (case wq_NoHandle_NoWorth => k_is)
    (case wq_NoHandle_NoHandle => k_is)
    (case wq_NoHandle_Stale => k_is)
    (case wq_NoHandle_Full => k_is)
    (case wq_NoHandle_NoPlace => k_is)
    (case wq_NoHandle_NoList => k_is)
    (case wq_NoHandle_NoNumber => k_is)
    (case wq_NoHandle_NotEmpty => k_is)
    (case wq_NoHandle_NoDeed => k_is)
    (case wg_Stale => k_is)
    (case wk_Stale => k_is)
    (case wd_Stale => k_is)
    (case wa_Stale => k_is)
    (case wm_Stale => k_is)
    (case wv_Stale => k_is)
    (case wh_Stale => k_is)
    (case wq_Stale_NoSettings => k_is)
    (case wq_Stale_NoWorth => k_is)
    (case wq_Stale_NoHandle => k_is)
    (case wq_Stale_Stale => k_is)
    (case wq_Stale_Full => k_is)
    (case wq_Stale_NoPlace => k_is)
    (case wq_Stale_NoList => k_is)
    (case wq_Stale_NoNumber => k_is)
    (case wq_Stale_NotEmpty => k_is)
    (case wq_Stale_NoDeed => k_is)
    (case wg_Full => k_is)
    (case wk_Full => k_is)
    (case wd_Full => k_is)
    (case wa_Full => k_is)
    (case wm_Full => k_is)
    (case wv_Full => k_is)
    (case wh_Full => k_is)
    (case wq_Full_NoSettings => k_is)
    (case wq_Full_NoWorth => k_is)
    (case wq_Full_NoHandle => k_is)
    (case wq_Full_Stale => k_is)
    (case wq_Full_Full => k_is)
    (case wq_Full_NoPlace => k_is)
    (case wq_Full_NoList => k_is)
    (case wq_Full_NoNumber => k_is)
    (case wq_Full_NotEmpty => k_is)
    (case wq_Full_NoDeed => k_is)
    (case wg_NoPlace => k_is)
    (case wk_NoPlace => k_is)
    (case wd_NoPlace => k_is)
    (case wa_NoPlace => k_is)
    (case wm_NoPlace => k_is)
    (case wv_NoPlace => k_is)
    (case wh_NoPlace => k_is)
    (case wq_NoPlace_NoSettings => k_is)
    (case wq_NoPlace_NoWorth => k_is)
    (case wq_NoPlace_NoHandle => k_is)
    (case wq_NoPlace_Stale => k_is)
    (case wq_NoPlace_Full => k_is)
    (case wq_NoPlace_NoPlace => k_is)
    (case wq_NoPlace_NoList => k_is)
    (case wq_NoPlace_NoNumber => k_is)
    (case wq_NoPlace_NotEmpty => k_is)
    (case wq_NoPlace_NoDeed => k_is)
    (case wg_NoList => k_is)
    (case wk_NoList => k_is)
    (case wd_NoList => k_is)
    (case wa_NoList => k_is)
    (case wm_NoList => k_is)
    (case wv_NoList => k_is)
    (case wh_NoList => k_is)
    (case wq_NoList_NoSettings => k_is)
    (case wq_NoList_NoWorth => k_is)
    (case wq_NoList_NoHandle => k_is)
    (case wq_NoList_Stale => k_is)
    (case wq_NoList_Full => k_is)
    (case wq_NoList_NoPlace => k_is)
    (case wq_NoList_NoList => k_is)
    (case wq_NoList_NoNumber => k_is)
    (case wq_NoList_NotEmpty => k_is)
    (case wq_NoList_NoDeed => k_is)
    (case wg_NoNumber => k_is)
    (case wk_NoNumber => k_is)
    (case wd_NoNumber => k_is)
    (case wa_NoNumber => k_is)
    (case wm_NoNumber => k_is)
    (case wv_NoNumber => k_is)
    (case wh_NoNumber => k_is)
    (case wq_NoNumber_NoSettings => k_is)
    (case wq_NoNumber_NoWorth => k_is)
    (case wq_NoNumber_NoHandle => k_is)
    (case wq_NoNumber_Stale => k_is)
    (case wq_NoNumber_Full => k_is)
    (case wq_NoNumber_NoPlace => k_is)
    (case wq_NoNumber_NoList => k_is)
    (case wq_NoNumber_NoNumber => k_is)
    (case wq_NoNumber_NotEmpty => k_is)
    (case wq_NoNumber_NoDeed => k_is)
    (case wg_NotEmpty => k_is)
    (case wk_NotEmpty => k_is)
    (case wd_NotEmpty => k_is)
    (case wa_NotEmpty => k_is)
    (case wm_NotEmpty => k_is)
    (case wv_NotEmpty => k_is)
    (case wh_NotEmpty => k_is)
    (case wq_NotEmpty_NoSettings => k_is)
    (case wq_NotEmpty_NoWorth => k_is)
    (case wq_NotEmpty_NoHandle => k_is)
    (case wq_NotEmpty_Stale => k_is)
    (case wq_NotEmpty_Full => k_is)
    (case wq_NotEmpty_NoPlace => k_is)
    (case wq_NotEmpty_NoList => k_is)
    (case wq_NotEmpty_NoNumber => k_is)
    (case wq_NotEmpty_NotEmpty => k_is)
    (case wq_NotEmpty_NoDeed => k_is)
    (case wg_NoDeed => k_is)
    (case wk_NoDeed => k_is)
    (case wd_NoDeed => k_is)
    (case wa_NoDeed => k_is)
    (case wm_NoDeed => k_is)
    (case wv_NoDeed => k_is)
    (case wh_NoDeed => k_is)
    (case wq_NoDeed_NoSettings => k_is)
    (case wq_NoDeed_NoWorth => k_is)
    (case wq_NoDeed_NoHandle => k_is)
    (case wq_NoDeed_Stale => k_is)
    (case wq_NoDeed_Full => k_is)
    (case wq_NoDeed_NoPlace => k_is)
    (case wq_NoDeed_NoList => k_is)
    (case wq_NoDeed_NoNumber => k_is)
    (case wq_NoDeed_NotEmpty => k_is)
    (case wq_NoDeed_NoDeed => k_is)
    (case ka_Store => k_is)
    (case kp_Store => k_is)
    (case kh_Store => k_is)
    (case ko_Store => k_is)
    (case ks_Store => k_is)
    (case km_Store => k_is)
    (case kk_Store => k_is)
    (case n_Store_settings => k_is)
    (case n_Store_counts => k_is)
    (case n_Store_worths => k_is)
    (case n_Store_line => k_is)
    (case n_Store_gone => k_is)
    (case da_is_whole => k_is)
    (case dl_is_whole => k_is)
    (case dc_is_whole' => k_is)
    (case dk_is_whole => k_is)
    (case da_are_settings => k_is)
    (case dl_are_settings => k_is)
    (case dc_are_settings' => k_is)
    (case dk_are_settings => k_is)
    (case da_checked => k_is)
    (case dl_checked => k_is)
    (case dc_checked' => k_is)
    (case dk_checked => k_is)
    (case da_need_worth => k_is)
    (case dl_need_worth => k_is)
    (case dc_need_worth' => k_is)
    (case dk_need_worth => k_is)
    (case da_is_handle => k_is)
    (case dl_is_handle => k_is)
    (case dc_is_handle' => k_is)
    (case dk_is_handle => k_is)
    (case da_need_handle => k_is)
    (case dl_need_handle => k_is)
    (case dc_need_handle' => k_is)
    (case dk_need_handle => k_is)
    (case da_Store___init__ => k_is)
    (case di_Store___init__ => k_is)
    (case dl_Store___init__ => k_is)
    (case dc_Store___init__' => k_is)
    (case dk_Store___init__ => k_is)
    (case da_Store_put => k_is)
    (case di_Store_put => k_is)
    (case dl_Store_put => k_is)
    (case dc_Store_put' => k_is)
    (case dk_Store_put => k_is)
    (case da_Store_put_in => k_is)
    (case di_Store_put_in => k_is)
    (case dl_Store_put_in => k_is)
    (case dc_Store_put_in' => k_is)
    (case dk_Store_put_in => k_is)
    (case da_Store_holds => k_is)
    (case di_Store_holds => k_is)
    (case dl_Store_holds => k_is)
    (case dc_Store_holds' => k_is)
    (case dk_Store_holds => k_is)
    (case da_Store_need => k_is)
    (case di_Store_need => k_is)
    (case dl_Store_need => k_is)
    (case dc_Store_need' => k_is)
    (case dk_Store_need => k_is)
    (case da_Store_get => k_is)
    (case di_Store_get => k_is)
    (case dl_Store_get => k_is)
    (case dc_Store_get' => k_is)
    (case dk_Store_get => k_is)
    (case da_Store_change => k_is)
    (case di_Store_change => k_is)
    (case dl_Store_change => k_is)
    (case dc_Store_change' => k_is)
    (case dk_Store_change => k_is)
    (case da_Store_drop => k_is)
    (case di_Store_drop => k_is)
    (case dl_Store_drop => k_is)
    (case dc_Store_drop' => k_is)
    (case dk_Store_drop => k_is)
    (case da_Store_live => k_is)
    (case di_Store_live => k_is)
    (case dl_Store_live => k_is)
    (case dc_Store_live' => k_is)
    (case dk_Store_live => k_is)
    (case da_Store_many => k_is)
    (case di_Store_many => k_is)
    (case dl_Store_many => k_is)
    (case dc_Store_many' => k_is)
    (case dk_Store_many => k_is)
    (case da_Store_made => k_is)
    (case di_Store_made => k_is)
    (case dl_Store_made => k_is)
    (case dc_Store_made' => k_is)
    (case dk_Store_made => k_is)
    (case da_Store_free => k_is)
    (case di_Store_free => k_is)
    (case dl_Store_free => k_is)
    (case dc_Store_free' => k_is)
    (case dk_Store_free => k_is)
    (case da_Store_worn => k_is)
    (case di_Store_worn => k_is)
    (case dl_Store_worn => k_is)
    (case dc_Store_worn' => k_is)
    (case dk_Store_worn => k_is)
    (case da_Store_room => k_is)
    (case di_Store_room => k_is)
    (case dl_Store_room => k_is)
    (case dc_Store_room' => k_is)
    (case dk_Store_room => k_is)
    (case da_Store_left => k_is)
    (case di_Store_left => k_is)
    (case dl_Store_left => k_is)
    (case dc_Store_left' => k_is)
    (case dk_Store_left => k_is)
    (case da_Store_saved => k_is)
    (case di_Store_saved => k_is)
    (case dl_Store_saved => k_is)
    (case dc_Store_saved' => k_is)
    (case dk_Store_saved => k_is)
    (case da_woken => k_is)
    (case dl_woken => k_is)
    (case dc_woken' => k_is)
    (case dk_woken => k_is)
    (case da__law_cell_at => k_is)
    (case dl__law_cell_at => k_is)
    (case dc__law_cell_at' => k_is)
    (case dk__law_cell_at => k_is)
    (case da__law_mixed => k_is)
    (case dl__law_mixed => k_is)
    (case dc__law_mixed' => k_is)
    (case dk__law_mixed => k_is)
    (case da__law_draw => k_is)
    (case dl__law_draw => k_is)
    (case dc__law_draw' => k_is)
    (case dk__law_draw => k_is)
    (case da__law_pick => k_is)
    (case dl__law_pick => k_is)
    (case dc__law_pick' => k_is)
    (case dk__law_pick => k_is)
    (case da__law_settings => k_is)
    (case dl__law_settings => k_is)
    (case dc__law_settings' => k_is)
    (case dk__law_settings => k_is)
    (case da__law_some => k_is)
    (case dl__law_some => k_is)
    (case dc__law_some' => k_is)
    (case dk__law_some => k_is)
    (case da__law_deed => k_is)
    (case dl__law_deed => k_is)
    (case dc__law_deed' => k_is)
    (case dk__law_deed => k_is)
    (case da__law_which => k_is)
    (case dl__law_which => k_is)
    (case dc__law_which' => k_is)
    (case dk__law_which => k_is)
    (case da__law_do => k_is)
    (case dl__law_do => k_is)
    (case dc__law_do' => k_is)
    (case dk__law_do => k_is)
    (case da__law_seen => k_is)
    (case dl__law_seen => k_is)
    (case dc__law_seen' => k_is)
    (case dk__law_seen => k_is)
    (case da_law => k_is)
    (case dl_law => k_is)
    (case dc_law' => k_is)
    (case dk_law => k_is)
