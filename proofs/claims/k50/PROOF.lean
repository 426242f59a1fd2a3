import PyProof.Rows.All
import Wide.All
import OpenK.AllK
import Wide.FinOn
import HandS.ForMost
import HandS.ForExc
import HandS.HotCalls
import HandS.ExcInit
import HandS.ExcField
import HandS.IsInst
import HandS.Style
import HandS.Wide
import HandS.WideMore
import HandS.WideBits
import HandS.Flow
import HandS.Small
import HandS.TupAny
import HandS.ExcIs
import PySem.Challenge.RW_termwide_k50_whole_rows_part
set_option Elab.async false
set_option linter.all false
set_option maxRecDepth 100000
set_option maxHeartbeats 4000000
/-! Tw1: the weakest readings: a piece of syntax is walked towards what is wanted behind it, rule by rule, over HandS. -/
namespace Tw
open PySem PySem.Spec PyProof.Rows L2
abbrev St := L2.St

/-! ### weakest readings -/
structure wE (X : Cx) (e : Expr) (σ : St) (H : Hp) (Q : VK) : Prop where
  run : ∀ pins s, Inv X pins σ H s → wpAny (model X.prog X.w) X.A (eval e X.env) (EP X pins σ Q) X.xe s
structure wT (X : Cx) (e : Expr) (σ : St) (H : Hp) (Q : Bool → Hp → Prop) : Prop where
  run : ∀ pins s, Inv X pins σ H s → wpAny (model X.prog X.w) X.A (isTrue e X.env (eval e X.env)) (TP X pins σ Q) X.xe s
structure wW (X : Cx) (e : Expr) (σ : St) (H : Hp) (Q : Bool → Hp → Prop) : Prop where
  run : ∀ whole pins s, Inv X pins σ H s → wpAny (model X.prog X.w) X.A (isTrue e X.env whole) (TP X pins σ Q) X.xe s
structure wA (X : Cx) (es : List Expr) (σ : St) (H : Hp) (Q : List V → Hp → Prop) : Prop where
  run : ∀ pos pins s, Inv X pins σ H s → wpAny (model X.prog X.w) X.A (spliced (backTo pos (starEach es X.env))) (AP X pins σ Q) X.xe s
structure wS (X : Cx) (st : Stmt) (D : Ends) (σ : St) (H : Hp) : Prop where
  run : ∀ pins s, Inv X pins σ H s → wpAny (model X.prog X.w) X.A (exec st X.env) (SP X pins D) X.xe s
structure wB (X : Cx) (st : List Stmt) (D : Ends) (σ : St) (H : Hp) : Prop where
  run : ∀ pins s, Inv X pins σ H s → wpAny (model X.prog X.w) X.A (execs st X.env) (SP X pins D) X.xe s
structure wG (X : Cx) (e : Expr) (v : V) (σ : St) (H : Hp) (Q : St → Hp → Prop) : Prop where
  run : ∀ pins s u, Inv X pins σ H s → RelV v u → wpAny (model X.prog X.w) X.A (assign e X.env u) (fun _ s' => ∃ σ' H', Inv X pins σ' H' s' ∧ Q σ' H') X.xe s
structure wGs (X : Cx) (es : List Expr) (vs : List V) (σ : St) (H : Hp) (Q : St → Hp → Prop) : Prop where
  run : ∃ t, PGs X es t ∧ t vs σ H Q
structure wP (X : Cx) (e : Option Expr) (σ : St) (H : Hp) (Q : Option Int → Hp → Prop) : Prop where
  run : ∀ pins s, Inv X pins σ H s → wpAny (model X.prog X.w) X.A (evalPart e X.env) (fun u s' => ∃ o H', Inv X pins σ H' s' ∧ IsPart u o ∧ Q o H') X.xe s
structure wR (X : Cx) (e : Expr) (σ : L2.St) (H : Hp) (Q : XK) : Prop where
  run : ∀ pins s, Inv X pins σ H s → wpAny (model X.prog X.w) X.A (eval e X.env) (MkP X pins σ Q) X.xe s
structure wI (X : Cx) (tg e : Expr) (σ : St) (H : Hp) (R : It → Hp → Prop) : Prop where
  run : ∃ t, PI X tg e t ∧ t σ H R
structure wOp (X : Cx) (f : Value → Value → Sem Value) (x y : V) (H : Hp) (Q : VK) : Prop where
  run : ∀ pins s σ v u, Inv X pins σ H s → RelV x v → RelV y u → wpAny (model X.prog X.w) X.A (f v u) (EP X pins σ Q) X.xe s
structure wUn (X : Cx) (f : Value → Sem Value) (x : V) (H : Hp) (Q : VK) : Prop where
  run : ∀ pins s σ v, Inv X pins σ H s → RelV x v → wpAny (model X.prog X.w) X.A (f v) (EP X pins σ Q) X.xe s
structure wIx (X : Cx) (x y : V) (H : Hp) (Q : VK) : Prop where
  run : ∀ value slice pins s σ v u, Inv X pins σ H s → RelV x v → RelV y u → subscripted slice false v u = operate [v, u] (getItem v u) → wpAny (model X.prog X.w) X.A (subscriptTail value slice v u) (EP X pins σ Q) X.xe s
structure wSl (X : Cx) (x : V) (a b : Option Int) (H : Hp) (Q : VK) : Prop where
  run : ∃ r, SlR X r ∧ r x a b H Q
structure wC (X : Cx) (f : Value) (vs : List V) (H : Hp) (Q : VK) : Prop where
  run : ∀ pins s σ us, Inv X pins σ H s → Vals vs us → wpAny (model X.prog X.w) X.A (call f us) (EP X pins σ Q) X.xe s
structure wM (X : Cx) (id : String) (x : V) (vs : List V) (H : Hp) (Q : VK) : Prop where
  run : ∀ pins s σ v us, Inv X pins σ H s → RelV x v → Vals vs us → wpAny (model X.prog X.w) X.A (call (.builtin id) (v :: us)) (EP X pins σ Q) X.xe s
structure wSet (X : Cx) (o i v : V) (H : Hp) (Q : Hp → Prop) : Prop where
  run : ∃ t, PSet X t ∧ t o i v H Q
structure wIp (X : Cx) (op : Operator) (x y : V) (H : Hp) (Q : VK) : Prop where
  run : ∃ t, PIp X op t ∧ t x y H Q

section
variable {X : Cx} {e a b c : Expr} {es : List Expr} {σ : St} {H : Hp} {Q Q' : VK} {pos : Pos}
theorem pe_w : PE X e (wE X e) := ⟨fun pins s σ H Q I h => h.run pins s I⟩
theorem pt_w : PT X e (wT X e) := ⟨fun pins s σ H Q I h => h.run pins s I⟩
theorem pw_w : PW X e (wW X e) := ⟨fun wh pins s σ H Q I h => h.run wh pins s I⟩
theorem pa_w : PA X es (wA X es) := ⟨fun pos pins s σ H Q I h => h.run pos pins s I⟩
theorem ps_w {st : Stmt} : PS X st (wS X st) := ⟨fun pins s σ H D I h => h.run pins s I⟩
theorem pb_w {st : List Stmt} : PSs X st (wB X st) := ⟨fun pins s σ H D I h => h.run pins s I⟩
theorem pg_w : PG X e (wG X e) := ⟨fun pins s σ H v u Q I r h => h.run pins s u I r⟩
theorem pgs_w : PGs X es (wGs X es) := ⟨fun pins s σ H vs us Q I r ⟨⟨_, ht, h⟩⟩ => ht.run pins s σ H vs us Q I r h⟩
theorem po_w {e : Option Expr} : PO X e (wP X e) := ⟨fun pins s σ H Q I h => h.run pins s I⟩
theorem pi_w {tg : Expr} : PI X tg e (wI X tg e) := ⟨fun pins s σ H R I ⟨⟨_, ht, h⟩⟩ => ht.run pins s σ H R I h⟩
theorem pr_w : PMk X e (wR X e) := fun pins s σ H Q I h => h.run pins s I
theorem op_w {f : Value → Value → Sem Value} : OpR X f (wOp X f) := fun pins s σ H x y v u Q I rx ry h => h.run pins s σ v u I rx ry
theorem un_w {f : Value → Sem Value} : UnR X f (wUn X f) := fun pins s σ H x v Q I rx h => h.run pins s σ v I rx
theorem ix_w : IxR X (wIx X) := fun value slice pins s σ H x y v u Q I rx ry h hs => h.run value slice pins s σ v u I rx ry hs
theorem sl_w : SlR X (wSl X) := fun pins s σ H x v vl vu lo hi sl Q I rx hs pl pu ⟨⟨_, ht, h⟩⟩ => ht pins s σ H x v vl vu lo hi sl Q I rx hs pl pu h
theorem cr_w {f : Value} : CallR X f (wC X f) := fun pins s σ H xs us Q I r h => h.run pins s σ us I r
theorem mt_w {id : String} : MtR X id (wM X id) := fun pins s σ H x xs v us Q I rx r h => h.run pins s σ v us I rx r
theorem set_w : PSet X (wSet X) := fun pins s σ H o i v ov iv u Q I ro ri rv ⟨⟨_, ht, h⟩⟩ => ht pins s σ H o i v ov iv u Q I ro ri rv h
theorem ip_w {op : Operator} : PIp X op (wIp X op) := fun pins s σ H x y v u Q I rx ry ⟨⟨_, ht, h⟩⟩ => ht pins s σ H x y v u Q I rx ry h

theorem to_e {t : TE} (h : PE X e t) (q : t σ H Q) : wE X e σ H Q := ⟨fun pins s I => h.run pins s σ H Q I q⟩
theorem to_t {t : TT} {Q : Bool → Hp → Prop} (h : PT X e t) (q : t σ H Q) : wT X e σ H Q := ⟨fun pins s I => h.run pins s σ H Q I q⟩
theorem to_w {t : TT} {Q : Bool → Hp → Prop} (h : PW X e t) (q : t σ H Q) : wW X e σ H Q := ⟨fun wh pins s I => h.run wh pins s σ H Q I q⟩
theorem to_a {t : TA} {Q : List V → Hp → Prop} (h : PA X es t) (q : t σ H Q) : wA X es σ H Q := ⟨fun pos pins s I => h.run pos pins s σ H Q I q⟩
theorem to_s {st : Stmt} {t : TS} {D : Ends} (h : PS X st t) (q : t D σ H) : wS X st D σ H := ⟨fun pins s I => h.run pins s σ H D I q⟩
theorem to_b {st : List Stmt} {t : TS} {D : Ends} (h : PSs X st t) (q : t D σ H) : wB X st D σ H := ⟨fun pins s I => h.run pins s σ H D I q⟩
theorem to_g {t : TG} {v : V} {Q : St → Hp → Prop} (h : PG X e t) (q : t v σ H Q) : wG X e v σ H Q := ⟨fun pins s u I r => h.run pins s σ H v u Q I r q⟩
theorem to_gs {t : TGs} {vs : List V} {Q : St → Hp → Prop} (h : PGs X es t) (q : t vs σ H Q) : wGs X es vs σ H Q := ⟨⟨t, h, q⟩⟩
theorem to_p {e : Option Expr} {t : TO} {Q : Option Int → Hp → Prop} (h : PO X e t) (q : t σ H Q) : wP X e σ H Q := ⟨fun pins s I => h.run pins s σ H Q I q⟩
theorem to_r {t : L2.St → Hp → XK → Prop} {Q : XK} (h : PMk X e t) (q : t σ H Q) : wR X e σ H Q := ⟨fun pins s I => h pins s σ H Q I q⟩
theorem to_op {f : Value → Value → Sem Value} {r : R2} {x y : V} (h : OpR X f r) (q : r x y H Q) : wOp X f x y H Q := ⟨fun pins s σ v u I rx ry => h pins s σ H x y v u Q I rx ry q⟩
theorem to_un {f : Value → Sem Value} {r : V → Hp → VK → Prop} {x : V} (h : UnR X f r) (q : r x H Q) : wUn X f x H Q := ⟨fun pins s σ v I rx => h pins s σ H x v Q I rx q⟩
theorem to_ix {r : R2} {x y : V} (h : IxR X r) (q : r x y H Q) : wIx X x y H Q := ⟨fun value slice pins s σ v u I rx ry hs => h value slice pins s σ H x y v u Q I rx ry q hs⟩
theorem to_sl {r : V → Option Int → Option Int → Hp → VK → Prop} {x : V} {i j : Option Int} (h : SlR X r) (q : r x i j H Q) : wSl X x i j H Q := ⟨⟨r, h, q⟩⟩
theorem to_c {f : Value} {r : List V → Hp → VK → Prop} {vs : List V} (h : CallR X f r) (q : r vs H Q) : wC X f vs H Q := ⟨fun pins s σ us I rv => h pins s σ H vs us Q I rv q⟩
theorem to_m {id : String} {r : V → List V → Hp → VK → Prop} {x : V} {vs : List V} (h : MtR X id r) (q : r x vs H Q) : wM X id x vs H Q := ⟨fun pins s σ v us I rx rv => h pins s σ H x vs v us Q I rx rv q⟩

theorem EP.mono {pins : List (Addr × Obj)} {u : Value} {s : Shared} (h : EP X pins σ Q u s) (k : ∀ v H, Q v H → Q' v H) : EP X pins σ Q' u s := by
  obtain ⟨v, H', I, r, q⟩ := h
  exact ⟨v, H', I, r, k _ _ q⟩
theorem wE.mono (h : wE X e σ H Q) (k : ∀ v H, Q v H → Q' v H) : wE X e σ H Q' := ⟨fun pins s I => wpAny_mono (h.run pins s I) (fun _ _ q => EP.mono q k) fun _ _ z => z⟩
theorem wA.mono {Q Q' : List V → Hp → Prop} (h : wA X es σ H Q) (k : ∀ v H, Q v H → Q' v H) : wA X es σ H Q' := ⟨fun pos pins s I =>
  wpAny_mono (h.run pos pins s I) (fun _ _ ⟨v, H', J, r, q⟩ => ⟨v, H', J, r, k _ _ q⟩) fun _ _ z => z⟩
theorem wT.mono {Q Q' : Bool → Hp → Prop} (h : wT X e σ H Q) (k : ∀ v H, Q v H → Q' v H) : wT X e σ H Q' := ⟨fun pins s I =>
  wpAny_mono (h.run pins s I) (fun _ _ ⟨H', J, q⟩ => ⟨H', J, k _ _ q⟩) fun _ _ z => z⟩
theorem SP.mono {pins : List (Addr × Obj)} {D D' : Ends} {f : Flow} {s : Shared} (h : SP X pins D f s) (k1 : ∀ σ H, D.nx σ H → D'.nx σ H) (k2 : ∀ v H, D.rt v H → D'.rt v H) (k3 : ∀ σ H, D.bk σ H → D'.bk σ H) (k4 : ∀ σ H, D.ct σ H → D'.ct σ H) : SP X pins D' f s := by
  cases f with
  | next => obtain ⟨σ', H', I, q⟩ := h; exact ⟨σ', H', I, k1 _ _ q⟩
  | brk => obtain ⟨σ', H', I, q⟩ := h; exact ⟨σ', H', I, k3 _ _ q⟩
  | cont => obtain ⟨σ', H', I, q⟩ := h; exact ⟨σ', H', I, k4 _ _ q⟩
  | ret u => obtain ⟨v, σ', H', I, r, q⟩ := h; exact ⟨v, σ', H', I, r, k2 _ _ q⟩
theorem wB.mono {st : List Stmt} {D D' : Ends} (h : wB X st D σ H) (k1 : ∀ σ H, D.nx σ H → D'.nx σ H) (k2 : ∀ v H, D.rt v H → D'.rt v H) (k3 : ∀ σ H, D.bk σ H → D'.bk σ H) (k4 : ∀ σ H, D.ct σ H → D'.ct σ H) : wB X st D' σ H :=
  ⟨fun pins s I => wpAny_mono (h.run pins s I) (fun _ _ q => SP.mono q k1 k2 k3 k4) fun _ _ z => z⟩

/-- a new object at p -/
structure New (H H' : Hp) (p : Addr) (o : HO) : Prop where
  free : H p = none
  same : Same H H'
  at_ : H' p = some o
theorem New.mk' {H : Hp} {p : Addr} {o : HO} (h : H p = none) : New H (upd H p o) p o := ⟨h, fun b u e => by rw [upd_ne (ne_of_none e h)]; exact e, upd_same⟩

/-! ### expressions -/
theorem e_var {i : Nat} {x : Str} {v : V} (hN : X.N[i]? = some x) (hv : Vis X.env.scope x) (hs : σ[i]? = some (some v)) (q : Q v H) (hd : (x == ("__debug__" : Str)) = false := by decide) (hc : (x == ("__classdict__" : Str)) = false := by decide) :
    wE X (.Name x pos) σ H Q := to_e (pe_var hN hv hd hc) ⟨v, hs, q⟩
theorem e_int {i j} (q : Q (.int i) H) : wE X (.Constant (.int i) j pos) σ H Q := to_e pe_int q
theorem e_bl {i j} (q : Q (.bl i) H) : wE X (.Constant (.bool i) j pos) σ H Q := to_e pe_bl q
theorem e_non {j} (q : Q .non H) : wE X (.Constant .none j pos) σ H Q := to_e pe_non q
theorem e_str {i j} (q : Q (.str i) H) : wE X (.Constant (.str i) j pos) σ H Q := to_e pe_str q
theorem e_glob {x : Str} {v : V} {u : Value} (hg : Gl X x) (hm : X.mg x = some u) (r : RelV v u) (q : Q v H) (hd : (x == ("__debug__" : Str)) = false := by decide) : wE X (.Name x pos) σ H Q := to_e (pe_glob hg hm r hd) q
theorem e_bltn {x : Str} {v : V} {u : Value} (hg : Gl X x) (hm : X.mg x = none) (hv : bootBuiltins x = some u) (r : RelV v u) (q : Q v H) (hn : x ≠ "__name__" := by decide) (hd : (x == ("__debug__" : Str)) = false := by decide) :
    wE X (.Name x pos) σ H Q := to_e (pe_bltn hg hm hv r hn hd) q
theorem e_op {op : Operator} (h : wE X a σ H fun x H1 => wE X b σ H1 fun y H2 => wOp X (binaryOp op) x y H2 Q) : wE X (.BinOp a op b pos) σ H Q := to_e (pe_op op_w pe_w pe_w) h
theorem e_un {op : UnaryOp} (h : wE X a σ H fun x H1 => wUn X (unaryOp op) x H1 Q) : wE X (.UnaryOp op a pos) σ H Q := to_e (pe_un un_w pe_w) h
theorem e_not (h : wE X a σ H fun x H1 => ∃ k, TruV X.K x H1 k ∧ Q (.bl (!k)) H1) : wE X (.UnaryOp .Not a pos) σ H Q := to_e (pe_notT pe_w) h
theorem e_cmp {op : CmpOp} (hm : behindInMarks op b = false) (h : wE X a σ H fun x H1 => wE X b σ H1 fun y H2 => wOp X (compareOp op) x y H2 Q) : wE X (.Compare a [op] [b] pos) σ H Q := to_e (pe_cmpR op_w pe_w pe_w hm) h
theorem e_chain {op op' : CmpOp} (hm : lastMarks [op, op'] [b, c] = false) (h : wE X a σ H fun x H1 => wE X b σ H1 fun y H2 => wOp X (compareOp op) x y H2 fun z H3 => ∃ k, z = .bl k ∧
    (if k = true then wE X c σ H3 fun w H4 => wOp X (compareOp op') y w H4 Q else Q (.bl false) H3)) : wE X (.Compare a [op, op'] [b, c] pos) σ H Q := to_e (pe_chain op_w op_w pe_w pe_w pe_w hm) h
theorem e_and (h : wE X a σ H fun x H1 => ∃ k, x = .bl k ∧ if k = true then wE X (.BoolOp .And (b :: es) pos) σ H1 Q else Q (.bl false) H1) : wE X (.BoolOp .And (a :: b :: es) pos) σ H Q := to_e (pe_and pe_w pe_w) h
theorem e_or (h : wE X a σ H fun x H1 => ∃ k, x = .bl k ∧ if k = true then Q (.bl true) H1 else wE X (.BoolOp .Or (b :: es) pos) σ H1 Q) : wE X (.BoolOp .Or (a :: b :: es) pos) σ H Q := to_e (pe_or pe_w pe_w) h
theorem e_one {op : BoolOp} (h : wE X a σ H Q) : wE X (.BoolOp op [a] pos) σ H Q := to_e (pe_one pe_w) h
theorem e_if (h : wT X c σ H fun k H1 => if k = true then wE X a σ H1 Q else wE X b σ H1 Q) : wE X (.IfExp c a b pos) σ H Q := to_e (pe_ifExp pt_w pe_w pe_w) h
theorem e_tup {k} (h : wA X es σ H fun xs H1 => xs.length ≤ sizeLine ∧ ∀ p H2, New H1 H2 p (.tup xs) → Q (.ref p) H2) : wE X (.Tuple es k pos) σ H Q :=
  to_e (pe_tup pa_w) (wA.mono h fun xs H1 q => ⟨q.1, fun p hp => q.2 p _ (New.mk' hp)⟩)
theorem e_lst (h : wA X es σ H fun xs H1 => xs.length ≤ sizeLine ∧ ∀ p H2, New H1 H2 p (.lst xs) → Q (.ref p) H2) : wE X (.List es pos) σ H Q :=
  to_e (pe_lst pa_w) (wA.mono h fun xs H1 q => ⟨q.1, fun p hp => q.2 p _ (New.mk' hp)⟩)
theorem e_ix (hs : PlainIx b) (h : wE X a σ H fun x H1 => wE X b σ H1 fun y H2 => wIx X x y H2 Q) : wE X (.Subscript a b pos) σ H Q := to_e (pe_ix ix_w pe_w pe_w hs) h
theorem e_slice {lo hi : Option Expr} {p2 : Pos} (h : wE X a σ H fun x H1 => wP X lo σ H1 fun l H2 => wP X hi σ H2 fun u H3 => wSl X x l u H3 Q) : wE X (.Subscript a (.Slice lo hi none p2) pos) σ H Q := to_e (pe_slice sl_w pe_w po_w po_w) h
theorem p_none {Q : Option Int → Hp → Prop} (q : Q none H) : wP X none σ H Q := to_p po_none q
theorem p_some {Q : Option Int → Hp → Prop} (h : wE X e σ H fun x H1 => ∃ i, x = .int i ∧ Q (some i) H1) : wP X (some e) σ H Q := to_p (po_some pe_w) h
theorem a_nil {Q : List V → Hp → Prop} (q : Q [] H) : wA X [] σ H Q := to_a pa_nil q
theorem a_cons {Q : List V → Hp → Prop} (hs : starEach (e :: es) X.env = (false, eval e X.env) :: starEach es X.env) (h : wE X e σ H fun x H1 => wA X es σ H1 fun xs H2 => Q (x :: xs) H2) : wA X (e :: es) σ H Q := to_a (pa_cons pe_w pa_w hs) h
theorem e_fld {f : Str} (hb : attributeBase e f X.env (eval e X.env) = eval e X.env) (h : wE X e σ H fun x H1 => ∃ a C dx fs v, x = .ref a ∧ H1 a = some (.ins C dx fs) ∧ Cls X.K C ∧ NoAttr X.K C f ∧ fs.lookup f = some v ∧ Q v H1) :
    wE X (.Attribute e f pos) σ H Q := to_e (pe_fld pe_w hb) h
/-- a built-in's function, type called -/
theorem e_callB {x : Str} {id : String} {p : Pos} (hg : Gl X x) (hm : X.mg x = none) (hv : bootBuiltins x = some (.builtin id)) (he : starEach (e :: es) X.env = (false, eval e X.env) :: starEach es X.env) (hpl : (backTo pos (starEach es X.env)).any (·.1) = false)
    (h : wA X (e :: es) σ H fun vs H1 => wC X (.builtin id) vs H1 Q) (hn : x ≠ "__name__" := by decide) (hd : (x == ("__debug__" : Str)) = false := by decide) : wE X (.Call (.Name x p) (e :: es) [] pos) σ H Q := to_e (pe_callB cr_w hg hm hv pa_w hn hd he hpl) h
theorem e_callT {x : Str} {T : String} {p : Pos} (hg : Gl X x) (hm : X.mg x = none) (hv : bootBuiltins x = some (.type T)) (he : starEach (e :: es) X.env = (false, eval e X.env) :: starEach es X.env) (hpl : (backTo pos (starEach es X.env)).any (·.1) = false)
    (h : wA X (e :: es) σ H fun vs H1 => wC X (.type T) vs H1 Q) (hn : x ≠ "__name__" := by decide) (hd : (x == ("__debug__" : Str)) = false := by decide) : wE X (.Call (.Name x p) (e :: es) [] pos) σ H Q := to_e (pe_callTy cr_w hg hm hv pa_w hn hd he hpl) h
/-! ### tests -/
variable {QB : Bool → Hp → Prop}
theorem t_cmp {op : CmpOp} (hm : behindInMarks op b = false) (h : wE X a σ H fun x H1 => wE X b σ H1 fun y H2 => wOp X (compareOp op) x y H2 fun z H3 => ∃ k, z = .bl k ∧ QB k H3) : wT X (.Compare a [op] [b] pos) σ H QB := to_t (pt_cmpR op_w pe_w pe_w hm) h
theorem t_chain {op op' : CmpOp} (hm : lastMarks [op, op'] [b, c] = false) (h : wE X a σ H fun x H1 => wE X b σ H1 fun y H2 => wOp X (compareOp op) x y H2 fun z H3 => ∃ k, z = .bl k ∧
    (if k = true then wE X c σ H3 fun w H4 => wOp X (compareOp op') y w H4 (fun z' H5 => ∃ k', z' = .bl k' ∧ QB k' H5) else ∃ k', V.bl false = .bl k' ∧ QB k' H3)) : wT X (.Compare a [op, op'] [b, c] pos) σ H QB := to_t (pt_chain op_w op_w pe_w pe_w pe_w hm) h
theorem t_not (h : wT X a σ H fun k H1 => QB (!k) H1) : wT X (.UnaryOp .Not a pos) σ H QB := to_t (pt_not pt_w) h
theorem t_and (h : wT X a σ H fun k H1 => if k = true then wW X (.BoolOp .And (b :: es) pos) σ H1 QB else QB false H1) : wT X (.BoolOp .And (a :: b :: es) pos) σ H QB := to_t (PW.pt (pw_and pt_w pw_w)) h
theorem t_or (h : wT X a σ H fun k H1 => if k = true then QB true H1 else wW X (.BoolOp .Or (b :: es) pos) σ H1 QB) : wT X (.BoolOp .Or (a :: b :: es) pos) σ H QB := to_t (PW.pt (pw_or pt_w pw_w)) h
theorem k_and (h : wT X a σ H fun k H1 => if k = true then wW X (.BoolOp .And (b :: es) pos) σ H1 QB else QB false H1) : wW X (.BoolOp .And (a :: b :: es) pos) σ H QB := to_w (pw_and pt_w pw_w) h
theorem k_or (h : wT X a σ H fun k H1 => if k = true then QB true H1 else wW X (.BoolOp .Or (b :: es) pos) σ H1 QB) : wW X (.BoolOp .Or (a :: b :: es) pos) σ H QB := to_w (pw_or pt_w pw_w) h
theorem k_and1 (h : wT X a σ H QB) : wW X (.BoolOp .And [a] pos) σ H QB := to_w (pw_and1 pt_w) h
theorem k_or1 (h : wT X a σ H QB) : wW X (.BoolOp .Or [a] pos) σ H QB := to_w (pw_or1 pt_w) h
theorem t_val (he : ∀ whole, isTrue e X.env whole = (do let v ← whole; standAt e.pos; holding [v] (truthy v))) (h : wE X e σ H fun x H1 => ∃ k, TruV X.K x H1 k ∧ QB k H1) : wT X e σ H QB := to_t (pt_truth pe_w he) h
/-! ### statements -/
variable {D : Ends} {st : Stmt} {rest body els : List Stmt}
theorem b_nil (q : D.nx σ H) : wB X [] D σ H := to_b pss_nil q
theorem b_one (h : wS X st D σ H) : wB X [st] D σ H := to_b (pss_one ps_w) h
theorem b_cons (h : wS X st { D with nx := fun σ' H' => wB X rest D σ' H' } σ H) : wB X (st :: rest) D σ H := to_b (pss_cons ps_w pb_w) h
theorem s_pass (q : D.nx σ H) : wS X (.Pass pos) D σ H := to_s ps_pass q
theorem s_break (q : D.bk σ H) : wS X (.Break pos) D σ H := to_s ps_break q
theorem s_cont (q : D.ct σ H) : wS X (.Continue pos) D σ H := to_s ps_continue q
theorem s_doc {x j pos'} (q : D.nx σ H) : wS X (.Expr (.Constant (.str x) j pos) pos') D σ H := to_s ps_doc q
theorem s_expr (hs : swapsWith e none pos.line X.env = pure false) (h : wE X e σ H fun _ H1 => D.nx σ H1) : wS X (.Expr e pos) D σ H := to_s (ps_expr pe_w hs) h
theorem s_ret (h : wE X e σ H D.rt) : wS X (.Return (some e) pos) D σ H := to_s (ps_ret pe_w) h
theorem s_retN (q : D.rt .non H) : wS X (.Return none pos) D σ H := to_s ps_retN q
theorem s_if (h : wT X c σ H fun k H1 => if k = true then wB X body D σ H1 else wB X els D σ H1) : wS X (.If c body els pos) D σ H := to_s (ps_if pt_w pb_w pb_w) h
theorem s_set {i : Nat} {x : Str} {pos' : Pos} (hN : X.N.Nodup) (hi : X.N[i]? = some x) (hx : Loc X.env.scope x) (hs : swapsWith e (some (.Name x pos')) pos.line X.env = pure false) (hf : X.fn x = true ∨ X.env.scope.names.lookup x = some .local)
    (h : wE X e σ H fun v H1 => D.nx (σ.set i (some v)) H1) : wS X (.Assign [.Name x pos'] e pos) D σ H := to_s (ps_set hN hi hx pe_w hs hf) h
theorem s_asg {tg : Expr} (hs : swapsWithSole [tg] e pos.line X.env = pure false) (hw : swappedStores [tg] e X.env = pure none) (h1 : (assignEach [tg] X.env).map (·.2) = [assign tg X.env])
    (h : wE X e σ H fun v H1 => wG X tg v σ H1 D.nx) : wS X (.Assign [tg] e pos) D σ H := to_s (ps_asg pe_w pg_w hs hw h1) h
theorem s_par {i j : Nat} {x y : Str} {px py pt : Pos} {kt k2 pt2} (hc : X.calm = true) (hN : X.N.Nodup) (hi : X.N[i]? = some x) (hj : X.N[j]? = some y) (hij : i ≠ j)
    (hx : X.env.scope.names.lookup x = some .local) (hy : X.env.scope.names.lookup y = some .local) (hw : swappedStores [.Tuple [.Name x px, .Name y py] kt pt] (.Tuple [a, b] k2 pt2) X.env = pure (some [x, y]))
    (hs : swapsWithSole [.Tuple [.Name x px, .Name y py] kt pt] (.Tuple [a, b] k2 pt2) pos.line X.env = pure false)
    (h : wA X [a, b] σ H fun vs H1 => ∃ v w, vs = [v, w] ∧ D.nx ((σ.set i (some v)).set j (some w)) H1) : wS X (.Assign [.Tuple [.Name x px, .Name y py] kt pt] (.Tuple [a, b] k2 pt2) pos) D σ H := to_s (ps_par hc hN hi hj hij hx hy pa_w hw hs) h
theorem s_aug {i : Nat} {x : Str} {op : Operator} {pos' : Pos} {v : V} (hN : X.N.Nodup) (hi : X.N[i]? = some x) (hx : Loc X.env.scope x) (hf : X.fn x = true ∨ X.env.scope.names.lookup x = some .local) (hv : σ[i]? = some (some v))
    (h : wE X e σ H fun y H1 => wIp X op v y H1 fun z H2 => D.nx (σ.set i (some z)) H2) : wS X (.AugAssign (.Name x pos') op e pos) D σ H := to_s (ps_aug hN hi hx pe_w ip_w hf) ⟨v, hv, h⟩
theorem s_fld {o : Expr} {f : Str} {p' : Pos} (hs : swapsWith e (some (.Attribute o f p')) pos.line X.env = pure false)
    (h : wE X e σ H fun y H1 => wE X o σ H1 fun x H2 => ∃ a C dx fs, x = .ref a ∧ H2 a = some (.ins C dx fs) ∧ Cls X.K C ∧ NoAttr X.K C f ∧ fs.length < 1000 ∧ D.nx σ (upd H2 a (.ins C dx (putF f y fs)))) :
    wS X (.Assign [.Attribute o f p'] e pos) D σ H := to_s (ps_fld pe_w pe_w hs) h
/-- targets -/
theorem g_name {i : Nat} {x : Str} {v : V} {Q : St → Hp → Prop} (hN : X.N.Nodup) (hi : X.N[i]? = some x) (hx : Loc X.env.scope x) (hf : X.fn x = true ∨ X.env.scope.names.lookup x = some .local) (q : Q (σ.set i (some v)) H) : wG X (.Name x pos) v σ H Q := to_g (pg_name hN hi hx hf) q
theorem g_tup {k : Nat} {v : V} {Q : St → Hp → Prop} {n : Nat} (hc : X.calm = true) (hn : (assignEach es X.env).length = n) (hst : (assignEach es X.env).findIdx? (·.1) = none)
    (h : ∃ a xs, v = .ref a ∧ SqT X.K H a xs ∧ xs.length = n ∧ wGs X es xs σ H Q) : wG X (.Tuple es k pos) v σ H Q := to_g (pg_tup hc pgs_w hn hst) h
theorem gs_nil {Q : St → Hp → Prop} (q : Q σ H) : wGs X [] [] σ H Q := to_gs pgs_nil ⟨rfl, q⟩
theorem gs_cons {v : V} {vs : List V} {Q : St → Hp → Prop} (hs : (assignEach (e :: es) X.env).map (·.2) = assign e X.env :: (assignEach es X.env).map (·.2)) (h : wG X e v σ H fun σ' H' => wGs X es vs σ' H' Q) : wGs X (e :: es) (v :: vs) σ H Q :=
  to_gs (pgs_cons pg_w pgs_w hs) ⟨v, vs, rfl, h⟩
theorem g_sub {o i : Expr} {v : V} {Q : St → Hp → Prop} (ha : ∀ v, assign (.Subscript o i pos) X.env v = (do
      let ov ← holding [v] (eval o X.env)
      let iv ← holding [v, ov] (eval i X.env)
      standAt pos
      holding [v, ov, iv] (setItem ov iv v)
      release [v, ov, iv] [])) (h : wE X o σ H fun o H1 => wE X i σ H1 fun i H2 => wSet X o i v H2 fun H3 => Q σ H3) : wG X (.Subscript o i pos) v σ H Q := to_g (pg_sub pe_w pe_w set_w ha) h
end
end Tw
/-! Tw2: operators, built-ins, subscripts by values; loops; comprehensions. -/
namespace Tw
open PySem PySem.Spec PyProof.Rows L2
section
variable {X : Cx} {e a b c : Expr} {es : List Expr} {σ : St} {H : Hp} {Q Q' : VK} {pos : Pos} {i j : Int}
/-! ### ints -/
theorem o_add (q : Q (.int (i + j)) H) : wOp X (binaryOp .Add) (.int i) (.int j) H Q := to_op op_add ⟨i, j, rfl, rfl, q⟩
theorem o_sub (q : Q (.int (i - j)) H) : wOp X (binaryOp .Sub) (.int i) (.int j) H Q := to_op op_sub ⟨i, j, rfl, rfl, q⟩
theorem o_mul (hc : CMulW i j) (q : Q (.int (i * j)) H) : wOp X (binaryOp .Mult) (.int i) (.int j) H Q := to_op op_mulW ⟨i, j, rfl, rfl, hc, q⟩
theorem o_mulL (h1 : -(2 ^ 64) < i) (h2 : i < 2 ^ 64) (q : Q (.int (i * j)) H) : wOp X (binaryOp .Mult) (.int i) (.int j) H Q := to_op op_mul ⟨i, j, rfl, rfl, .inl ⟨h1, h2⟩, q⟩
theorem o_mulR (h1 : -(2 ^ 64) < j) (h2 : j < 2 ^ 64) (q : Q (.int (i * j)) H) : wOp X (binaryOp .Mult) (.int i) (.int j) H Q := to_op op_mul ⟨i, j, rfl, rfl, .inr ⟨h1, h2⟩, q⟩
/-- a divisor below 2 ^ 9000 -/
def Dv (j : Int) : Prop := j ≠ 0 ∧ j.natAbs.log2 < 9000
theorem op_fdivG : OpR X (binaryOp .FloorDiv) (rI (fun _ j => Dv j) fun i j => .int (i.fdiv j)) := opI fun i j _ _ _ _ _ hc q => floordiv_int hc.1 q (.inl (PyProof.noPylong_of_log2 hc.2))
theorem o_fdiv (h0 : 0 < j) (hb : j.natAbs.log2 < 9000) (q : Q (.int (i / j)) H) : wOp X (binaryOp .FloorDiv) (.int i) (.int j) H Q := to_op op_fdivW ⟨i, j, rfl, rfl, ⟨h0, hb⟩, q⟩
theorem o_fdivG (h : Dv j) (q : Q (.int (i.fdiv j)) H) : wOp X (binaryOp .FloorDiv) (.int i) (.int j) H Q := to_op op_fdivG ⟨i, j, rfl, rfl, h, q⟩
theorem o_mod (h0 : 0 < j) (q : Q (.int (i % j)) H) : wOp X (binaryOp .Mod) (.int i) (.int j) H Q := to_op op_mod ⟨i, j, rfl, rfl, h0, q⟩
theorem o_modG (h0 : j ≠ 0) (q : Q (.int (i.fmod j)) H) : wOp X (binaryOp .Mod) (.int i) (.int j) H Q := to_op op_modN ⟨i, j, rfl, rfl, h0, q⟩
theorem o_pow {n : Nat} (h : i.natAbs < 2 ^ 64) (hn : n ≤ 1000000) (q : Q (.int (i ^ n)) H) : wOp X (binaryOp .Pow) (.int i) (.int (n : Int)) H Q :=
  to_op op_pow ⟨i, (n : Int), rfl, rfl, ⟨by omega, by omega, h⟩, by show Q (.int (i ^ (n : Int).toNat)) H; rw [Int.toNat_natCast]; exact q⟩
theorem o_lt (q : Q (.bl (decide (i < j))) H) : wOp X (compareOp .Lt) (.int i) (.int j) H Q := to_op op_lt ⟨i, j, rfl, rfl, q⟩
theorem o_le (q : Q (.bl (decide (i ≤ j))) H) : wOp X (compareOp .LtE) (.int i) (.int j) H Q := to_op op_le ⟨i, j, rfl, rfl, q⟩
theorem o_gt (q : Q (.bl (decide (j < i))) H) : wOp X (compareOp .Gt) (.int i) (.int j) H Q := to_op op_gt ⟨i, j, rfl, rfl, q⟩
theorem o_ge (q : Q (.bl (decide (j ≤ i))) H) : wOp X (compareOp .GtE) (.int i) (.int j) H Q := to_op op_ge ⟨i, j, rfl, rfl, q⟩
theorem o_eqI (q : Q (.bl (decide (i = j))) H) : wOp X (compareOp .Eq) (.int i) (.int j) H Q := to_op op_eq ⟨rfl, by
  have e : decide (V.int i = V.int j) = decide (i = j) := by
    by_cases h : i = j
    · rw [h]; simp
    · have h' : ¬ V.int i = V.int j := fun z => h (by injection z)
      rw [decide_eq_false h, decide_eq_false h']
  rw [e]; exact q⟩
theorem o_neI (q : Q (.bl (!decide (i = j))) H) : wOp X (compareOp .NotEq) (.int i) (.int j) H Q := to_op op_ne ⟨rfl, by
  have e : decide (V.int i = V.int j) = decide (i = j) := by
    by_cases h : i = j
    · rw [h]; simp
    · have h' : ¬ V.int i = V.int j := fun z => h (by injection z)
      rw [decide_eq_false h, decide_eq_false h']
  rw [e]; exact q⟩
theorem o_eqB {x y : Bool} (q : Q (.bl (x == y)) H) : wOp X (compareOp .Eq) (.bl x) (.bl y) H Q := to_op op_eq ⟨rfl, by
  have e : decide (V.bl x = V.bl y) = (x == y) := by cases x <;> cases y <;> rfl
  rw [e]; exact q⟩
theorem o_neB {x y : Bool} (q : Q (.bl (x != y)) H) : wOp X (compareOp .NotEq) (.bl x) (.bl y) H Q := to_op op_ne ⟨rfl, by
  have e : (!decide (V.bl x = V.bl y)) = (x != y) := by cases x <;> cases y <;> rfl
  rw [e]; exact q⟩
theorem o_eqS {x y : Str} (q : Q (.bl (decide (x = y))) H) : wOp X (compareOp .Eq) (.str x) (.str y) H Q := to_op op_eq ⟨rfl, by
  have e : decide (V.str x = V.str y) = decide (x = y) := by
    by_cases h : x = y
    · rw [h]; simp
    · have h' : ¬ V.str x = V.str y := fun z => h (by injection z)
      rw [decide_eq_false h, decide_eq_false h']
  rw [e]; exact q⟩
theorem o_neS {x y : Str} (q : Q (.bl (!decide (x = y))) H) : wOp X (compareOp .NotEq) (.str x) (.str y) H Q := to_op op_ne ⟨rfl, by
  have e : decide (V.str x = V.str y) = decide (x = y) := by
    by_cases h : x = y
    · rw [h]; simp
    · have h' : ¬ V.str x = V.str y := fun z => h (by injection z)
      rw [decide_eq_false h, decide_eq_false h']
  rw [e]; exact q⟩
theorem o_isN {x : V} (q : Q (.bl (decide (x = .non))) H) : wOp X (compareOp .Is) x .non H Q := to_op op_isN ⟨rfl, q⟩
theorem o_notN {x : V} (q : Q (.bl (!decide (x = .non))) H) : wOp X (compareOp .IsNot) x .non H Q := to_op op_notN ⟨rfl, q⟩
theorem o_eqD {x y : V} {d f : PyData} (hu : X.A.units + 64 < cLine) (h1 : Dp X.K H x d) (h2 : Dp X.K H y f) (s1 : SeqAt.shaped d = true) (s2 : SeqAt.shaped f = true) (q : Q (.bl (PyData.eqv d f)) H) : wOp X (compareOp .Eq) x y H Q := to_op (op_eqD hu) ⟨d, f, h1, h2, s1, s2, q⟩
theorem o_neD {x y : V} {d f : PyData} (hu : X.A.units + 64 < cLine) (h1 : Dp X.K H x d) (h2 : Dp X.K H y f) (s1 : SeqAt.shaped d = true) (s2 : SeqAt.shaped f = true) (q : Q (.bl (!PyData.eqv d f)) H) : wOp X (compareOp .NotEq) x y H Q := to_op (op_neD hu) ⟨d, f, h1, h2, s1, s2, q⟩
theorem o_catL {l m : Addr} {xs ys : List V} (h1 : H l = some (.lst xs)) (h2 : H m = some (.lst ys)) (hz : xs.length + ys.length ≤ sizeLine) (q : ∀ p H', New H H' p (.lst (xs ++ ys)) → Q (.ref p) H') : wOp X (binaryOp .Add) (.ref l) (.ref m) H Q :=
  to_op op_cat ⟨l, m, xs, ys, rfl, rfl, h1, h2, hz, fun p hp => q p _ (New.mk' hp)⟩
theorem o_addS {x y : Str} (hz : x.length + y.length ≤ sizeLine) (q : Q (.str (x ++ y)) H) : wOp X (binaryOp .Add) (.str x) (.str y) H Q := to_op op_add_str ⟨x, y, rfl, rfl, hz, q⟩
theorem u_neg (q : Q (.int (-i)) H) : wUn X (unaryOp .USub) (.int i) H Q := to_un un_neg ⟨i, rfl, q⟩
/-! ### subscripts, slices -/
theorem x_list {p : Addr} {xs : List V} {v : V} (h : SqL X.K H p xs) (ha : atI xs i = some v) (q : Q v H) : wIx X (.ref p) (.int i) H Q := to_ix ix_list ⟨p, xs, i, v, rfl, rfl, h, ha, q⟩
theorem x_tup {p : Addr} {xs : List V} {v : V} (h : SqT X.K H p xs) (ha : atI xs i = some v) (q : Q v H) : wIx X (.ref p) (.int i) H Q := to_ix ix_tup ⟨p, xs, i, v, rfl, rfl, h, ha, q⟩
theorem x_str {z : Str} {k : Nat} (hz : z.length ≤ sizeLine) (ha : atI z.cps.toList i = some k) (q : Q (.str ⟨#[k]⟩) H) : wIx X (.str z) (.int i) H Q := to_ix ix_str ⟨z, i, k, rfl, rfl, hz, ha, q⟩
theorem l_list {p : Addr} {xs : List V} {lo hi : Option Int} (h : SqL X.K H p xs) (q : ∀ r H', New H H' r (.lst (cutV xs lo hi)) → Q (.ref r) H') : wSl X (.ref p) lo hi H Q := to_sl sl_list ⟨p, xs, rfl, h, fun r hr => q r _ (New.mk' hr)⟩
theorem l_tup {p : Addr} {xs : List V} {lo hi : Option Int} (h : SqT X.K H p xs) (hn : ¬ (HT.sIx xs.length 0 lo = 0 ∧ HT.sIx xs.length xs.length hi = xs.length)) (q : ∀ r H', New H H' r (.tup (cutV xs lo hi)) → Q (.ref r) H') : wSl X (.ref p) lo hi H Q :=
  to_sl sl_tup ⟨p, xs, rfl, h, hn, fun r hr => q r _ (New.mk' hr)⟩
theorem l_str {z : Str} {lo hi : Option Int} (hz : z.length ≤ sizeLine) (q : Q (.str (cutS z lo hi)) H) : wSl X (.str z) lo hi H Q := to_sl sl_str ⟨z, rfl, hz, q⟩
/-! ### built-ins -/
theorem c_lenL {p : Addr} {xs : List V} (h : SqL X.K H p xs) (q : Q (.int xs.length) H) : wC X (.builtin "len") [.ref p] H Q := to_c call_len_seq ⟨p, xs, rfl, .inl h, q⟩
theorem c_lenT {p : Addr} {xs : List V} (h : SqT X.K H p xs) (q : Q (.int xs.length) H) : wC X (.builtin "len") [.ref p] H Q := to_c call_len_seq ⟨p, xs, rfl, .inr h, q⟩
theorem c_lenS {z : Str} (hz : z.length ≤ sizeLine) (q : Q (.int z.length) H) : wC X (.builtin "len") [.str z] H Q := to_c call_len_str ⟨z, rfl, hz, q⟩
theorem c_abs (q : Q (.int (i.natAbs : Int)) H) : wC X (.builtin "abs") [.int i] H Q := to_c call_abs ⟨i, rfl, by
  have e : (if i < 0 then -i else i) = (i.natAbs : Int) := by split <;> omega
  rw [e]; exact q⟩
theorem c_max (hc : X.calm = true) (q : Q (.int (max i j)) H) : wC X (.builtin "max") [.int i, .int j] H Q := to_c (call_max2 hc) ⟨i, j, rfl, by
  have e : (if j > i then j else i) = max i j := by omega
  rw [e]; exact q⟩
theorem c_min (hc : X.calm = true) (q : Q (.int (min i j)) H) : wC X (.builtin "min") [.int i, .int j] H Q := to_c (call_min2 hc) ⟨i, j, rfl, by
  have e : (if j < i then j else i) = min i j := by omega
  rw [e]; exact q⟩
theorem c_intI (q : Q (.int i) H) : wC X (.type "int") [.int i] H Q := to_c call_int1 (.inl ⟨i, rfl, q⟩)
theorem c_intB {k : Bool} (q : Q (.int (if k then 1 else 0)) H) : wC X (.type "int") [.bl k] H Q := to_c call_int1 (.inr ⟨k, rfl, q⟩)
theorem c_strI (h : i.natAbs.log2 < 1920) (q : Q (.str (toString i)) H) : wC X (.type "str") [.int i] H Q := to_c call_str_int ⟨i, rfl, h, q⟩
theorem c_listL {p : Addr} {xs : List V} (h : SqL X.K H p xs) (q : ∀ r H', New H H' r (.lst xs) → Q (.ref r) H') : wC X (.type "list") [.ref p] H Q := to_c call_list_of ⟨p, xs, rfl, .inl h, fun r hr => q r _ (New.mk' hr)⟩
theorem c_listT {p : Addr} {xs : List V} (h : SqT X.K H p xs) (q : ∀ r H', New H H' r (.lst xs) → Q (.ref r) H') : wC X (.type "list") [.ref p] H Q := to_c call_list_of ⟨p, xs, rfl, .inr h, fun r hr => q r _ (New.mk' hr)⟩
theorem c_tupL {p : Addr} {xs : List V} (h : SqL X.K H p xs) (q : ∀ r H', New H H' r (.tup xs) → Q (.ref r) H') : wC X (.type "tuple") [.ref p] H Q := to_c call_tuple_of ⟨p, xs, rfl, .inl ⟨h, fun r hr => q r _ (New.mk' hr)⟩⟩
theorem c_tupT {p : Addr} {xs : List V} (h : SqT X.K H p xs) (q : Q (.ref p) H) : wC X (.type "tuple") [.ref p] H Q := to_c call_tuple_of ⟨p, xs, rfl, .inr ⟨h, q⟩⟩
theorem c_all (hc : X.calm = true) {p : Addr} {bs : List Bool} (h : SqL X.K H p (bs.map V.bl)) (q : Q (.bl (bs.all id)) H) : wC X (.builtin "all") [.ref p] H Q := to_c (cr_all hc) ⟨p, bs, rfl, h, q⟩
theorem c_isi {x k : V} {t u : Value} {r : Bool} (hk : ClsV k u) (ht : TyX X.K H x t) (hr : PySem.W.kitOne X.K t u = some r) (q : Q (.bl r) H) : wC X (.builtin "isinstance") [x, k] H Q := to_c call_isi ⟨x, k, t, u, r, rfl, hk, ht, hr, q⟩
theorem c_isiT {x : V} {tp : Addr} {cs : List V} {t : Value} {us : List Value} {r : Bool} (hp : H tp = some (.tup cs)) (hk : Paired ClsV cs us) (ht : TyX X.K H x t) (hr : PySem.W.kitAny X.K t us = some r) (q : Q (.bl r) H) : wC X (.builtin "isinstance") [x, .ref tp] H Q :=
  to_c call_isiT ⟨x, tp, cs, t, us, r, rfl, hp, hk, ht, hr, q⟩
/-! ### stores -/
theorem st_list {p : Addr} {xs : List V} {v : V} {n : Nat} {Q : Hp → Prop} (h : H p = some (.lst xs)) (hn : ixN xs.length i = some n) (q : Q (upd H p (.lst (xs.set n v)))) : wSet X (.ref p) (.int i) v H Q := ⟨_, set_list, p, xs, i, n, rfl, rfl, h, hn, q⟩
theorem ip_add' (q : Q (.int (i + j)) H) : wIp X .Add (.int i) (.int j) H Q := ⟨_, ip_add, i, j, rfl, rfl, q⟩
theorem ip_sub' (q : Q (.int (i - j)) H) : wIp X .Sub (.int i) (.int j) H Q := ⟨_, ip_sub, i, j, rfl, rfl, q⟩
/-- methods of built-in things -/
theorem e_bm {T : String} {name : Str} {id : String} {o : Expr} {apos cpos : Pos} (pa : PlainAttrs T) (slot : Slot T name id) (hty : typeOf (.builtin id) = pure (.type "method_descriptor"))
    (hbase : attributeBase o name X.env (eval o X.env) = eval o X.env)
    (hfew : ((backTo cpos (starEach (e :: es) X.env)).all (fun x => !x.1) && (backToKw cpos (keywordEach [] X.env)).all (fun x => x.1.isSome)
      && decide ((e :: es).length + ([] : List Keyword).length + (if ([] : List Keyword).isEmpty then 0 else 1) < 30)) = true)
    (hline : (apos.endLine == cpos.line) = true) (hs : starEach (e :: es) X.env = (false, eval e X.env) :: starEach es X.env) (hplain : (backTo cpos (starEach es X.env)).any (·.1) = false)
    (h : wE X o σ H fun x H1 => tyV X.K T x H1 ∧ wA X (e :: es) σ H1 fun xs H2 => wM X id x xs H2 Q) : wE X (.Call (.Attribute o name apos) (e :: es) [] cpos) σ H Q :=
  to_e (pe_bm pa slot hty mt_w pe_w pa_w hbase hfew hline hs hplain) h
theorem m_append {l : Addr} {xs : List V} {y : V} (h : H l = some (.lst xs)) (hz : xs.length < sizeLine) (q : Q .non (upd H l (.lst (xs ++ [y])))) : wM X "list.append" (.ref l) [y] H Q := to_m mt_append ⟨l, xs, y, rfl, rfl, h, hz, q⟩
theorem m_extend {l m : Addr} {xs ys : List V} (h : H l = some (.lst xs)) (h2 : H m = some (.lst ys)) (hz : xs.length + ys.length ≤ sizeLine) (q : Q .non (upd H l (.lst (xs ++ ys)))) : wM X "list.extend" (.ref l) [.ref m] H Q := to_m mt_extend ⟨l, m, xs, ys, rfl, rfl, h, h2, hz, q⟩
theorem ty_list {p : Addr} {xs : List V} {K : PySem.W.Frag} (h : SqL K H p xs) : tyV K "list" (.ref p) H := .inl ⟨rfl, xs, h⟩
/-! ### loops -/
variable {D : Ends} {body : List Stmt} {tg it : Expr}
theorem s_while (hp : PassesOwn (model X.prog X.w) X.A X.env X.xe) (Pv : Nat → St → Hp → Prop) (m0 : Nat) (h0 : Pv m0 σ H)
    (hs : ∀ m σ' H', Pv m σ' H' → wT X c σ' H' fun k H1 => if k = true then wB X body { nx := fun σ2 H2 => ∃ m', m' < m ∧ Pv m' σ2 H2, rt := D.rt, bk := D.nx, ct := fun σ2 H2 => ∃ m', m' < m ∧ Pv m' σ2 H2 } σ' H1 else D.nx σ' H1) :
    wS X (.While c body [] pos) D σ H :=
  to_s (ps_while hp pt_w pb_w) ⟨Pv, ⟨m0, h0⟩, fun m σ' H' p => wT.mono (hs m σ' H' p) fun k H1 q => by
    cases k with
    | true => exact ⟨_, fun _ _ z => z, q⟩
    | false => exact q⟩
theorem s_forL (hp : PassesOwn (model X.prog X.w) X.A X.env X.xe) (hc : X.calm = true) (hf : ∀ x, foldedSetIterable it X.env x = pure x)
    (h : wE X it σ H fun x H1 => ∃ a xs, x = .ref a ∧ SqL X.K H1 a xs ∧ ∃ Pv : Nat → St → Hp → Prop, Pv 0 σ H1 ∧ (∀ i σ' H', i ≤ xs.length → Pv i σ' H' → SqL X.K H' a xs) ∧
      (∀ i y σ' H', xs[i]? = some y → Pv i σ' H' → wG X tg y σ' H' fun σ2 H2 => wB X body { nx := Pv (i + 1), rt := D.rt, bk := D.nx, ct := Pv (i + 1) } σ2 H2) ∧ (∀ σ' H', Pv xs.length σ' H' → D.nx σ' H')) :
    wS X (.For tg it body [] pos) D σ H :=
  to_s (ps_for hp hc (pi_list pe_w) pg_w pb_w hf) (wE.mono h fun x H1 ⟨a, xs, e, hx, Pv, h0, hl, hs, hd⟩ => ⟨a, e, ⟨xs, hx⟩, for_list Pv h0 hl hs hd⟩)
theorem s_forT (hp : PassesOwn (model X.prog X.w) X.A X.env X.xe) (hc : X.calm = true) (hf : ∀ x, foldedSetIterable it X.env x = pure x)
    (h : wE X it σ H fun x H1 => ∃ a xs, x = .ref a ∧ SqT X.K H1 a xs ∧ ∃ Pv : Nat → St → Hp → Prop, Pv 0 σ H1 ∧ (∀ i σ' H', i ≤ xs.length → Pv i σ' H' → SqT X.K H' a xs) ∧
      (∀ i y σ' H', xs[i]? = some y → Pv i σ' H' → wG X tg y σ' H' fun σ2 H2 => wB X body { nx := Pv (i + 1), rt := D.rt, bk := D.nx, ct := Pv (i + 1) } σ2 H2) ∧ (∀ σ' H', Pv xs.length σ' H' → D.nx σ' H')) :
    wS X (.For tg it body [] pos) D σ H :=
  to_s (ps_for hp hc (pi_tup pe_w) pg_w pb_w hf) (wE.mono h fun x H1 ⟨a, xs, e, hx, Pv, h0, hl, hs, hd⟩ => ⟨a, e, ⟨xs, hx⟩, for_tup Pv h0 hl hs hd⟩)
/-- for .. in range(a) -/
theorem s_forR {p : Pos} (hp : PassesOwn (model X.prog X.w) X.A X.env X.xe) (hc : X.calm = true) (hg : Gl X "range") (hm : X.mg "range" = none) (hs1 : starEach [a] X.env = [(false, eval a X.env)]) (hf : ∀ x, foldedSetIterable (.Call (.Name "range" p) [a] [] pos) X.env x = pure x) {pos' : Pos}
    (h : wA X [a] σ H fun vs H1 => ∃ n : Nat, vs = [.int (n : Int)] ∧ n < 2 ^ 62 ∧ ∃ Pv : Nat → St → Hp → Prop, Pv 0 σ H1 ∧
      (∀ i σ' H', i < n → Pv i σ' H' → wG X tg (.int (i : Int)) σ' H' fun σ2 H2 => wB X body { nx := Pv (i + 1), rt := D.rt, bk := D.nx, ct := Pv (i + 1) } σ2 H2) ∧ (∀ σ' H', Pv n σ' H' → D.nx σ' H')) :
    wS X (.For tg (.Call (.Name "range" p) [a] [] pos) body [] pos') D σ H :=
  to_s (ps_for hp hc (pi_range1 hg hm pa_w hs1) pg_w pb_w hf) (wA.mono h fun vs H1 ⟨n, e, hz, Pv, h0, hs, hd⟩ => ⟨(n : Int), e, by omega, by omega, by
    rw [Int.toNat_natCast]
    exact for_range Pv h0 (fun i σ' H' hi p => by rw [Int.zero_add]; exact hs i σ' H' hi p) hd⟩)
/-- for .. in range(a, b) -/
theorem s_forR2 {p : Pos} (hp : PassesOwn (model X.prog X.w) X.A X.env X.xe) (hc : X.calm = true) (hg : Gl X "range") (hm : X.mg "range" = none) (hs1 : starEach [a, b] X.env = [(false, eval a X.env), (false, eval b X.env)]) (hs2 : starEach [b] X.env = [(false, eval b X.env)])
    (hf : ∀ x, foldedSetIterable (.Call (.Name "range" p) [a, b] [] pos) X.env x = pure x) {pos' : Pos}
    (h : wA X [a, b] σ H fun vs H1 => ∃ lo hi : Int, vs = [.int lo, .int hi] ∧ (-(2 ^ 62) ≤ lo ∧ lo < 2 ^ 62 ∧ -(2 ^ 62) ≤ hi ∧ hi < 2 ^ 62) ∧ ∃ Pv : Nat → St → Hp → Prop, Pv 0 σ H1 ∧
      (∀ (i : Nat) σ' H', lo + i < hi → Pv i σ' H' → wG X tg (.int (lo + i)) σ' H' fun σ2 H2 => wB X body { nx := Pv (i + 1), rt := D.rt, bk := D.nx, ct := Pv (i + 1) } σ2 H2) ∧ (∀ σ' H', Pv (hi - lo).toNat σ' H' → D.nx σ' H')) :
    wS X (.For tg (.Call (.Name "range" p) [a, b] [] pos) body [] pos') D σ H :=
  to_s (ps_for hp hc (pi_range2 hg hm pa_w hs1 hs2) pg_w pb_w hf) (wA.mono h fun vs H1 ⟨lo, hi, e, hz, Pv, h0, hs, hd⟩ => ⟨lo, hi, e, hz,
    for_range Pv h0 (fun i σ' H' hi p => hs i σ' H' (by omega) p) hd⟩)
/-! ### list comprehensions with one clause -/
def wIf (X : Cx) : List Expr → TT
  | [] => fun _ H Q => Q true H
  | [c] => wT X c
  | _ => fun _ _ _ => False
theorem pif_w {ifs : List Expr} : PTs X ifs (wIf X ifs) := by
  match ifs with
  | [] => exact pts_nil
  | [c] => exact pts_one pt_w
  | _ :: _ :: _ => exact ⟨fun _ _ _ _ _ _ h => h.elim⟩
/-- what a block asks, whatever the state in which it began -/
def Blk (X : Cx) (scope : Scope) (P : Cx → Prop) : Prop := ∀ (s : Shared) (H : Hp) (C : Addr) (cl : List (Str × Addr)) (fp : List Addr), P (X.blk s H scope (compEnvC scope cl C X.env) fp)
def bG (X : Cx) (scope : Scope) (e : Expr) : TG := fun v σ H Q => Blk X scope fun Y => wG Y e v σ H Q
def bE (X : Cx) (scope : Scope) (e : Expr) : TE := fun σ H Q => Blk X scope fun Y => wE Y e σ H Q
def bIf (X : Cx) (scope : Scope) (ifs : List Expr) : TT := fun σ H Q => Blk X scope fun Y => wIf Y ifs σ H Q
section
variable {scope : Scope} {ifs : List Expr} {elt : Expr} {own : List (Str × Nat)}
theorem lc_w {wi : TI} (hc : X.calm = true) (hN : X.N.Nodup) (ok : blkC X.N X.env.scope scope own = true) (hf : ∀ x, foldedSetIterable it X.env x = pure x) (hi : PI X tg it wi) : PE X (.ListComp elt [⟨tg, it, ifs, 0⟩] scope pos) (tLc wi (bG X scope tg) (bIf X scope ifs) (bE X scope elt) (own.map (·.2))) :=
  pe_lc hc hN hi (blkOk_by ok) (fun s G C cl fp => ⟨fun pins s' σ H v u Q I r h => wG.run (h s G C cl fp) pins s' u I r⟩) (fun s H C cl fp => ⟨fun pins s' σ H Q I h => pif_w.run pins s' σ H Q I (h _ _ _ _ _)⟩) (fun s G C cl fp => ⟨fun pins s' σ H Q I h => wE.run (h s G C cl fp) pins s' I⟩) hf
/-- one turn: the target stored, the tests, the element; Nx is what is to hold behind it -/
def bTurn (X : Cx) (scope : Scope) (tg : Expr) (ifs : List Expr) (elt : Expr) (vs : List Nat) (σ : St) (l : Addr) (Nx : Hp → Prop) (x : V) (H : Hp) : Prop :=
  bG X scope tg x (wipe σ vs) H fun σ2 H2 => wipe σ2 vs = wipe σ vs ∧ bIf X scope ifs σ2 H2 fun b H3 => if b = true then bE X scope elt σ2 H3 fun y H4 => ∃ acc, H4 l = some (.lst acc) ∧ acc.length < sizeLine ∧ Nx (upd H4 l (.lst (acc ++ [y]))) else Nx H3
theorem e_lcL (hc : X.calm = true) (hN : X.N.Nodup) (ok : blkC X.N X.env.scope scope own = true) (hf : ∀ x, foldedSetIterable it X.env x = pure x)
    (h : wE X it σ H fun x H1 => ∃ a xs, x = .ref a ∧ SqL X.K H1 a xs ∧ ∀ l H2, New H1 H2 l (.lst []) → ∃ Pv : Nat → Hp → Prop, Pv 0 H2 ∧ (∀ i H', i ≤ xs.length → Pv i H' → SqL X.K H' a xs) ∧
      (∀ i y H', xs[i]? = some y → Pv i H' → bTurn X scope tg ifs elt (own.map (·.2)) σ l (Pv (i + 1)) y H') ∧ (∀ H', Pv xs.length H' → Q (.ref l) H')) : wE X (.ListComp elt [⟨tg, it, ifs, 0⟩] scope pos) σ H Q :=
  to_e (lc_w hc hN ok hf (pi_list pe_w)) (wE.mono h fun x H1 ⟨a, xs, e, hx, q⟩ => ⟨a, e, ⟨xs, hx⟩, fun l hl => by
    obtain ⟨Pv, h0, h1, h2, h3⟩ := q l _ (New.mk' hl)
    exact lc_list Pv h0 h1 h2 h3⟩)
theorem e_lcT (hc : X.calm = true) (hN : X.N.Nodup) (ok : blkC X.N X.env.scope scope own = true) (hf : ∀ x, foldedSetIterable it X.env x = pure x)
    (h : wE X it σ H fun x H1 => ∃ a xs, x = .ref a ∧ SqT X.K H1 a xs ∧ ∀ l H2, New H1 H2 l (.lst []) → ∃ Pv : Nat → Hp → Prop, Pv 0 H2 ∧ (∀ i H', i ≤ xs.length → Pv i H' → SqT X.K H' a xs) ∧
      (∀ i y H', xs[i]? = some y → Pv i H' → bTurn X scope tg ifs elt (own.map (·.2)) σ l (Pv (i + 1)) y H') ∧ (∀ H', Pv xs.length H' → Q (.ref l) H')) : wE X (.ListComp elt [⟨tg, it, ifs, 0⟩] scope pos) σ H Q :=
  to_e (lc_w hc hN ok hf (pi_tup pe_w)) (wE.mono h fun x H1 ⟨a, xs, e, hx, q⟩ => ⟨a, e, ⟨xs, hx⟩, fun l hl => by
    obtain ⟨Pv, h0, h1, h2, h3⟩ := q l _ (New.mk' hl)
    exact lc_tup Pv h0 h1 h2 h3⟩)
theorem e_lcR {p : Pos} {pos' : Pos} (hc : X.calm = true) (hN : X.N.Nodup) (ok : blkC X.N X.env.scope scope own = true) (hg : Gl X "range") (hm : X.mg "range" = none) (hs1 : starEach [a] X.env = [(false, eval a X.env)]) (hf : ∀ x, foldedSetIterable (.Call (.Name "range" p) [a] [] pos') X.env x = pure x)
    (h : wA X [a] σ H fun vs H1 => ∃ n : Int, vs = [.int n] ∧ -(2 ^ 62) ≤ n ∧ n < 2 ^ 62 ∧ ∀ l H2, New H1 H2 l (.lst []) → ∃ Pv : Nat → Hp → Prop, Pv 0 H2 ∧
      (∀ (i : Nat) H', i < n.toNat → Pv i H' → bTurn X scope tg ifs elt (own.map (·.2)) σ l (Pv (i + 1)) (.int (i : Int)) H') ∧ (∀ H', Pv n.toNat H' → Q (.ref l) H')) :
    wE X (.ListComp elt [⟨tg, .Call (.Name "range" p) [a] [] pos', ifs, 0⟩] scope pos) σ H Q :=
  to_e (lc_w hc hN ok hf (pi_range1 hg hm pa_w hs1)) (wA.mono h fun vs H1 ⟨n, e, h1, h2, q⟩ => ⟨n, e, h1, h2, fun l hl => by
    obtain ⟨Pv, h0, hs, h3⟩ := q l _ (New.mk' hl)
    exact lc_range Pv h0 (fun i H' hi p => by rw [Int.zero_add]; exact hs i H' hi p) h3⟩)
end
end
end Tw
/-! Tw3: contracts that know that no repr is running (so that one may begin); calls; the end of a law. -/
namespace Tw
open PySem PySem.Spec PyProof.Rows L2
open L2H (RoomH)

/-- a def's promise at every call under which no repr runs; c: only where no exception is handled -/
structure FnG (P : Program) (w : World) (K : PySem.W.Frag) (mg : Str → Option Value) (base : Heap) (CX : CXT) (c : Bool) (k : Nat) (f : Addr) (fd : FuncData) (ps : List Str) (sp : Sp) : Prop where
  len : ∀ vs H Q E, sp vs H Q E → vs.length = ps.length
  run : ∀ (A : Around) (outer : List Env) (s : Shared) (H : Hp) (args : Args) (us : List Value) (vs : List V) (Q : VK) (E : XK), RoomH k A → (c = true → A.handled = none) → A.guards = some [] → Env0 P w K mg base A outer s H →
    BindsTo s fd args (ps.zip us) → Vals vs us → sp vs H Q E → codeAny (model P w) A (.call (.ref f) args) (CR CX outer P w H s Q E) s
/-- the context of such a def's body -/
abbrev cxG (CX : CXT) (P : Program) (w : World) (K : PySem.W.Frag) (mg : Str → Option Value) (base : Heap) (N : List Str) (qual : Str) (scope : Scope) (f : Addr) (cd : Value) (A : Around) (outer : List Env) (s : Shared) (H : Hp) (E : XK) (c : Bool) : Cx :=
  { cxOf CX P w K mg base N qual scope f cd A outer s H E with calm := c }
section
variable {CX : CXT} {P : Program} {w : World} {K : PySem.W.Frag} {mg : Str → Option Value} {base : Heap} {c : Bool} {k : Nat} {f : Addr} {fd : FuncData} {ps : List Str} {sp : Sp}
theorem FnG.mono {j : Nat} (F : FnG P w K mg base CX c j f fd ps sp) (h : j ≤ k) : FnG P w K mg base CX c k f fd ps sp :=
  ⟨F.len, fun A outer s H args us vs Q E hr => F.run A outer s H args us vs Q E (hr.mono h)⟩
theorem FnG.calm (F : FnG P w K mg base CX false k f fd ps sp) : FnG P w K mg base CX c k f fd ps sp :=
  ⟨F.len, fun A outer s H args us vs Q E hr _ => F.run A outer s H args us vs Q E hr (fun z => Bool.noConfusion z)⟩
theorem FnG.of_ok (F : FnOk P w K mg base CX k f fd ps sp) : FnG P w K mg base CX true k f fd ps sp :=
  ⟨F.len, fun A outer s H args us vs Q E hr hh _ => F.run A outer s H args us vs Q E ⟨hh rfl, hr.dp, hr.un⟩⟩
/-- the entry of a body, whatever is handled -/
theorem inv_any {N : List Str} {qual : Str} {scope : Scope} {cd : Value} {A : Around} {outer : List Env} {s s1 : Shared} {H : Hp} {E : XK} {us : List Value} {vs : List V} (S : FnScope N ps scope) (hh : c = true → A.handled = none)
    (e0 : Env0 P w K mg base A outer s H) (hl : vs.length = ps.length) (r : Vals vs us)
    (x : InCallC s s.heap.objs.size (bindL (envOfC qual scope s.heap.objs.size f cd).kindOf (ps.zip us) fun _ => none) (cellsFrom (s.heap.objs.size + 1) scope.names []) (bindC (envOfC qual scope s.heap.objs.size f cd).kindOf (ps.zip us) fun _ => none) s1) :
    Inv (cxG CX P w K mg base N qual scope f cd A outer s H E c) [] (start N vs) H s1 := by
  have e1 : Env0 P w K mg base { A with handled := none } outer s H := ⟨e0.frames, e0.mod, e0.bs, e0.bsz, e0.funs, e0.frf, e0.hok, e0.bare⟩
  have J := inv_start (CX := CX) (E := E) (A := { A with handled := none }) S rfl e1 hl r x
  have o := J.ok
  exact ⟨⟨o.mod, o.kind, o.glob, o.blt, o.above, o.inj, o.has, o.cab, fun z => hh z, Around.frames_deeper e0.frames, o.stk, o.exf, o.bs, o.bsz, o.noex, o.exfs, o.funs, o.frf⟩, J.os, J.bare, J.base, J.loc, J.cell, J.free, J.freeC, J.pin, J.hok, J.len⟩
/-- THE RULE for a def of the text: its body walked from the entry -/
theorem fn_g {x qual : Str} {st : Stmt} {N : List Str} (F : Fun K x qual st f fd) (S : FnScope N ps (defScope st)) (len : ∀ vs H Q E, sp vs H Q E → vs.length = ps.length)
    (hbody : ∀ (cdv : Value) (A : Around) (outer : List Env) (s : Shared) (H : Hp) (vs : List V) (Q : VK) (E : XK), RoomH k (A.deeper (envOfC qual (defScope st) s.heap.objs.size f cdv)) → (c = true → A.handled = none) → A.guards = some [] → sp vs H Q E →
      wB (cxG CX P w K mg base N qual (defScope st) f cdv A outer s H E c) (defBody st) { nx := fun _ H' => Q .non H', rt := Q } (start N vs) H) : FnG P w K mg base CX c (k + 1) f fd ps sp := by
  obtain ⟨oc, od, kV, doc, pm, an, cdv, ct, osl, rfl, lk, hcd⟩ := F.ex
  refine ⟨len, fun A outer s H args us vs Q E hr hh hg e0 hb r hsp => ?_⟩
  have hl := len _ _ _ _ hsp
  have keep := fun (b : Addr) (o : Obj) (e : base.get? b = some o) => (e0.bs b o e).1
  have KX : K.In s.heap := e0.mod.kin.keeps keep
  have lim : s.heap.NoLimit := e0.mod.nolimit.keeps keep
  refine codeAny_call_function hr.depth (KX _ _ lk) rfl S.co S.gen rfl (PySem.W.codeRec_of KX hcd) (hb _ _ _ _ ?_)
  refine wpAny_newFunctionEnv_cells S.kind (fun y hy => ?_) fun env he s1 x => ?_
  · rcases S.par y.1 (List.of_mem_zip hy).1 with q | q
    · exact .inl q
    · exact .inr ⟨q, PySem.W.cellsFrom_some _ _ _ (.inl q)⟩
  subst he
  refine ⟨lim.keeps x.toInCall.keep, codeAny_func ?_⟩
  refine wpAny_mono ((hbody cdv A outer s H vs Q E (hr.deeper _) hh hg hsp).run [] s1 (inv_any S hh e0 hl r x)) (fun fl s' hs => ?_) fun e s' hs => hs
  cases fl with
  | ret u =>
    obtain ⟨v, σ', H', J, rv, q⟩ := hs
    exact ⟨v, H', J.os, J.bare, J.base, J.hok, rv, q⟩
  | next =>
    obtain ⟨σ', H', J, q⟩ := hs
    exact ⟨V.non, H', J.os, J.bare, J.base, J.hok, rfl, q⟩
  | brk => exact False.elim hs.choose_spec.choose_spec.2
  | cont => exact False.elim hs.choose_spec.choose_spec.2
end
/-! ### what a caller knows of a def that stands under a name of the module -/
structure Cal (P : Program) (w : World) (K : PySem.W.Frag) (mg : Str → Option Value) (base : Heap) (CX : CXT) (c : Bool) (k : Nat) (x : Str) (dvs : List V) (sp : Sp) : Prop where
  ex : ∃ (f : Addr) (fd : FuncData) (ps : List Str) (ds : List Value), FnG P w K mg base CX c k f fd ps sp ∧ mg x = some (.ref f) ∧ PySem.W.keepIn K (.ref f) = true ∧ Binds K fd ps ds ∧ Vals dvs ds
section
variable {P : Program} {w : World} {K : PySem.W.Frag} {mg : Str → Option Value} {base : Heap} {CX : CXT} {c : Bool} {k : Nat} {x : Str} {dvs : List V} {sp : Sp}
theorem Cal.mono {j : Nat} (C : Cal P w K mg base CX c j x dvs sp) (h : j ≤ k) : Cal P w K mg base CX c k x dvs sp := by
  obtain ⟨f, fd, ps, ds, F, r⟩ := C.ex
  exact ⟨f, fd, ps, ds, F.mono h, r⟩
theorem Cal.calm (C : Cal P w K mg base CX false k x dvs sp) : Cal P w K mg base CX c k x dvs sp := by
  obtain ⟨f, fd, ps, ds, F, r⟩ := C.ex
  exact ⟨f, fd, ps, ds, F.calm, r⟩
end
section
variable {X : Cx} {CX : CXT} {c : Bool} {k : Nat} {f : Addr} {fd : FuncData} {ps : List Str} {sp : Sp} {dvs : List V} {ds : List Value} {E : St → XK} {x : Str} {p pos : Pos} {e : Expr} {es : List Expr} {σ : St} {H : Hp} {Q : VK}
theorem run_g {pins : List (Addr × Obj)} {s : Shared} {us : List Value} {vs : List V} (F : FnG X.prog X.w X.K X.mg X.base CX c k f fd ps sp) (hr : RoomH k X.A) (hh : c = true → X.A.handled = none) (hg : X.A.guards = some []) (hb : Binds X.K fd ps ds) (hd : Vals dvs ds)
    (hx : PassesAt CX X σ (E σ)) (I : Inv X pins σ H s) (r : Vals vs us) (h : sp (vs ++ dvs) H Q (E σ)) : wpAny (model X.prog X.w) X.A (call (.ref f) us) (EP X pins σ Q) X.xe s := by
  have r2 : Vals (vs ++ dvs) (us ++ ds) := r.append hd
  have hl : (us ++ ds).length = ps.length := r2.length.symm.trans (F.len _ _ _ _ h)
  refine wpAny_call (codeAny_mono (F.run X.A X.stack s H ⟨us, []⟩ (us ++ ds) (vs ++ dvs) Q (E σ) hr hh hg I.env0 (hb s us I.kIn hl) r2 h) fun r s' hq => ?_)
  match r with
  | .error e => exact hx pins H s e s' I hq
  | .ok (.ret u) => exact I.after hq
  | .ok .next => exact False.elim hq
  | .ok .brk => exact False.elim hq
  | .ok .cont => exact False.elim hq
/-- f(e, ..); E: what is wanted of an exception, by the slots -/
theorem e_call (C : Cal X.prog X.w X.K X.mg X.base CX c k x dvs sp) (E : St → XK) (hr : RoomH k X.A) (hh : c = true → X.A.handled = none) (hg : X.A.guards = some []) (hx : ∀ σ, PassesAt CX X σ (E σ)) (hgl : Gl X x)
    (he : starEach (e :: es) X.env = (false, eval e X.env) :: starEach es X.env) (hpl : (backTo pos (starEach es X.env)).any (·.1) = false)
    (h : wA X (e :: es) σ H fun vs H1 => sp (vs ++ dvs) H1 Q (E σ)) (hdb : (x == ("__debug__" : Str)) = false := by decide) : wE X (.Call (.Name x p) (e :: es) [] pos) σ H Q := by
  obtain ⟨f, fd, ps, ds, F, hm, hk, hb, hd⟩ := C.ex
  refine ⟨fun pins s I => ?_⟩
  refine wpAny_Call_Name_kw (ld_glob I hgl hm ?_ hdb)
  refine PySem.W.callWith_K (h₀ := X.base) I.ok.mod.kin hk (thn (h.run pos pins s I) fun us s1 ⟨vs, H1, I1, r, q⟩ => ⟨I1.kIn, ?_⟩) he hpl
  exact run_g F hr hh hg hb hd (hx σ) I1 r q
theorem e_call0 (C : Cal X.prog X.w X.K X.mg X.base CX c k x dvs sp) (E : St → XK) (hr : RoomH k X.A) (hh : c = true → X.A.handled = none) (hg : X.A.guards = some []) (hx : ∀ σ, PassesAt CX X σ (E σ)) (hgl : Gl X x)
    (h : sp dvs H Q (E σ)) (hdb : (x == ("__debug__" : Str)) = false := by decide) : wE X (.Call (.Name x p) [] [] pos) σ H Q := by
  obtain ⟨f, fd, ps, ds, F, hm, hk, hb, hd⟩ := C.ex
  refine ⟨fun pins s I => ?_⟩
  refine wpAny_Call_Name_kw (ld_glob I hgl hm ?_ hdb)
  exact PySem.W.callWith_K0 I.kIn hk (run_g (us := []) F hr hh hg hb hd (hx σ) I .nil h)
theorem pass_0 {σ : St} : PassesAt CX0 X σ (fun _ _ _ => False) := fun _ _ _ _ _ _ h => h.elim
theorem passOf {E : XK} (h : Passes CX X E) : PassesAt CX X σ E := fun pins H s e s' I c => h pins σ H s e s' I c
end
/-! ### the end of a law -/
section
variable {P : Program} {w : World} {K : PySem.W.Frag} {mg mb : Str → Option Value} {k : Nat} {fa a : Addr} {fd : FuncData} {x : Str} {sp : Sp} {s₁ : Shared} {vs : List Value} {ns : List Int}
/-- the law called, from an abstract heap H in which nothing but the script at a may be tracked -/
theorem law_from {H : Hp} (KX : K.In s₁.heap) (hns : s₁.heap.Ns mainGlobals mg) (hb : s₁.heap.Ns builtinsNs mb) (hbb : ∀ x : Str, x ≠ "__name__" → mb x = bootBuiltins x) (hlim : s₁.heap.NoLimit) (hg : s₁.gens = #[])
    (ha : s₁.heap.get? a = some { cls := .type "list", data := .seq vs.toArray }) (hr : Room k callerA)
    (F : ∀ base : Heap, K.In base → base.Ns mainGlobals mg → FnG P w K mg base CX0 true k fa fd [x] sp) (hbind : ∀ (s : Shared) (u : Value), BindsTo s fd ⟨[u], []⟩ [(x, u)])
    (hO : Only H) (hok : HOk P w H s₁.heap) (hA : ∀ b, H b ≠ none → b = a) (hK : H a ≠ none → K.lookup a = none) (hsp : sp [.ref a] H (fun v _ => v = .bl true) fun _ _ _ => False) :
    codeAny (model P w) callerA (.call (.ref fa) ⟨[.ref a], []⟩) (fun r s' => r = .ok (.ret (.bool true)) ∧ OldK s₁.heap s'.heap ∧ s'.os = s₁.os ∧ AllBare s'.gens) s₁ := by
  -- what is no list is not tracked
  have plain : ∀ (b : Addr) (o : Obj) (es : Array DictEntry) (ep : Nat), s₁.heap.get? b = some o → o.data = .dict es ep → H b = none := by
    intro b o es ep e d
    by_cases z : H b = none
    · exact z
    · rw [hA b z, ha] at e
      have e2 := Option.some.inj e
      rw [← e2] at d
      exact Data.noConfusion d
  have stays : ∀ (b : Addr) (m : Str → Option Value), s₁.heap.Ns b m → (hidT s₁.heap H).Ns b m := by
    rintro b m ⟨o, es, ep, e, d, r⟩
    exact ⟨o, es, ep, hidT_get e (plain b o es ep e d), d, r⟩
  have inb : K.In (hidT s₁.heap H) := by
    intro b o e
    refine hidT_get (KX b o e) ?_
    by_cases z : H b = none
    · exact z
    · have z2 := hA b z
      rw [z2] at z e
      rw [hK z] at e
      exact nomatch e
  have hlim' : (hidT s₁.heap H).NoLimit := by
    obtain ⟨mc, h1, h2⟩ := hlim
    exact ⟨mc, stays _ _ h1, h2⟩
  have e0 : Env0 P w K mg (hidT s₁.heap H) callerA [] s₁ H := {
    frames := rfl
    mod := ⟨inb, stays _ _ hns, ⟨mb, stays _ _ hb, hbb⟩, hlim'⟩
    bs := fun b o e => of_hidT e
    bsz := Nat.le_of_eq (hidT_size _ _)
    funs := trivial
    frf := fun b hb => absurd hb (List.not_mem_nil)
    hok := hok
    bare := .of_eq hg }
  refine codeAny_mono ((F _ inb (stays _ _ hns)).run callerA [] s₁ H ⟨[.ref a], []⟩ [.ref a] [.ref a] _ _ (L2H.roomH_of hr) (fun _ => hr.hd) rfl e0 (hbind s₁ (.ref a)) (.cons rfl .nil) hsp) fun r s' h => ?_
  match r, h with
  | .error e, h => exact False.elim h
  | .ok .next, h => exact False.elim h
  | .ok .brk, h => exact False.elim h
  | .ok .cont, h => exact False.elim h
  | .ok (.ret u), h =>
    obtain ⟨v, H', os, bare, un, hok', rv, q⟩ := h
    have q2 : v = .bl true := q
    rw [q2] at rv
    have rv2 : u = Value.bool true := rv
    refine ⟨by rw [rv2], OldK.of_keep fun b o e => ?_, os, bare⟩
    rcases hO b with z | ⟨ob, xs, z⟩
    · exact un.keep b o e z (List.not_mem_nil) (List.not_mem_nil)
    · have k1 := (hok b _ z).1
      have k2 := (hok' b _ (un.frzs b ob _ z)).1
      rw [e] at k1
      rw [k2, ← k1]
theorem law_g (KX : K.In s₁.heap) (hns : s₁.heap.Ns mainGlobals mg) (hb : s₁.heap.Ns builtinsNs mb) (hbb : ∀ x : Str, x ≠ "__name__" → mb x = bootBuiltins x) (hlim : s₁.heap.NoLimit) (hg : s₁.gens = #[])
    (ha : s₁.heap.get? a = some { cls := .type "list", data := .seq vs.toArray }) (hi : IntsAre vs ns) (hl : ns.length ≤ sizeLine) (hr : Room k callerA)
    (F : ∀ base : Heap, K.In base → base.Ns mainGlobals mg → FnG P w K mg base CX0 true k fa fd [x] sp) (hbind : ∀ (s : Shared) (u : Value), BindsTo s fd ⟨[u], []⟩ [(x, u)])
    (hsp : ∀ H : Hp, Only H → SqL K H a (ns.map V.int) → sp [.ref a] H (fun v _ => v = .bl true) fun _ _ _ => False) :
    codeAny (model P w) callerA (.call (.ref fa) ⟨[.ref a], []⟩) (fun r s' => r = .ok (.ret (.bool true)) ∧ OldK s₁.heap s'.heap ∧ s'.os = s₁.os ∧ AllBare s'.gens) s₁ := by
  have rv := vals_ints hi
  have hvl : vs.length ≤ sizeLine := by rw [hi.length]; exact hl
  by_cases hk : K.lookup a = none
  · -- the script stands apart: tracked, never to be written
    have at_a : ∀ (b : Addr), b = a → (fun b => if b = a then some (HO.frz { cls := .type "list", data := .seq vs.toArray } (.lst (ns.map V.int))) else none : Hp) b = some (.frz { cls := .type "list", data := .seq vs.toArray } (.lst (ns.map V.int))) := fun b h => if_pos h
    have off : ∀ (b : Addr), b ≠ a → (fun b => if b = a then some (HO.frz { cls := .type "list", data := .seq vs.toArray } (.lst (ns.map V.int))) else none : Hp) b = none := fun b h => if_neg h
    refine law_from KX hns hb hbb hlim hg ha hr F hbind (H := fun b => if b = a then some (HO.frz { cls := .type "list", data := .seq vs.toArray } (.lst (ns.map V.int))) else none) (fun b => ?_) (fun b u z => ?_) (fun b z => ?_) (fun _ => hk) (hsp _ (fun b => ?_) (.inl (.inr ⟨_, at_a a rfl⟩)))
    · by_cases h : b = a
      · exact .inr ⟨_, _, at_a b h⟩
      · exact .inl (off b h)
    · by_cases h : b = a
      · have z2 := (at_a b h).symm.trans z
        have z3 := Option.some.inj z2
        rw [← z3, h]
        exact ⟨ha, by rw [List.length_map]; exact hl, vs, _, rv, ha⟩
      · have z2 := (off b h).symm.trans z
        exact nomatch z2
    · by_cases h : b = a
      · exact h
      · exact absurd (off b h) z
    · by_cases h : b = a
      · exact .inr ⟨_, _, at_a b h⟩
      · exact .inl (off b h)
  · -- one of the module's own objects
    obtain ⟨o, ho⟩ := Option.ne_none_iff_exists'.mp hk
    have e := KX a o ho
    rw [ha] at e
    have e2 := Option.some.inj e
    have hS : SqL K (fun _ => none) a (ns.map V.int) := .inr ⟨o, vs.toArray, _, ho, by rw [← e2], by rw [← e2], by rw [← e2], by rw [List.size_toArray]; exact hvl, by simpa using rv⟩
    exact law_from KX hns hb hbb hlim hg ha hr F hbind (H := fun _ => none) (fun _ => .inl rfl) (fun b u z => nomatch z) (fun b z => absurd rfl z) (fun z => absurd rfl z) (hsp _ (fun _ => .inl rfl) hS)
end
/-- what k_head leaves, from the law's own promise -/
theorem walk_g {l : PySem.W.OpenLaw} {n k : Nat} {q : Program} {loose : List Str} {XP : (Str → Option Value) → Heap → Prop} {YP : World → Heap → Prop} {d : DefRec} {K : Params → PySem.W.Frag} {sp : PySem.W.Frag → Sp} {x : Str}
    (hn : l.most = some n) (hn2 : n ≤ sizeLine) (hdf : d.params.defaults = []) (hr : Room k callerA) (hY : ∀ (w : World) (h : Heap), YP w h → (K w.params).In h)
    (F : ∀ (w : World) (mg : Str → Option Value) (fa : Addr) (h : Heap), (K w.params).In h → h.Ns mainGlobals mg → mg d.name = some (.ref fa) →
      ∃ fd : FuncData, (∀ (s : Shared) (u : Value), BindsTo s fd ⟨[u], []⟩ [(x, u)]) ∧ ∀ base : Heap, (K w.params).In base → base.Ns mainGlobals mg → FnG l.prog w (K w.params) mg base CX0 true k fa fd [x] (sp (K w.params)))
    (hsp : ∀ (K : PySem.W.Frag) (H : Hp) (a : Addr) (ns : List Int), ns.length ≤ n → SqL K H a (ns.map V.int) → sp K [.ref a] H (fun v _ => v = .bl true) fun _ _ _ => False) :
    PySem.W.WalkO q loose XP YP l.row.toRowW d [] (fun f vs => PySem.call f vs) := by
  refine Att.attach_call hn hdf fun w s₀ s₁ mg mb fa o pm cd doc a vs ns G Y ho hd hcd hmg hobj hints hlen hg => ?_
  obtain ⟨fd, hb, hF⟩ := F w mg fa _ (hY w _ Y) G.T.g hmg
  exact law_g (hY w _ Y) G.T.g G.T.b G.T.builtins G.T.nolimit hg hobj hints (Nat.le_trans hlen hn2) hr hF hb (fun H _ hS => hsp _ H a ns hlen hS)
end Tw
/-! Tw4: data of any depth, dicts too; their repr. -/
namespace Tw
open PySem PySem.Spec PyProof.Rows L2
def keyD : Key → PyData
  | .inl i => .int i
  | .inr x => .str x
mutual
/-- v holds the data d -/
inductive Dt (K : PySem.W.Frag) (H : Hp) : V → PyData → Prop
  | non : Dt K H .non .none
  | bl (b : Bool) : Dt K H (.bl b) (.bool b)
  | int (i : Int) : Dt K H (.int i) (.int i)
  | str (x : Str) : Dt K H (.str x) (.str x)
  | lst {a : Addr} {xs : List V} {ds : List PyData} : SqL K H a xs → DtAll K H xs ds → Dt K H (.ref a) (.list ds)
  | tup {a : Addr} {xs : List V} {ds : List PyData} : SqT K H a xs → DtAll K H xs ds → Dt K H (.ref a) (.tuple ds)
  | dict {a : Addr} {kvs : List (Key × V)} {ds : List (PyData × PyData)} : H a = some (.dK kvs) → DtKv K H kvs ds → Dt K H (.ref a) (.dict ds)
inductive DtAll (K : PySem.W.Frag) (H : Hp) : List V → List PyData → Prop
  | nil : DtAll K H [] []
  | cons {v : V} {vs : List V} {d : PyData} {ds : List PyData} : Dt K H v d → DtAll K H vs ds → DtAll K H (v :: vs) (d :: ds)
inductive DtKv (K : PySem.W.Frag) (H : Hp) : List (Key × V) → List (PyData × PyData) → Prop
  | nil : DtKv K H [] []
  | cons {k : Key} {v : V} {kvs : List (Key × V)} {d : PyData} {ds : List (PyData × PyData)} : Dt K H v d → DtKv K H kvs ds → DtKv K H ((k, v) :: kvs) ((keyD k, d) :: ds)
end
mutual
theorem Dt.of_dp {K : PySem.W.Frag} {H : Hp} : ∀ {v : V} {d : PyData}, Dp K H v d → Dt K H v d
  | _, _, .non => .non
  | _, _, .bl b => .bl b
  | _, _, .int i => .int i
  | _, _, .str x => .str x
  | _, _, .lst h k => .lst h (DtAll.of_dp k)
  | _, _, .tup h k => .tup h (DtAll.of_dp k)
theorem DtAll.of_dp {K : PySem.W.Frag} {H : Hp} : ∀ {vs : List V} {ds : List PyData}, DpAll K H vs ds → DtAll K H vs ds
  | _, _, .nil => .nil
  | _, _, .cons h k => .cons (Dt.of_dp h) (DtAll.of_dp k)
end
theorem SqT_same {K : PySem.W.Frag} {H H' : Hp} {a : Addr} {xs : List V} (e : Same H H') (h : SqT K H a xs) : SqT K H' a xs := by
  rcases h with (h | ⟨o, h⟩) | h
  · exact .inl (.inl (e _ _ h))
  · exact .inl (.inr ⟨o, e _ _ h⟩)
  · exact .inr h
mutual
theorem Dp.same {K : PySem.W.Frag} {H H' : Hp} (e : Same H H') : ∀ {v : V} {d : PyData}, Dp K H v d → Dp K H' v d
  | _, _, .non => .non
  | _, _, .bl b => .bl b
  | _, _, .int i => .int i
  | _, _, .str x => .str x
  | _, _, .lst h k => .lst (e.seq h) (DpAll.same e k)
  | _, _, .tup h k => .tup (SqT_same e h) (DpAll.same e k)
theorem DpAll.same {K : PySem.W.Frag} {H H' : Hp} (e : Same H H') : ∀ {vs : List V} {ds : List PyData}, DpAll K H vs ds → DpAll K H' vs ds
  | _, _, .nil => .nil
  | _, _, .cons h k => .cons (Dp.same e h) (DpAll.same e k)
end
mutual
theorem Dt.same {K : PySem.W.Frag} {H H' : Hp} (e : Same H H') : ∀ {v : V} {d : PyData}, Dt K H v d → Dt K H' v d
  | _, _, .non => .non
  | _, _, .bl b => .bl b
  | _, _, .int i => .int i
  | _, _, .str x => .str x
  | _, _, .lst h k => .lst (e.seq h) (DtAll.same e k)
  | _, _, .tup h k => .tup (SqT_same e h) (DtAll.same e k)
  | _, _, .dict h k => .dict (e _ _ h) (DtKv.same e k)
theorem DtAll.same {K : PySem.W.Frag} {H H' : Hp} (e : Same H H') : ∀ {vs : List V} {ds : List PyData}, DtAll K H vs ds → DtAll K H' vs ds
  | _, _, .nil => .nil
  | _, _, .cons h k => .cons (Dt.same e h) (DtAll.same e k)
theorem DtKv.same {K : PySem.W.Frag} {H H' : Hp} (e : Same H H') : ∀ {vs : List (Key × V)} {ds : List (PyData × PyData)}, DtKv K H vs ds → DtKv K H' vs ds
  | _, _, .nil => .nil
  | _, _, .cons h k => .cons (Dt.same e h) (DtKv.same e k)
end
section
variable {X : Cx} {pins : List (Addr × Obj)} {σ : St} {H : Hp} {s : Shared}
/-- what is known of a value that is to be shown -/
structure Shw (P : Program) (w : World) (h : Heap) (u : Value) (d : PyData) : Prop where
  rd : ∃ as, Reads h u d as
  sh : ∃ bs, ReadAtMost h d.depth bs ∧ ReprK P w bs h d.depth u d.shown
structure ShwAll (P : Program) (w : World) (h : Heap) (us : List Value) (ds : List PyData) : Prop where
  rd : ∃ as, ReadsAll h us ds as
  sh : ∃ bs, ReadAtMost h (PyData.depthAll ds) bs ∧ ReprAllK P w bs h (PyData.depthAll ds) us (PyData.shownAll ds)
structure ShwKv (P : Program) (w : World) (h : Heap) (es : List DictEntry) (ds : List (PyData × PyData)) : Prop where
  rk : ∃ as, ReadsAll h (es.map (·.key)) (ds.map (·.1)) as
  rv : ∃ as, ReadsAll h (es.map (·.val)) (ds.map (·.2)) as
  sh : ∃ bs, ReadAtMost h (PyData.depthKv ds) bs ∧ ReprEntriesK P w bs h (PyData.depthKv ds) es (PyData.shownKv ds)
theorem lenOf {d : Str} {t : Str} (h : d.length ≤ sizeLine) (k : t.length ≤ d.length) : t.length ≤ sizeLine := Nat.le_trans k h
theorem ReprEntriesK.more_le {P : Program} {w : World} {h₀ : Heap} {as as' : List Addr} {d d' : Nat} (hsub : ∀ b ∈ as, b ∈ as') (hd : d ≤ d') : ∀ {l : List DictEntry} {ts : List Str}, ReprEntriesK P w as h₀ d l ts → ReprEntriesK P w as' h₀ d' l ts
  | _, _, .nil => .nil
  | _, _, .cons hk hv hl => .cons ((hk.more hsub).level_le hd) ((hv.more hsub).level_le hd) (ReprEntriesK.more_le hsub hd hl)
theorem key_shw {k : Key} {u : Value} (h : keyIs k u = true) (hs : (keyD k).showable = true) (hz : (keyD k).shown.length ≤ sizeLine) : Shw X.prog X.w s.heap u (keyD k) := by
  rcases keyIs_shape h with ⟨i, t, rfl, rfl⟩ | ⟨x, t, rfl, rfl⟩
  · have hs' : i.natAbs.log2 < 1920 := by simpa [keyD, PyData.showable] using hs
    exact ⟨⟨_, .int i t⟩, [], (fun _ h => nomatch h), by simp only [keyD, PyData.shown]; exact .of_is (ReprIs.int t hs') _ _ _⟩
  · have hz' : (reprText x).length ≤ sizeLine := by simpa only [keyD, PyData.shown] using hz
    exact ⟨⟨_, .str x t⟩, [], (fun _ h => nomatch h), by simp only [keyD, PyData.shown]; exact .of_is (ReprIs.str x t hz') _ _ _⟩
mutual
theorem Dt.shw (I : Inv X pins σ H s) : ∀ (d : PyData) (v : V) (u : Value), Dt X.K H v d → RelV v u → d.showable = true → d.shown.length ≤ sizeLine → Shw X.prog X.w s.heap u d
  | .none, _, _, h, r, _, _ => by
    cases h
    cases r
    exact ⟨⟨_, .none⟩, [], (fun _ h => nomatch h), by simp only [PyData.shown]; exact .of_is ReprIs.none _ _ _⟩
  | .bool b, _, _, h, r, _, _ => by
    cases h
    cases r
    exact ⟨⟨_, .bool b⟩, [], (fun _ h => nomatch h), by simp only [PyData.shown]; exact .of_is (ReprIs.bool b) _ _ _⟩
  | .int i, _, _, h, r, hs, _ => by
    cases h
    obtain ⟨t, rfl⟩ := r
    have hs' : i.natAbs.log2 < 1920 := by simpa [PyData.showable] using hs
    exact ⟨⟨_, .int i t⟩, [], (fun _ h => nomatch h), by simp only [PyData.shown]; exact .of_is (ReprIs.int t hs') _ _ _⟩
  | .str x, _, _, h, r, _, hz => by
    cases h
    obtain ⟨t, rfl⟩ := r
    have hz' : (reprText x).length ≤ sizeLine := by simpa only [PyData.shown] using hz
    exact ⟨⟨_, .str x t⟩, [], (fun _ h => nomatch h), by simp only [PyData.shown]; exact .of_is (ReprIs.str x t hz') _ _ _⟩
  | .list ds, _, _, h, r, hs, hz => by
    cases h with
    | @lst a xs _ hq ha =>
      cases r
      obtain ⟨its, rv, ⟨o, n, ho, hc, _, hd⟩, _⟩ := I.list hq
      have hz' : (listText (PyData.shownAll ds)).length ≤ sizeLine := by simpa only [PyData.shown] using hz
      obtain ⟨⟨as, hr⟩, bs, hb, hk⟩ := DtAll.shw I ds _ its ha rv (by simpa [PyData.showable] using hs) (fun t ht => lenOf hz' (listText_mem_le ht))
      have rd : Reads s.heap (.ref a) (.list ds) _ := .list ho hc hd hr
      refine ⟨⟨_, rd⟩, a :: bs, ReadAtMost.cons rd (by simp only [PyData.depth]; omega) hb, ?_⟩
      have hna : a ∉ bs := not_mem_of_deeper rd (by simp only [PyData.depth]; omega) hb
      simp only [PyData.depth, PyData.shown]
      cases its with
      | nil =>
        cases hr
        simp only [PyData.shownAll, listText_nil]
        exact ReprK.listEmpty ho hc hd
      | cons x l => exact ReprK.list ho hc hd hna (by simpa using hk.length_eq) (fun i y e => hk.item i y (by simpa using e))
  | .tuple ds, _, _, h, r, hs, hz => by
    cases h with
    | @tup a xs _ hq ha =>
      cases r
      obtain ⟨its, rv, ⟨o, ho, hc, n, hd⟩, _⟩ := I.tuple hq
      have hz' : (tupleText (PyData.shownAll ds)).length ≤ sizeLine := by simpa only [PyData.shown] using hz
      obtain ⟨⟨as, hr⟩, bs, hb, hk⟩ := DtAll.shw I ds _ its ha rv (by simpa [PyData.showable] using hs) (fun t ht => lenOf hz' (tupleText_mem_le ht))
      have rd : Reads s.heap (.ref a) (.tuple ds) _ := .tuple ho hc hd hr
      refine ⟨⟨_, rd⟩, a :: bs, ReadAtMost.cons rd (by simp only [PyData.depth]; omega) hb, ?_⟩
      have hna : a ∉ bs := not_mem_of_deeper rd (by simp only [PyData.depth]; omega) hb
      simp only [PyData.depth, PyData.shown]
      exact ReprK.tuple ho hc hd hna hk
  | .dict ds, _, _, h, r, hs, hz => by
    cases h with
    | @dict a kvs _ hq ha =>
      cases r
      obtain ⟨_, hsys, vs, kv, o, es, ep, ho, hx, hd, _, hp, _⟩ := (show ObjOk X.prog X.w H s.heap a (.dK kvs) from I.hok a _ hq)
      have hz' : (dictText (PyData.shownKv ds)).length ≤ sizeLine := by simpa only [PyData.shown] using hz
      obtain ⟨⟨as, h4⟩, ⟨cs, h5⟩, bs, hb, hk⟩ := DtKv.shw I ds kvs vs es.toList ha kv hp (by simpa [PyData.showable] using hs) (fun p hp => lenOf hz' (dictText_mem_le hp))
      have rd : Reads s.heap (.ref a) (.dict ds) _ := .dict ho hx.1 hd h4 h5
      refine ⟨⟨_, rd⟩, a :: bs, ReadAtMost.cons rd (by simp only [PyData.depth]; omega) hb, ?_⟩
      have hna : a ∉ bs := not_mem_of_deeper rd (by simp only [PyData.depth]; omega) hb
      simp only [PyData.depth, PyData.shown]
      exact ReprK.dict ho hx.1 hd hsys hna hk
theorem DtAll.shw (I : Inv X pins σ H s) : ∀ (ds : List PyData) (vs : List V) (us : List Value), DtAll X.K H vs ds → Vals vs us → PyData.showableAll ds = true → (∀ t ∈ PyData.shownAll ds, t.length ≤ sizeLine) → ShwAll X.prog X.w s.heap us ds
  | [], _, _, h, r, _, _ => by
    cases h
    cases r
    exact ⟨⟨_, .nil⟩, [], (fun _ h => nomatch h), by simp only [PyData.shownAll]; exact .nil⟩
  | d :: ds, _, _, h, r, hs, hz => by
    cases h with
    | cons h1 h2 =>
      cases r with
      | cons r1 r2 =>
        have hs' : d.showable = true ∧ PyData.showableAll ds = true := by simpa [PyData.showableAll] using hs
        obtain ⟨⟨a1, q1⟩, b1, hb1, k1⟩ := Dt.shw I d _ _ h1 r1 hs'.1 (hz _ (by simp only [PyData.shownAll]; exact List.mem_cons_self ..))
        obtain ⟨⟨a2, q2⟩, b2, hb2, k2⟩ := DtAll.shw I ds _ _ h2 r2 hs'.2 (fun t ht => hz t (by simp only [PyData.shownAll]; exact List.mem_cons_of_mem _ ht))
        refine ⟨⟨_, .cons q1 q2⟩, b1 ++ b2, ?_, ?_⟩
        · exact (hb1.mono (by simp only [PyData.depthAll]; omega)).append (hb2.mono (by simp only [PyData.depthAll]; omega))
        · simp only [PyData.depthAll, PyData.shownAll]
          exact .cons ((k1.more fun b hb => List.mem_append_left _ hb).level_le (Nat.le_max_left _ _)) (k2.more_le (fun b hb => List.mem_append_right _ hb) (Nat.le_max_right _ _))
theorem DtKv.shw (I : Inv X pins σ H s) : ∀ (ds : List (PyData × PyData)) (kvs : List (Key × V)) (vs : List (Key × Value)) (es : List DictEntry), DtKv X.K H kvs ds → KV kvs vs → Pairs (mixKind X.prog X.w) es vs → PyData.showableKv ds = true → (∀ t ∈ PyData.shownKv ds, t.length ≤ sizeLine) →
      ShwKv X.prog X.w s.heap es ds
  | [], _, _, _, h, r, p, _, _ => by
    cases h
    cases r
    cases p
    exact ⟨⟨_, .nil⟩, ⟨_, .nil⟩, [], (fun _ h => nomatch h), by simp only [PyData.shownKv]; exact .nil⟩
  | (kd, d) :: ds, _, _, _, h, r, p, hs, hz => by
    cases h with
    | @cons k v kvs _ _ h1 h2 =>
      cases r with
      | cons r1 r2 =>
        cases p with
        | cons p1 p2 p3 =>
          rename_i q us e es
          obtain ⟨ek, rv⟩ := r1
          have ek' : k = q.1 := ek
          have hk0 : keyIs k e.key = true := by rw [ek']; exact p1
          have hs' : ((keyD k).showable = true ∧ d.showable = true) ∧ PyData.showableKv ds = true := by simpa [PyData.showableKv] using hs
          have hz0 := hz ((keyD k).shown ++ ": " ++ d.shown) (by simp only [PyData.shownKv]; exact List.mem_cons_self ..)
          have hzk : (keyD k).shown.length ≤ ((keyD k).shown ++ ": " ++ d.shown).length := by rw [Str.length_append, Str.length_append]; omega
          have hzv : d.shown.length ≤ ((keyD k).shown ++ ": " ++ d.shown).length := by rw [Str.length_append, Str.length_append]; omega
          have rve : RelV v e.val := by rw [p2]; exact rv
          obtain ⟨⟨a0, q0⟩, b0, hb0, k0⟩ := key_shw (X := X) (s := s) hk0 hs'.1.1 (lenOf hz0 hzk)
          obtain ⟨⟨a1, q1⟩, b1, hb1, k1⟩ := Dt.shw I d _ _ h1 rve hs'.1.2 (lenOf hz0 hzv)
          obtain ⟨⟨a2, q2⟩, ⟨a3, q3⟩, b2, hb2, k2⟩ := DtKv.shw I ds kvs _ es h2 r2 p3 hs'.2 (fun t ht => hz t (by simp only [PyData.shownKv]; exact List.mem_cons_of_mem _ ht))
          refine ⟨⟨_, .cons q0 q2⟩, ⟨_, .cons q1 q3⟩, b0 ++ (b1 ++ b2), ?_, ?_⟩
          · exact (hb0.mono (by simp only [PyData.depthKv]; omega)).append ((hb1.mono (by simp only [PyData.depthKv]; omega)).append (hb2.mono (by simp only [PyData.depthKv]; omega)))
          · simp only [PyData.depthKv, PyData.shownKv]
            exact .cons ((k0.more fun b hb => List.mem_append_left _ hb).level_le (by omega)) ((k1.more fun b hb => List.mem_append_right _ (List.mem_append_left _ hb)).level_le (by omega)) (ReprEntriesK.more_le (fun b hb => List.mem_append_right _ (List.mem_append_right _ hb)) (by omega) k2)
end
end
section
variable {X : Cx} {H : Hp} {Q : VK}
/-- repr(x) -/
theorem c_repr {x : V} {d : PyData} (hg : X.A.guards = some []) (hu : X.A.units + d.depth + 1 < cLine) (hx : Dt X.K H x d) (hs : d.showable = true) (hz : d.shown.length ≤ sizeLine) (q : Q (.str d.shown) H) : wC X (.builtin "repr") [x] H Q := by
  refine ⟨fun pins s σ us I r => ?_⟩
  obtain ⟨u, rfl, rx⟩ := vals1 r
  have fin : ∀ h' u' tk, (∀ b o, s.heap.get? b = some o → h'.get? b = some o) → EP X pins σ Q (.str d.shown u') { s with heap := h', toks := tk } := fun h' u' tk hk => ⟨.str d.shown, H, I.kept hk, ⟨_, rfl⟩, q⟩
  cases hx with
  | non =>
    cases rx
    simp only [PyData.shown] at fin
    exact P.repr_of_none (fin s.heap _ _ fun _ _ e => e)
  | bl b =>
    cases rx
    simp only [PyData.shown] at fin
    exact P.repr_of_bool (fin s.heap _ _ fun _ _ e => e)
  | int i =>
    obtain ⟨t, rfl⟩ := rx
    simp only [PyData.shown] at fin
    exact P.repr_of_int (by simpa [PyData.showable] using hs) (fin s.heap _ _ fun _ _ e => e)
  | str x =>
    obtain ⟨t, rfl⟩ := rx
    simp only [PyData.shown] at fin
    exact P.repr_of_str (fin s.heap _ _ fun _ _ e => e) (by simpa only [PyData.shown] using hz)
  | @lst a xs ds hq ha =>
    cases rx
    obtain ⟨its, rv, ⟨o, n, ho, hc, _, hd⟩, _⟩ := I.list hq
    have hz' : (listText (PyData.shownAll ds)).length ≤ sizeLine := by simpa only [PyData.shown] using hz
    obtain ⟨⟨as, hr⟩, bs, hb, hk⟩ := DtAll.shw I ds _ its ha rv (by simpa [PyData.showable] using hs) (fun t ht => lenOf hz' (listText_mem_le ht))
    have rd : Reads s.heap (.ref a) (.list ds) _ := .list ho hc hd hr
    have hna : a ∉ bs := not_mem_of_deeper rd (by simp only [PyData.depth]; omega) hb
    simp only [PyData.depth] at hu
    simp only [PyData.shown] at fin
    refine call_repr_slot (by omega) ⟨o, ho, hc⟩ F.slot_list_repr.toG ?_
    cases its with
    | nil =>
      cases hr
      simp only [PyData.shownAll, listText_nil] at fin
      exact call_list_repr_empty ⟨o, ho, hc⟩ ho hd ⟨_, _, rfl, fin s.heap _ _ fun _ _ e => e⟩
    | cons y l =>
      exact call_list_reprK ho hc hd hna (by simpa using hk.length_eq) (fun i y e => hk.item i y (by simpa using e)) (A := X.A.in1) (g := []) hg (fun b _ => Clear.nil b) (by show X.A.units + 1 + _ < cLine; omega) (fun _ _ e => e) (fun h' u' tk hk => ⟨_, _, rfl, fin h' u' tk hk⟩) hz'
  | @tup a xs ds hq ha =>
    cases rx
    obtain ⟨its, rv, ⟨o, ho, hc, n, hd⟩, _⟩ := I.tuple hq
    have hz' : (tupleText (PyData.shownAll ds)).length ≤ sizeLine := by simpa only [PyData.shown] using hz
    obtain ⟨⟨as, hr⟩, bs, hb, hk⟩ := DtAll.shw I ds _ its ha rv (by simpa [PyData.showable] using hs) (fun t ht => lenOf hz' (tupleText_mem_le ht))
    have rd : Reads s.heap (.ref a) (.tuple ds) _ := .tuple ho hc hd hr
    have hna : a ∉ bs := not_mem_of_deeper rd (by simp only [PyData.depth]; omega) hb
    simp only [PyData.depth] at hu
    simp only [PyData.shown] at fin
    refine call_repr_slot (by omega) ⟨o, ho, hc⟩ F.slot_tuple_repr ?_
    exact call_tuple_reprK ho hc hd hna hk (A := X.A.in1) (g := []) hg (fun b _ => Clear.nil b) (by show X.A.units + 1 + _ < cLine; omega) (fun _ _ e => e) (fun h' u' tk hk => ⟨_, _, rfl, fin h' u' tk hk⟩) hz'
  | @dict a kvs ds hq ha =>
    cases rx
    obtain ⟨_, hsys, vs, kv, o, es, ep, ho, hx, hd, _, hp, _⟩ := (show ObjOk X.prog X.w H s.heap a (.dK kvs) from I.hok a _ hq)
    have hz' : (dictText (PyData.shownKv ds)).length ≤ sizeLine := by simpa only [PyData.shown] using hz
    obtain ⟨⟨as, h4⟩, ⟨cs, h5⟩, bs, hb, hk⟩ := DtKv.shw I ds kvs vs es.toList ha kv hp (by simpa [PyData.showable] using hs) (fun p hp => lenOf hz' (dictText_mem_le hp))
    have rd : Reads s.heap (.ref a) (.dict ds) _ := .dict ho hx.1 hd h4 h5
    have hna : a ∉ bs := not_mem_of_deeper rd (by simp only [PyData.depth]; omega) hb
    simp only [PyData.depth] at hu
    simp only [PyData.shown] at fin
    refine call_repr_slot (by omega) ⟨o, ho, hx.1⟩ F.slot_dict_repr ?_
    exact call_dict_reprK ho hx.1 hd hsys hna hk (A := X.A.in1) (g := []) hg (fun b _ => Clear.nil b) (by show X.A.units + 1 + _ < cLine; omega) (fun _ _ e => e) (fun h' u' tk hk => ⟨_, _, rfl, fin h' u' tk hk⟩) hz'
end
end Tw
/-! Tw5: own exception classes whose __init__ calls that of an own base class; raise; try .. except .. as. -/
namespace Tw
open PySem PySem.Spec PyProof.Rows L2
/-- what the written part says of an own class (over ValueError, without an __init__ of its own) whose __init__ is called by its name -/
structure BinC (K : PySem.W.Frag) (B : Addr) : Prop where
  sp : PySem.W.specialIn K (.ref B) "__getattribute__" = some (some (.builtin "type.__getattribute__"))
  ty : PySem.W.typeIn K (.ref B) = some (.type "type")
  rd : PySem.W.readsIn K B (.type "type") = true
  fi : PySem.W.findCls K (.ref B) (.type "type") "__init__" = some (.val (.builtin "ValueError.__init__"))
section
variable {X : Cx} {e o : Expr} {es : List Expr} {σ : St} {H : Hp} {Q : VK} {pos : Pos}
/-- B.__init__(self, ..) -/
theorem e_binit {B : Addr} {x : Str} {p1 p2 : Pos} {pl : Sem Bool} (hb : BinC X.K B) (hg : Gl X x) (hm : X.mg x = some (.ref B))
    (hc : eval (.Call (.Attribute (.Name x p1) "__init__" p2) (e :: es) [] pos) X.env = (do
      let ov ← eval (.Name x p1) X.env
      standAt p2.atName
      let (f, first) ← holding [ov] (getMethod ov "__init__" pl)
      callWith pos f first (backTo pos (starEach (e :: es) X.env)) (backToKw pos (keywordEach [] X.env))))
    (he : starEach (e :: es) X.env = (false, eval e X.env) :: starEach es X.env) (hpl : (backTo pos (starEach es X.env)).any (·.1) = false)
    (h : wA X (e :: es) σ H fun vs H1 => ∃ (a C : Addr) (ws : List V), vs = .ref a :: ws ∧ ws.length ≤ 1000 ∧ OexC X.K C ∧ H1 a = some (exo a C none) ∧ Q .non H1) (hd : (x == ("__debug__" : Str)) = false := by decide) :
    wE X (.Call (.Attribute (.Name x p1) "__init__" p2) (e :: es) [] pos) σ H Q := by
  refine ⟨fun pins s I => ?_⟩
  refine PySem.W.methodCall_KW (ld_glob I hg hm ?_ hd) hc
  obtain ⟨m, fr⟩ := I.fr
  refine PySem.W.method_of_cls fr I.ok.mod.kin hb.sp (PySem.W.cls_val fr I.ok.mod.kin hb.ty hb.rd hb.fi (by decide +kernel) ?_)
  show wpAny _ _ (callWith pos (Value.builtin "ValueError.__init__") [] (backTo pos (starEach (e :: es) X.env)) []) _ _ _
  refine PyProof.Rows.callWith_method1 (thn (h.run pos pins _ (I.tok _)) fun us s1 ⟨vs, H1, I1, r1, a, C, ws, ev, hl, T, ea, q⟩ => ?_) he hpl
  subst ev
  cases r1 with
  | @cons _ u0 _ ur ra rw' =>
    obtain rfl : u0 = Value.ref a := ra
    have hlen : ur.length ≤ sizeLine := by
      rw [← Paired.length rw', sizeLine_eq]
      omega
    exact oinit_ok T I1 ea hlen fun s' J => ⟨.non, H1, J, rfl, q⟩
/-- self.f = e, self an exception that is being made -/
theorem s_ost {D : Ends} {f : Str} {p' : Pos} (hs : swapsWith e (some (.Attribute o f p')) pos.line X.env = pure false) (h : tOst X.K f (wE X o) (wE X e) D σ H) : wS X (.Assign [.Attribute o f p'] e pos) D σ H := to_s (ps_ost pe_w pe_w hs) h
end
/-- what an own exception's __init__ keeps: the field fld holds the argument -/
def spExc (C : Addr) (fld : Str) : Sp := fun vs H Q _ => ∃ (a : Addr) (v : V), vs = [.ref a, v] ∧ H a = some (exo a C none) ∧
  ∀ dx, H dx = none → dx ≠ a → Q .non (upd (upd H dx (exd dx [(fld, v)])) a (exo a C (some dx)))
section
variable {P : Program} {w : World} {K : PySem.W.Frag} {mg : Str → Option Value} {base : Heap}
theorem fn_k {CX : CXT} {x qual : Str} {st : Stmt} {f : Addr} {fd : FuncData} {N ps : List Str} {k : Nat} {sp : Sp} (F : Fun K x qual st f fd) (S : FnScope N ps (defScope st)) (len : ∀ vs H Q E, sp vs H Q E → vs.length = ps.length)
    (hbody : ∀ (cdv : Value) (A : Around) (outer : List Env) (s : Shared) (H : Hp) (vs : List V) (Q : VK) (E : XK), Room k (A.deeper (envOfC qual (defScope st) s.heap.objs.size f cdv)) → sp vs H Q E →
      wB (cxOf CX P w K mg base N qual (defScope st) f cdv A outer s H E) (defBody st) { nx := fun _ H' => Q .non H', rt := Q } (start N vs) H) : FnOk P w K mg base CX (k + 1) f fd ps sp := by
  obtain ⟨oc, od, kV, doc, pm, an, cdv, ct, osl, rfl, lk, hcd⟩ := F.ex
  exact fn_of lk hcd S len fun A outer s H vs Q E hr hsp => ⟨_, pb_w, hbody cdv A outer s H vs Q E hr hsp⟩
/-- all that is used of an own exception class with one field -/
structure ExK (P : Program) (w : World) (K : PySem.W.Frag) (mg : Str → Option Value) (base : Heap) (x fld : Str) (C : Addr) : Prop where
  oex : OexC K C
  gC : mg x = some (.ref C)
  ini : ∃ (fI : Addr) (fd : FuncData) (ps : List Str), PySem.W.findIn K (.ref C) "__init__" = some (some (.ref fI)) ∧ PySem.W.typeIn K (.ref fI) = some (.type "function") ∧ FnOk P w K mg base CX0 1 fI fd ps (spExc C fld) ∧ Binds K fd ps []
  no : PySem.W.findIn K (.ref C) fld = some none
  xf : XfC K C
end
section
variable {X : Cx} {e : Expr} {es : List Expr} {σ : St} {H : Hp} {pos : Pos} {W : WX}
theorem s_raise {D : Ends} (hc : X.calm = true) (tk : Takes X W) (h : wR X e σ H fun cls d H' => W cls d σ H') : wS X (.Raise (some e) none pos) D σ H := to_s (ps_raise hc tk pr_w) h
theorem r_own {x fld : Str} {C : Addr} {p : Pos} {Q : XK} (T : ExK X.prog X.w X.K X.mg X.base x fld C) (hr : Room 2 X.A) (hg : Gl X x) (he : starEach [e] X.env = (false, eval e X.env) :: starEach [] X.env)
    (h : wE X e σ H fun v H1 => ∀ d H2, H1 d = none → Same H1 H2 → H2 d = some (.xd [(fld, v)]) → Q (.ref C) (some d) H2) (hd : (x == ("__debug__" : Str)) = false := by decide) : wR X (.Call (.Name x p) [e] [] pos) σ H Q := by
  obtain ⟨fI, fd, ps, iC, tI, F, hb⟩ := T.ini
  refine to_r (pmk_oex (dvs := []) (ds := []) T.oex iC tI F hr hb .nil pass0 hg T.gC (pa_cons pe_w pa_nil he) hd he rfl) ?_
  refine wE.mono h fun v H1 q => ⟨by simp, fun a ha => ⟨a, v, rfl, upd_same, fun dx hdx hne => ⟨rfl, dx, _, upd_same, ?_, ?_, q dx _ ?_ (fun b o hb => ?_) upd_same⟩⟩⟩
  · rw [upd_ne hne, upd_same]
  · rw [upd_ne hne] at hdx
    exact hdx
  · rw [upd_ne hne] at hdx
    exact hdx
  · rw [upd_ne hne] at hdx
    have b1 : b ≠ dx := ne_of_none hb hdx
    have b2 : b ≠ a := ne_of_none hb ha
    rw [upd_ne b1, del_ne b2, upd_ne b2, upd_ne b1, upd_ne b2]
    exact hb
/-- try: body  except x as n: suite -/
theorem s_try_as {D : Ends} {x n : Str} {c : Value} {i : Nat} {body suite : List Stmt} {b₀ : Stmt} {np pos' : Pos} {Wout : WX} (hs : X.stack = X.env :: X.outer) (hf : X.env.frame = some X.env.locals) (hN : X.N.Nodup) (hi : X.N[i]? = some n) (hln : X.env.kindOf n = some .local) (hc : Names X x c) (tk : Takes X Wout)
    (hb : ∀ (W : WX) (pn : List (Addr × Obj)) (xe : Value → Shared → Prop), Takes (X.tr pn xe) W → PassesOwn (model X.prog X.w) X.A X.env xe →
      (∀ cls d σ' H', (∃ b, PySem.W.exmOne X.K cls c = some b ∧ (b = true → ∀ a oe pn, H' a = none → Zc cls d oe → (∃ vs, oe.data = .fields vs) → wB (X.suite a ((a, oe) :: pn)) (b₀ :: suite)
        { nx := fun σ2 H2 => D.nx (σ2.set i none) H2, rt := D.rt, bk := fun σ2 H2 => D.bk (σ2.set i none) H2, ct := fun σ2 H2 => D.ct (σ2.set i none) H2 } (σ'.set i (some (.ref a))) H') ∧ (b = false → Wout cls d σ' H')) → W cls d σ' H') →
      wB (X.tr pn xe) body D σ H) :
    wS X (.Try body [.ExceptHandler (some (.Name x np)) (some n) (b₀ :: suite) pos'] [] [] pos) D σ H := by
  refine to_s (ps_try_as (tb := fun W D σ H => ∀ pn xe, Takes (X.tr pn xe) W → PassesOwn (model X.prog X.w) X.A X.env xe → wB (X.tr pn xe) body D σ H) (ts := fun a cls d D σ H => ∀ oe pn, Zc cls d oe → (∃ vs, oe.data = .fields vs) → wB (X.suite a ((a, oe) :: pn)) (b₀ :: suite) D σ H)
    hs hf hN hi hln hc tk (fun W pn xe t p => ⟨fun pins s σ H D I h => (h pn xe t p).run pins s I⟩) (fun a oe cls d pn hz hf => ⟨fun pins s σ H D I h => (h oe pn hz hf).run pins s I⟩)) ?_
  intro pn xe t p
  refine hb _ pn xe t p fun cls d σ' H' ⟨b, h1, h2, h3⟩ => ⟨b, h1, fun hbt a ha oe pn hz hf => h2 hbt a oe pn ha hz hf, h3⟩
end
section
variable {X : Cx} {e : Expr} {σ : St} {H : Hp} {Q : VK} {pos : Pos}
/-- the caught exception's field -/
theorem e_xf {a C : Addr} {oe : Obj} {cls : Value} {d : Option Addr} {pn : List (Addr × Obj)} {n : Str} (T : XfC X.K C) (hno : PySem.W.findIn X.K (.ref C) n = some none) (hz : Zc cls d oe) (hf : ∃ vs, oe.data = .fields vs) (hb : attributeBase e n X.env (eval e X.env) = eval e X.env)
    (h : wE (X.suite a ((a, oe) :: pn)) e σ H fun x H1 => x = .ref a ∧ cls = .ref C ∧ ∃ (dd : Addr) (fs : List (Str × V)) (v : V), d = some dd ∧ H1 dd = some (.xd fs) ∧ fs.lookup n = some v ∧ Q v H1) : wE (X.suite a ((a, oe) :: pn)) (.Attribute e n pos) σ H Q :=
  to_e (pe_xf T hno hz hf pe_w hb) h
end
end Tw
/-! Tw6: the frame: what a def owns of the heap (the things it made, or was lent), and the data that stay as they are. -/
namespace Tw
open PySem PySem.Spec PyProof.Rows L2
/-- from the entry heap He with the data H0 to the heap H with the data H1 -/
structure Grow (H0 He H1 H : Hp) : Prop where
  old : Same He H
  base : Same H0 H1
  sub : Same H1 H
  fresh : ∀ p, He p ≠ none → H1 p = H0 p
/-- He: the entry (without what was lent); H0, H1: the data at the entry, now; L: the objects owned -/
structure Fr (He H0 H1 H : Hp) (L : List (Addr × HO)) : Prop where
  g : Grow H0 He H1 H
  has : ∀ (i : Nat) (p : Addr) (o : HO), L[i]? = some (p, o) → H p = some o
  nd : (L.map (·.1)).Nodup
  new : ∀ p, p ∈ L.map (·.1) → He p = none ∧ H1 p = none
section
variable {He H0 H1 H2 H H' : Hp} {L : List (Addr × HO)} {p : Addr} {o o' : HO} {i : Nat}
theorem Fr.start (h : Same H0 H) : Fr H H0 H0 H [] := ⟨⟨fun _ _ e => e, fun _ _ e => e, h, fun _ _ => rfl⟩, fun i p o e => by simp at e, by simp, fun p hp => by simp at hp⟩
theorem Fr.at (F : Fr He H0 H1 H L) (i : Nat) (h : L[i]? = some (p, o)) : H p = some o := F.has i p o h
theorem Fr.mem {i : Nat} (h : L[i]? = some (p, o)) : p ∈ L.map (·.1) := List.mem_map.mpr ⟨(p, o), List.mem_of_getElem? h, rfl⟩
theorem Fr.make (F : Fr He H0 H1 H L) (N : New H H' p o) : Fr He H0 H1 H' ((p, o) :: L) := by
  refine ⟨⟨F.g.old.trans N.same, F.g.base, F.g.sub.trans N.same, F.g.fresh⟩, fun i q u e => ?_, ?_, fun q hq => ?_⟩
  · cases i with
    | zero =>
      have e2 : (p, o) = (q, u) := Option.some.inj e
      cases e2
      exact N.at_
    | succ i => exact N.same _ _ (F.has i q u e)
  · show (p :: L.map (·.1)).Nodup
    refine List.nodup_cons.mpr ⟨fun hm => ?_, F.nd⟩
    obtain ⟨⟨q, u⟩, hm, e⟩ := List.mem_map.mp hm
    obtain ⟨j, hj⟩ := List.getElem?_of_mem hm
    have := F.has j q u hj
    have e' : q = p := e
    rw [e', N.free] at this
    cases this
  · rcases List.mem_cons.mp (show q ∈ p :: L.map (·.1) from hq) with z | z
    · rw [z]
      exact ⟨L2.Same.free F.g.old N.free, L2.Same.free F.g.sub N.free⟩
    · exact F.new q z
theorem nodup_at {L : List (Addr × HO)} (nd : (L.map (·.1)).Nodup) {i j : Nat} {p : Addr} {o u : HO} (h1 : L[i]? = some (p, o)) (h2 : L[j]? = some (p, u)) : i = j := by
  have a : (L.map (·.1))[i]? = some p := by rw [List.getElem?_map, h1]; rfl
  have b : (L.map (·.1))[j]? = some p := by rw [List.getElem?_map, h2]; rfl
  exact nd_ix nd a b
theorem set_map {L : List (Addr × HO)} {i : Nat} {p : Addr} {o : HO} (h : L[i]? = some (p, o)) (o' : HO) : (L.set i (p, o')).map (·.1) = L.map (·.1) := by
  apply List.ext_getElem?
  intro j
  rw [List.getElem?_map, List.getElem?_map]
  by_cases hj : i = j
  · subst hj
    have hl : i < L.length := (List.getElem?_eq_some_iff.mp h).1
    rw [List.getElem?_set_self hl, h]
    rfl
  · rw [List.getElem?_set_ne hj]
/-- what is owned changes -/
theorem Fr.put (F : Fr He H0 H1 H L) (i : Nat) (h : L[i]? = some (p, o)) (hb : ∀ b, b ≠ p → H' b = H b) (hp : H' p = some o') : Fr He H0 H1 H' (L.set i (p, o')) := by
  obtain ⟨n1, n2⟩ := F.new p (Fr.mem h)
  have keep : ∀ G : Hp, G p = none → Same G H → Same G H' := fun G hn s b u e => by
    rw [hb b (ne_of_none e hn)]
    exact s b u e
  refine ⟨⟨keep He n1 F.g.old, F.g.base, keep H1 n2 F.g.sub, F.g.fresh⟩, fun j q u e => ?_, ?_, fun q hq => ?_⟩
  · by_cases hj : i = j
    · subst hj
      have hl : i < L.length := (List.getElem?_eq_some_iff.mp h).1
      rw [List.getElem?_set_self hl] at e
      cases e
      exact hp
    · rw [List.getElem?_set_ne hj] at e
      have hq : q ≠ p := fun z => hj (by rw [z] at e; exact nodup_at F.nd h e)
      rw [hb q hq]
      exact F.has j q u e
  · rw [set_map h]
    exact F.nd
  · rw [set_map h] at hq
    exact F.new q hq
theorem Fr.upd (F : Fr He H0 H1 H L) (i : Nat) (h : L[i]? = some (p, o)) : Fr He H0 H1 (L2.upd H p o') (L.set i (p, o')) := F.put i h (fun b hb => upd_ne hb) upd_same
theorem Fr.same (F : Fr He H0 H1 H L) (s : Same H H') : Fr He H0 H1 H' L := ⟨⟨F.g.old.trans s, F.g.base, F.g.sub.trans s, F.g.fresh⟩, fun i p o e => s _ _ (F.has i p o e), F.nd, F.new⟩
theorem Fr.call (F : Fr He H0 H1 H L) (G : Grow H1 H H2 H') : Fr He H0 H2 H' L := by
  refine ⟨⟨F.g.old.trans G.old, F.g.base.trans G.base, G.sub, fun p hp => ?_⟩, fun i p o e => G.old _ _ (F.has i p o e), F.nd, fun p hp => ?_⟩
  · have h1 : H p ≠ none := fun z => hp (L2.Same.free F.g.old z)
    rw [G.fresh p h1, F.g.fresh p hp]
  · obtain ⟨n1, n2⟩ := F.new p hp
    obtain ⟨⟨q, u⟩, hm, e⟩ := List.mem_map.mp hp
    obtain ⟨j, hj⟩ := List.getElem?_of_mem hm
    have h1 := F.has j q u hj
    have e' : q = p := e
    rw [e'] at h1
    refine ⟨n1, ?_⟩
    rw [G.fresh p (by rw [h1]; exact fun z => nomatch z)]
    exact n2
theorem erase_map {L : List (Addr × HO)} {i : Nat} : (L.eraseIdx i).map (·.1) = (L.map (·.1)).eraseIdx i := by
  apply List.ext_getElem?
  intro j
  rw [List.getElem?_map, List.getElem?_eraseIdx, List.getElem?_eraseIdx]
  split <;> rw [List.getElem?_map]
/-- what is owned becomes data -/
theorem Fr.give (F : Fr He H0 H1 H L) (i : Nat) (h : L[i]? = some (p, o)) : Fr He H0 (L2.upd H1 p o) H (L.eraseIdx i) := by
  obtain ⟨n1, n2⟩ := F.new p (Fr.mem h)
  refine ⟨⟨F.g.old, F.g.base.trans (New.mk' n2).same, fun b u e => ?_, fun q hq => ?_⟩, fun j q u e => ?_, ?_, fun q hq => ?_⟩
  · by_cases hb : b = p
    · rw [hb, upd_same] at e
      cases e
      rw [hb]
      exact F.has i p o h
    · rw [upd_ne hb] at e
      exact F.g.sub b u e
  · have : q ≠ p := fun z => hq (by rw [z]; exact n1)
    rw [upd_ne this]
    exact F.g.fresh q hq
  · rw [List.getElem?_eraseIdx] at e
    split at e
    · exact F.has j q u e
    · exact F.has (j + 1) q u e
  · rw [erase_map]
    exact F.nd.sublist (List.eraseIdx_sublist _ _)
  · have hq' : q ∈ L.map (·.1) := by
      rw [erase_map] at hq
      exact List.mem_of_mem_eraseIdx hq
    refine ⟨(F.new q hq').1, ?_⟩
    have : q ≠ p := fun z => by
      rw [z, erase_map] at hq
      obtain ⟨j, hj⟩ := List.getElem?_of_mem hq
      rw [List.getElem?_eraseIdx] at hj
      have hi : (L.map (·.1))[i]? = some p := by rw [List.getElem?_map, h]; rfl
      split at hj
      · have := nd_ix F.nd hj hi; omega
      · have := nd_ix F.nd hj hi; omega
    rw [upd_ne this]
    exact (F.new q hq').2
/-- what is owned is let go -/
theorem Fr.drop (F : Fr He H0 H1 H L) (i : Nat) : Fr He H0 H1 H (L.eraseIdx i) := by
  refine ⟨F.g, fun j q u e => ?_, ?_, fun q hq => ?_⟩
  · rw [List.getElem?_eraseIdx] at e
    split at e
    · exact F.has j q u e
    · exact F.has (j + 1) q u e
  · rw [erase_map]
    exact F.nd.sublist (List.eraseIdx_sublist _ _)
  · rw [erase_map] at hq
    exact F.new q (List.mem_of_mem_eraseIdx hq)
theorem Grow.refl (h : Same H0 H) : Grow H0 H H0 H := ⟨fun _ _ e => e, fun _ _ e => e, h, fun _ _ => rfl⟩
theorem Grow.of_same (h : Same H0 H) (s : Same H H') : Grow H0 H H0 H' := ⟨s, fun _ _ e => e, h.trans s, fun _ _ => rfl⟩
end
/-! ### reading -/
section
variable {K : PySem.W.Frag} {H H' : Hp}
theorem Dt.int_of {x : V} {i : Int} (h : Dt K H x (.int i)) : x = .int i := by cases h; rfl
theorem Dt.str_of {x : V} {i : Str} (h : Dt K H x (.str i)) : x = .str i := by cases h; rfl
theorem Dt.bl_of {x : V} {i : Bool} (h : Dt K H x (.bool i)) : x = .bl i := by cases h; rfl
theorem Dt.non_of {x : V} (h : Dt K H x .none) : x = .non := by cases h; rfl
theorem Dt.lst_of {x : V} {ds : List PyData} (h : Dt K H x (.list ds)) : ∃ a xs, x = .ref a ∧ SqL K H a xs ∧ DtAll K H xs ds := by
  cases h with
  | lst h1 h2 => exact ⟨_, _, rfl, h1, h2⟩
theorem Dt.tup_of {x : V} {ds : List PyData} (h : Dt K H x (.tuple ds)) : ∃ a xs, x = .ref a ∧ SqT K H a xs ∧ DtAll K H xs ds := by
  cases h with
  | tup h1 h2 => exact ⟨_, _, rfl, h1, h2⟩
theorem DtAll.length {xs : List V} : ∀ {ds : List PyData}, DtAll K H xs ds → xs.length = ds.length := by
  induction xs with
  | nil => intro ds h; cases h; rfl
  | cons x xs ih =>
    intro ds h
    cases h with
    | cons h1 h2 => rw [List.length_cons, List.length_cons, ih h2]
theorem DtAll.get {xs : List V} : ∀ {ds : List PyData} {i : Nat} {d : PyData}, DtAll K H xs ds → ds[i]? = some d → ∃ x, xs[i]? = some x ∧ Dt K H x d := by
  induction xs with
  | nil => intro ds i d h e; cases h; simp at e
  | cons x xs ih =>
    intro ds i d h e
    cases h with
    | cons h1 h2 =>
      cases i with
      | zero =>
        have e2 := Option.some.inj e
        subst e2
        exact ⟨x, rfl, h1⟩
      | succ i => exact ih h2 e
theorem DtAll.get' {xs : List V} : ∀ {ds : List PyData} {i : Nat} {x : V}, DtAll K H xs ds → xs[i]? = some x → ∃ d, ds[i]? = some d ∧ Dt K H x d := by
  induction xs with
  | nil => intro ds i d h e; simp at e
  | cons x xs ih =>
    intro ds i d h e
    cases h with
    | cons h1 h2 =>
      cases i with
      | zero =>
        have e2 := Option.some.inj e
        subst e2
        exact ⟨_, rfl, h1⟩
      | succ i =>
        obtain ⟨f, e1, e2⟩ := ih (i := i) h2 e
        exact ⟨f, e1, e2⟩
theorem DtAll.ints : ∀ (ns : List Int), DtAll K H (ns.map V.int) (ns.map PyData.int)
  | [] => .nil
  | n :: ns => .cons (.int n) (DtAll.ints ns)
theorem DtAll.ints_of {ns : List Int} : ∀ {xs : List V}, DtAll K H xs (ns.map PyData.int) → xs = ns.map V.int := by
  induction ns with
  | nil => intro xs h; cases h; rfl
  | cons n ns ih =>
    intro xs h
    cases h with
    | cons h1 h2 => rw [h1.int_of, ih h2]; rfl
theorem DtAll.app {ys : List V} {es : List PyData} (k : DtAll K H ys es) : ∀ {xs : List V} {ds : List PyData}, DtAll K H xs ds → DtAll K H (xs ++ ys) (ds ++ es)
  | _, _, .nil => k
  | _, _, .cons h1 h2 => .cons h1 (DtAll.app k h2)
theorem DtAll.drop {xs : List V} {ds : List PyData} (n : Nat) (h : DtAll K H xs ds) : DtAll K H (xs.drop n) (ds.drop n) := by
  induction n generalizing xs ds with
  | zero => exact h
  | succ n ih =>
    cases h with
    | nil => exact .nil
    | cons h1 h2 => exact ih h2
theorem DtAll.take {xs : List V} {ds : List PyData} (n : Nat) (h : DtAll K H xs ds) : DtAll K H (xs.take n) (ds.take n) := by
  induction n generalizing xs ds with
  | zero => exact .nil
  | succ n ih =>
    cases h with
    | nil => exact .nil
    | cons h1 h2 => exact .cons h1 (ih h2)
end
end Tw
/-! Tw7: the rules as the walker uses them. -/
namespace Tw
open PySem PySem.Spec PyProof.Rows L2
open L2H (RoomH)
/-- the name at a slot -/
structure Nm (N : List Str) (i : Nat) (x : Str) : Prop where
  at_ : N[i]? = some x
  d : (x == ("__debug__" : Str)) = false
  c : (x == ("__classdict__" : Str)) = false
/-- the built-in names that the module leaves as they are -/
structure Bn (mg : Str → Option Value) : Prop where
  len : mg "len" = none
  isinstance : mg "isinstance" = none
  int : mg "int" = none
  bool : mg "bool" = none
  list : mg "list" = none
  tuple : mg "tuple" = none
  dict : mg "dict" = none
  str : mg "str" = none
  all : mg "all" = none
  range : mg "range" = none
  repr : mg "repr" = none
  max : mg "max" = none
  min : mg "min" = none
  abs : mg "abs" = none
theorem sz_ok {n : Nat} (h : Nat.ble n 1000 = true) : n ≤ sizeLine := Nat.le_trans (Nat.le_of_ble_eq_true h) (by rw [sizeLine_eq]; decide)
theorem sz_lt' {n : Nat} (h : n ≤ 1000000) : n < sizeLine := Nat.lt_of_le_of_lt h (by rw [sizeLine_eq]; decide)
theorem sz_le' {n : Nat} (h : n ≤ 1000000) : n ≤ sizeLine := Nat.le_trans h (by rw [sizeLine_eq]; decide)
section
variable {X : Cx} {e a b c : Expr} {es : List Expr} {σ : St} {H : Hp} {Q : VK} {pos p : Pos} {N : List Str} {i : Nat} {x : Str}
theorem e_v (n : Nm N i x) (eN : X.N = N) (hv : Vis X.env.scope x) (h : ∃ v, σ[i]? = some (some v) ∧ Q v H) : wE X (.Name x pos) σ H Q := by
  obtain ⟨v, hs, q⟩ := h
  exact e_var (by rw [eN]; exact n.at_) hv hs q n.d n.c
theorem s_v {D : Ends} {pos' : Pos} (n : Nm N i x) (nd : N.Nodup) (eN : X.N = N) (hx : Loc X.env.scope x) (hs : swapsWith e (some (.Name x pos')) pos.line X.env = pure false) (hf : X.fn x = true ∨ X.env.scope.names.lookup x = some .local)
    (h : wE X e σ H fun v H1 => D.nx (σ.set i (some v)) H1) : wS X (.Assign [.Name x pos'] e pos) D σ H := s_set (by rw [eN]; exact nd) (by rw [eN]; exact n.at_) hx hs hf h
theorem s_vaug {D : Ends} {op : Operator} {pos' : Pos} (n : Nm N i x) (nd : N.Nodup) (eN : X.N = N) (hx : Loc X.env.scope x) (hf : X.fn x = true ∨ X.env.scope.names.lookup x = some .local)
    (h : ∃ v, σ[i]? = some (some v) ∧ wE X e σ H fun y H1 => wIp X op v y H1 fun z H2 => D.nx (σ.set i (some z)) H2) : wS X (.AugAssign (.Name x pos') op e pos) D σ H := by
  obtain ⟨v, hv, h⟩ := h
  exact s_aug (by rw [eN]; exact nd) (by rw [eN]; exact n.at_) hx hf hv h
theorem g_v {v : V} {Q : St → Hp → Prop} (n : Nm N i x) (nd : N.Nodup) (eN : X.N = N) (hx : Loc X.env.scope x) (hf : X.fn x = true ∨ X.env.scope.names.lookup x = some .local) (q : Q (σ.set i (some v)) H) : wG X (.Name x pos) v σ H Q :=
  g_name (by rw [eN]; exact nd) (by rw [eN]; exact n.at_) hx hf q
/-! built-in types as values -/
theorem e_tyInt (hm : X.mg "int" = none) (hg : Gl X "int") (q : Q (.ty "int") H) : wE X (.Name "int" pos) σ H Q := e_bltn (v := .ty "int") hg hm (by decide +kernel : bootBuiltins "int" = some (.type "int")) rfl q
theorem e_tyBool (hm : X.mg "bool" = none) (hg : Gl X "bool") (q : Q (.ty "bool") H) : wE X (.Name "bool" pos) σ H Q := e_bltn (v := .ty "bool") hg hm (by decide +kernel : bootBuiltins "bool" = some (.type "bool")) rfl q
theorem e_tyList (hm : X.mg "list" = none) (hg : Gl X "list") (q : Q (.ty "list") H) : wE X (.Name "list" pos) σ H Q := e_bltn (v := .ty "list") hg hm (by decide +kernel : bootBuiltins "list" = some (.type "list")) rfl q
theorem e_tyTuple (hm : X.mg "tuple" = none) (hg : Gl X "tuple") (q : Q (.ty "tuple") H) : wE X (.Name "tuple" pos) σ H Q := e_bltn (v := .ty "tuple") hg hm (by decide +kernel : bootBuiltins "tuple" = some (.type "tuple")) rfl q
theorem e_tyDict (hm : X.mg "dict" = none) (hg : Gl X "dict") (q : Q (.ty "dict") H) : wE X (.Name "dict" pos) σ H Q := e_bltn (v := .ty "dict") hg hm (by decide +kernel : bootBuiltins "dict" = some (.type "dict")) rfl q
theorem e_tyStr (hm : X.mg "str" = none) (hg : Gl X "str") (q : Q (.ty "str") H) : wE X (.Name "str" pos) σ H Q := e_bltn (v := .ty "str") hg hm (by decide +kernel : bootBuiltins "str" = some (.type "str")) rfl q
/-! built-ins called -/
section
variable (he : starEach (e :: es) X.env = (false, eval e X.env) :: starEach es X.env) (hpl : (backTo pos (starEach es X.env)).any (·.1) = false)
theorem e_len (hm : X.mg "len" = none) (hg : Gl X "len") (he : starEach (e :: es) X.env = (false, eval e X.env) :: starEach es X.env) (hpl : (backTo pos (starEach es X.env)).any (·.1) = false) (h : wA X (e :: es) σ H fun vs H1 => wC X (.builtin "len") vs H1 Q) : wE X (.Call (.Name "len" p) (e :: es) [] pos) σ H Q := e_callB hg hm (by decide +kernel) he hpl h
theorem e_isi (hm : X.mg "isinstance" = none) (hg : Gl X "isinstance") (he : starEach (e :: es) X.env = (false, eval e X.env) :: starEach es X.env) (hpl : (backTo pos (starEach es X.env)).any (·.1) = false) (h : wA X (e :: es) σ H fun vs H1 => wC X (.builtin "isinstance") vs H1 Q) : wE X (.Call (.Name "isinstance" p) (e :: es) [] pos) σ H Q := e_callB hg hm (by decide +kernel) he hpl h
theorem e_all (hm : X.mg "all" = none) (hg : Gl X "all") (he : starEach (e :: es) X.env = (false, eval e X.env) :: starEach es X.env) (hpl : (backTo pos (starEach es X.env)).any (·.1) = false) (h : wA X (e :: es) σ H fun vs H1 => wC X (.builtin "all") vs H1 Q) : wE X (.Call (.Name "all" p) (e :: es) [] pos) σ H Q := e_callB hg hm (by decide +kernel) he hpl h
theorem e_max (hm : X.mg "max" = none) (hg : Gl X "max") (he : starEach (e :: es) X.env = (false, eval e X.env) :: starEach es X.env) (hpl : (backTo pos (starEach es X.env)).any (·.1) = false) (h : wA X (e :: es) σ H fun vs H1 => wC X (.builtin "max") vs H1 Q) : wE X (.Call (.Name "max" p) (e :: es) [] pos) σ H Q := e_callB hg hm (by decide +kernel) he hpl h
theorem e_min (hm : X.mg "min" = none) (hg : Gl X "min") (he : starEach (e :: es) X.env = (false, eval e X.env) :: starEach es X.env) (hpl : (backTo pos (starEach es X.env)).any (·.1) = false) (h : wA X (e :: es) σ H fun vs H1 => wC X (.builtin "min") vs H1 Q) : wE X (.Call (.Name "min" p) (e :: es) [] pos) σ H Q := e_callB hg hm (by decide +kernel) he hpl h
theorem e_abs (hm : X.mg "abs" = none) (hg : Gl X "abs") (he : starEach (e :: es) X.env = (false, eval e X.env) :: starEach es X.env) (hpl : (backTo pos (starEach es X.env)).any (·.1) = false) (h : wA X (e :: es) σ H fun vs H1 => wC X (.builtin "abs") vs H1 Q) : wE X (.Call (.Name "abs" p) (e :: es) [] pos) σ H Q := e_callB hg hm (by decide +kernel) he hpl h
theorem e_repr (hm : X.mg "repr" = none) (hg : Gl X "repr") (he : starEach (e :: es) X.env = (false, eval e X.env) :: starEach es X.env) (hpl : (backTo pos (starEach es X.env)).any (·.1) = false) (h : wA X (e :: es) σ H fun vs H1 => wC X (.builtin "repr") vs H1 Q) : wE X (.Call (.Name "repr" p) (e :: es) [] pos) σ H Q := e_callB hg hm (by decide +kernel) he hpl h
theorem e_intc (hm : X.mg "int" = none) (hg : Gl X "int") (he : starEach (e :: es) X.env = (false, eval e X.env) :: starEach es X.env) (hpl : (backTo pos (starEach es X.env)).any (·.1) = false) (h : wA X (e :: es) σ H fun vs H1 => wC X (.type "int") vs H1 Q) : wE X (.Call (.Name "int" p) (e :: es) [] pos) σ H Q := e_callT hg hm (by decide +kernel) he hpl h
theorem e_strc (hm : X.mg "str" = none) (hg : Gl X "str") (he : starEach (e :: es) X.env = (false, eval e X.env) :: starEach es X.env) (hpl : (backTo pos (starEach es X.env)).any (·.1) = false) (h : wA X (e :: es) σ H fun vs H1 => wC X (.type "str") vs H1 Q) : wE X (.Call (.Name "str" p) (e :: es) [] pos) σ H Q := e_callT hg hm (by decide +kernel) he hpl h
theorem e_listc (hm : X.mg "list" = none) (hg : Gl X "list") (he : starEach (e :: es) X.env = (false, eval e X.env) :: starEach es X.env) (hpl : (backTo pos (starEach es X.env)).any (·.1) = false) (h : wA X (e :: es) σ H fun vs H1 => wC X (.type "list") vs H1 Q) : wE X (.Call (.Name "list" p) (e :: es) [] pos) σ H Q := e_callT hg hm (by decide +kernel) he hpl h
theorem e_tuplec (hm : X.mg "tuple" = none) (hg : Gl X "tuple") (he : starEach (e :: es) X.env = (false, eval e X.env) :: starEach es X.env) (hpl : (backTo pos (starEach es X.env)).any (·.1) = false) (h : wA X (e :: es) σ H fun vs H1 => wC X (.type "tuple") vs H1 Q) : wE X (.Call (.Name "tuple" p) (e :: es) [] pos) σ H Q := e_callT hg hm (by decide +kernel) he hpl h
end
/-! an own def that lets no exception out -/
theorem e_cal {P : Program} {w : World} {K : PySem.W.Frag} {mg : Str → Option Value} {base : Heap} {cc : Bool} {k j : Nat} {dvs : List V} {sp : Sp} (C : Cal P w K mg base CX0 cc j x dvs sp) (eX : X.prog = P ∧ X.w = w ∧ X.K = K ∧ X.mg = mg ∧ X.base = base) (hj : j ≤ k)
    (hr : RoomH k X.A) (hh : cc = true → X.A.handled = none) (hg : X.A.guards = some []) (hgl : Gl X x) (he : starEach (e :: es) X.env = (false, eval e X.env) :: starEach es X.env) (hpl : (backTo pos (starEach es X.env)).any (·.1) = false) (hdb : (x == ("__debug__" : Str)) = false)
    (h : wA X (e :: es) σ H fun vs H1 => sp (vs ++ dvs) H1 Q (fun _ _ _ => False)) : wE X (.Call (.Name x p) (e :: es) [] pos) σ H Q := by
  obtain ⟨rfl, rfl, rfl, rfl, rfl⟩ := eX
  exact e_call (C.mono hj) (fun _ _ _ _ => False) hr hh hg (fun _ => pass_0) hgl he hpl h hdb
/-! tests whose answer is open, or known -/
theorem if_d {c : Prop} [Decidable c] {A B : Prop} (h1 : c → A) (h2 : ¬ c → B) : if decide c = true then A else B := by
  by_cases h : c
  · rw [decide_eq_true h, if_pos rfl]; exact h1 h
  · rw [decide_eq_false h, if_neg Bool.false_ne_true]; exact h2 h
theorem if_nd {c : Prop} [Decidable c] {A B : Prop} (h1 : ¬ c → A) (h2 : c → B) : if (!decide c) = true then A else B := by
  by_cases h : c
  · rw [decide_eq_true h]; exact h2 h
  · rw [decide_eq_false h]; exact h1 h
theorem if_b {k : Bool} {A B : Prop} (h1 : k = true → A) (h2 : k = false → B) : if k = true then A else B := by
  cases k with
  | true => exact h1 rfl
  | false => exact h2 rfl
theorem tru_bl {K : PySem.W.Frag} {H : Hp} {b : Bool} {P : Bool → Hp → Prop} (h : P b H) : ∃ k, TruV K (.bl b) H k ∧ P k H := ⟨b, rfl, h⟩
theorem tru_int {K : PySem.W.Frag} {H : Hp} {i : Int} {P : Bool → Hp → Prop} (h : P (!decide (i = 0)) H) : ∃ k, TruV K (.int i) H k ∧ P k H := ⟨_, rfl, by
  have e : (i != 0) = !decide (i = 0) := by simp [bne, Bool.beq_eq_decide_eq]
  rw [e]; exact h⟩
/-! changes, told by what changed -/
theorem m_app {l : Addr} {xs : List V} {y : V} (h : H l = some (.lst xs)) (hz : xs.length < sizeLine) (q : ∀ H', H' l = some (.lst (xs ++ [y])) → (∀ b, b ≠ l → H' b = H b) → Q .non H') : wM X "list.append" (.ref l) [y] H Q := m_append h hz (q _ upd_same fun b hb => upd_ne hb)
theorem st_l {l : Addr} {xs : List V} {v : V} {j : Int} {n : Nat} {Q : Hp → Prop} (h : H l = some (.lst xs)) (hn : ixN xs.length j = some n) (q : ∀ H', H' l = some (.lst (xs.set n v)) → (∀ b, b ≠ l → H' b = H b) → Q H') : wSet X (.ref l) (.int j) v H Q := st_list h hn (q _ upd_same fun b hb => upd_ne hb)
end
/-! isinstance of data -/
def tyD : PyData → String
  | .none => "NoneType"
  | .bool _ => "bool"
  | .int _ => "int"
  | .str _ => "str"
  | .list _ => "list"
  | .tuple _ => "tuple"
  | .dict _ => "dict"
def isIntD : PyData → Bool
  | .bool _ => true
  | .int _ => true
  | _ => false
def isBoolD : PyData → Bool
  | .bool _ => true
  | _ => false
def isStrD : PyData → Bool
  | .str _ => true
  | _ => false
def isListD : PyData → Bool
  | .list _ => true
  | _ => false
def isTupD : PyData → Bool
  | .tuple _ => true
  | _ => false
def isDictD : PyData → Bool
  | .dict _ => true
  | _ => false
def isSeqD : PyData → Bool
  | .list _ => true
  | .tuple _ => true
  | _ => false
section
variable {K : PySem.W.Frag} {H : Hp} {x : V} {d : PyData}
theorem tyx_l {a : Addr} {xs : List V} (h : SqL K H a xs) : TyX K H (.ref a) (.type "list") := by
  rcases h with (h | ⟨o, h⟩) | ⟨o, its, n, h, hc, _⟩
  · exact .base (.lst h)
  · exact .base (.frz h)
  · exact .kList h hc
theorem tyx_t {a : Addr} {xs : List V} (h : SqT K H a xs) : TyX K H (.ref a) (.type "tuple") := by
  rcases h with (h | ⟨o, h⟩) | ⟨o, its, n, h, hc, _⟩
  · exact .base (.tup h)
  · exact .fTuple h
  · exact .kTuple h hc
theorem Dt.ty (h : Dt K H x d) : TyX K H x (.type (tyD d)) := by
  cases h with
  | non => exact .base .non
  | bl b => exact .base (.bl b)
  | int i => exact .base (.int i)
  | str x => exact .base (.str x)
  | lst h _ => exact tyx_l h
  | tup h _ => exact tyx_t h
  | dict h _ => exact .base (.dK h)
theorem kb_int : ∀ d : PyData, kitB (tyD d) "int" = some (isIntD d)
  | .none => (by decide +kernel : kitB "NoneType" "int" = some false)
  | .bool _ => (by decide +kernel : kitB "bool" "int" = some true)
  | .int _ => (by decide +kernel : kitB "int" "int" = some true)
  | .str _ => (by decide +kernel : kitB "str" "int" = some false)
  | .list _ => (by decide +kernel : kitB "list" "int" = some false)
  | .tuple _ => (by decide +kernel : kitB "tuple" "int" = some false)
  | .dict _ => (by decide +kernel : kitB "dict" "int" = some false)
theorem kb_bool : ∀ d : PyData, kitB (tyD d) "bool" = some (isBoolD d)
  | .none => (by decide +kernel : kitB "NoneType" "bool" = some false)
  | .bool _ => (by decide +kernel : kitB "bool" "bool" = some true)
  | .int _ => (by decide +kernel : kitB "int" "bool" = some false)
  | .str _ => (by decide +kernel : kitB "str" "bool" = some false)
  | .list _ => (by decide +kernel : kitB "list" "bool" = some false)
  | .tuple _ => (by decide +kernel : kitB "tuple" "bool" = some false)
  | .dict _ => (by decide +kernel : kitB "dict" "bool" = some false)
theorem kb_str : ∀ d : PyData, kitB (tyD d) "str" = some (isStrD d)
  | .none => (by decide +kernel : kitB "NoneType" "str" = some false)
  | .bool _ => (by decide +kernel : kitB "bool" "str" = some false)
  | .int _ => (by decide +kernel : kitB "int" "str" = some false)
  | .str _ => (by decide +kernel : kitB "str" "str" = some true)
  | .list _ => (by decide +kernel : kitB "list" "str" = some false)
  | .tuple _ => (by decide +kernel : kitB "tuple" "str" = some false)
  | .dict _ => (by decide +kernel : kitB "dict" "str" = some false)
theorem kb_list : ∀ d : PyData, kitB (tyD d) "list" = some (isListD d)
  | .none => (by decide +kernel : kitB "NoneType" "list" = some false)
  | .bool _ => (by decide +kernel : kitB "bool" "list" = some false)
  | .int _ => (by decide +kernel : kitB "int" "list" = some false)
  | .str _ => (by decide +kernel : kitB "str" "list" = some false)
  | .list _ => (by decide +kernel : kitB "list" "list" = some true)
  | .tuple _ => (by decide +kernel : kitB "tuple" "list" = some false)
  | .dict _ => (by decide +kernel : kitB "dict" "list" = some false)
theorem kb_tuple : ∀ d : PyData, kitB (tyD d) "tuple" = some (isTupD d)
  | .none => (by decide +kernel : kitB "NoneType" "tuple" = some false)
  | .bool _ => (by decide +kernel : kitB "bool" "tuple" = some false)
  | .int _ => (by decide +kernel : kitB "int" "tuple" = some false)
  | .str _ => (by decide +kernel : kitB "str" "tuple" = some false)
  | .list _ => (by decide +kernel : kitB "list" "tuple" = some false)
  | .tuple _ => (by decide +kernel : kitB "tuple" "tuple" = some true)
  | .dict _ => (by decide +kernel : kitB "dict" "tuple" = some false)
theorem kb_dict : ∀ d : PyData, kitB (tyD d) "dict" = some (isDictD d)
  | .none => (by decide +kernel : kitB "NoneType" "dict" = some false)
  | .bool _ => (by decide +kernel : kitB "bool" "dict" = some false)
  | .int _ => (by decide +kernel : kitB "int" "dict" = some false)
  | .str _ => (by decide +kernel : kitB "str" "dict" = some false)
  | .list _ => (by decide +kernel : kitB "list" "dict" = some false)
  | .tuple _ => (by decide +kernel : kitB "tuple" "dict" = some false)
  | .dict _ => (by decide +kernel : kitB "dict" "dict" = some true)
variable {X : Cx} {Q : VK}
theorem c_isD {T : String} {r : Bool} (hx : Dt X.K H x d) (hr : kitB (tyD d) T = some r) (q : Q (.bl r) H) : wC X (.builtin "isinstance") [x, .ty T] H Q := c_isi (.ty T) hx.ty (kit_ty hr) q
theorem c_isInt (hx : Dt X.K H x d) (q : Q (.bl (isIntD d)) H) : wC X (.builtin "isinstance") [x, .ty "int"] H Q := c_isD hx (kb_int d) q
theorem c_isBool (hx : Dt X.K H x d) (q : Q (.bl (isBoolD d)) H) : wC X (.builtin "isinstance") [x, .ty "bool"] H Q := c_isD hx (kb_bool d) q
theorem c_isStr (hx : Dt X.K H x d) (q : Q (.bl (isStrD d)) H) : wC X (.builtin "isinstance") [x, .ty "str"] H Q := c_isD hx (kb_str d) q
theorem c_isList (hx : Dt X.K H x d) (q : Q (.bl (isListD d)) H) : wC X (.builtin "isinstance") [x, .ty "list"] H Q := c_isD hx (kb_list d) q
theorem c_isTup (hx : Dt X.K H x d) (q : Q (.bl (isTupD d)) H) : wC X (.builtin "isinstance") [x, .ty "tuple"] H Q := c_isD hx (kb_tuple d) q
theorem c_isDict (hx : Dt X.K H x d) (q : Q (.bl (isDictD d)) H) : wC X (.builtin "isinstance") [x, .ty "dict"] H Q := c_isD hx (kb_dict d) q
/-- isinstance(x, (list, tuple)) -/
theorem c_isSeq {tp : Addr} (ht : H tp = some (.tup [.ty "list", .ty "tuple"])) (hx : Dt X.K H x d) (q : Q (.bl (isSeqD d)) H) : wC X (.builtin "isinstance") [x, .ref tp] H Q := by
  refine c_isiT (us := [.type "list", .type "tuple"]) (r := isSeqD d) ht (.cons (.ty _) (.cons (.ty _) .nil)) hx.ty ?_ q
  refine kitAny_cons (kit_ty (kb_list d)) (fun h1 => kitAny_cons (r := isSeqD d) (kit_ty (kb_tuple d)) (fun h2 => ?_) (fun h2 => ?_)) (fun h1 => ?_)
  · cases d <;> first | rfl | (simp [isListD] at h1; done) | (simp [isTupD] at h2; done)
  · cases d <;> first | rfl | (simp [isTupD] at h2; done)
  · cases d <;> first | rfl | (simp [isListD] at h1; done)
end
end Tw
namespace Tw
open PySem L2
theorem un64 {k : Nat} {A : Around} (hr : L2H.RoomH k A) : A.units + 64 < cLine := by have := hr.un; omega
theorem unD {k : Nat} {A : Around} {d : PyData} (hr : L2H.RoomH k A) (h : d.depth ≤ 60) : A.units + d.depth + 1 < cLine := by have := hr.un; omega
end Tw
/-! Tw8: a def of the module as its callers know it; comprehensions that make lists of values. -/
namespace Tw
open PySem PySem.Spec PyProof.Rows L2
open L2H (RoomH)
/-- a def of the text stands under its name -/
structure Dn (K : PySem.W.Frag) (mg : Str → Option Value) (x : Str) (st : Stmt) : Prop where
  ex : ∃ (f : Addr) (fd : FuncData), Fun K x x st f fd ∧ mg x = some (.ref f)
section
variable {P : Program} {w : World} {K : PySem.W.Frag} {mg : Str → Option Value} {base : Heap} {CX : CXT} {c : Bool} {k : Nat} {x : Str} {st : Stmt} {N ps : List Str} {sp : Sp}
theorem cal_g (D : Dn K mg x st) (S : FnScope N ps (defScope st))
    (hbind : ∀ (kV doc pm : Value) (an : Option Addr) (cdv ct : Value) (us : List Value), us.length = ps.length → bindArgs (PySem.W.fnOf x x (defArgs st) (defBody st) (defScope st) .none kV doc pm an cdv ct) ⟨us, []⟩ = pure (ps.zip us))
    (len : ∀ vs H Q E, sp vs H Q E → vs.length = ps.length)
    (hbody : ∀ (f : Addr) (cdv : Value) (A : Around) (outer : List Env) (s : Shared) (H : Hp) (vs : List V) (Q : VK) (E : XK), RoomH k (A.deeper (envOfC x (defScope st) s.heap.objs.size f cdv)) → (c = true → A.handled = none) → A.guards = some [] → sp vs H Q E →
      wB (cxG CX P w K mg base N x (defScope st) f cdv A outer s H E c) (defBody st) { nx := fun _ H' => Q .non H', rt := Q } (start N vs) H) : Cal P w K mg base CX c (k + 1) x [] sp := by
  obtain ⟨f, fd, F, hm⟩ := D.ex
  exact ⟨f, fd, ps, [], fn_g F S len (hbody f), hm, F.kp, F.binds hbind, .nil⟩
end
section
variable {X : Cx} {e it elt tg : Expr} {σ : St} {H : Hp} {Q : VK} {pos : Pos} {scope : Scope} {own : List (Str × Nat)}
theorem iteT {A B : Prop} (h : A) : if true = true then A else B := by rw [if_pos rfl]; exact h
/-- the list that is being made: behind i turns it holds the values of v -/
def Mk (H1 : Hp) (l : Addr) (v : Nat → V) (i : Nat) (H' : Hp) : Prop := H1 l = none ∧ Same H1 H' ∧ H' l = some (.lst ((List.range i).map v))
theorem mk_turn {H1 H' : Hp} {l : Addr} {v : Nat → V} {i : Nat} {ts : List Nat} {y : V} {m : Nat} (hm : Mk H1 l v i H') (hi : i < m) (hz : m ≤ 1000000)
    (hg : bG X scope tg y (wipe σ ts) H' fun σ2 H2 => H2 = H' ∧ wipe σ2 ts = wipe σ ts ∧ bE X scope elt σ2 H2 fun u H3 => u = v i ∧ Same H' H3) :
    bTurn X scope tg [] elt ts σ l (Mk H1 l v (i + 1)) y H' := by
  obtain ⟨n, s, a⟩ := hm
  intro sB HB C cl fp
  refine ⟨fun pins s' u I r => ?_⟩
  refine wpAny_mono (wG.run (hg sB HB C cl fp) pins s' u I r) (fun _ s2 ⟨σ2, H2, J, e2, hw, q⟩ => ⟨σ2, H2, J, hw, ?_⟩) fun _ _ z => z
  subst e2
  intro sB' HB' C' cl' fp'
  unfold wIf
  dsimp only
  refine iteT ?_
  intro sC HC CC clC fpC
  refine wE.mono (q sC HC CC clC fpC) fun u H3 ⟨e3, s3⟩ => ?_
  subst e3
  refine ⟨_, s3 _ _ a, ?_, n, fun b o e => ?_, ?_⟩
  · rw [List.length_map, List.length_range]
    exact sz_lt' (by omega)
  · rw [upd_ne (ne_of_none e n)]
    exact s3 _ _ (s _ _ e)
  · rw [upd_same, List.range_succ, List.map_append]
    rfl
/-- [elt for tg in it], over a list; v i is the i-th element's value -/
theorem e_mapL (hc : X.calm = true) (hN : X.N.Nodup) (ok : blkC X.N X.env.scope scope own = true) (hf : ∀ x, foldedSetIterable it X.env x = pure x)
    (h : wE X it σ H fun x H1 => ∃ a xs, x = .ref a ∧ SqL X.K H1 a xs ∧ xs.length ≤ 1000000 ∧ ∃ v : Nat → V,
      (∀ i y H', xs[i]? = some y → Same H1 H' → bG X scope tg y (wipe σ (own.map (·.2))) H' fun σ2 H2 => H2 = H' ∧ wipe σ2 (own.map (·.2)) = wipe σ (own.map (·.2)) ∧ bE X scope elt σ2 H2 fun u H3 => u = v i ∧ Same H' H3) ∧
      ∀ l H2, New H1 H2 l (.lst ((List.range xs.length).map v)) → Q (.ref l) H2) : wE X (.ListComp elt [⟨tg, it, [], 0⟩] scope pos) σ H Q :=
  e_lcL hc hN ok hf (wE.mono h fun x H1 ⟨a, xs, e, hx, hz, v, ht, q⟩ => ⟨a, xs, e, hx, fun l H2 N => ⟨Mk H1 l v, ⟨N.free, N.same, N.at_⟩, fun i H' _ m => m.2.1.seq hx,
    fun i y H' hi m => mk_turn m (List.getElem?_eq_some_iff.mp hi).1 hz (ht i y H' hi m.2.1), fun H' m => q l H' ⟨m.1, m.2.1, m.2.2⟩⟩⟩)
theorem e_mapT (hc : X.calm = true) (hN : X.N.Nodup) (ok : blkC X.N X.env.scope scope own = true) (hf : ∀ x, foldedSetIterable it X.env x = pure x)
    (h : wE X it σ H fun x H1 => ∃ a xs, x = .ref a ∧ SqT X.K H1 a xs ∧ xs.length ≤ 1000000 ∧ ∃ v : Nat → V,
      (∀ i y H', xs[i]? = some y → Same H1 H' → bG X scope tg y (wipe σ (own.map (·.2))) H' fun σ2 H2 => H2 = H' ∧ wipe σ2 (own.map (·.2)) = wipe σ (own.map (·.2)) ∧ bE X scope elt σ2 H2 fun u H3 => u = v i ∧ Same H' H3) ∧
      ∀ l H2, New H1 H2 l (.lst ((List.range xs.length).map v)) → Q (.ref l) H2) : wE X (.ListComp elt [⟨tg, it, [], 0⟩] scope pos) σ H Q :=
  e_lcT hc hN ok hf (wE.mono h fun x H1 ⟨a, xs, e, hx, hz, v, ht, q⟩ => ⟨a, xs, e, hx, fun l H2 N => ⟨Mk H1 l v, ⟨N.free, N.same, N.at_⟩, fun i H' _ m => SqT_same m.2.1 hx,
    fun i y H' hi m => mk_turn m (List.getElem?_eq_some_iff.mp hi).1 hz (ht i y H' hi m.2.1), fun H' m => q l H' ⟨m.1, m.2.1, m.2.2⟩⟩⟩)
end
end Tw
/-! Tw9: sequences of either kind; slices with a step; dict displays; calls that may raise; sizes of what is shown. -/
namespace Tw
open PySem PySem.Spec PyProof.Rows L2
open L2H (RoomH)
/-- a list or a tuple -/
def Sq (K : PySem.W.Frag) (H : Hp) (a : Addr) (xs : List V) : Prop := SqL K H a xs ∨ SqT K H a xs
section
variable {K : PySem.W.Frag} {H H' : Hp} {a : Addr} {xs : List V}
theorem Sq.same (s : Same H H') (h : Sq K H a xs) : Sq K H' a xs := h.elim (fun h => .inl (s.seq h)) fun h => .inr (SqT_same s h)
end
/-- is iterated over: a list or a tuple -/
def iSeq (K : PySem.W.Frag) (tl : TE) : TI := fun σ H R => tl σ H fun x H1 => ∃ a, x = .ref a ∧ (((∃ xs, SqL K H1 a xs) ∧ R (Itl K a) H1) ∨ ((∃ xs, SqT K H1 a xs) ∧ R (Itt K a) H1))
theorem pi_seq {X : Cx} {tg l : Expr} {tl : TE} (hl : PE X l tl) : PI X tg l (iSeq X.K tl) := by
  refine ⟨fun pins s σ H R I h => ?_⟩
  refine thn (hl.run pins s σ H _ I h) fun v s1 ⟨x, H1, I1, r1, a, e, q⟩ => ?_
  subst e
  cases r1
  have fp : ∀ b ∈ [s1.heap.objs.size], FpOk X pins H1 b := fun b hb => by
    obtain rfl : b = s1.heap.objs.size := by simpa using hb
    exact I1.fpOk (Nat.le_refl _) (I1.hok.fresh (Nat.le_refl _))
  rcases q with ⟨⟨xs, hq⟩, q⟩ | ⟨⟨xs, hq⟩, q⟩
  · obtain ⟨its, rv, p, hz⟩ := I1.list hq
    exact wpAny_pyIter_list p.isList ⟨s1.heap.objs.size, [s1.heap.objs.size], _, _, H1, rfl, I1.kept (t' := s1.toks) fun b o e => Heap.get?_push_of_some _ e, turn_list a _, ⟨_, Heap.get?_push_size _ rfl, rfl, rfl⟩, fp, q⟩
  · obtain ⟨its, rv, p, hz⟩ := I1.tuple hq
    exact wpAny_pyIter_tuple (show s1.heap.IsTuple a its.toArray from p) ⟨s1.heap.objs.size, [s1.heap.objs.size], _, _, H1, rfl, I1.kept (t' := s1.toks) fun b o e => Heap.get?_push_of_some _ e, turn_tuple a _, ⟨_, Heap.get?_push_size _ rfl, rfl, rfl⟩, fp, q⟩
section
variable {X : Cx} {e a b c : Expr} {es : List Expr} {σ : St} {H : Hp} {Q Q' : VK} {pos : Pos} {i j : Int} {D : Ends} {body : List Stmt} {tg it elt : Expr} {scope : Scope} {ifs : List Expr} {own : List (Str × Nat)}
theorem s_forQ (hp : PassesOwn (model X.prog X.w) X.A X.env X.xe) (hc : X.calm = true) (hf : ∀ x, foldedSetIterable it X.env x = pure x)
    (h : wE X it σ H fun x H1 => ∃ a xs, x = .ref a ∧ Sq X.K H1 a xs ∧ ∃ Pv : Nat → St → Hp → Prop, Pv 0 σ H1 ∧ (∀ i σ' H', i ≤ xs.length → Pv i σ' H' → Same H1 H') ∧
      (∀ i y σ' H', xs[i]? = some y → Pv i σ' H' → wG X tg y σ' H' fun σ2 H2 => wB X body { nx := Pv (i + 1), rt := D.rt, bk := D.nx, ct := Pv (i + 1) } σ2 H2) ∧ (∀ σ' H', Pv xs.length σ' H' → D.nx σ' H')) :
    wS X (.For tg it body [] pos) D σ H :=
  to_s (ps_for hp hc (pi_seq pe_w) pg_w pb_w hf) (wE.mono h fun x H1 ⟨a, xs, e, hx, Pv, h0, hl, hs, hd⟩ => ⟨a, e, by
    rcases hx with hx | hx
    · exact .inl ⟨⟨xs, hx⟩, for_list Pv h0 (fun i σ' H' hi p => (hl i σ' H' hi p).seq hx) hs hd⟩
    · exact .inr ⟨⟨xs, hx⟩, for_tup Pv h0 (fun i σ' H' hi p => SqT_same (hl i σ' H' hi p) hx) hs hd⟩⟩)
theorem e_lcQ (hc : X.calm = true) (hN : X.N.Nodup) (ok : blkC X.N X.env.scope scope own = true) (hf : ∀ x, foldedSetIterable it X.env x = pure x)
    (h : wE X it σ H fun x H1 => ∃ a xs, x = .ref a ∧ Sq X.K H1 a xs ∧ ∀ l H2, New H1 H2 l (.lst []) → ∃ Pv : Nat → Hp → Prop, Pv 0 H2 ∧ (∀ i H', i ≤ xs.length → Pv i H' → Same H1 H') ∧
      (∀ i y H', xs[i]? = some y → Pv i H' → bTurn X scope tg ifs elt (own.map (·.2)) σ l (Pv (i + 1)) y H') ∧ (∀ H', Pv xs.length H' → Q (.ref l) H')) : wE X (.ListComp elt [⟨tg, it, ifs, 0⟩] scope pos) σ H Q :=
  to_e (lc_w hc hN ok hf (pi_seq pe_w)) (wE.mono h fun x H1 ⟨a, xs, e, hx, q⟩ => ⟨a, e, by
    rcases hx with hx | hx
    · exact .inl ⟨⟨xs, hx⟩, fun l hl => by
        obtain ⟨Pv, h0, h1, h2, h3⟩ := q l _ (New.mk' hl)
        exact lc_list Pv h0 (fun i H' hi p => (h1 i H' hi p).seq hx) h2 h3⟩
    · exact .inr ⟨⟨xs, hx⟩, fun l hl => by
        obtain ⟨Pv, h0, h1, h2, h3⟩ := q l _ (New.mk' hl)
        exact lc_tup Pv h0 (fun i H' hi p => SqT_same (h1 i H' hi p) hx) h2 h3⟩⟩)
/-- [elt for tg in it]: v i is the i-th element's value -/
theorem e_mapQ (hc : X.calm = true) (hN : X.N.Nodup) (ok : blkC X.N X.env.scope scope own = true) (hf : ∀ x, foldedSetIterable it X.env x = pure x)
    (h : wE X it σ H fun x H1 => ∃ a xs, x = .ref a ∧ Sq X.K H1 a xs ∧ xs.length ≤ 1000000 ∧ ∃ v : Nat → V,
      (∀ i y H', xs[i]? = some y → Same H1 H' → bG X scope tg y (wipe σ (own.map (·.2))) H' fun σ2 H2 => H2 = H' ∧ wipe σ2 (own.map (·.2)) = wipe σ (own.map (·.2)) ∧ bE X scope elt σ2 H2 fun u H3 => u = v i ∧ Same H' H3) ∧
      ∀ l H2, New H1 H2 l (.lst ((List.range xs.length).map v)) → Q (.ref l) H2) : wE X (.ListComp elt [⟨tg, it, [], 0⟩] scope pos) σ H Q :=
  e_lcQ hc hN ok hf (wE.mono h fun x H1 ⟨a, xs, e, hx, hz, v, ht, q⟩ => ⟨a, xs, e, hx, fun l H2 N => ⟨Mk H1 l v, ⟨N.free, N.same, N.at_⟩, fun i H' _ m => m.2.1,
    fun i y H' hi m => mk_turn m (List.getElem?_eq_some_iff.mp hi).1 hz (ht i y H' hi m.2.1), fun H' m => q l H' ⟨m.1, m.2.1, m.2.2⟩⟩⟩)
theorem x_sq {p : Addr} {xs : List V} {v : V} (h : Sq X.K H p xs) (ha : atI xs i = some v) (q : Q v H) : wIx X (.ref p) (.int i) H Q := h.elim (fun h => x_list h ha q) fun h => x_tup h ha q
theorem c_lenQ {p : Addr} {xs : List V} (h : Sq X.K H p xs) (q : Q (.int xs.length) H) : wC X (.builtin "len") [.ref p] H Q := h.elim (fun h => c_lenL h q) fun h => c_lenT h q
theorem c_listQ {p : Addr} {xs : List V} (h : Sq X.K H p xs) (q : ∀ r H', New H H' r (.lst xs) → Q (.ref r) H') : wC X (.type "list") [.ref p] H Q := h.elim (fun h => c_listL h q) fun h => c_listT h q
/-- a slice of either; the whole of a tuple is the tuple -/
theorem l_seq {p : Addr} {xs : List V} {lo hi : Option Int} (h : Sq X.K H p xs) (q : ∀ r H', Same H H' → Sq X.K H' r (cutV xs lo hi) → Q (.ref r) H') : wSl X (.ref p) lo hi H Q := by
  rcases h with h | h
  · exact l_list h fun r H' N => q r H' N.same (.inl (SqL.of N.at_))
  · by_cases hw : HT.sIx xs.length 0 lo = 0 ∧ HT.sIx xs.length xs.length hi = xs.length
    · refine to_sl sl_tupA ⟨p, xs, rfl, h, fun _ => q p H (fun _ _ e => e) (.inr ?_), fun z => absurd hw z⟩
      have e : cutV xs lo hi = xs := by
        unfold cutV
        rw [hw.1, hw.2, List.drop_zero]
        exact List.take_of_length_le (by omega)
      rw [e]
      exact h
    · exact l_tup h hw fun r H' N => q r H' N.same (.inr (SqT.of N.at_))
theorem l_tupA {p : Addr} {xs : List V} {lo hi : Option Int} (h : SqT X.K H p xs) (q : ∀ r H', Same H H' → SqT X.K H' r (cutV xs lo hi) → Q (.ref r) H') : wSl X (.ref p) lo hi H Q := by
  by_cases hw : HT.sIx xs.length 0 lo = 0 ∧ HT.sIx xs.length xs.length hi = xs.length
  · refine to_sl sl_tupA ⟨p, xs, rfl, h, fun _ => q p H (fun _ _ e => e) ?_, fun z => absurd hw z⟩
    have e : cutV xs lo hi = xs := by
      unfold cutV
      rw [hw.1, hw.2, List.drop_zero]
      exact List.take_of_length_le (by omega)
    rw [e]
    exact h
  · exact l_tup h hw fun r H' N => q r H' N.same (SqT.of N.at_)
theorem o_powZ (h : i.natAbs < 2 ^ 64) (h0 : 0 ≤ j) (hn : j ≤ 1000000) (q : Q (.int (i ^ j.toNat)) H) : wOp X (binaryOp .Pow) (.int i) (.int j) H Q :=
  to_op op_pow ⟨i, j, rfl, rfl, ⟨h0, hn, h⟩, q⟩
/-- tuple + tuple -/
theorem o_catT {p r : Addr} {xs ys : List V} (h1 : SqT X.K H p xs) (h2 : SqT X.K H r ys) (hz : xs.length + ys.length ≤ sizeLine) (q : ∀ t H', Same H H' → SqT X.K H' t (xs ++ ys) → Q (.ref t) H') : wOp X (binaryOp .Add) (.ref p) (.ref r) H Q :=
  to_op op_catA ⟨p, r, xs, ys, rfl, rfl, h1, h2, hz, fun e => q r H (fun _ _ e => e) (by rw [e]; exact h2), fun _ e => q p H (fun _ _ e => e) (by rw [e, List.append_nil]; exact h1), fun _ _ t ht => q t _ (New.mk' ht).same (SqT.of (New.mk' ht).at_)⟩
/-! ### slices with a step -/
def pickV (xs : List V) (lo hi st : Option Int) : List V := (sliceRange (sliceBounds lo hi st xs.length).1 (sliceBounds lo hi st xs.length).2.1 (sliceBounds lo hi st xs.length).2.2).filterMap (xs[·]?)
theorem vals_pick {xs : List V} {us : List Value} (r : Vals xs us) : ∀ l : List Nat, Vals (l.filterMap (xs[·]?)) (l.filterMap (us[·]?))
  | [] => .nil
  | k :: l => by
    rw [List.filterMap_cons, List.filterMap_cons]
    cases h : xs[k]? with
    | none =>
      have hu : us[k]? = none := by
        rw [List.getElem?_eq_none_iff] at h ⊢
        rw [← r.length]
        exact h
      rw [hu]
      exact vals_pick r l
    | some x =>
      obtain ⟨u, hu, ru⟩ := r.get h
      rw [hu]
      exact .cons ru (vals_pick r l)
theorem e_step {lo hi : Option Expr} {st : Expr} {p2 : Pos} (h : wE X a σ H fun x H1 => wP X lo σ H1 fun l H2 => wP X hi σ H2 fun u H3 => wP X (some st) σ H3 fun s H4 => ∃ p xs, x = .ref p ∧ SqL X.K H4 p xs ∧ s ≠ some 0 ∧
      (pickV xs l u s).length ≤ sizeLine ∧ ∀ r H5, New H4 H5 r (.lst (pickV xs l u s)) → Q (.ref r) H5) : wE X (.Subscript a (.Slice lo hi (some st) p2) pos) σ H Q := by
  refine ⟨fun pins s I => ?_⟩
  refine Subscript_ (thn (h.run pins s I) fun v s1 ⟨x, H1, I1, r1, q1⟩ => ?_)
  refine wpAny_Slice (thn (q1.run pins s1 I1) fun vl s2 ⟨l, H2, I2, pl, q2⟩ => thn (q2.run pins s2 I2) fun vu s3 ⟨u, H3, I3, pu, q3⟩ => thn (q3.run pins s3 I3) fun vs s4 ⟨k, H4, I4, ps, q4⟩ => ?_)
  obtain ⟨p, xs, ex, hx, h0, hz4, q⟩ := q4
  subst ex
  cases r1
  have I5 : Inv X pins σ H4 { s4 with heap := s4.heap.push { cls := .type "slice", data := .fields #[vl, vu, vs] } } := I4.kept (t' := s4.toks) fun b ob q => Heap.get?_push_of_some _ q
  obtain ⟨its, r, ht, hz⟩ := I5.list hx
  have hlen := r.length
  show wpAny (model X.prog X.w) X.A (subscriptTail a (.Slice lo hi (some st) p2) (.ref p) (.ref s4.heap.objs.size)) (EP X pins σ Q) X.xe { s4 with heap := s4.heap.push { cls := .type "slice", data := .fields #[vl, vu, vs] } }
  refine tail_any (ops := [.ref p, .ref s4.heap.objs.size]) ht.isList.typeIs (PySem.slot_list_getitem.lookup) ?_ (by with_unfolding_all rfl)
  refine wpAny_getItem_list_slice ht.isList (Heap.IsSliceOf.new _ vl vu vs) pl pu ps h0 ?_ (by rw [List.size_toArray]; omega)
  have e : slicePick its.toArray l u k = ((sliceRange (sliceBounds l u k xs.length).1 (sliceBounds l u k xs.length).2.1 (sliceBounds l u k xs.length).2.2).filterMap (its[·]?)).toArray := by
    unfold slicePick
    rw [List.size_toArray, ← hlen]
    simp
  rw [e]
  refine ⟨.ref _, _, I5.laid (t' := s4.toks) (o := .lst (pickV xs l u k)) (fun b ob q => Heap.get?_push_of_some _ q) (Nat.le_refl _) ?_, rfl, q _ _ (New.mk' (I5.hok.fresh (Nat.le_refl _)))⟩
  exact ⟨hz4, _, 0, vals_pick r _, Heap.get?_push_size _ rfl⟩
/-- xs[-2::-1] -/
theorem pick_back2 (xs : List V) (h : 1 ≤ xs.length) : pickV xs (some (-2)) none (some (-1)) = xs.dropLast.reverse := by
  have e1 : sliceBounds (some (-2)) none (some (-1)) xs.length = ((xs.length : Int) - 2, -1, -1) := by
    simp only [sliceBounds, Option.getD_some, show ¬ ((-1 : Int) > 0) by decide, if_false, show ((-2 : Int) < 0) by decide, if_true]
    refine Prod.ext ?_ rfl
    show max (-1) (min (-2 + (xs.length : Int)) ((xs.length : Int) - 1)) = _
    omega
  have e2 : sliceRange ((xs.length : Int) - 2) (-1) (-1) = (List.range (xs.length - 1)).reverse := by
    unfold sliceRange
    have e : ((xs.length : Int) - 2 - -1 - -1 - 1) / (- -1) = (xs.length : Int) - 1 := by
      rw [show (- -1 : Int) = 1 by decide, Int.ediv_one]
      omega
    simp only [show ¬ ((-1 : Int) > 0) by decide, if_false, e]
    have e3 : (if (xs.length : Int) - 2 > -1 then (xs.length : Int) - 1 else 0).toNat = xs.length - 1 := by
      split <;> omega
    rw [e3]
    apply List.ext_getElem
    · simp
    · intro k h1 h2
      simp at h1
      rw [List.getElem_map, List.getElem_reverse]
      simp
      omega
  unfold pickV
  rw [e1]
  show (sliceRange ((xs.length : Int) - 2) (-1) (-1)).filterMap (xs[·]?) = _
  rw [e2, List.filterMap_reverse]
  congr 1
  apply List.ext_getElem?
  intro k
  rw [List.getElem?_dropLast]
  have e4 : (List.range (xs.length - 1)).filterMap (xs[·]?) = xs.take (xs.length - 1) := by
    have := pick_run xs.toArray 0 (xs.length - 1)
    simpa using this
  rw [e4, List.getElem?_take]
/-! ### dicts -/
theorem e_dict0 (q : ∀ p H', New H H' p (.dK []) → Q (.ref p) H') : wE X (.Dict [] [] pos) σ H Q := to_e pe_dnewK fun p hp => q p _ (New.mk' hp)
theorem e_dict1 {k v : Expr} (h : ∀ p H1, New H H1 p (.dK []) → wE X k σ H1 fun x H2 => wE X v σ H2 fun y H3 => H3 p = some (.dK []) ∧ ∃ kk : Key, x = kV kk ∧ ∀ H4, H4 p = some (.dK [(kk, y)]) → (∀ b, b ≠ p → H4 b = H3 b) → Q (.ref p) H4) : wE X (.Dict [some k] [v] pos) σ H Q := by
  refine to_e (pe_disp (trs := [(wE X k, wE X v)]) (pps_cons pe_w pe_w pps_nil) rfl rfl (by simp) (by show 1 ≤ 15; decide)) fun p hp => ?_
  refine wE.mono (h p _ (New.mk' hp)) fun x H2 h2 => wE.mono h2 fun y H3 ⟨e, kk, ex, q⟩ => ⟨e, [(kk, y)], by rw [ex]; rfl, (by show 1 ≤ 15; decide), q _ upd_same fun b hb => upd_ne hb⟩
theorem st_d {l : Addr} {kvs : List (Key × V)} {v : V} {kk : Key} {R : Hp → Prop} (hu : X.A.units + 1 < cLine) (h : H l = some (.dK kvs)) (hz : kvs.length < sizeLine) (q : ∀ H', H' l = some (.dK (putK kvs kk v)) → (∀ b, b ≠ l → H' b = H b) → R H') : wSet X (.ref l) (kV kk) v H R :=
  ⟨_, set_dict hu, l, _, rfl, DPut.k h hz, q _ upd_same fun b hb => upd_ne hb⟩
/-! ### calls that may raise -/
theorem e_calX {P : Program} {w : World} {K : PySem.W.Frag} {mg : Str → Option Value} {base : Heap} {cc : Bool} {k m : Nat} {x : Str} {p : Pos} {dvs : List V} {sp : Sp} {W : WX} (C : Cal P w K mg base (L2.CX P w) cc m x dvs sp) (tk : Takes X W) (eX : X.prog = P ∧ X.w = w ∧ X.K = K ∧ X.mg = mg ∧ X.base = base) (hj : m ≤ k)
    (hr : RoomH k X.A) (hh : cc = true → X.A.handled = none) (hg : X.A.guards = some []) (hgl : Gl X x) (he : starEach (e :: es) X.env = (false, eval e X.env) :: starEach es X.env) (hpl : (backTo pos (starEach es X.env)).any (·.1) = false) (hdb : (x == ("__debug__" : Str)) = false)
    (h : wA X (e :: es) σ H fun vs H1 => sp (vs ++ dvs) H1 Q (WE W σ)) : wE X (.Call (.Name x p) (e :: es) [] pos) σ H Q := by
  obtain ⟨rfl, rfl, rfl, rfl, rfl⟩ := eX
  exact e_call (C.mono hj) (WE W) hr hh hg (fun σ => passAt tk σ) hgl he hpl h hdb
end
/-! ### sizes -/
mutual
/-- at least the length of what is shown -/
def szD : PyData → Nat
  | .none => 5
  | .bool _ => 5
  | .int _ => 1921
  | .str x => (reprText x).length
  | .list xs => szAll xs + 2
  | .tuple xs => szAll xs + 3
  | .dict kvs => szKv kvs + 2
def szAll : List PyData → Nat
  | [] => 0
  | x :: xs => szD x + 2 + szAll xs
def szKv : List (PyData × PyData) → Nat
  | [] => 0
  | (k, v) :: r => szD k + 2 + szD v + 2 + szKv r
end
theorem piled_le {m : Nat} : ∀ {ts : List Str}, piled ts ≤ m → (Str.join ", " ts).length ≤ m := fun {ts} h => by
  by_cases e : ts = []
  · subst e
    exact Nat.zero_le _
  · have := join_length_add ts e
    omega
theorem textFrom_le : ∀ (ts : List Str) (k : Nat) (acc : Str), (textFrom k acc ts).length ≤ acc.length + piled ts
  | [], k, acc => by simp [textFrom, piled]
  | t :: r, k, acc => by
    have h := textFrom_le r (k + 1) (acc ++ (if k > 0 then ", " else "" : String) ++ t)
    have e : (acc ++ (if k > 0 then ", " else "" : String) ++ t).length ≤ acc.length + 2 + t.length := by
      rw [strLen_append, strLen_append]
      split
      · have : ((", " : String) : Str).length = 2 := rfl
        omega
      · have : (("" : String) : Str).length = 0 := rfl
        omega
    have e2 : piled (t :: r) = t.length + 2 + piled r := by simp [piled]
    rw [e2]
    show (textFrom (k + 1) (acc ++ (if k > 0 then ", " else "" : String) ++ t) r).length ≤ _
    omega
mutual
theorem shown_le : ∀ d : PyData, d.showable = true → d.shown.length ≤ szD d
  | .none, _ => by simp only [PyData.shown, szD]; decide
  | .bool b, _ => by cases b <;> (simp only [PyData.shown, szD]; decide)
  | .int i, h => by
    simp only [PyData.shown, szD]
    exact int_text_len_1921 (by simpa [PyData.showable] using h)
  | .str x, _ => by simp only [PyData.shown, szD]; exact Nat.le_refl _
  | .list xs, h => by
    simp only [PyData.shown, szD]
    have h1 := shownAll_le xs (by simpa [PyData.showable] using h)
    have h2 := textFrom_le (PyData.shownAll xs) 0 "["
    unfold listText
    rw [strLen_append]
    have e1 : (("]" : String) : Str).length = 1 := rfl
    have e2 : (("[" : String) : Str).length = 1 := rfl
    omega
  | .tuple xs, h => by
    simp only [PyData.shown, szD]
    have h1 := piled_le (shownAll_le xs (by simpa [PyData.showable] using h))
    unfold tupleText
    rw [strLen_append, strLen_append]
    have e1 : (("(" : String) : Str).length = 1 := rfl
    split
    · have e2 : ((",)" : String) : Str).length = 2 := rfl
      omega
    · have e2 : ((")" : String) : Str).length = 1 := rfl
      omega
  | .dict kvs, h => by
    simp only [PyData.shown, szD]
    have h1 := piled_le (shownKv_le kvs (by simpa [PyData.showable] using h))
    unfold dictText
    rw [strLen_append, strLen_append]
    have e1 : (("{" : String) : Str).length = 1 := rfl
    have e2 : (("}" : String) : Str).length = 1 := rfl
    omega
theorem shownAll_le : ∀ ds : List PyData, PyData.showableAll ds = true → piled (PyData.shownAll ds) ≤ szAll ds
  | [], _ => by simp [PyData.shownAll, szAll, piled]
  | d :: ds, h => by
    have h' : d.showable = true ∧ PyData.showableAll ds = true := by simpa [PyData.showableAll] using h
    have h1 := shown_le d h'.1
    have h2 := shownAll_le ds h'.2
    have e : piled (d.shown :: PyData.shownAll ds) = d.shown.length + 2 + piled (PyData.shownAll ds) := by simp [piled]
    simp only [PyData.shownAll, szAll]
    omega
theorem shownKv_le : ∀ ds : List (PyData × PyData), PyData.showableKv ds = true → piled (PyData.shownKv ds) ≤ szKv ds
  | [], _ => by simp [PyData.shownKv, szKv, piled]
  | (k, v) :: ds, h => by
    have h' : (k.showable = true ∧ v.showable = true) ∧ PyData.showableKv ds = true := by simpa [PyData.showableKv] using h
    have h1 := shown_le k h'.1.1
    have h2 := shown_le v h'.1.2
    have h3 := shownKv_le ds h'.2
    have e : piled ((k.shown ++ ": " ++ v.shown) :: PyData.shownKv ds) = (k.shown ++ ": " ++ v.shown).length + 2 + piled (PyData.shownKv ds) := by simp [piled]
    have e2 : (k.shown ++ ": " ++ v.shown).length = k.shown.length + 2 + v.shown.length := by
      rw [strLen_append, strLen_append]
      rfl
    simp only [PyData.shownKv, szKv]
    omega
end
/-- fit to be shown: at most n signs -/
structure Fine (n : Nat) (d : PyData) : Prop where
  sh : d.showable = true
  dp : d.depth ≤ 50
  sz : szD d ≤ n
theorem Fine.len {n : Nat} {d : PyData} (h : Fine n d) (hn : n ≤ 16000000) : d.shown.length ≤ sizeLine := by
  have := shown_le d h.sh
  have := h.sz
  rw [sizeLine_eq]
  omega
theorem Fine.mono {n m : Nat} {d : PyData} (h : Fine n d) (hn : n ≤ m) : Fine m d := ⟨h.sh, h.dp, Nat.le_trans h.sz hn⟩
section
theorem c_reprF {X : Cx} {H : Hp} {Q : VK} {x : V} {d : PyData} {k n : Nat} (hr : RoomH k X.A) (hg : X.A.guards = some []) (hx : Dt X.K H x d) (hf : Fine n d) (hn : n ≤ 16000000) (q : Q (.str d.shown) H) : wC X (.builtin "repr") [x] H Q :=
  c_repr hg (unD hr (Nat.le_trans hf.dp (by decide))) hx hf.sh (hf.len hn) q
theorem szAll_ints : ∀ ns : List Int, szAll (ns.map PyData.int) = 1923 * ns.length
  | [] => rfl
  | n :: ns => by rw [List.map_cons, List.length_cons, szAll, szAll_ints ns, szD]; omega
theorem showAll_ints : ∀ {ns : List Int}, (∀ i ∈ ns, i.natAbs.log2 < 1920) → PyData.showableAll (ns.map PyData.int) = true
  | [], _ => rfl
  | n :: ns, h => by
    rw [List.map_cons, PyData.showableAll, showAll_ints (fun i hi => h i (List.mem_cons_of_mem _ hi)), PyData.showable, decide_eq_true (h n (List.mem_cons_self ..))]
    rfl
theorem depthAll_ints : ∀ ns : List Int, PyData.depthAll (ns.map PyData.int) = 0
  | [] => rfl
  | n :: ns => by rw [List.map_cons, PyData.depthAll, depthAll_ints ns]; rfl
theorem fine_ints {ns : List Int} {n : Nat} (h : ∀ i ∈ ns, i.natAbs.log2 < 1920) (hn : 1923 * ns.length + 2 ≤ n) : Fine n (.list (ns.map PyData.int)) :=
  ⟨by rw [PyData.showable]; exact showAll_ints h, by rw [PyData.depth, depthAll_ints]; decide, by rw [szD, szAll_ints]; exact hn⟩
theorem fine_intsT {ns : List Int} {n : Nat} (h : ∀ i ∈ ns, i.natAbs.log2 < 1920) (hn : 1923 * ns.length + 3 ≤ n) : Fine n (.tuple (ns.map PyData.int)) :=
  ⟨by rw [PyData.showable]; exact showAll_ints h, by rw [PyData.depth, depthAll_ints]; decide, by rw [szD, szAll_ints]; exact hn⟩
theorem fine_2 {a b : PyData} {n m r : Nat} (h1 : Fine n a) (h2 : Fine m b) (d1 : a.depth ≤ 40) (d2 : b.depth ≤ 40) (hr : n + m + 6 ≤ r) : Fine r (.list [a, b]) :=
  ⟨by simp only [PyData.showable, PyData.showableAll, h1.sh, h2.sh]; rfl, by simp only [PyData.depth, PyData.depthAll]; omega, by have := h1.sz; have := h2.sz; simp only [szD, szAll]; omega⟩
/-- == of lists of ints -/
theorem eqvAll_ints : ∀ ns ms : List Int, PyData.eqvAll (ns.map PyData.int) (ms.map PyData.int) = decide (ns = ms)
  | [], [] => rfl
  | [], _ :: _ => rfl
  | _ :: _, [] => rfl
  | n :: ns, m :: ms => by
    rw [List.map_cons, List.map_cons, PyData.eqvAll, eqvAll_ints ns ms, PyData.eqv]
    by_cases h : n = m
    · subst h
      by_cases h2 : ns = ms
      · subst h2
        simp
      · simp [h2]
    · simp [h]
theorem canLay_ints : ∀ ns : List Int, PyData.canLayAll0 (ns.map PyData.int) = true
  | [] => rfl
  | n :: ns => by rw [List.map_cons, PyData.canLayAll0, canLay_ints ns]; rfl
theorem shaped_ints (ns : List Int) : SeqAt.shaped (.list (ns.map PyData.int)) = true := by
  unfold SeqAt.shaped
  rw [PyData.canLay0, canLay_ints, PyData.depth, depthAll_ints]
  decide
theorem DpAll.ints {K : PySem.W.Frag} {H : Hp} : ∀ ns : List Int, DpAll K H (ns.map V.int) (ns.map PyData.int)
  | [] => .nil
  | n :: ns => .cons (.int n) (DpAll.ints ns)
/-- lists of ints compared -/
theorem o_eqLI {X : Cx} {H : Hp} {Q : VK} {k : Nat} {p r : Addr} {ns ms : List Int} (hr : RoomH k X.A) (h1 : SqL X.K H p (ns.map V.int)) (h2 : SqL X.K H r (ms.map V.int)) (q : Q (.bl (decide (ns = ms))) H) : wOp X (compareOp .Eq) (.ref p) (.ref r) H Q :=
  o_eqD (un64 hr) (.lst h1 (DpAll.ints ns)) (.lst h2 (DpAll.ints ms)) (shaped_ints ns) (shaped_ints ms) (by rw [PyData.eqv, eqvAll_ints]; exact q)
theorem o_neLI {X : Cx} {H : Hp} {Q : VK} {k : Nat} {p r : Addr} {ns ms : List Int} (hr : RoomH k X.A) (h1 : SqL X.K H p (ns.map V.int)) (h2 : SqL X.K H r (ms.map V.int)) (q : Q (.bl (!decide (ns = ms))) H) : wOp X (compareOp .NotEq) (.ref p) (.ref r) H Q :=
  o_neD (un64 hr) (.lst h1 (DpAll.ints ns)) (.lst h2 (DpAll.ints ms)) (shaped_ints ns) (shaped_ints ms) (by rw [PyData.eqv, eqvAll_ints]; exact q)
end
end Tw
/-! Tw10: a lent object (the laws' purse); a thing whose top is owned. -/
namespace Tw
open PySem PySem.Spec PyProof.Rows L2
open L2H (RoomH)
/-- from the entry heap H with the data H0 to the heap H' with the data H1; q is lent -/
structure GrowP (q : Addr) (H0 H H1 H' : Hp) : Prop where
  old : ∀ b u, b ≠ q → H b = some u → H' b = some u
  base : Same H0 H1
  sub : Same H1 H'
  fresh : ∀ p, H p ≠ none → H1 p = H0 p
section
variable {He H0 H1 H2 H H' : Hp} {L : List (Addr × HO)} {p q : Addr} {o o' : HO} {i : Nat}
theorem Fr.lent (h : Same H0 H) (n : H0 q = none) (e : H q = some o) : Fr (del H q) H0 H0 H [(q, o)] := by
  refine ⟨⟨fun b u hb => ?_, fun _ _ e => e, h, fun _ _ => rfl⟩, fun i p u e' => ?_, by simp, fun p hp => ?_⟩
  · by_cases hq : b = q
    · rw [hq, del_same] at hb
      cases hb
    · rw [del_ne hq] at hb
      exact hb
  · cases i with
    | zero => cases e'; exact e
    | succ i => simp at e'
  · have : p = q := by simpa using hp
    rw [this]
    exact ⟨del_same, n⟩
theorem Fr.back (F : Fr (del H q) H0 H1 H' L) (i : Nat) (h : L[i]? = some (q, o)) (n : H0 q = none) : GrowP q H0 H H1 H' := by
  refine ⟨fun b u hb e => F.g.old b u (by rw [del_ne hb]; exact e), F.g.base, F.g.sub, fun p hp => ?_⟩
  by_cases hq : p = q
  · rw [hq, n]
    exact (F.new q (Fr.mem h)).2
  · exact F.g.fresh p (by rw [del_ne hq]; exact hp)
theorem Fr.callP (F : Fr He H0 H1 H L) (i : Nat) (h : L[i]? = some (q, o)) (G : GrowP q H1 H H2 H') (e : H' q = some o') : Fr He H0 H2 H' (L.set i (q, o')) := by
  obtain ⟨n1, n2⟩ := F.new q (Fr.mem h)
  have hq2 : H2 q = none := by
    rw [G.fresh q (by rw [F.at i h]; exact fun z => nomatch z)]
    exact n2
  have keep : ∀ G0 : Hp, G0 q = none → Same G0 H → Same G0 H' := fun G0 hn s b u e' => G.old b u (ne_of_none e' hn) (s b u e')
  refine ⟨⟨keep He n1 F.g.old, F.g.base.trans G.base, G.sub, fun p hp => ?_⟩, fun j r u e' => ?_, ?_, fun r hr => ?_⟩
  · have h1 : H p ≠ none := fun z => hp (L2.Same.free F.g.old z)
    rw [G.fresh p h1, F.g.fresh p hp]
  · by_cases hj : i = j
    · subst hj
      have hl : i < L.length := (List.getElem?_eq_some_iff.mp h).1
      rw [List.getElem?_set_self hl] at e'
      cases e'
      exact e
    · rw [List.getElem?_set_ne hj] at e'
      have hr : r ≠ q := fun z => hj (by rw [z] at e'; exact nodup_at F.nd h e')
      exact G.old r u hr (F.has j r u e')
  · rw [set_map h]
    exact F.nd
  · rw [set_map h] at hr
    obtain ⟨m1, m2⟩ := F.new r hr
    refine ⟨m1, ?_⟩
    obtain ⟨⟨r', u⟩, hm, er⟩ := List.mem_map.mp hr
    obtain ⟨j, hj⟩ := List.getElem?_of_mem hm
    have e1 := F.has j r' u hj
    have er' : r' = r := er
    rw [er'] at e1
    rw [G.fresh r (by rw [e1]; exact fun z => nomatch z)]
    exact m2
theorem Fr.take (F : Fr He H0 H1 H L) (i : Nat) (h : L[i]? = some (q, o)) (old : ∀ b u, b ≠ q → H b = some u → H' b = some u) (e : H' q = some o') : Fr He H0 H1 H' (L.set i (q, o')) :=
  F.callP i h ⟨old, fun _ _ z => z, fun b u z => old b u (ne_of_none z (F.new q (Fr.mem h)).2) (F.g.sub b u z), fun _ _ => rfl⟩ e
theorem Fr.lent0 (e : H q = some o) : Fr (del H q) (fun _ => none) (fun _ => none) H [(q, o)] := Fr.lent (fun _ _ z => nomatch z) rfl e
theorem Fr.old (F : Fr (del H q) H0 H1 H' L) : ∀ b u, b ≠ q → H b = some u → H' b = some u := fun b u hb e => F.g.old b u (by rw [del_ne hb]; exact e)
/-- what is owned changes; nothing else is known to -/
theorem Fr.ne (F : Fr He H0 H1 H L) {i j : Nat} {p q : Addr} {o u : HO} (hi : L[i]? = some (p, o)) (hj : L[j]? = some (q, u)) (hij : i ≠ j) : p ≠ q := fun z => hij (by rw [z] at hi; exact nodup_at F.nd hi hj)
theorem Fr.cast {L' : List (Addr × HO)} (F : Fr He H0 H1 H L) (e : L = L') : Fr He H0 H1 H L' := e ▸ F
end
theorem lg64 {m : Int} (h0 : 0 < m) (h : m < 2 ^ 64) : m.natAbs.log2 < 9000 := by
  have h2 : m.natAbs < 2 ^ 64 := by omega
  have := (Nat.log2_lt (by omega)).mpr h2
  omega
theorem room2 {k j : Nat} {A : Around} (hr : RoomH k A) (hj : j ≤ k) (hh : A.handled = none) : Room j A := ⟨hh, (hr.mono hj).dp, (hr.mono hj).un⟩
/-! ### the purse -/
def Pu (o : HO) (n : Nat) : Prop := ∃ a b c : Int, o = .lst [.int a, .int b, .int c] ∧ 0 ≤ a ∧ 0 ≤ b ∧ b < 2 ^ 31 ∧ 0 ≤ c ∧ c ≤ n
theorem Pu.mono {o : HO} {n m : Nat} (h : Pu o n) (hm : n ≤ m) : Pu o m := by
  obtain ⟨a, b, c, e, h1, h2, h3, h4, h5⟩ := h
  exact ⟨a, b, c, e, h1, h2, h3, h4, by omega⟩
/-- _law_cell -/
def spCell (K : PySem.W.Frag) : Sp := fun vs H Q _ => ∃ (a : Addr) (k : Int) (ns : List Int), vs = [.ref a, .int k] ∧ 0 ≤ k ∧ SqL K H a (ns.map V.int) ∧ ∀ v, Q (.int v) H
/-- _law_purse -/
def spPurse : Sp := fun vs H Q _ => ∃ k, vs = [.int k] ∧ ∀ p o H', New H H' p o → Pu o 0 → Q (.ref p) H'
/-- _law_take -/
def spTake : Sp := fun vs H Q _ => ∃ q m o n, vs = [.ref q, .int m] ∧ H q = some o ∧ Pu o n ∧ n ≤ 1000000 ∧ 0 < m ∧ m < 2 ^ 64 ∧
  ∀ r o' H', 0 ≤ r → r < m → Pu o' (n + 1) → H' q = some o' → (∀ b u, b ≠ q → H b = some u → H' b = some u) → Q (.int r) H'
section
variable {X : Cx} {e a : Expr} {σ : St} {H : Hp} {Q : VK} {pos : Pos} {tg elt : Expr} {scope : Scope} {own : List (Str × Nat)}
/-- [elt for tg in range(a)], where elt takes from the purse and is an int -/
theorem e_lcP {p pos' : Pos} (hc : X.calm = true) (hN : X.N.Nodup) (ok : blkC X.N X.env.scope scope own = true) (hg : Gl X "range") (hm : X.mg "range" = none) (hs1 : starEach [a] X.env = [(false, eval a X.env)]) (hf : ∀ x, foldedSetIterable (.Call (.Name "range" p) [a] [] pos') X.env x = pure x)
    (h : wA X [a] σ H fun vs H1 => ∃ (n : Int) (q : Addr) (o : HO) (m t : Nat) (P : Nat → Int → Prop), vs = [.int n] ∧ -(2 ^ 62) ≤ n ∧ n ≤ 100000 ∧ H1 q = some o ∧ Pu o m ∧
      (∀ (i : Nat) H' o', i < n.toNat → H' q = some o' → Pu o' (m + t * i) → bG X scope tg (.int (i : Int)) (wipe σ (own.map (·.2))) H' fun σ2 H2 => H2 = H' ∧ wipe σ2 (own.map (·.2)) = wipe σ (own.map (·.2)) ∧ bE X scope elt σ2 H2 fun u H3 => ∃ v o'', u = .int v ∧ P i v ∧ H3 q = some o'' ∧ Pu o'' (m + t * i + t) ∧ ∀ b w, b ≠ q → H' b = some w → H3 b = some w) ∧
      ∀ l (ns : List Int) o' H2, H1 l = none → l ≠ q → H2 l = some (.lst (ns.map V.int)) → H2 q = some o' → Pu o' (m + t * n.toNat) → (∀ b u, b ≠ q → H1 b = some u → H2 b = some u) → ns.length = n.toNat → (∀ (i : Nat) v, ns[i]? = some v → P i v) → Q (.ref l) H2) :
    wE X (.ListComp elt [⟨tg, .Call (.Name "range" p) [a] [] pos', [], 0⟩] scope pos) σ H Q := by
  refine e_lcR hc hN ok hg hm hs1 hf (wA.mono h fun vs H1 ⟨n, q, o, m, t, P, e, n1, n2, hq, ho, hs, hd⟩ => ⟨n, e, n1, by omega, fun l H2 N => ?_⟩)
  have hlq : l ≠ q := fun z => by rw [z] at N; have := N.free; rw [hq] at this; cases this
  refine ⟨fun i H' => ∃ (ns : List Int) (o' : HO), H' l = some (.lst (ns.map V.int)) ∧ H' q = some o' ∧ Pu o' (m + t * i) ∧ (∀ b u, b ≠ q → H1 b = some u → H' b = some u) ∧ ns.length = i ∧ (∀ (i : Nat) v, ns[i]? = some v → P i v), ?_, ?_, ?_⟩
  · exact ⟨[], o, N.at_, N.same _ _ hq, ho.mono (by omega), fun b u _ e => N.same _ _ e, rfl, fun i v z => by simp at z⟩
  · rintro i H' hi ⟨ns, o', hl, hq', ho', hb, hn, hp⟩
    intro sB HB C cl fp
    refine ⟨fun pins s' u I r => ?_⟩
    refine wpAny_mono (wG.run (hs i H' o' hi hq' ho' sB HB C cl fp) pins s' u I r) (fun _ s2 ⟨σ2, H3, J, e2, hw, q2⟩ => ⟨σ2, H3, J, hw, ?_⟩) fun _ _ z => z
    subst e2
    intro sB' HB' C' cl' fp'
    unfold wIf
    dsimp only
    refine iteT ?_
    intro sC HC CC clC fpC
    refine wE.mono (q2 sC HC CC clC fpC) fun u H4 ⟨v, o'', e3, pv, hq4, ho4, hb4⟩ => ?_
    subst e3
    refine ⟨ns.map V.int, hb4 l _ hlq hl, by rw [List.length_map, hn]; exact sz_lt' (by omega), ns ++ [v], o'', ?_, ?_, ho4.mono (by rw [Nat.mul_succ]; omega), fun b u h2 h3 => ?_, by simp [hn], fun j w hj => ?_⟩
    · rw [upd_same, List.map_append]; rfl
    · rw [upd_ne (Ne.symm hlq)]; exact hq4
    · have h1 : b ≠ l := fun z => by rw [z, N.free] at h3; cases h3
      rw [upd_ne h1]; exact hb4 b u h2 (hb b u h2 h3)
    · by_cases hjl : j < ns.length
      · rw [List.getElem?_append_left hjl] at hj
        exact hp j w hj
      · have : j = ns.length := by
          have := (List.getElem?_eq_some_iff.mp hj).1
          simp at this
          omega
        rw [this] at hj ⊢
        simp at hj
        rw [← hj, hn]
        exact pv
  · rintro H' ⟨ns, o', hl, hq', ho', hb, hn, hp⟩
    exact hd l ns o' H' N.free hlq hl hq' ho' hb hn hp
/-- the frame behind such a list -/
theorem Fr.gen {He H0 H1 H H' : Hp} {L : List (Addr × HO)} {l q : Addr} {o o' u : HO} (F : Fr He H0 H1 H L) (i : Nat) (h : L[i]? = some (q, o)) (n : H l = none) (hl : H' l = some u) (hq : H' q = some o') (hb : ∀ b w, b ≠ q → H b = some w → H' b = some w) :
    Fr He H0 H1 H' ((l, u) :: L.set i (q, o')) := by
  obtain ⟨n1, n2⟩ := F.new q (Fr.mem h)
  have hlq : l ≠ q := fun z => by rw [z, F.at i h] at n; cases n
  -- by way of a heap without l
  have F1 : Fr He H0 H1 (del H' l) (L.set i (q, o')) := by
    refine ⟨⟨fun b w e => ?_, F.g.base, fun b w e => ?_, F.g.fresh⟩, fun j r w e => ?_, by rw [set_map h]; exact F.nd, fun r hr => F.new r (by rw [set_map h] at hr; exact hr)⟩
    · have e1 := F.g.old b w e
      have hbl : b ≠ l := fun z => by rw [z, n] at e1; cases e1
      rw [del_ne hbl]
      exact hb b w (ne_of_none e n1) e1
    · have e1 := F.g.sub b w e
      have hbl : b ≠ l := fun z => by rw [z, n] at e1; cases e1
      rw [del_ne hbl]
      exact hb b w (ne_of_none e n2) e1
    · by_cases hj : i = j
      · subst hj
        have hl : i < L.length := (List.getElem?_eq_some_iff.mp h).1
        rw [List.getElem?_set_self hl] at e
        cases e
        rw [del_ne (Ne.symm hlq)]
        exact hq
      · rw [List.getElem?_set_ne hj] at e
        have hr : r ≠ q := fun z => hj (by rw [z] at e; exact nodup_at F.nd h e)
        have e1 := F.has j r w e
        have hrl : r ≠ l := fun z => by rw [z, n] at e1; cases e1
        rw [del_ne hrl]
        exact hb r w hr e1
  exact F1.make ⟨del_same, fun b w e => by
    by_cases hbl : b = l
    · rw [hbl, del_same] at e; cases e
    · rw [del_ne hbl] at e; exact e, hl⟩
end
end Tw
/-! Tw11: plain facts: data that are rows of ints, indices, cuts. -/
namespace Tw
open PySem PySem.Spec PyProof.Rows L2
theorem iteF {A B : Prop} (h : B) : if false = true then A else B := by rw [if_neg Bool.false_ne_true]; exact h
/-- a statement, by what holds behind it -/
theorem b_cut {X : Cx} {st : Stmt} {rest : List Stmt} {D : Ends} {σ : St} {H : Hp} {I : St → Hp → Prop} (h : wS X st { D with nx := I } σ H) (k : ∀ σ' H', I σ' H' → wB X rest D σ' H') : wB X (st :: rest) D σ H :=
  b_cons ⟨fun pins s J => wpAny_mono (h.run pins s J) (fun _ _ q => SP.mono q k (fun _ _ z => z) (fun _ _ z => z) fun _ _ z => z) fun _ _ z => z⟩
def isNum : PyData → Bool
  | .int _ => true
  | _ => false
def intsOf : List PyData → Option (List Int)
  | [] => some []
  | .int i :: ds => (intsOf ds).map (i :: ·)
  | _ :: _ => none
theorem intsOf_map : ∀ ns : List Int, intsOf (ns.map PyData.int) = some ns
  | [] => rfl
  | n :: ns => by rw [List.map_cons, intsOf, intsOf_map ns]; rfl
theorem of_intsOf : ∀ {ds : List PyData} {ns : List Int}, intsOf ds = some ns → ds = ns.map PyData.int
  | [], ns, h => by cases h; rfl
  | d :: ds, ns, h => by
    cases d with
    | int i =>
      rw [intsOf] at h
      cases e : intsOf ds with
      | none => rw [e] at h; cases h
      | some ms =>
        rw [e] at h
        cases h
        rw [of_intsOf e]
        rfl
    | _ => cases h
theorem intsOf_all : ∀ ds : List PyData, (intsOf ds).isSome = ds.all isNum
  | [] => rfl
  | d :: ds => by
    cases d with
    | int i =>
      rw [intsOf, List.all_cons, ← intsOf_all ds]
      cases intsOf ds <;> rfl
    | _ => rfl
theorem all_range {n : Nat} {f : Nat → Bool} : ((List.range n).map f).all id = (List.range n).all f := by rw [List.all_map]; rfl
theorem range_all {α : Type} {g : α → Bool} {d : α} : ∀ (l : List α), (List.range l.length).all (fun i => g (l.getD i d)) = l.all g
  | [] => rfl
  | a :: l => by
    rw [List.length_cons, List.range_succ_eq_map, List.all_cons, List.all_map, List.all_cons, ← range_all (d := d) l]
    rfl
theorem map_range {α β : Type} {g : α → β} {d : α} : ∀ (l : List α), (List.range l.length).map (fun i => g (l.getD i d)) = l.map g
  | [] => rfl
  | a :: l => by
    rw [List.length_cons, List.range_succ_eq_map, List.map_cons, List.map_map, List.map_cons, ← map_range (d := d) l]
    rfl
theorem getD_some {α : Type} {l : List α} {i : Nat} {x d : α} (h : l[i]? = some x) : l.getD i d = x := by rw [List.getD_eq_getElem?_getD, h]; rfl
theorem get_map_int {ns : List Int} {i : Nat} {y : V} (h : (ns.map V.int)[i]? = some y) : y = .int (ns.getD i 0) := by
  rw [List.getElem?_map] at h
  cases e : ns[i]? with
  | none => rw [e] at h; cases h
  | some m =>
    rw [e] at h
    cases h
    rw [getD_some e]
theorem atI_int {ns : List Int} {i : Int} (h0 : 0 ≤ i) (h1 : i < ns.length) : atI (ns.map V.int) i = some (.int (ns.getD i.toNat 0)) := by
  have : i = (i.toNat : Int) := by omega
  have h2 : i.toNat < ns.length := by omega
  rw [this]
  refine atI_nat ?_
  rw [List.getElem?_map, Int.toNat_natCast, List.getElem?_eq_getElem h2, List.getD_eq_getElem?_getD, List.getElem?_eq_getElem h2]
  rfl
theorem atI_intL {ns : List Int} (h : ns ≠ []) : atI (ns.map V.int) (-1) = some (.int (ns.getLastD 0)) := by
  rcases List.eq_nil_or_concat ns with e | ⟨l, b, e⟩
  · exact absurd e h
  · subst e
    rw [List.concat_eq_append, List.map_append]
    refine (atI_last _ _).trans ?_
    rw [List.getLastD_eq_getLast?]
    simp
theorem atI_at {xs : List V} {i : Int} {v : V} (h0 : 0 ≤ i) (h : xs[i.toNat]? = some v) : atI xs i = some v := by
  have e : i = (i.toNat : Int) := by omega
  rw [e]
  exact atI_nat h
theorem atI_mem {xs : List V} {i : Int} (h0 : 0 ≤ i) (h1 : i < xs.length) : ∃ v, atI xs i = some v ∧ v ∈ xs := by
  have h2 : i.toNat < xs.length := by omega
  exact ⟨xs[i.toNat], atI_at h0 (List.getElem?_eq_getElem h2), List.getElem_mem h2⟩
section
variable {xs : List V} {i j : Int}
theorem sIx_pos {n d : Nat} (h : 0 ≤ i) : HT.sIx n d (some i) = min i.toNat n := by
  show (if i < 0 then (i + (n : Int)).toNat else min i.toNat n) = _
  rw [if_neg (by omega)]
theorem sIx_neg {n d : Nat} (h : i < 0) : HT.sIx n d (some i) = (i + (n : Int)).toNat := by
  show (if i < 0 then (i + (n : Int)).toNat else min i.toNat n) = _
  rw [if_pos h]
theorem cut_from (h : 0 ≤ i) : cutV xs (some i) none = xs.drop i.toNat := by
  unfold cutV
  rw [sIx_pos h, HT.sIx_none]
  by_cases hl : i.toNat ≤ xs.length
  · rw [Nat.min_eq_left hl]
    exact List.take_of_length_le (by simp)
  · rw [Nat.min_eq_right (by omega), List.drop_of_length_le (i := xs.length) (by omega), List.drop_of_length_le (i := i.toNat) (by omega)]
    simp
theorem cut_to (h : 0 ≤ j) : cutV xs none (some j) = xs.take j.toNat := by
  unfold cutV
  rw [sIx_pos h, HT.sIx_none, List.drop_zero, Nat.sub_zero]
  by_cases hl : j.toNat ≤ xs.length
  · rw [Nat.min_eq_left hl]
  · rw [Nat.min_eq_right (by omega), List.take_of_length_le (by omega), List.take_of_length_le (by omega)]
theorem cut_last : cutV xs none (some (-1)) = xs.dropLast := by
  unfold cutV
  rw [sIx_neg (by omega), HT.sIx_none, List.drop_zero, Nat.sub_zero, List.dropLast_eq_take]
  congr 1
  omega
theorem cut_mid (h : 0 ≤ i) (h2 : 0 ≤ j) : cutV xs (some i) (some j) = (xs.drop i.toNat).take (j.toNat - i.toNat) := by
  unfold cutV
  rw [sIx_pos h, sIx_pos h2]
  by_cases hl : i.toNat ≤ xs.length
  · rw [Nat.min_eq_left hl]
    by_cases hj : j.toNat ≤ xs.length
    · rw [Nat.min_eq_left hj]
    · rw [Nat.min_eq_right (by omega), List.take_of_length_le (by rw [List.length_drop]; omega), List.take_of_length_le (by rw [List.length_drop]; omega)]
  · have e1 : xs.drop (min i.toNat xs.length) = [] := List.drop_of_length_le (by omega)
    have e2 : xs.drop i.toNat = [] := List.drop_of_length_le (by omega)
    rw [e1, e2]
    simp
end
/-! the top of the data -/
section
variable {K : PySem.W.Frag} {H : Hp} {x : V} {d : PyData}
def itemsD : PyData → List PyData
  | .list ds => ds
  | .tuple ds => ds
  | _ => []
theorem Dt.seq_of (h : Dt K H x d) (hs : isSeqD d = true) : ∃ a xs, x = .ref a ∧ Sq K H a xs ∧ DtAll K H xs (itemsD d) := by
  cases h with
  | lst h k => exact ⟨_, _, rfl, .inl h, k⟩
  | tup h k => exact ⟨_, _, rfl, .inr h, k⟩
  | _ => cases hs
theorem Dt.ints {a : Addr} {ns : List Int} (h : SqL K H a (ns.map V.int)) : Dt K H (.ref a) (.list (ns.map PyData.int)) := .lst h (DtAll.ints ns)
theorem Dt.intsT {a : Addr} {ns : List Int} (h : SqT K H a (ns.map V.int)) : Dt K H (.ref a) (.tuple (ns.map PyData.int)) := .tup h (DtAll.ints ns)
end
end Tw
/-! Tw12: things whose top is owned; more of the frame. -/
namespace Tw
open PySem PySem.Spec PyProof.Rows L2
open L2H (RoomH)
/-- x holds the data d; the top is owned (what lies beneath are data) -/
def Ow (K : PySem.W.Frag) (H0 H : Hp) (x : V) (d : PyData) : Prop :=
  (∃ p xs ds, x = .ref p ∧ d = .list ds ∧ H0 p = none ∧ H p = some (.lst xs) ∧ DtAll K H0 xs ds) ∨
  (∃ p kvs ds, x = .ref p ∧ d = .dict ds ∧ H0 p = none ∧ H p = some (.dK kvs) ∧ DtKv K H0 kvs ds) ∨
  (Dt K H0 x d ∧ isListD d = false ∧ isDictD d = false)
section
variable {K : PySem.W.Frag} {H0 H1 H H' He : Hp} {x : V} {d : PyData} {L : List (Addr × HO)} {p q : Addr} {o o' : HO} {i : Nat}
theorem Ow.dt (h : Ow K H0 H x d) (s : L2.Same H0 H) : Dt K H x d := by
  rcases h with ⟨p, xs, ds, rfl, rfl, _, h1, h2⟩ | ⟨p, kvs, ds, rfl, rfl, _, h1, h2⟩ | ⟨h, _⟩
  · exact .lst (SqL.of h1) (DtAll.same s h2)
  · exact .dict h1 (DtKv.same s h2)
  · exact Dt.same s h
theorem Ow.same (h : Ow K H0 H x d) (s : L2.Same H H') : Ow K H0 H' x d := by
  rcases h with ⟨p, xs, ds, e1, e2, n, h1, h2⟩ | ⟨p, kvs, ds, e1, e2, n, h1, h2⟩ | h
  · exact .inl ⟨p, xs, ds, e1, e2, n, s _ _ h1, h2⟩
  · exact .inr (.inl ⟨p, kvs, ds, e1, e2, n, s _ _ h1, h2⟩)
  · exact .inr (.inr h)
/-- all but one object stays -/
theorem Ow.keep (h : Ow K H0 H x d) (s : ∀ b u, b ≠ q → H b = some u → H' b = some u) (hx : x ≠ .ref q) : Ow K H0 H' x d := by
  rcases h with ⟨p, xs, ds, e1, e2, n, h1, h2⟩ | ⟨p, kvs, ds, e1, e2, n, h1, h2⟩ | h
  · exact .inl ⟨p, xs, ds, e1, e2, n, s _ _ (fun z => hx (by rw [e1, z])) h1, h2⟩
  · exact .inr (.inl ⟨p, kvs, ds, e1, e2, n, s _ _ (fun z => hx (by rw [e1, z])) h1, h2⟩)
  · exact .inr (.inr h)
theorem Ow.base (h : Ow K H0 H x d) (s : L2.Same H0 H1) (n : ∀ p, x = .ref p → H p ≠ none → H0 p = none → H1 p = none) : Ow K H1 H x d := by
  rcases h with ⟨p, xs, ds, e1, e2, n0, h1, h2⟩ | ⟨p, kvs, ds, e1, e2, n0, h1, h2⟩ | ⟨h, hh⟩
  · exact .inl ⟨p, xs, ds, e1, e2, n p e1 (by rw [h1]; exact fun z => nomatch z) n0, h1, DtAll.same s h2⟩
  · exact .inr (.inl ⟨p, kvs, ds, e1, e2, n p e1 (by rw [h1]; exact fun z => nomatch z) n0, h1, DtKv.same s h2⟩)
  · exact .inr (.inr ⟨Dt.same s h, hh⟩)
/-- owned anew -/
theorem Ow.list {xs : List V} {ds : List PyData} (n : H0 p = none) (h : H p = some (.lst xs)) (k : DtAll K H0 xs ds) : Ow K H0 H (.ref p) (.list ds) := .inl ⟨p, xs, ds, rfl, rfl, n, h, k⟩
theorem Ow.dict {kvs : List (Key × V)} {ds : List (PyData × PyData)} (n : H0 p = none) (h : H p = some (.dK kvs)) (k : DtKv K H0 kvs ds) : Ow K H0 H (.ref p) (.dict ds) := .inr (.inl ⟨p, kvs, ds, rfl, rfl, n, h, k⟩)
theorem Ow.of_dt (h : Dt K H0 x d) (h1 : isListD d = false) (h2 : isDictD d = false) : Ow K H0 H x d := .inr (.inr ⟨h, h1, h2⟩)
theorem Fr.n1 (F : Fr He H0 H1 H L) (i : Nat) (h : L[i]? = some (p, o)) : H1 p = none := (F.new p (Fr.mem h)).2
/-- the data of an owned list of ints that was given -/
theorem Fr.ints {ns : List Int} : Dt K (L2.upd H1 p (.lst (ns.map V.int))) (.ref p) (.list (ns.map PyData.int)) := Dt.ints (SqL.of upd_same)
end
section
variable {He H0 H1 H2 H H' : Hp} {L : List (Addr × HO)} {p q l : Addr} {o o' u : HO}
theorem Fr.gvl {K : PySem.W.Frag} {xs : List V} {ds : List PyData} (F : Fr He H0 H1 H L) (i : Nat) (e : L[i]? = some (p, .lst xs)) (h : DtAll K H1 xs ds) : ∃ B, Fr He H0 B H (L.eraseIdx i) ∧ Dt K B (.ref p) (.list ds) ∧ L2.Same H1 B :=
  have s := (New.mk' (o := .lst xs) (F.n1 i e)).same
  ⟨_, F.give i e, .lst (SqL.of upd_same) (DtAll.same s h), s⟩
theorem Fr.gvt {K : PySem.W.Frag} {xs : List V} {ds : List PyData} (F : Fr He H0 H1 H L) (i : Nat) (e : L[i]? = some (p, .tup xs)) (h : DtAll K H1 xs ds) : ∃ B, Fr He H0 B H (L.eraseIdx i) ∧ Dt K B (.ref p) (.tuple ds) ∧ L2.Same H1 B :=
  have s := (New.mk' (o := .tup xs) (F.n1 i e)).same
  ⟨_, F.give i e, .tup (SqT.of upd_same) (DtAll.same s h), s⟩
end
/-! the same by places, the list kept as it is written -/
section
variable {He H0 H1 H2 H H' : Hp} {L : List (Addr × HO)} {p q l : Addr} {o o' u : HO}
theorem Fr.take0 (F : Fr He H0 H1 H ((q, o) :: L)) (old : ∀ b u, b ≠ q → H b = some u → H' b = some u) (e : H' q = some o') : Fr He H0 H1 H' ((q, o') :: L) := F.take 0 rfl old e
theorem Fr.put0 (F : Fr He H0 H1 H ((q, o) :: L)) (hb : ∀ b, b ≠ q → H' b = H b) (hp : H' q = some o') : Fr He H0 H1 H' ((q, o') :: L) := F.put 0 rfl hb hp
theorem Fr.callP0 (F : Fr He H0 H1 H ((q, o) :: L)) (G : GrowP q H1 H H2 H') (e : H' q = some o') : Fr He H0 H2 H' ((q, o') :: L) := F.callP 0 rfl G e
theorem Fr.gen0 (F : Fr He H0 H1 H ((q, o) :: L)) (n : H l = none) (hl : H' l = some u) (hq : H' q = some o') (hb : ∀ b w, b ≠ q → H b = some w → H' b = some w) : Fr He H0 H1 H' ((l, u) :: (q, o') :: L) := F.gen 0 rfl n hl hq hb
theorem Fr.drop0 (F : Fr He H0 H1 H ((q, o) :: L)) : Fr He H0 H1 H (L) := F.drop 0
theorem Fr.give0 (F : Fr He H0 H1 H ((q, o) :: L)) : Fr He H0 (L2.upd H1 q o) H (L) := F.give 0 rfl
theorem Fr.at0 (F : Fr He H0 H1 H ((q, o) :: L)) : H q = some o := F.at 0 rfl
theorem Fr.n10 (F : Fr He H0 H1 H ((q, o) :: L)) : H1 q = none := F.n1 0 rfl
theorem Fr.back0 {He' : Hp} (F : Fr (del He' q) H0 H1 H ((q, o) :: L)) (n : H0 q = none) : GrowP q H0 He' H1 H ∧ H q = some o := ⟨F.back 0 rfl n, F.at 0 rfl⟩
theorem Fr.gvl0 {K : PySem.W.Frag} {xs : List V} {ds : List PyData} (F : Fr He H0 H1 H ((q, .lst xs) :: L)) (h : DtAll K H1 xs ds) : ∃ B, Fr He H0 B H (L) ∧ Dt K B (.ref q) (.list ds) ∧ L2.Same H1 B := F.gvl 0 rfl h
theorem Fr.gvt0 {K : PySem.W.Frag} {xs : List V} {ds : List PyData} (F : Fr He H0 H1 H ((q, .tup xs) :: L)) (h : DtAll K H1 xs ds) : ∃ B, Fr He H0 B H (L) ∧ Dt K B (.ref q) (.tuple ds) ∧ L2.Same H1 B := F.gvt 0 rfl h
theorem Fr.take1 {a0 : Addr × HO} (F : Fr He H0 H1 H (a0 :: (q, o) :: L)) (old : ∀ b u, b ≠ q → H b = some u → H' b = some u) (e : H' q = some o') : Fr He H0 H1 H' (a0 :: (q, o') :: L) := F.take 1 rfl old e
theorem Fr.put1 {a0 : Addr × HO} (F : Fr He H0 H1 H (a0 :: (q, o) :: L)) (hb : ∀ b, b ≠ q → H' b = H b) (hp : H' q = some o') : Fr He H0 H1 H' (a0 :: (q, o') :: L) := F.put 1 rfl hb hp
theorem Fr.callP1 {a0 : Addr × HO} (F : Fr He H0 H1 H (a0 :: (q, o) :: L)) (G : GrowP q H1 H H2 H') (e : H' q = some o') : Fr He H0 H2 H' (a0 :: (q, o') :: L) := F.callP 1 rfl G e
theorem Fr.gen1 {a0 : Addr × HO} (F : Fr He H0 H1 H (a0 :: (q, o) :: L)) (n : H l = none) (hl : H' l = some u) (hq : H' q = some o') (hb : ∀ b w, b ≠ q → H b = some w → H' b = some w) : Fr He H0 H1 H' ((l, u) :: a0 :: (q, o') :: L) := F.gen 1 rfl n hl hq hb
theorem Fr.drop1 {a0 : Addr × HO} (F : Fr He H0 H1 H (a0 :: (q, o) :: L)) : Fr He H0 H1 H (a0 :: L) := F.drop 1
theorem Fr.give1 {a0 : Addr × HO} (F : Fr He H0 H1 H (a0 :: (q, o) :: L)) : Fr He H0 (L2.upd H1 q o) H (a0 :: L) := F.give 1 rfl
theorem Fr.at1 {a0 : Addr × HO} (F : Fr He H0 H1 H (a0 :: (q, o) :: L)) : H q = some o := F.at 1 rfl
theorem Fr.n11 {a0 : Addr × HO} (F : Fr He H0 H1 H (a0 :: (q, o) :: L)) : H1 q = none := F.n1 1 rfl
theorem Fr.back1 {a0 : Addr × HO} {He' : Hp} (F : Fr (del He' q) H0 H1 H (a0 :: (q, o) :: L)) (n : H0 q = none) : GrowP q H0 He' H1 H ∧ H q = some o := ⟨F.back 1 rfl n, F.at 1 rfl⟩
theorem Fr.gvl1 {a0 : Addr × HO} {K : PySem.W.Frag} {xs : List V} {ds : List PyData} (F : Fr He H0 H1 H (a0 :: (q, .lst xs) :: L)) (h : DtAll K H1 xs ds) : ∃ B, Fr He H0 B H (a0 :: L) ∧ Dt K B (.ref q) (.list ds) ∧ L2.Same H1 B := F.gvl 1 rfl h
theorem Fr.gvt1 {a0 : Addr × HO} {K : PySem.W.Frag} {xs : List V} {ds : List PyData} (F : Fr He H0 H1 H (a0 :: (q, .tup xs) :: L)) (h : DtAll K H1 xs ds) : ∃ B, Fr He H0 B H (a0 :: L) ∧ Dt K B (.ref q) (.tuple ds) ∧ L2.Same H1 B := F.gvt 1 rfl h
theorem Fr.take2 {a0 a1 : Addr × HO} (F : Fr He H0 H1 H (a0 :: a1 :: (q, o) :: L)) (old : ∀ b u, b ≠ q → H b = some u → H' b = some u) (e : H' q = some o') : Fr He H0 H1 H' (a0 :: a1 :: (q, o') :: L) := F.take 2 rfl old e
theorem Fr.put2 {a0 a1 : Addr × HO} (F : Fr He H0 H1 H (a0 :: a1 :: (q, o) :: L)) (hb : ∀ b, b ≠ q → H' b = H b) (hp : H' q = some o') : Fr He H0 H1 H' (a0 :: a1 :: (q, o') :: L) := F.put 2 rfl hb hp
theorem Fr.callP2 {a0 a1 : Addr × HO} (F : Fr He H0 H1 H (a0 :: a1 :: (q, o) :: L)) (G : GrowP q H1 H H2 H') (e : H' q = some o') : Fr He H0 H2 H' (a0 :: a1 :: (q, o') :: L) := F.callP 2 rfl G e
theorem Fr.gen2 {a0 a1 : Addr × HO} (F : Fr He H0 H1 H (a0 :: a1 :: (q, o) :: L)) (n : H l = none) (hl : H' l = some u) (hq : H' q = some o') (hb : ∀ b w, b ≠ q → H b = some w → H' b = some w) : Fr He H0 H1 H' ((l, u) :: a0 :: a1 :: (q, o') :: L) := F.gen 2 rfl n hl hq hb
theorem Fr.drop2 {a0 a1 : Addr × HO} (F : Fr He H0 H1 H (a0 :: a1 :: (q, o) :: L)) : Fr He H0 H1 H (a0 :: a1 :: L) := F.drop 2
theorem Fr.give2 {a0 a1 : Addr × HO} (F : Fr He H0 H1 H (a0 :: a1 :: (q, o) :: L)) : Fr He H0 (L2.upd H1 q o) H (a0 :: a1 :: L) := F.give 2 rfl
theorem Fr.at2 {a0 a1 : Addr × HO} (F : Fr He H0 H1 H (a0 :: a1 :: (q, o) :: L)) : H q = some o := F.at 2 rfl
theorem Fr.n12 {a0 a1 : Addr × HO} (F : Fr He H0 H1 H (a0 :: a1 :: (q, o) :: L)) : H1 q = none := F.n1 2 rfl
theorem Fr.back2 {a0 a1 : Addr × HO} {He' : Hp} (F : Fr (del He' q) H0 H1 H (a0 :: a1 :: (q, o) :: L)) (n : H0 q = none) : GrowP q H0 He' H1 H ∧ H q = some o := ⟨F.back 2 rfl n, F.at 2 rfl⟩
theorem Fr.gvl2 {a0 a1 : Addr × HO} {K : PySem.W.Frag} {xs : List V} {ds : List PyData} (F : Fr He H0 H1 H (a0 :: a1 :: (q, .lst xs) :: L)) (h : DtAll K H1 xs ds) : ∃ B, Fr He H0 B H (a0 :: a1 :: L) ∧ Dt K B (.ref q) (.list ds) ∧ L2.Same H1 B := F.gvl 2 rfl h
theorem Fr.gvt2 {a0 a1 : Addr × HO} {K : PySem.W.Frag} {xs : List V} {ds : List PyData} (F : Fr He H0 H1 H (a0 :: a1 :: (q, .tup xs) :: L)) (h : DtAll K H1 xs ds) : ∃ B, Fr He H0 B H (a0 :: a1 :: L) ∧ Dt K B (.ref q) (.tuple ds) ∧ L2.Same H1 B := F.gvt 2 rfl h
theorem Fr.take3 {a0 a1 a2 : Addr × HO} (F : Fr He H0 H1 H (a0 :: a1 :: a2 :: (q, o) :: L)) (old : ∀ b u, b ≠ q → H b = some u → H' b = some u) (e : H' q = some o') : Fr He H0 H1 H' (a0 :: a1 :: a2 :: (q, o') :: L) := F.take 3 rfl old e
theorem Fr.put3 {a0 a1 a2 : Addr × HO} (F : Fr He H0 H1 H (a0 :: a1 :: a2 :: (q, o) :: L)) (hb : ∀ b, b ≠ q → H' b = H b) (hp : H' q = some o') : Fr He H0 H1 H' (a0 :: a1 :: a2 :: (q, o') :: L) := F.put 3 rfl hb hp
theorem Fr.callP3 {a0 a1 a2 : Addr × HO} (F : Fr He H0 H1 H (a0 :: a1 :: a2 :: (q, o) :: L)) (G : GrowP q H1 H H2 H') (e : H' q = some o') : Fr He H0 H2 H' (a0 :: a1 :: a2 :: (q, o') :: L) := F.callP 3 rfl G e
theorem Fr.gen3 {a0 a1 a2 : Addr × HO} (F : Fr He H0 H1 H (a0 :: a1 :: a2 :: (q, o) :: L)) (n : H l = none) (hl : H' l = some u) (hq : H' q = some o') (hb : ∀ b w, b ≠ q → H b = some w → H' b = some w) : Fr He H0 H1 H' ((l, u) :: a0 :: a1 :: a2 :: (q, o') :: L) := F.gen 3 rfl n hl hq hb
theorem Fr.drop3 {a0 a1 a2 : Addr × HO} (F : Fr He H0 H1 H (a0 :: a1 :: a2 :: (q, o) :: L)) : Fr He H0 H1 H (a0 :: a1 :: a2 :: L) := F.drop 3
theorem Fr.give3 {a0 a1 a2 : Addr × HO} (F : Fr He H0 H1 H (a0 :: a1 :: a2 :: (q, o) :: L)) : Fr He H0 (L2.upd H1 q o) H (a0 :: a1 :: a2 :: L) := F.give 3 rfl
theorem Fr.at3 {a0 a1 a2 : Addr × HO} (F : Fr He H0 H1 H (a0 :: a1 :: a2 :: (q, o) :: L)) : H q = some o := F.at 3 rfl
theorem Fr.n13 {a0 a1 a2 : Addr × HO} (F : Fr He H0 H1 H (a0 :: a1 :: a2 :: (q, o) :: L)) : H1 q = none := F.n1 3 rfl
theorem Fr.back3 {a0 a1 a2 : Addr × HO} {He' : Hp} (F : Fr (del He' q) H0 H1 H (a0 :: a1 :: a2 :: (q, o) :: L)) (n : H0 q = none) : GrowP q H0 He' H1 H ∧ H q = some o := ⟨F.back 3 rfl n, F.at 3 rfl⟩
theorem Fr.gvl3 {a0 a1 a2 : Addr × HO} {K : PySem.W.Frag} {xs : List V} {ds : List PyData} (F : Fr He H0 H1 H (a0 :: a1 :: a2 :: (q, .lst xs) :: L)) (h : DtAll K H1 xs ds) : ∃ B, Fr He H0 B H (a0 :: a1 :: a2 :: L) ∧ Dt K B (.ref q) (.list ds) ∧ L2.Same H1 B := F.gvl 3 rfl h
theorem Fr.gvt3 {a0 a1 a2 : Addr × HO} {K : PySem.W.Frag} {xs : List V} {ds : List PyData} (F : Fr He H0 H1 H (a0 :: a1 :: a2 :: (q, .tup xs) :: L)) (h : DtAll K H1 xs ds) : ∃ B, Fr He H0 B H (a0 :: a1 :: a2 :: L) ∧ Dt K B (.ref q) (.tuple ds) ∧ L2.Same H1 B := F.gvt 3 rfl h
theorem Fr.take4 {a0 a1 a2 a3 : Addr × HO} (F : Fr He H0 H1 H (a0 :: a1 :: a2 :: a3 :: (q, o) :: L)) (old : ∀ b u, b ≠ q → H b = some u → H' b = some u) (e : H' q = some o') : Fr He H0 H1 H' (a0 :: a1 :: a2 :: a3 :: (q, o') :: L) := F.take 4 rfl old e
theorem Fr.put4 {a0 a1 a2 a3 : Addr × HO} (F : Fr He H0 H1 H (a0 :: a1 :: a2 :: a3 :: (q, o) :: L)) (hb : ∀ b, b ≠ q → H' b = H b) (hp : H' q = some o') : Fr He H0 H1 H' (a0 :: a1 :: a2 :: a3 :: (q, o') :: L) := F.put 4 rfl hb hp
theorem Fr.callP4 {a0 a1 a2 a3 : Addr × HO} (F : Fr He H0 H1 H (a0 :: a1 :: a2 :: a3 :: (q, o) :: L)) (G : GrowP q H1 H H2 H') (e : H' q = some o') : Fr He H0 H2 H' (a0 :: a1 :: a2 :: a3 :: (q, o') :: L) := F.callP 4 rfl G e
theorem Fr.gen4 {a0 a1 a2 a3 : Addr × HO} (F : Fr He H0 H1 H (a0 :: a1 :: a2 :: a3 :: (q, o) :: L)) (n : H l = none) (hl : H' l = some u) (hq : H' q = some o') (hb : ∀ b w, b ≠ q → H b = some w → H' b = some w) : Fr He H0 H1 H' ((l, u) :: a0 :: a1 :: a2 :: a3 :: (q, o') :: L) := F.gen 4 rfl n hl hq hb
theorem Fr.drop4 {a0 a1 a2 a3 : Addr × HO} (F : Fr He H0 H1 H (a0 :: a1 :: a2 :: a3 :: (q, o) :: L)) : Fr He H0 H1 H (a0 :: a1 :: a2 :: a3 :: L) := F.drop 4
theorem Fr.give4 {a0 a1 a2 a3 : Addr × HO} (F : Fr He H0 H1 H (a0 :: a1 :: a2 :: a3 :: (q, o) :: L)) : Fr He H0 (L2.upd H1 q o) H (a0 :: a1 :: a2 :: a3 :: L) := F.give 4 rfl
theorem Fr.at4 {a0 a1 a2 a3 : Addr × HO} (F : Fr He H0 H1 H (a0 :: a1 :: a2 :: a3 :: (q, o) :: L)) : H q = some o := F.at 4 rfl
theorem Fr.n14 {a0 a1 a2 a3 : Addr × HO} (F : Fr He H0 H1 H (a0 :: a1 :: a2 :: a3 :: (q, o) :: L)) : H1 q = none := F.n1 4 rfl
theorem Fr.back4 {a0 a1 a2 a3 : Addr × HO} {He' : Hp} (F : Fr (del He' q) H0 H1 H (a0 :: a1 :: a2 :: a3 :: (q, o) :: L)) (n : H0 q = none) : GrowP q H0 He' H1 H ∧ H q = some o := ⟨F.back 4 rfl n, F.at 4 rfl⟩
theorem Fr.gvl4 {a0 a1 a2 a3 : Addr × HO} {K : PySem.W.Frag} {xs : List V} {ds : List PyData} (F : Fr He H0 H1 H (a0 :: a1 :: a2 :: a3 :: (q, .lst xs) :: L)) (h : DtAll K H1 xs ds) : ∃ B, Fr He H0 B H (a0 :: a1 :: a2 :: a3 :: L) ∧ Dt K B (.ref q) (.list ds) ∧ L2.Same H1 B := F.gvl 4 rfl h
theorem Fr.gvt4 {a0 a1 a2 a3 : Addr × HO} {K : PySem.W.Frag} {xs : List V} {ds : List PyData} (F : Fr He H0 H1 H (a0 :: a1 :: a2 :: a3 :: (q, .tup xs) :: L)) (h : DtAll K H1 xs ds) : ∃ B, Fr He H0 B H (a0 :: a1 :: a2 :: a3 :: L) ∧ Dt K B (.ref q) (.tuple ds) ∧ L2.Same H1 B := F.gvt 4 rfl h
theorem Fr.take5 {a0 a1 a2 a3 a4 : Addr × HO} (F : Fr He H0 H1 H (a0 :: a1 :: a2 :: a3 :: a4 :: (q, o) :: L)) (old : ∀ b u, b ≠ q → H b = some u → H' b = some u) (e : H' q = some o') : Fr He H0 H1 H' (a0 :: a1 :: a2 :: a3 :: a4 :: (q, o') :: L) := F.take 5 rfl old e
theorem Fr.put5 {a0 a1 a2 a3 a4 : Addr × HO} (F : Fr He H0 H1 H (a0 :: a1 :: a2 :: a3 :: a4 :: (q, o) :: L)) (hb : ∀ b, b ≠ q → H' b = H b) (hp : H' q = some o') : Fr He H0 H1 H' (a0 :: a1 :: a2 :: a3 :: a4 :: (q, o') :: L) := F.put 5 rfl hb hp
theorem Fr.callP5 {a0 a1 a2 a3 a4 : Addr × HO} (F : Fr He H0 H1 H (a0 :: a1 :: a2 :: a3 :: a4 :: (q, o) :: L)) (G : GrowP q H1 H H2 H') (e : H' q = some o') : Fr He H0 H2 H' (a0 :: a1 :: a2 :: a3 :: a4 :: (q, o') :: L) := F.callP 5 rfl G e
theorem Fr.gen5 {a0 a1 a2 a3 a4 : Addr × HO} (F : Fr He H0 H1 H (a0 :: a1 :: a2 :: a3 :: a4 :: (q, o) :: L)) (n : H l = none) (hl : H' l = some u) (hq : H' q = some o') (hb : ∀ b w, b ≠ q → H b = some w → H' b = some w) : Fr He H0 H1 H' ((l, u) :: a0 :: a1 :: a2 :: a3 :: a4 :: (q, o') :: L) := F.gen 5 rfl n hl hq hb
theorem Fr.drop5 {a0 a1 a2 a3 a4 : Addr × HO} (F : Fr He H0 H1 H (a0 :: a1 :: a2 :: a3 :: a4 :: (q, o) :: L)) : Fr He H0 H1 H (a0 :: a1 :: a2 :: a3 :: a4 :: L) := F.drop 5
theorem Fr.give5 {a0 a1 a2 a3 a4 : Addr × HO} (F : Fr He H0 H1 H (a0 :: a1 :: a2 :: a3 :: a4 :: (q, o) :: L)) : Fr He H0 (L2.upd H1 q o) H (a0 :: a1 :: a2 :: a3 :: a4 :: L) := F.give 5 rfl
theorem Fr.at5 {a0 a1 a2 a3 a4 : Addr × HO} (F : Fr He H0 H1 H (a0 :: a1 :: a2 :: a3 :: a4 :: (q, o) :: L)) : H q = some o := F.at 5 rfl
theorem Fr.n15 {a0 a1 a2 a3 a4 : Addr × HO} (F : Fr He H0 H1 H (a0 :: a1 :: a2 :: a3 :: a4 :: (q, o) :: L)) : H1 q = none := F.n1 5 rfl
theorem Fr.back5 {a0 a1 a2 a3 a4 : Addr × HO} {He' : Hp} (F : Fr (del He' q) H0 H1 H (a0 :: a1 :: a2 :: a3 :: a4 :: (q, o) :: L)) (n : H0 q = none) : GrowP q H0 He' H1 H ∧ H q = some o := ⟨F.back 5 rfl n, F.at 5 rfl⟩
theorem Fr.gvl5 {a0 a1 a2 a3 a4 : Addr × HO} {K : PySem.W.Frag} {xs : List V} {ds : List PyData} (F : Fr He H0 H1 H (a0 :: a1 :: a2 :: a3 :: a4 :: (q, .lst xs) :: L)) (h : DtAll K H1 xs ds) : ∃ B, Fr He H0 B H (a0 :: a1 :: a2 :: a3 :: a4 :: L) ∧ Dt K B (.ref q) (.list ds) ∧ L2.Same H1 B := F.gvl 5 rfl h
theorem Fr.gvt5 {a0 a1 a2 a3 a4 : Addr × HO} {K : PySem.W.Frag} {xs : List V} {ds : List PyData} (F : Fr He H0 H1 H (a0 :: a1 :: a2 :: a3 :: a4 :: (q, .tup xs) :: L)) (h : DtAll K H1 xs ds) : ∃ B, Fr He H0 B H (a0 :: a1 :: a2 :: a3 :: a4 :: L) ∧ Dt K B (.ref q) (.tuple ds) ∧ L2.Same H1 B := F.gvt 5 rfl h
theorem Fr.take6 {a0 a1 a2 a3 a4 a5 : Addr × HO} (F : Fr He H0 H1 H (a0 :: a1 :: a2 :: a3 :: a4 :: a5 :: (q, o) :: L)) (old : ∀ b u, b ≠ q → H b = some u → H' b = some u) (e : H' q = some o') : Fr He H0 H1 H' (a0 :: a1 :: a2 :: a3 :: a4 :: a5 :: (q, o') :: L) := F.take 6 rfl old e
theorem Fr.put6 {a0 a1 a2 a3 a4 a5 : Addr × HO} (F : Fr He H0 H1 H (a0 :: a1 :: a2 :: a3 :: a4 :: a5 :: (q, o) :: L)) (hb : ∀ b, b ≠ q → H' b = H b) (hp : H' q = some o') : Fr He H0 H1 H' (a0 :: a1 :: a2 :: a3 :: a4 :: a5 :: (q, o') :: L) := F.put 6 rfl hb hp
theorem Fr.callP6 {a0 a1 a2 a3 a4 a5 : Addr × HO} (F : Fr He H0 H1 H (a0 :: a1 :: a2 :: a3 :: a4 :: a5 :: (q, o) :: L)) (G : GrowP q H1 H H2 H') (e : H' q = some o') : Fr He H0 H2 H' (a0 :: a1 :: a2 :: a3 :: a4 :: a5 :: (q, o') :: L) := F.callP 6 rfl G e
theorem Fr.gen6 {a0 a1 a2 a3 a4 a5 : Addr × HO} (F : Fr He H0 H1 H (a0 :: a1 :: a2 :: a3 :: a4 :: a5 :: (q, o) :: L)) (n : H l = none) (hl : H' l = some u) (hq : H' q = some o') (hb : ∀ b w, b ≠ q → H b = some w → H' b = some w) : Fr He H0 H1 H' ((l, u) :: a0 :: a1 :: a2 :: a3 :: a4 :: a5 :: (q, o') :: L) := F.gen 6 rfl n hl hq hb
theorem Fr.drop6 {a0 a1 a2 a3 a4 a5 : Addr × HO} (F : Fr He H0 H1 H (a0 :: a1 :: a2 :: a3 :: a4 :: a5 :: (q, o) :: L)) : Fr He H0 H1 H (a0 :: a1 :: a2 :: a3 :: a4 :: a5 :: L) := F.drop 6
theorem Fr.give6 {a0 a1 a2 a3 a4 a5 : Addr × HO} (F : Fr He H0 H1 H (a0 :: a1 :: a2 :: a3 :: a4 :: a5 :: (q, o) :: L)) : Fr He H0 (L2.upd H1 q o) H (a0 :: a1 :: a2 :: a3 :: a4 :: a5 :: L) := F.give 6 rfl
theorem Fr.at6 {a0 a1 a2 a3 a4 a5 : Addr × HO} (F : Fr He H0 H1 H (a0 :: a1 :: a2 :: a3 :: a4 :: a5 :: (q, o) :: L)) : H q = some o := F.at 6 rfl
theorem Fr.n16 {a0 a1 a2 a3 a4 a5 : Addr × HO} (F : Fr He H0 H1 H (a0 :: a1 :: a2 :: a3 :: a4 :: a5 :: (q, o) :: L)) : H1 q = none := F.n1 6 rfl
theorem Fr.back6 {a0 a1 a2 a3 a4 a5 : Addr × HO} {He' : Hp} (F : Fr (del He' q) H0 H1 H (a0 :: a1 :: a2 :: a3 :: a4 :: a5 :: (q, o) :: L)) (n : H0 q = none) : GrowP q H0 He' H1 H ∧ H q = some o := ⟨F.back 6 rfl n, F.at 6 rfl⟩
theorem Fr.gvl6 {a0 a1 a2 a3 a4 a5 : Addr × HO} {K : PySem.W.Frag} {xs : List V} {ds : List PyData} (F : Fr He H0 H1 H (a0 :: a1 :: a2 :: a3 :: a4 :: a5 :: (q, .lst xs) :: L)) (h : DtAll K H1 xs ds) : ∃ B, Fr He H0 B H (a0 :: a1 :: a2 :: a3 :: a4 :: a5 :: L) ∧ Dt K B (.ref q) (.list ds) ∧ L2.Same H1 B := F.gvl 6 rfl h
theorem Fr.gvt6 {a0 a1 a2 a3 a4 a5 : Addr × HO} {K : PySem.W.Frag} {xs : List V} {ds : List PyData} (F : Fr He H0 H1 H (a0 :: a1 :: a2 :: a3 :: a4 :: a5 :: (q, .tup xs) :: L)) (h : DtAll K H1 xs ds) : ∃ B, Fr He H0 B H (a0 :: a1 :: a2 :: a3 :: a4 :: a5 :: L) ∧ Dt K B (.ref q) (.tuple ds) ∧ L2.Same H1 B := F.gvt 6 rfl h
theorem Fr.take7 {a0 a1 a2 a3 a4 a5 a6 : Addr × HO} (F : Fr He H0 H1 H (a0 :: a1 :: a2 :: a3 :: a4 :: a5 :: a6 :: (q, o) :: L)) (old : ∀ b u, b ≠ q → H b = some u → H' b = some u) (e : H' q = some o') : Fr He H0 H1 H' (a0 :: a1 :: a2 :: a3 :: a4 :: a5 :: a6 :: (q, o') :: L) := F.take 7 rfl old e
theorem Fr.put7 {a0 a1 a2 a3 a4 a5 a6 : Addr × HO} (F : Fr He H0 H1 H (a0 :: a1 :: a2 :: a3 :: a4 :: a5 :: a6 :: (q, o) :: L)) (hb : ∀ b, b ≠ q → H' b = H b) (hp : H' q = some o') : Fr He H0 H1 H' (a0 :: a1 :: a2 :: a3 :: a4 :: a5 :: a6 :: (q, o') :: L) := F.put 7 rfl hb hp
theorem Fr.callP7 {a0 a1 a2 a3 a4 a5 a6 : Addr × HO} (F : Fr He H0 H1 H (a0 :: a1 :: a2 :: a3 :: a4 :: a5 :: a6 :: (q, o) :: L)) (G : GrowP q H1 H H2 H') (e : H' q = some o') : Fr He H0 H2 H' (a0 :: a1 :: a2 :: a3 :: a4 :: a5 :: a6 :: (q, o') :: L) := F.callP 7 rfl G e
theorem Fr.gen7 {a0 a1 a2 a3 a4 a5 a6 : Addr × HO} (F : Fr He H0 H1 H (a0 :: a1 :: a2 :: a3 :: a4 :: a5 :: a6 :: (q, o) :: L)) (n : H l = none) (hl : H' l = some u) (hq : H' q = some o') (hb : ∀ b w, b ≠ q → H b = some w → H' b = some w) : Fr He H0 H1 H' ((l, u) :: a0 :: a1 :: a2 :: a3 :: a4 :: a5 :: a6 :: (q, o') :: L) := F.gen 7 rfl n hl hq hb
theorem Fr.drop7 {a0 a1 a2 a3 a4 a5 a6 : Addr × HO} (F : Fr He H0 H1 H (a0 :: a1 :: a2 :: a3 :: a4 :: a5 :: a6 :: (q, o) :: L)) : Fr He H0 H1 H (a0 :: a1 :: a2 :: a3 :: a4 :: a5 :: a6 :: L) := F.drop 7
theorem Fr.give7 {a0 a1 a2 a3 a4 a5 a6 : Addr × HO} (F : Fr He H0 H1 H (a0 :: a1 :: a2 :: a3 :: a4 :: a5 :: a6 :: (q, o) :: L)) : Fr He H0 (L2.upd H1 q o) H (a0 :: a1 :: a2 :: a3 :: a4 :: a5 :: a6 :: L) := F.give 7 rfl
theorem Fr.at7 {a0 a1 a2 a3 a4 a5 a6 : Addr × HO} (F : Fr He H0 H1 H (a0 :: a1 :: a2 :: a3 :: a4 :: a5 :: a6 :: (q, o) :: L)) : H q = some o := F.at 7 rfl
theorem Fr.n17 {a0 a1 a2 a3 a4 a5 a6 : Addr × HO} (F : Fr He H0 H1 H (a0 :: a1 :: a2 :: a3 :: a4 :: a5 :: a6 :: (q, o) :: L)) : H1 q = none := F.n1 7 rfl
theorem Fr.back7 {a0 a1 a2 a3 a4 a5 a6 : Addr × HO} {He' : Hp} (F : Fr (del He' q) H0 H1 H (a0 :: a1 :: a2 :: a3 :: a4 :: a5 :: a6 :: (q, o) :: L)) (n : H0 q = none) : GrowP q H0 He' H1 H ∧ H q = some o := ⟨F.back 7 rfl n, F.at 7 rfl⟩
theorem Fr.gvl7 {a0 a1 a2 a3 a4 a5 a6 : Addr × HO} {K : PySem.W.Frag} {xs : List V} {ds : List PyData} (F : Fr He H0 H1 H (a0 :: a1 :: a2 :: a3 :: a4 :: a5 :: a6 :: (q, .lst xs) :: L)) (h : DtAll K H1 xs ds) : ∃ B, Fr He H0 B H (a0 :: a1 :: a2 :: a3 :: a4 :: a5 :: a6 :: L) ∧ Dt K B (.ref q) (.list ds) ∧ L2.Same H1 B := F.gvl 7 rfl h
theorem Fr.gvt7 {a0 a1 a2 a3 a4 a5 a6 : Addr × HO} {K : PySem.W.Frag} {xs : List V} {ds : List PyData} (F : Fr He H0 H1 H (a0 :: a1 :: a2 :: a3 :: a4 :: a5 :: a6 :: (q, .tup xs) :: L)) (h : DtAll K H1 xs ds) : ∃ B, Fr He H0 B H (a0 :: a1 :: a2 :: a3 :: a4 :: a5 :: a6 :: L) ∧ Dt K B (.ref q) (.tuple ds) ∧ L2.Same H1 B := F.gvt 7 rfl h
theorem Fr.take8 {a0 a1 a2 a3 a4 a5 a6 a7 : Addr × HO} (F : Fr He H0 H1 H (a0 :: a1 :: a2 :: a3 :: a4 :: a5 :: a6 :: a7 :: (q, o) :: L)) (old : ∀ b u, b ≠ q → H b = some u → H' b = some u) (e : H' q = some o') : Fr He H0 H1 H' (a0 :: a1 :: a2 :: a3 :: a4 :: a5 :: a6 :: a7 :: (q, o') :: L) := F.take 8 rfl old e
theorem Fr.put8 {a0 a1 a2 a3 a4 a5 a6 a7 : Addr × HO} (F : Fr He H0 H1 H (a0 :: a1 :: a2 :: a3 :: a4 :: a5 :: a6 :: a7 :: (q, o) :: L)) (hb : ∀ b, b ≠ q → H' b = H b) (hp : H' q = some o') : Fr He H0 H1 H' (a0 :: a1 :: a2 :: a3 :: a4 :: a5 :: a6 :: a7 :: (q, o') :: L) := F.put 8 rfl hb hp
theorem Fr.callP8 {a0 a1 a2 a3 a4 a5 a6 a7 : Addr × HO} (F : Fr He H0 H1 H (a0 :: a1 :: a2 :: a3 :: a4 :: a5 :: a6 :: a7 :: (q, o) :: L)) (G : GrowP q H1 H H2 H') (e : H' q = some o') : Fr He H0 H2 H' (a0 :: a1 :: a2 :: a3 :: a4 :: a5 :: a6 :: a7 :: (q, o') :: L) := F.callP 8 rfl G e
theorem Fr.gen8 {a0 a1 a2 a3 a4 a5 a6 a7 : Addr × HO} (F : Fr He H0 H1 H (a0 :: a1 :: a2 :: a3 :: a4 :: a5 :: a6 :: a7 :: (q, o) :: L)) (n : H l = none) (hl : H' l = some u) (hq : H' q = some o') (hb : ∀ b w, b ≠ q → H b = some w → H' b = some w) : Fr He H0 H1 H' ((l, u) :: a0 :: a1 :: a2 :: a3 :: a4 :: a5 :: a6 :: a7 :: (q, o') :: L) := F.gen 8 rfl n hl hq hb
theorem Fr.drop8 {a0 a1 a2 a3 a4 a5 a6 a7 : Addr × HO} (F : Fr He H0 H1 H (a0 :: a1 :: a2 :: a3 :: a4 :: a5 :: a6 :: a7 :: (q, o) :: L)) : Fr He H0 H1 H (a0 :: a1 :: a2 :: a3 :: a4 :: a5 :: a6 :: a7 :: L) := F.drop 8
theorem Fr.give8 {a0 a1 a2 a3 a4 a5 a6 a7 : Addr × HO} (F : Fr He H0 H1 H (a0 :: a1 :: a2 :: a3 :: a4 :: a5 :: a6 :: a7 :: (q, o) :: L)) : Fr He H0 (L2.upd H1 q o) H (a0 :: a1 :: a2 :: a3 :: a4 :: a5 :: a6 :: a7 :: L) := F.give 8 rfl
theorem Fr.at8 {a0 a1 a2 a3 a4 a5 a6 a7 : Addr × HO} (F : Fr He H0 H1 H (a0 :: a1 :: a2 :: a3 :: a4 :: a5 :: a6 :: a7 :: (q, o) :: L)) : H q = some o := F.at 8 rfl
theorem Fr.n18 {a0 a1 a2 a3 a4 a5 a6 a7 : Addr × HO} (F : Fr He H0 H1 H (a0 :: a1 :: a2 :: a3 :: a4 :: a5 :: a6 :: a7 :: (q, o) :: L)) : H1 q = none := F.n1 8 rfl
theorem Fr.back8 {a0 a1 a2 a3 a4 a5 a6 a7 : Addr × HO} {He' : Hp} (F : Fr (del He' q) H0 H1 H (a0 :: a1 :: a2 :: a3 :: a4 :: a5 :: a6 :: a7 :: (q, o) :: L)) (n : H0 q = none) : GrowP q H0 He' H1 H ∧ H q = some o := ⟨F.back 8 rfl n, F.at 8 rfl⟩
theorem Fr.gvl8 {a0 a1 a2 a3 a4 a5 a6 a7 : Addr × HO} {K : PySem.W.Frag} {xs : List V} {ds : List PyData} (F : Fr He H0 H1 H (a0 :: a1 :: a2 :: a3 :: a4 :: a5 :: a6 :: a7 :: (q, .lst xs) :: L)) (h : DtAll K H1 xs ds) : ∃ B, Fr He H0 B H (a0 :: a1 :: a2 :: a3 :: a4 :: a5 :: a6 :: a7 :: L) ∧ Dt K B (.ref q) (.list ds) ∧ L2.Same H1 B := F.gvl 8 rfl h
theorem Fr.gvt8 {a0 a1 a2 a3 a4 a5 a6 a7 : Addr × HO} {K : PySem.W.Frag} {xs : List V} {ds : List PyData} (F : Fr He H0 H1 H (a0 :: a1 :: a2 :: a3 :: a4 :: a5 :: a6 :: a7 :: (q, .tup xs) :: L)) (h : DtAll K H1 xs ds) : ∃ B, Fr He H0 B H (a0 :: a1 :: a2 :: a3 :: a4 :: a5 :: a6 :: a7 :: L) ∧ Dt K B (.ref q) (.tuple ds) ∧ L2.Same H1 B := F.gvt 8 rfl h
theorem Fr.take9 {a0 a1 a2 a3 a4 a5 a6 a7 a8 : Addr × HO} (F : Fr He H0 H1 H (a0 :: a1 :: a2 :: a3 :: a4 :: a5 :: a6 :: a7 :: a8 :: (q, o) :: L)) (old : ∀ b u, b ≠ q → H b = some u → H' b = some u) (e : H' q = some o') : Fr He H0 H1 H' (a0 :: a1 :: a2 :: a3 :: a4 :: a5 :: a6 :: a7 :: a8 :: (q, o') :: L) := F.take 9 rfl old e
theorem Fr.put9 {a0 a1 a2 a3 a4 a5 a6 a7 a8 : Addr × HO} (F : Fr He H0 H1 H (a0 :: a1 :: a2 :: a3 :: a4 :: a5 :: a6 :: a7 :: a8 :: (q, o) :: L)) (hb : ∀ b, b ≠ q → H' b = H b) (hp : H' q = some o') : Fr He H0 H1 H' (a0 :: a1 :: a2 :: a3 :: a4 :: a5 :: a6 :: a7 :: a8 :: (q, o') :: L) := F.put 9 rfl hb hp
theorem Fr.callP9 {a0 a1 a2 a3 a4 a5 a6 a7 a8 : Addr × HO} (F : Fr He H0 H1 H (a0 :: a1 :: a2 :: a3 :: a4 :: a5 :: a6 :: a7 :: a8 :: (q, o) :: L)) (G : GrowP q H1 H H2 H') (e : H' q = some o') : Fr He H0 H2 H' (a0 :: a1 :: a2 :: a3 :: a4 :: a5 :: a6 :: a7 :: a8 :: (q, o') :: L) := F.callP 9 rfl G e
theorem Fr.gen9 {a0 a1 a2 a3 a4 a5 a6 a7 a8 : Addr × HO} (F : Fr He H0 H1 H (a0 :: a1 :: a2 :: a3 :: a4 :: a5 :: a6 :: a7 :: a8 :: (q, o) :: L)) (n : H l = none) (hl : H' l = some u) (hq : H' q = some o') (hb : ∀ b w, b ≠ q → H b = some w → H' b = some w) : Fr He H0 H1 H' ((l, u) :: a0 :: a1 :: a2 :: a3 :: a4 :: a5 :: a6 :: a7 :: a8 :: (q, o') :: L) := F.gen 9 rfl n hl hq hb
theorem Fr.drop9 {a0 a1 a2 a3 a4 a5 a6 a7 a8 : Addr × HO} (F : Fr He H0 H1 H (a0 :: a1 :: a2 :: a3 :: a4 :: a5 :: a6 :: a7 :: a8 :: (q, o) :: L)) : Fr He H0 H1 H (a0 :: a1 :: a2 :: a3 :: a4 :: a5 :: a6 :: a7 :: a8 :: L) := F.drop 9
theorem Fr.give9 {a0 a1 a2 a3 a4 a5 a6 a7 a8 : Addr × HO} (F : Fr He H0 H1 H (a0 :: a1 :: a2 :: a3 :: a4 :: a5 :: a6 :: a7 :: a8 :: (q, o) :: L)) : Fr He H0 (L2.upd H1 q o) H (a0 :: a1 :: a2 :: a3 :: a4 :: a5 :: a6 :: a7 :: a8 :: L) := F.give 9 rfl
theorem Fr.at9 {a0 a1 a2 a3 a4 a5 a6 a7 a8 : Addr × HO} (F : Fr He H0 H1 H (a0 :: a1 :: a2 :: a3 :: a4 :: a5 :: a6 :: a7 :: a8 :: (q, o) :: L)) : H q = some o := F.at 9 rfl
theorem Fr.n19 {a0 a1 a2 a3 a4 a5 a6 a7 a8 : Addr × HO} (F : Fr He H0 H1 H (a0 :: a1 :: a2 :: a3 :: a4 :: a5 :: a6 :: a7 :: a8 :: (q, o) :: L)) : H1 q = none := F.n1 9 rfl
theorem Fr.back9 {a0 a1 a2 a3 a4 a5 a6 a7 a8 : Addr × HO} {He' : Hp} (F : Fr (del He' q) H0 H1 H (a0 :: a1 :: a2 :: a3 :: a4 :: a5 :: a6 :: a7 :: a8 :: (q, o) :: L)) (n : H0 q = none) : GrowP q H0 He' H1 H ∧ H q = some o := ⟨F.back 9 rfl n, F.at 9 rfl⟩
theorem Fr.gvl9 {a0 a1 a2 a3 a4 a5 a6 a7 a8 : Addr × HO} {K : PySem.W.Frag} {xs : List V} {ds : List PyData} (F : Fr He H0 H1 H (a0 :: a1 :: a2 :: a3 :: a4 :: a5 :: a6 :: a7 :: a8 :: (q, .lst xs) :: L)) (h : DtAll K H1 xs ds) : ∃ B, Fr He H0 B H (a0 :: a1 :: a2 :: a3 :: a4 :: a5 :: a6 :: a7 :: a8 :: L) ∧ Dt K B (.ref q) (.list ds) ∧ L2.Same H1 B := F.gvl 9 rfl h
theorem Fr.gvt9 {a0 a1 a2 a3 a4 a5 a6 a7 a8 : Addr × HO} {K : PySem.W.Frag} {xs : List V} {ds : List PyData} (F : Fr He H0 H1 H (a0 :: a1 :: a2 :: a3 :: a4 :: a5 :: a6 :: a7 :: a8 :: (q, .tup xs) :: L)) (h : DtAll K H1 xs ds) : ∃ B, Fr He H0 B H (a0 :: a1 :: a2 :: a3 :: a4 :: a5 :: a6 :: a7 :: a8 :: L) ∧ Dt K B (.ref q) (.tuple ds) ∧ L2.Same H1 B := F.gvt 9 rfl h
theorem Fr.take10 {a0 a1 a2 a3 a4 a5 a6 a7 a8 a9 : Addr × HO} (F : Fr He H0 H1 H (a0 :: a1 :: a2 :: a3 :: a4 :: a5 :: a6 :: a7 :: a8 :: a9 :: (q, o) :: L)) (old : ∀ b u, b ≠ q → H b = some u → H' b = some u) (e : H' q = some o') : Fr He H0 H1 H' (a0 :: a1 :: a2 :: a3 :: a4 :: a5 :: a6 :: a7 :: a8 :: a9 :: (q, o') :: L) := F.take 10 rfl old e
theorem Fr.put10 {a0 a1 a2 a3 a4 a5 a6 a7 a8 a9 : Addr × HO} (F : Fr He H0 H1 H (a0 :: a1 :: a2 :: a3 :: a4 :: a5 :: a6 :: a7 :: a8 :: a9 :: (q, o) :: L)) (hb : ∀ b, b ≠ q → H' b = H b) (hp : H' q = some o') : Fr He H0 H1 H' (a0 :: a1 :: a2 :: a3 :: a4 :: a5 :: a6 :: a7 :: a8 :: a9 :: (q, o') :: L) := F.put 10 rfl hb hp
theorem Fr.callP10 {a0 a1 a2 a3 a4 a5 a6 a7 a8 a9 : Addr × HO} (F : Fr He H0 H1 H (a0 :: a1 :: a2 :: a3 :: a4 :: a5 :: a6 :: a7 :: a8 :: a9 :: (q, o) :: L)) (G : GrowP q H1 H H2 H') (e : H' q = some o') : Fr He H0 H2 H' (a0 :: a1 :: a2 :: a3 :: a4 :: a5 :: a6 :: a7 :: a8 :: a9 :: (q, o') :: L) := F.callP 10 rfl G e
theorem Fr.gen10 {a0 a1 a2 a3 a4 a5 a6 a7 a8 a9 : Addr × HO} (F : Fr He H0 H1 H (a0 :: a1 :: a2 :: a3 :: a4 :: a5 :: a6 :: a7 :: a8 :: a9 :: (q, o) :: L)) (n : H l = none) (hl : H' l = some u) (hq : H' q = some o') (hb : ∀ b w, b ≠ q → H b = some w → H' b = some w) : Fr He H0 H1 H' ((l, u) :: a0 :: a1 :: a2 :: a3 :: a4 :: a5 :: a6 :: a7 :: a8 :: a9 :: (q, o') :: L) := F.gen 10 rfl n hl hq hb
theorem Fr.drop10 {a0 a1 a2 a3 a4 a5 a6 a7 a8 a9 : Addr × HO} (F : Fr He H0 H1 H (a0 :: a1 :: a2 :: a3 :: a4 :: a5 :: a6 :: a7 :: a8 :: a9 :: (q, o) :: L)) : Fr He H0 H1 H (a0 :: a1 :: a2 :: a3 :: a4 :: a5 :: a6 :: a7 :: a8 :: a9 :: L) := F.drop 10
theorem Fr.give10 {a0 a1 a2 a3 a4 a5 a6 a7 a8 a9 : Addr × HO} (F : Fr He H0 H1 H (a0 :: a1 :: a2 :: a3 :: a4 :: a5 :: a6 :: a7 :: a8 :: a9 :: (q, o) :: L)) : Fr He H0 (L2.upd H1 q o) H (a0 :: a1 :: a2 :: a3 :: a4 :: a5 :: a6 :: a7 :: a8 :: a9 :: L) := F.give 10 rfl
theorem Fr.at10 {a0 a1 a2 a3 a4 a5 a6 a7 a8 a9 : Addr × HO} (F : Fr He H0 H1 H (a0 :: a1 :: a2 :: a3 :: a4 :: a5 :: a6 :: a7 :: a8 :: a9 :: (q, o) :: L)) : H q = some o := F.at 10 rfl
theorem Fr.n110 {a0 a1 a2 a3 a4 a5 a6 a7 a8 a9 : Addr × HO} (F : Fr He H0 H1 H (a0 :: a1 :: a2 :: a3 :: a4 :: a5 :: a6 :: a7 :: a8 :: a9 :: (q, o) :: L)) : H1 q = none := F.n1 10 rfl
theorem Fr.back10 {a0 a1 a2 a3 a4 a5 a6 a7 a8 a9 : Addr × HO} {He' : Hp} (F : Fr (del He' q) H0 H1 H (a0 :: a1 :: a2 :: a3 :: a4 :: a5 :: a6 :: a7 :: a8 :: a9 :: (q, o) :: L)) (n : H0 q = none) : GrowP q H0 He' H1 H ∧ H q = some o := ⟨F.back 10 rfl n, F.at 10 rfl⟩
theorem Fr.gvl10 {a0 a1 a2 a3 a4 a5 a6 a7 a8 a9 : Addr × HO} {K : PySem.W.Frag} {xs : List V} {ds : List PyData} (F : Fr He H0 H1 H (a0 :: a1 :: a2 :: a3 :: a4 :: a5 :: a6 :: a7 :: a8 :: a9 :: (q, .lst xs) :: L)) (h : DtAll K H1 xs ds) : ∃ B, Fr He H0 B H (a0 :: a1 :: a2 :: a3 :: a4 :: a5 :: a6 :: a7 :: a8 :: a9 :: L) ∧ Dt K B (.ref q) (.list ds) ∧ L2.Same H1 B := F.gvl 10 rfl h
theorem Fr.gvt10 {a0 a1 a2 a3 a4 a5 a6 a7 a8 a9 : Addr × HO} {K : PySem.W.Frag} {xs : List V} {ds : List PyData} (F : Fr He H0 H1 H (a0 :: a1 :: a2 :: a3 :: a4 :: a5 :: a6 :: a7 :: a8 :: a9 :: (q, .tup xs) :: L)) (h : DtAll K H1 xs ds) : ∃ B, Fr He H0 B H (a0 :: a1 :: a2 :: a3 :: a4 :: a5 :: a6 :: a7 :: a8 :: a9 :: L) ∧ Dt K B (.ref q) (.tuple ds) ∧ L2.Same H1 B := F.gvt 10 rfl h
theorem Fr.take11 {a0 a1 a2 a3 a4 a5 a6 a7 a8 a9 a10 : Addr × HO} (F : Fr He H0 H1 H (a0 :: a1 :: a2 :: a3 :: a4 :: a5 :: a6 :: a7 :: a8 :: a9 :: a10 :: (q, o) :: L)) (old : ∀ b u, b ≠ q → H b = some u → H' b = some u) (e : H' q = some o') : Fr He H0 H1 H' (a0 :: a1 :: a2 :: a3 :: a4 :: a5 :: a6 :: a7 :: a8 :: a9 :: a10 :: (q, o') :: L) := F.take 11 rfl old e
theorem Fr.put11 {a0 a1 a2 a3 a4 a5 a6 a7 a8 a9 a10 : Addr × HO} (F : Fr He H0 H1 H (a0 :: a1 :: a2 :: a3 :: a4 :: a5 :: a6 :: a7 :: a8 :: a9 :: a10 :: (q, o) :: L)) (hb : ∀ b, b ≠ q → H' b = H b) (hp : H' q = some o') : Fr He H0 H1 H' (a0 :: a1 :: a2 :: a3 :: a4 :: a5 :: a6 :: a7 :: a8 :: a9 :: a10 :: (q, o') :: L) := F.put 11 rfl hb hp
theorem Fr.callP11 {a0 a1 a2 a3 a4 a5 a6 a7 a8 a9 a10 : Addr × HO} (F : Fr He H0 H1 H (a0 :: a1 :: a2 :: a3 :: a4 :: a5 :: a6 :: a7 :: a8 :: a9 :: a10 :: (q, o) :: L)) (G : GrowP q H1 H H2 H') (e : H' q = some o') : Fr He H0 H2 H' (a0 :: a1 :: a2 :: a3 :: a4 :: a5 :: a6 :: a7 :: a8 :: a9 :: a10 :: (q, o') :: L) := F.callP 11 rfl G e
theorem Fr.gen11 {a0 a1 a2 a3 a4 a5 a6 a7 a8 a9 a10 : Addr × HO} (F : Fr He H0 H1 H (a0 :: a1 :: a2 :: a3 :: a4 :: a5 :: a6 :: a7 :: a8 :: a9 :: a10 :: (q, o) :: L)) (n : H l = none) (hl : H' l = some u) (hq : H' q = some o') (hb : ∀ b w, b ≠ q → H b = some w → H' b = some w) : Fr He H0 H1 H' ((l, u) :: a0 :: a1 :: a2 :: a3 :: a4 :: a5 :: a6 :: a7 :: a8 :: a9 :: a10 :: (q, o') :: L) := F.gen 11 rfl n hl hq hb
theorem Fr.drop11 {a0 a1 a2 a3 a4 a5 a6 a7 a8 a9 a10 : Addr × HO} (F : Fr He H0 H1 H (a0 :: a1 :: a2 :: a3 :: a4 :: a5 :: a6 :: a7 :: a8 :: a9 :: a10 :: (q, o) :: L)) : Fr He H0 H1 H (a0 :: a1 :: a2 :: a3 :: a4 :: a5 :: a6 :: a7 :: a8 :: a9 :: a10 :: L) := F.drop 11
theorem Fr.give11 {a0 a1 a2 a3 a4 a5 a6 a7 a8 a9 a10 : Addr × HO} (F : Fr He H0 H1 H (a0 :: a1 :: a2 :: a3 :: a4 :: a5 :: a6 :: a7 :: a8 :: a9 :: a10 :: (q, o) :: L)) : Fr He H0 (L2.upd H1 q o) H (a0 :: a1 :: a2 :: a3 :: a4 :: a5 :: a6 :: a7 :: a8 :: a9 :: a10 :: L) := F.give 11 rfl
theorem Fr.at11 {a0 a1 a2 a3 a4 a5 a6 a7 a8 a9 a10 : Addr × HO} (F : Fr He H0 H1 H (a0 :: a1 :: a2 :: a3 :: a4 :: a5 :: a6 :: a7 :: a8 :: a9 :: a10 :: (q, o) :: L)) : H q = some o := F.at 11 rfl
theorem Fr.n111 {a0 a1 a2 a3 a4 a5 a6 a7 a8 a9 a10 : Addr × HO} (F : Fr He H0 H1 H (a0 :: a1 :: a2 :: a3 :: a4 :: a5 :: a6 :: a7 :: a8 :: a9 :: a10 :: (q, o) :: L)) : H1 q = none := F.n1 11 rfl
theorem Fr.back11 {a0 a1 a2 a3 a4 a5 a6 a7 a8 a9 a10 : Addr × HO} {He' : Hp} (F : Fr (del He' q) H0 H1 H (a0 :: a1 :: a2 :: a3 :: a4 :: a5 :: a6 :: a7 :: a8 :: a9 :: a10 :: (q, o) :: L)) (n : H0 q = none) : GrowP q H0 He' H1 H ∧ H q = some o := ⟨F.back 11 rfl n, F.at 11 rfl⟩
theorem Fr.gvl11 {a0 a1 a2 a3 a4 a5 a6 a7 a8 a9 a10 : Addr × HO} {K : PySem.W.Frag} {xs : List V} {ds : List PyData} (F : Fr He H0 H1 H (a0 :: a1 :: a2 :: a3 :: a4 :: a5 :: a6 :: a7 :: a8 :: a9 :: a10 :: (q, .lst xs) :: L)) (h : DtAll K H1 xs ds) : ∃ B, Fr He H0 B H (a0 :: a1 :: a2 :: a3 :: a4 :: a5 :: a6 :: a7 :: a8 :: a9 :: a10 :: L) ∧ Dt K B (.ref q) (.list ds) ∧ L2.Same H1 B := F.gvl 11 rfl h
theorem Fr.gvt11 {a0 a1 a2 a3 a4 a5 a6 a7 a8 a9 a10 : Addr × HO} {K : PySem.W.Frag} {xs : List V} {ds : List PyData} (F : Fr He H0 H1 H (a0 :: a1 :: a2 :: a3 :: a4 :: a5 :: a6 :: a7 :: a8 :: a9 :: a10 :: (q, .tup xs) :: L)) (h : DtAll K H1 xs ds) : ∃ B, Fr He H0 B H (a0 :: a1 :: a2 :: a3 :: a4 :: a5 :: a6 :: a7 :: a8 :: a9 :: a10 :: L) ∧ Dt K B (.ref q) (.tuple ds) ∧ L2.Same H1 B := F.gvt 11 rfl h
theorem Fr.take12 {a0 a1 a2 a3 a4 a5 a6 a7 a8 a9 a10 a11 : Addr × HO} (F : Fr He H0 H1 H (a0 :: a1 :: a2 :: a3 :: a4 :: a5 :: a6 :: a7 :: a8 :: a9 :: a10 :: a11 :: (q, o) :: L)) (old : ∀ b u, b ≠ q → H b = some u → H' b = some u) (e : H' q = some o') : Fr He H0 H1 H' (a0 :: a1 :: a2 :: a3 :: a4 :: a5 :: a6 :: a7 :: a8 :: a9 :: a10 :: a11 :: (q, o') :: L) := F.take 12 rfl old e
theorem Fr.put12 {a0 a1 a2 a3 a4 a5 a6 a7 a8 a9 a10 a11 : Addr × HO} (F : Fr He H0 H1 H (a0 :: a1 :: a2 :: a3 :: a4 :: a5 :: a6 :: a7 :: a8 :: a9 :: a10 :: a11 :: (q, o) :: L)) (hb : ∀ b, b ≠ q → H' b = H b) (hp : H' q = some o') : Fr He H0 H1 H' (a0 :: a1 :: a2 :: a3 :: a4 :: a5 :: a6 :: a7 :: a8 :: a9 :: a10 :: a11 :: (q, o') :: L) := F.put 12 rfl hb hp
theorem Fr.callP12 {a0 a1 a2 a3 a4 a5 a6 a7 a8 a9 a10 a11 : Addr × HO} (F : Fr He H0 H1 H (a0 :: a1 :: a2 :: a3 :: a4 :: a5 :: a6 :: a7 :: a8 :: a9 :: a10 :: a11 :: (q, o) :: L)) (G : GrowP q H1 H H2 H') (e : H' q = some o') : Fr He H0 H2 H' (a0 :: a1 :: a2 :: a3 :: a4 :: a5 :: a6 :: a7 :: a8 :: a9 :: a10 :: a11 :: (q, o') :: L) := F.callP 12 rfl G e
theorem Fr.gen12 {a0 a1 a2 a3 a4 a5 a6 a7 a8 a9 a10 a11 : Addr × HO} (F : Fr He H0 H1 H (a0 :: a1 :: a2 :: a3 :: a4 :: a5 :: a6 :: a7 :: a8 :: a9 :: a10 :: a11 :: (q, o) :: L)) (n : H l = none) (hl : H' l = some u) (hq : H' q = some o') (hb : ∀ b w, b ≠ q → H b = some w → H' b = some w) : Fr He H0 H1 H' ((l, u) :: a0 :: a1 :: a2 :: a3 :: a4 :: a5 :: a6 :: a7 :: a8 :: a9 :: a10 :: a11 :: (q, o') :: L) := F.gen 12 rfl n hl hq hb
theorem Fr.drop12 {a0 a1 a2 a3 a4 a5 a6 a7 a8 a9 a10 a11 : Addr × HO} (F : Fr He H0 H1 H (a0 :: a1 :: a2 :: a3 :: a4 :: a5 :: a6 :: a7 :: a8 :: a9 :: a10 :: a11 :: (q, o) :: L)) : Fr He H0 H1 H (a0 :: a1 :: a2 :: a3 :: a4 :: a5 :: a6 :: a7 :: a8 :: a9 :: a10 :: a11 :: L) := F.drop 12
theorem Fr.give12 {a0 a1 a2 a3 a4 a5 a6 a7 a8 a9 a10 a11 : Addr × HO} (F : Fr He H0 H1 H (a0 :: a1 :: a2 :: a3 :: a4 :: a5 :: a6 :: a7 :: a8 :: a9 :: a10 :: a11 :: (q, o) :: L)) : Fr He H0 (L2.upd H1 q o) H (a0 :: a1 :: a2 :: a3 :: a4 :: a5 :: a6 :: a7 :: a8 :: a9 :: a10 :: a11 :: L) := F.give 12 rfl
theorem Fr.at12 {a0 a1 a2 a3 a4 a5 a6 a7 a8 a9 a10 a11 : Addr × HO} (F : Fr He H0 H1 H (a0 :: a1 :: a2 :: a3 :: a4 :: a5 :: a6 :: a7 :: a8 :: a9 :: a10 :: a11 :: (q, o) :: L)) : H q = some o := F.at 12 rfl
theorem Fr.n112 {a0 a1 a2 a3 a4 a5 a6 a7 a8 a9 a10 a11 : Addr × HO} (F : Fr He H0 H1 H (a0 :: a1 :: a2 :: a3 :: a4 :: a5 :: a6 :: a7 :: a8 :: a9 :: a10 :: a11 :: (q, o) :: L)) : H1 q = none := F.n1 12 rfl
theorem Fr.back12 {a0 a1 a2 a3 a4 a5 a6 a7 a8 a9 a10 a11 : Addr × HO} {He' : Hp} (F : Fr (del He' q) H0 H1 H (a0 :: a1 :: a2 :: a3 :: a4 :: a5 :: a6 :: a7 :: a8 :: a9 :: a10 :: a11 :: (q, o) :: L)) (n : H0 q = none) : GrowP q H0 He' H1 H ∧ H q = some o := ⟨F.back 12 rfl n, F.at 12 rfl⟩
theorem Fr.gvl12 {a0 a1 a2 a3 a4 a5 a6 a7 a8 a9 a10 a11 : Addr × HO} {K : PySem.W.Frag} {xs : List V} {ds : List PyData} (F : Fr He H0 H1 H (a0 :: a1 :: a2 :: a3 :: a4 :: a5 :: a6 :: a7 :: a8 :: a9 :: a10 :: a11 :: (q, .lst xs) :: L)) (h : DtAll K H1 xs ds) : ∃ B, Fr He H0 B H (a0 :: a1 :: a2 :: a3 :: a4 :: a5 :: a6 :: a7 :: a8 :: a9 :: a10 :: a11 :: L) ∧ Dt K B (.ref q) (.list ds) ∧ L2.Same H1 B := F.gvl 12 rfl h
theorem Fr.gvt12 {a0 a1 a2 a3 a4 a5 a6 a7 a8 a9 a10 a11 : Addr × HO} {K : PySem.W.Frag} {xs : List V} {ds : List PyData} (F : Fr He H0 H1 H (a0 :: a1 :: a2 :: a3 :: a4 :: a5 :: a6 :: a7 :: a8 :: a9 :: a10 :: a11 :: (q, .tup xs) :: L)) (h : DtAll K H1 xs ds) : ∃ B, Fr He H0 B H (a0 :: a1 :: a2 :: a3 :: a4 :: a5 :: a6 :: a7 :: a8 :: a9 :: a10 :: a11 :: L) ∧ Dt K B (.ref q) (.tuple ds) ∧ L2.Same H1 B := F.gvt 12 rfl h
theorem Fr.take13 {a0 a1 a2 a3 a4 a5 a6 a7 a8 a9 a10 a11 a12 : Addr × HO} (F : Fr He H0 H1 H (a0 :: a1 :: a2 :: a3 :: a4 :: a5 :: a6 :: a7 :: a8 :: a9 :: a10 :: a11 :: a12 :: (q, o) :: L)) (old : ∀ b u, b ≠ q → H b = some u → H' b = some u) (e : H' q = some o') : Fr He H0 H1 H' (a0 :: a1 :: a2 :: a3 :: a4 :: a5 :: a6 :: a7 :: a8 :: a9 :: a10 :: a11 :: a12 :: (q, o') :: L) := F.take 13 rfl old e
theorem Fr.put13 {a0 a1 a2 a3 a4 a5 a6 a7 a8 a9 a10 a11 a12 : Addr × HO} (F : Fr He H0 H1 H (a0 :: a1 :: a2 :: a3 :: a4 :: a5 :: a6 :: a7 :: a8 :: a9 :: a10 :: a11 :: a12 :: (q, o) :: L)) (hb : ∀ b, b ≠ q → H' b = H b) (hp : H' q = some o') : Fr He H0 H1 H' (a0 :: a1 :: a2 :: a3 :: a4 :: a5 :: a6 :: a7 :: a8 :: a9 :: a10 :: a11 :: a12 :: (q, o') :: L) := F.put 13 rfl hb hp
theorem Fr.callP13 {a0 a1 a2 a3 a4 a5 a6 a7 a8 a9 a10 a11 a12 : Addr × HO} (F : Fr He H0 H1 H (a0 :: a1 :: a2 :: a3 :: a4 :: a5 :: a6 :: a7 :: a8 :: a9 :: a10 :: a11 :: a12 :: (q, o) :: L)) (G : GrowP q H1 H H2 H') (e : H' q = some o') : Fr He H0 H2 H' (a0 :: a1 :: a2 :: a3 :: a4 :: a5 :: a6 :: a7 :: a8 :: a9 :: a10 :: a11 :: a12 :: (q, o') :: L) := F.callP 13 rfl G e
theorem Fr.gen13 {a0 a1 a2 a3 a4 a5 a6 a7 a8 a9 a10 a11 a12 : Addr × HO} (F : Fr He H0 H1 H (a0 :: a1 :: a2 :: a3 :: a4 :: a5 :: a6 :: a7 :: a8 :: a9 :: a10 :: a11 :: a12 :: (q, o) :: L)) (n : H l = none) (hl : H' l = some u) (hq : H' q = some o') (hb : ∀ b w, b ≠ q → H b = some w → H' b = some w) : Fr He H0 H1 H' ((l, u) :: a0 :: a1 :: a2 :: a3 :: a4 :: a5 :: a6 :: a7 :: a8 :: a9 :: a10 :: a11 :: a12 :: (q, o') :: L) := F.gen 13 rfl n hl hq hb
theorem Fr.drop13 {a0 a1 a2 a3 a4 a5 a6 a7 a8 a9 a10 a11 a12 : Addr × HO} (F : Fr He H0 H1 H (a0 :: a1 :: a2 :: a3 :: a4 :: a5 :: a6 :: a7 :: a8 :: a9 :: a10 :: a11 :: a12 :: (q, o) :: L)) : Fr He H0 H1 H (a0 :: a1 :: a2 :: a3 :: a4 :: a5 :: a6 :: a7 :: a8 :: a9 :: a10 :: a11 :: a12 :: L) := F.drop 13
theorem Fr.give13 {a0 a1 a2 a3 a4 a5 a6 a7 a8 a9 a10 a11 a12 : Addr × HO} (F : Fr He H0 H1 H (a0 :: a1 :: a2 :: a3 :: a4 :: a5 :: a6 :: a7 :: a8 :: a9 :: a10 :: a11 :: a12 :: (q, o) :: L)) : Fr He H0 (L2.upd H1 q o) H (a0 :: a1 :: a2 :: a3 :: a4 :: a5 :: a6 :: a7 :: a8 :: a9 :: a10 :: a11 :: a12 :: L) := F.give 13 rfl
theorem Fr.at13 {a0 a1 a2 a3 a4 a5 a6 a7 a8 a9 a10 a11 a12 : Addr × HO} (F : Fr He H0 H1 H (a0 :: a1 :: a2 :: a3 :: a4 :: a5 :: a6 :: a7 :: a8 :: a9 :: a10 :: a11 :: a12 :: (q, o) :: L)) : H q = some o := F.at 13 rfl
theorem Fr.n113 {a0 a1 a2 a3 a4 a5 a6 a7 a8 a9 a10 a11 a12 : Addr × HO} (F : Fr He H0 H1 H (a0 :: a1 :: a2 :: a3 :: a4 :: a5 :: a6 :: a7 :: a8 :: a9 :: a10 :: a11 :: a12 :: (q, o) :: L)) : H1 q = none := F.n1 13 rfl
theorem Fr.back13 {a0 a1 a2 a3 a4 a5 a6 a7 a8 a9 a10 a11 a12 : Addr × HO} {He' : Hp} (F : Fr (del He' q) H0 H1 H (a0 :: a1 :: a2 :: a3 :: a4 :: a5 :: a6 :: a7 :: a8 :: a9 :: a10 :: a11 :: a12 :: (q, o) :: L)) (n : H0 q = none) : GrowP q H0 He' H1 H ∧ H q = some o := ⟨F.back 13 rfl n, F.at 13 rfl⟩
theorem Fr.gvl13 {a0 a1 a2 a3 a4 a5 a6 a7 a8 a9 a10 a11 a12 : Addr × HO} {K : PySem.W.Frag} {xs : List V} {ds : List PyData} (F : Fr He H0 H1 H (a0 :: a1 :: a2 :: a3 :: a4 :: a5 :: a6 :: a7 :: a8 :: a9 :: a10 :: a11 :: a12 :: (q, .lst xs) :: L)) (h : DtAll K H1 xs ds) : ∃ B, Fr He H0 B H (a0 :: a1 :: a2 :: a3 :: a4 :: a5 :: a6 :: a7 :: a8 :: a9 :: a10 :: a11 :: a12 :: L) ∧ Dt K B (.ref q) (.list ds) ∧ L2.Same H1 B := F.gvl 13 rfl h
theorem Fr.gvt13 {a0 a1 a2 a3 a4 a5 a6 a7 a8 a9 a10 a11 a12 : Addr × HO} {K : PySem.W.Frag} {xs : List V} {ds : List PyData} (F : Fr He H0 H1 H (a0 :: a1 :: a2 :: a3 :: a4 :: a5 :: a6 :: a7 :: a8 :: a9 :: a10 :: a11 :: a12 :: (q, .tup xs) :: L)) (h : DtAll K H1 xs ds) : ∃ B, Fr He H0 B H (a0 :: a1 :: a2 :: a3 :: a4 :: a5 :: a6 :: a7 :: a8 :: a9 :: a10 :: a11 :: a12 :: L) ∧ Dt K B (.ref q) (.tuple ds) ∧ L2.Same H1 B := F.gvt 13 rfl h
theorem Fr.take14 {a0 a1 a2 a3 a4 a5 a6 a7 a8 a9 a10 a11 a12 a13 : Addr × HO} (F : Fr He H0 H1 H (a0 :: a1 :: a2 :: a3 :: a4 :: a5 :: a6 :: a7 :: a8 :: a9 :: a10 :: a11 :: a12 :: a13 :: (q, o) :: L)) (old : ∀ b u, b ≠ q → H b = some u → H' b = some u) (e : H' q = some o') : Fr He H0 H1 H' (a0 :: a1 :: a2 :: a3 :: a4 :: a5 :: a6 :: a7 :: a8 :: a9 :: a10 :: a11 :: a12 :: a13 :: (q, o') :: L) := F.take 14 rfl old e
theorem Fr.put14 {a0 a1 a2 a3 a4 a5 a6 a7 a8 a9 a10 a11 a12 a13 : Addr × HO} (F : Fr He H0 H1 H (a0 :: a1 :: a2 :: a3 :: a4 :: a5 :: a6 :: a7 :: a8 :: a9 :: a10 :: a11 :: a12 :: a13 :: (q, o) :: L)) (hb : ∀ b, b ≠ q → H' b = H b) (hp : H' q = some o') : Fr He H0 H1 H' (a0 :: a1 :: a2 :: a3 :: a4 :: a5 :: a6 :: a7 :: a8 :: a9 :: a10 :: a11 :: a12 :: a13 :: (q, o') :: L) := F.put 14 rfl hb hp
theorem Fr.callP14 {a0 a1 a2 a3 a4 a5 a6 a7 a8 a9 a10 a11 a12 a13 : Addr × HO} (F : Fr He H0 H1 H (a0 :: a1 :: a2 :: a3 :: a4 :: a5 :: a6 :: a7 :: a8 :: a9 :: a10 :: a11 :: a12 :: a13 :: (q, o) :: L)) (G : GrowP q H1 H H2 H') (e : H' q = some o') : Fr He H0 H2 H' (a0 :: a1 :: a2 :: a3 :: a4 :: a5 :: a6 :: a7 :: a8 :: a9 :: a10 :: a11 :: a12 :: a13 :: (q, o') :: L) := F.callP 14 rfl G e
theorem Fr.gen14 {a0 a1 a2 a3 a4 a5 a6 a7 a8 a9 a10 a11 a12 a13 : Addr × HO} (F : Fr He H0 H1 H (a0 :: a1 :: a2 :: a3 :: a4 :: a5 :: a6 :: a7 :: a8 :: a9 :: a10 :: a11 :: a12 :: a13 :: (q, o) :: L)) (n : H l = none) (hl : H' l = some u) (hq : H' q = some o') (hb : ∀ b w, b ≠ q → H b = some w → H' b = some w) : Fr He H0 H1 H' ((l, u) :: a0 :: a1 :: a2 :: a3 :: a4 :: a5 :: a6 :: a7 :: a8 :: a9 :: a10 :: a11 :: a12 :: a13 :: (q, o') :: L) := F.gen 14 rfl n hl hq hb
theorem Fr.drop14 {a0 a1 a2 a3 a4 a5 a6 a7 a8 a9 a10 a11 a12 a13 : Addr × HO} (F : Fr He H0 H1 H (a0 :: a1 :: a2 :: a3 :: a4 :: a5 :: a6 :: a7 :: a8 :: a9 :: a10 :: a11 :: a12 :: a13 :: (q, o) :: L)) : Fr He H0 H1 H (a0 :: a1 :: a2 :: a3 :: a4 :: a5 :: a6 :: a7 :: a8 :: a9 :: a10 :: a11 :: a12 :: a13 :: L) := F.drop 14
theorem Fr.give14 {a0 a1 a2 a3 a4 a5 a6 a7 a8 a9 a10 a11 a12 a13 : Addr × HO} (F : Fr He H0 H1 H (a0 :: a1 :: a2 :: a3 :: a4 :: a5 :: a6 :: a7 :: a8 :: a9 :: a10 :: a11 :: a12 :: a13 :: (q, o) :: L)) : Fr He H0 (L2.upd H1 q o) H (a0 :: a1 :: a2 :: a3 :: a4 :: a5 :: a6 :: a7 :: a8 :: a9 :: a10 :: a11 :: a12 :: a13 :: L) := F.give 14 rfl
theorem Fr.at14 {a0 a1 a2 a3 a4 a5 a6 a7 a8 a9 a10 a11 a12 a13 : Addr × HO} (F : Fr He H0 H1 H (a0 :: a1 :: a2 :: a3 :: a4 :: a5 :: a6 :: a7 :: a8 :: a9 :: a10 :: a11 :: a12 :: a13 :: (q, o) :: L)) : H q = some o := F.at 14 rfl
theorem Fr.n114 {a0 a1 a2 a3 a4 a5 a6 a7 a8 a9 a10 a11 a12 a13 : Addr × HO} (F : Fr He H0 H1 H (a0 :: a1 :: a2 :: a3 :: a4 :: a5 :: a6 :: a7 :: a8 :: a9 :: a10 :: a11 :: a12 :: a13 :: (q, o) :: L)) : H1 q = none := F.n1 14 rfl
theorem Fr.back14 {a0 a1 a2 a3 a4 a5 a6 a7 a8 a9 a10 a11 a12 a13 : Addr × HO} {He' : Hp} (F : Fr (del He' q) H0 H1 H (a0 :: a1 :: a2 :: a3 :: a4 :: a5 :: a6 :: a7 :: a8 :: a9 :: a10 :: a11 :: a12 :: a13 :: (q, o) :: L)) (n : H0 q = none) : GrowP q H0 He' H1 H ∧ H q = some o := ⟨F.back 14 rfl n, F.at 14 rfl⟩
theorem Fr.gvl14 {a0 a1 a2 a3 a4 a5 a6 a7 a8 a9 a10 a11 a12 a13 : Addr × HO} {K : PySem.W.Frag} {xs : List V} {ds : List PyData} (F : Fr He H0 H1 H (a0 :: a1 :: a2 :: a3 :: a4 :: a5 :: a6 :: a7 :: a8 :: a9 :: a10 :: a11 :: a12 :: a13 :: (q, .lst xs) :: L)) (h : DtAll K H1 xs ds) : ∃ B, Fr He H0 B H (a0 :: a1 :: a2 :: a3 :: a4 :: a5 :: a6 :: a7 :: a8 :: a9 :: a10 :: a11 :: a12 :: a13 :: L) ∧ Dt K B (.ref q) (.list ds) ∧ L2.Same H1 B := F.gvl 14 rfl h
theorem Fr.gvt14 {a0 a1 a2 a3 a4 a5 a6 a7 a8 a9 a10 a11 a12 a13 : Addr × HO} {K : PySem.W.Frag} {xs : List V} {ds : List PyData} (F : Fr He H0 H1 H (a0 :: a1 :: a2 :: a3 :: a4 :: a5 :: a6 :: a7 :: a8 :: a9 :: a10 :: a11 :: a12 :: a13 :: (q, .tup xs) :: L)) (h : DtAll K H1 xs ds) : ∃ B, Fr He H0 B H (a0 :: a1 :: a2 :: a3 :: a4 :: a5 :: a6 :: a7 :: a8 :: a9 :: a10 :: a11 :: a12 :: a13 :: L) ∧ Dt K B (.ref q) (.tuple ds) ∧ L2.Same H1 B := F.gvt 14 rfl h
theorem Fr.take15 {a0 a1 a2 a3 a4 a5 a6 a7 a8 a9 a10 a11 a12 a13 a14 : Addr × HO} (F : Fr He H0 H1 H (a0 :: a1 :: a2 :: a3 :: a4 :: a5 :: a6 :: a7 :: a8 :: a9 :: a10 :: a11 :: a12 :: a13 :: a14 :: (q, o) :: L)) (old : ∀ b u, b ≠ q → H b = some u → H' b = some u) (e : H' q = some o') : Fr He H0 H1 H' (a0 :: a1 :: a2 :: a3 :: a4 :: a5 :: a6 :: a7 :: a8 :: a9 :: a10 :: a11 :: a12 :: a13 :: a14 :: (q, o') :: L) := F.take 15 rfl old e
theorem Fr.put15 {a0 a1 a2 a3 a4 a5 a6 a7 a8 a9 a10 a11 a12 a13 a14 : Addr × HO} (F : Fr He H0 H1 H (a0 :: a1 :: a2 :: a3 :: a4 :: a5 :: a6 :: a7 :: a8 :: a9 :: a10 :: a11 :: a12 :: a13 :: a14 :: (q, o) :: L)) (hb : ∀ b, b ≠ q → H' b = H b) (hp : H' q = some o') : Fr He H0 H1 H' (a0 :: a1 :: a2 :: a3 :: a4 :: a5 :: a6 :: a7 :: a8 :: a9 :: a10 :: a11 :: a12 :: a13 :: a14 :: (q, o') :: L) := F.put 15 rfl hb hp
theorem Fr.callP15 {a0 a1 a2 a3 a4 a5 a6 a7 a8 a9 a10 a11 a12 a13 a14 : Addr × HO} (F : Fr He H0 H1 H (a0 :: a1 :: a2 :: a3 :: a4 :: a5 :: a6 :: a7 :: a8 :: a9 :: a10 :: a11 :: a12 :: a13 :: a14 :: (q, o) :: L)) (G : GrowP q H1 H H2 H') (e : H' q = some o') : Fr He H0 H2 H' (a0 :: a1 :: a2 :: a3 :: a4 :: a5 :: a6 :: a7 :: a8 :: a9 :: a10 :: a11 :: a12 :: a13 :: a14 :: (q, o') :: L) := F.callP 15 rfl G e
theorem Fr.gen15 {a0 a1 a2 a3 a4 a5 a6 a7 a8 a9 a10 a11 a12 a13 a14 : Addr × HO} (F : Fr He H0 H1 H (a0 :: a1 :: a2 :: a3 :: a4 :: a5 :: a6 :: a7 :: a8 :: a9 :: a10 :: a11 :: a12 :: a13 :: a14 :: (q, o) :: L)) (n : H l = none) (hl : H' l = some u) (hq : H' q = some o') (hb : ∀ b w, b ≠ q → H b = some w → H' b = some w) : Fr He H0 H1 H' ((l, u) :: a0 :: a1 :: a2 :: a3 :: a4 :: a5 :: a6 :: a7 :: a8 :: a9 :: a10 :: a11 :: a12 :: a13 :: a14 :: (q, o') :: L) := F.gen 15 rfl n hl hq hb
theorem Fr.drop15 {a0 a1 a2 a3 a4 a5 a6 a7 a8 a9 a10 a11 a12 a13 a14 : Addr × HO} (F : Fr He H0 H1 H (a0 :: a1 :: a2 :: a3 :: a4 :: a5 :: a6 :: a7 :: a8 :: a9 :: a10 :: a11 :: a12 :: a13 :: a14 :: (q, o) :: L)) : Fr He H0 H1 H (a0 :: a1 :: a2 :: a3 :: a4 :: a5 :: a6 :: a7 :: a8 :: a9 :: a10 :: a11 :: a12 :: a13 :: a14 :: L) := F.drop 15
theorem Fr.give15 {a0 a1 a2 a3 a4 a5 a6 a7 a8 a9 a10 a11 a12 a13 a14 : Addr × HO} (F : Fr He H0 H1 H (a0 :: a1 :: a2 :: a3 :: a4 :: a5 :: a6 :: a7 :: a8 :: a9 :: a10 :: a11 :: a12 :: a13 :: a14 :: (q, o) :: L)) : Fr He H0 (L2.upd H1 q o) H (a0 :: a1 :: a2 :: a3 :: a4 :: a5 :: a6 :: a7 :: a8 :: a9 :: a10 :: a11 :: a12 :: a13 :: a14 :: L) := F.give 15 rfl
theorem Fr.at15 {a0 a1 a2 a3 a4 a5 a6 a7 a8 a9 a10 a11 a12 a13 a14 : Addr × HO} (F : Fr He H0 H1 H (a0 :: a1 :: a2 :: a3 :: a4 :: a5 :: a6 :: a7 :: a8 :: a9 :: a10 :: a11 :: a12 :: a13 :: a14 :: (q, o) :: L)) : H q = some o := F.at 15 rfl
theorem Fr.n115 {a0 a1 a2 a3 a4 a5 a6 a7 a8 a9 a10 a11 a12 a13 a14 : Addr × HO} (F : Fr He H0 H1 H (a0 :: a1 :: a2 :: a3 :: a4 :: a5 :: a6 :: a7 :: a8 :: a9 :: a10 :: a11 :: a12 :: a13 :: a14 :: (q, o) :: L)) : H1 q = none := F.n1 15 rfl
theorem Fr.back15 {a0 a1 a2 a3 a4 a5 a6 a7 a8 a9 a10 a11 a12 a13 a14 : Addr × HO} {He' : Hp} (F : Fr (del He' q) H0 H1 H (a0 :: a1 :: a2 :: a3 :: a4 :: a5 :: a6 :: a7 :: a8 :: a9 :: a10 :: a11 :: a12 :: a13 :: a14 :: (q, o) :: L)) (n : H0 q = none) : GrowP q H0 He' H1 H ∧ H q = some o := ⟨F.back 15 rfl n, F.at 15 rfl⟩
theorem Fr.gvl15 {a0 a1 a2 a3 a4 a5 a6 a7 a8 a9 a10 a11 a12 a13 a14 : Addr × HO} {K : PySem.W.Frag} {xs : List V} {ds : List PyData} (F : Fr He H0 H1 H (a0 :: a1 :: a2 :: a3 :: a4 :: a5 :: a6 :: a7 :: a8 :: a9 :: a10 :: a11 :: a12 :: a13 :: a14 :: (q, .lst xs) :: L)) (h : DtAll K H1 xs ds) : ∃ B, Fr He H0 B H (a0 :: a1 :: a2 :: a3 :: a4 :: a5 :: a6 :: a7 :: a8 :: a9 :: a10 :: a11 :: a12 :: a13 :: a14 :: L) ∧ Dt K B (.ref q) (.list ds) ∧ L2.Same H1 B := F.gvl 15 rfl h
theorem Fr.gvt15 {a0 a1 a2 a3 a4 a5 a6 a7 a8 a9 a10 a11 a12 a13 a14 : Addr × HO} {K : PySem.W.Frag} {xs : List V} {ds : List PyData} (F : Fr He H0 H1 H (a0 :: a1 :: a2 :: a3 :: a4 :: a5 :: a6 :: a7 :: a8 :: a9 :: a10 :: a11 :: a12 :: a13 :: a14 :: (q, .tup xs) :: L)) (h : DtAll K H1 xs ds) : ∃ B, Fr He H0 B H (a0 :: a1 :: a2 :: a3 :: a4 :: a5 :: a6 :: a7 :: a8 :: a9 :: a10 :: a11 :: a12 :: a13 :: a14 :: L) ∧ Dt K B (.ref q) (.tuple ds) ∧ L2.Same H1 B := F.gvt 15 rfl h
theorem Fr.take16 {a0 a1 a2 a3 a4 a5 a6 a7 a8 a9 a10 a11 a12 a13 a14 a15 : Addr × HO} (F : Fr He H0 H1 H (a0 :: a1 :: a2 :: a3 :: a4 :: a5 :: a6 :: a7 :: a8 :: a9 :: a10 :: a11 :: a12 :: a13 :: a14 :: a15 :: (q, o) :: L)) (old : ∀ b u, b ≠ q → H b = some u → H' b = some u) (e : H' q = some o') : Fr He H0 H1 H' (a0 :: a1 :: a2 :: a3 :: a4 :: a5 :: a6 :: a7 :: a8 :: a9 :: a10 :: a11 :: a12 :: a13 :: a14 :: a15 :: (q, o') :: L) := F.take 16 rfl old e
theorem Fr.put16 {a0 a1 a2 a3 a4 a5 a6 a7 a8 a9 a10 a11 a12 a13 a14 a15 : Addr × HO} (F : Fr He H0 H1 H (a0 :: a1 :: a2 :: a3 :: a4 :: a5 :: a6 :: a7 :: a8 :: a9 :: a10 :: a11 :: a12 :: a13 :: a14 :: a15 :: (q, o) :: L)) (hb : ∀ b, b ≠ q → H' b = H b) (hp : H' q = some o') : Fr He H0 H1 H' (a0 :: a1 :: a2 :: a3 :: a4 :: a5 :: a6 :: a7 :: a8 :: a9 :: a10 :: a11 :: a12 :: a13 :: a14 :: a15 :: (q, o') :: L) := F.put 16 rfl hb hp
theorem Fr.callP16 {a0 a1 a2 a3 a4 a5 a6 a7 a8 a9 a10 a11 a12 a13 a14 a15 : Addr × HO} (F : Fr He H0 H1 H (a0 :: a1 :: a2 :: a3 :: a4 :: a5 :: a6 :: a7 :: a8 :: a9 :: a10 :: a11 :: a12 :: a13 :: a14 :: a15 :: (q, o) :: L)) (G : GrowP q H1 H H2 H') (e : H' q = some o') : Fr He H0 H2 H' (a0 :: a1 :: a2 :: a3 :: a4 :: a5 :: a6 :: a7 :: a8 :: a9 :: a10 :: a11 :: a12 :: a13 :: a14 :: a15 :: (q, o') :: L) := F.callP 16 rfl G e
theorem Fr.gen16 {a0 a1 a2 a3 a4 a5 a6 a7 a8 a9 a10 a11 a12 a13 a14 a15 : Addr × HO} (F : Fr He H0 H1 H (a0 :: a1 :: a2 :: a3 :: a4 :: a5 :: a6 :: a7 :: a8 :: a9 :: a10 :: a11 :: a12 :: a13 :: a14 :: a15 :: (q, o) :: L)) (n : H l = none) (hl : H' l = some u) (hq : H' q = some o') (hb : ∀ b w, b ≠ q → H b = some w → H' b = some w) : Fr He H0 H1 H' ((l, u) :: a0 :: a1 :: a2 :: a3 :: a4 :: a5 :: a6 :: a7 :: a8 :: a9 :: a10 :: a11 :: a12 :: a13 :: a14 :: a15 :: (q, o') :: L) := F.gen 16 rfl n hl hq hb
theorem Fr.drop16 {a0 a1 a2 a3 a4 a5 a6 a7 a8 a9 a10 a11 a12 a13 a14 a15 : Addr × HO} (F : Fr He H0 H1 H (a0 :: a1 :: a2 :: a3 :: a4 :: a5 :: a6 :: a7 :: a8 :: a9 :: a10 :: a11 :: a12 :: a13 :: a14 :: a15 :: (q, o) :: L)) : Fr He H0 H1 H (a0 :: a1 :: a2 :: a3 :: a4 :: a5 :: a6 :: a7 :: a8 :: a9 :: a10 :: a11 :: a12 :: a13 :: a14 :: a15 :: L) := F.drop 16
theorem Fr.give16 {a0 a1 a2 a3 a4 a5 a6 a7 a8 a9 a10 a11 a12 a13 a14 a15 : Addr × HO} (F : Fr He H0 H1 H (a0 :: a1 :: a2 :: a3 :: a4 :: a5 :: a6 :: a7 :: a8 :: a9 :: a10 :: a11 :: a12 :: a13 :: a14 :: a15 :: (q, o) :: L)) : Fr He H0 (L2.upd H1 q o) H (a0 :: a1 :: a2 :: a3 :: a4 :: a5 :: a6 :: a7 :: a8 :: a9 :: a10 :: a11 :: a12 :: a13 :: a14 :: a15 :: L) := F.give 16 rfl
theorem Fr.at16 {a0 a1 a2 a3 a4 a5 a6 a7 a8 a9 a10 a11 a12 a13 a14 a15 : Addr × HO} (F : Fr He H0 H1 H (a0 :: a1 :: a2 :: a3 :: a4 :: a5 :: a6 :: a7 :: a8 :: a9 :: a10 :: a11 :: a12 :: a13 :: a14 :: a15 :: (q, o) :: L)) : H q = some o := F.at 16 rfl
theorem Fr.n116 {a0 a1 a2 a3 a4 a5 a6 a7 a8 a9 a10 a11 a12 a13 a14 a15 : Addr × HO} (F : Fr He H0 H1 H (a0 :: a1 :: a2 :: a3 :: a4 :: a5 :: a6 :: a7 :: a8 :: a9 :: a10 :: a11 :: a12 :: a13 :: a14 :: a15 :: (q, o) :: L)) : H1 q = none := F.n1 16 rfl
theorem Fr.back16 {a0 a1 a2 a3 a4 a5 a6 a7 a8 a9 a10 a11 a12 a13 a14 a15 : Addr × HO} {He' : Hp} (F : Fr (del He' q) H0 H1 H (a0 :: a1 :: a2 :: a3 :: a4 :: a5 :: a6 :: a7 :: a8 :: a9 :: a10 :: a11 :: a12 :: a13 :: a14 :: a15 :: (q, o) :: L)) (n : H0 q = none) : GrowP q H0 He' H1 H ∧ H q = some o := ⟨F.back 16 rfl n, F.at 16 rfl⟩
theorem Fr.gvl16 {a0 a1 a2 a3 a4 a5 a6 a7 a8 a9 a10 a11 a12 a13 a14 a15 : Addr × HO} {K : PySem.W.Frag} {xs : List V} {ds : List PyData} (F : Fr He H0 H1 H (a0 :: a1 :: a2 :: a3 :: a4 :: a5 :: a6 :: a7 :: a8 :: a9 :: a10 :: a11 :: a12 :: a13 :: a14 :: a15 :: (q, .lst xs) :: L)) (h : DtAll K H1 xs ds) : ∃ B, Fr He H0 B H (a0 :: a1 :: a2 :: a3 :: a4 :: a5 :: a6 :: a7 :: a8 :: a9 :: a10 :: a11 :: a12 :: a13 :: a14 :: a15 :: L) ∧ Dt K B (.ref q) (.list ds) ∧ L2.Same H1 B := F.gvl 16 rfl h
theorem Fr.gvt16 {a0 a1 a2 a3 a4 a5 a6 a7 a8 a9 a10 a11 a12 a13 a14 a15 : Addr × HO} {K : PySem.W.Frag} {xs : List V} {ds : List PyData} (F : Fr He H0 H1 H (a0 :: a1 :: a2 :: a3 :: a4 :: a5 :: a6 :: a7 :: a8 :: a9 :: a10 :: a11 :: a12 :: a13 :: a14 :: a15 :: (q, .tup xs) :: L)) (h : DtAll K H1 xs ds) : ∃ B, Fr He H0 B H (a0 :: a1 :: a2 :: a3 :: a4 :: a5 :: a6 :: a7 :: a8 :: a9 :: a10 :: a11 :: a12 :: a13 :: a14 :: a15 :: L) ∧ Dt K B (.ref q) (.tuple ds) ∧ L2.Same H1 B := F.gvt 16 rfl h
theorem Fr.take17 {a0 a1 a2 a3 a4 a5 a6 a7 a8 a9 a10 a11 a12 a13 a14 a15 a16 : Addr × HO} (F : Fr He H0 H1 H (a0 :: a1 :: a2 :: a3 :: a4 :: a5 :: a6 :: a7 :: a8 :: a9 :: a10 :: a11 :: a12 :: a13 :: a14 :: a15 :: a16 :: (q, o) :: L)) (old : ∀ b u, b ≠ q → H b = some u → H' b = some u) (e : H' q = some o') : Fr He H0 H1 H' (a0 :: a1 :: a2 :: a3 :: a4 :: a5 :: a6 :: a7 :: a8 :: a9 :: a10 :: a11 :: a12 :: a13 :: a14 :: a15 :: a16 :: (q, o') :: L) := F.take 17 rfl old e
theorem Fr.put17 {a0 a1 a2 a3 a4 a5 a6 a7 a8 a9 a10 a11 a12 a13 a14 a15 a16 : Addr × HO} (F : Fr He H0 H1 H (a0 :: a1 :: a2 :: a3 :: a4 :: a5 :: a6 :: a7 :: a8 :: a9 :: a10 :: a11 :: a12 :: a13 :: a14 :: a15 :: a16 :: (q, o) :: L)) (hb : ∀ b, b ≠ q → H' b = H b) (hp : H' q = some o') : Fr He H0 H1 H' (a0 :: a1 :: a2 :: a3 :: a4 :: a5 :: a6 :: a7 :: a8 :: a9 :: a10 :: a11 :: a12 :: a13 :: a14 :: a15 :: a16 :: (q, o') :: L) := F.put 17 rfl hb hp
theorem Fr.callP17 {a0 a1 a2 a3 a4 a5 a6 a7 a8 a9 a10 a11 a12 a13 a14 a15 a16 : Addr × HO} (F : Fr He H0 H1 H (a0 :: a1 :: a2 :: a3 :: a4 :: a5 :: a6 :: a7 :: a8 :: a9 :: a10 :: a11 :: a12 :: a13 :: a14 :: a15 :: a16 :: (q, o) :: L)) (G : GrowP q H1 H H2 H') (e : H' q = some o') : Fr He H0 H2 H' (a0 :: a1 :: a2 :: a3 :: a4 :: a5 :: a6 :: a7 :: a8 :: a9 :: a10 :: a11 :: a12 :: a13 :: a14 :: a15 :: a16 :: (q, o') :: L) := F.callP 17 rfl G e
theorem Fr.gen17 {a0 a1 a2 a3 a4 a5 a6 a7 a8 a9 a10 a11 a12 a13 a14 a15 a16 : Addr × HO} (F : Fr He H0 H1 H (a0 :: a1 :: a2 :: a3 :: a4 :: a5 :: a6 :: a7 :: a8 :: a9 :: a10 :: a11 :: a12 :: a13 :: a14 :: a15 :: a16 :: (q, o) :: L)) (n : H l = none) (hl : H' l = some u) (hq : H' q = some o') (hb : ∀ b w, b ≠ q → H b = some w → H' b = some w) : Fr He H0 H1 H' ((l, u) :: a0 :: a1 :: a2 :: a3 :: a4 :: a5 :: a6 :: a7 :: a8 :: a9 :: a10 :: a11 :: a12 :: a13 :: a14 :: a15 :: a16 :: (q, o') :: L) := F.gen 17 rfl n hl hq hb
theorem Fr.drop17 {a0 a1 a2 a3 a4 a5 a6 a7 a8 a9 a10 a11 a12 a13 a14 a15 a16 : Addr × HO} (F : Fr He H0 H1 H (a0 :: a1 :: a2 :: a3 :: a4 :: a5 :: a6 :: a7 :: a8 :: a9 :: a10 :: a11 :: a12 :: a13 :: a14 :: a15 :: a16 :: (q, o) :: L)) : Fr He H0 H1 H (a0 :: a1 :: a2 :: a3 :: a4 :: a5 :: a6 :: a7 :: a8 :: a9 :: a10 :: a11 :: a12 :: a13 :: a14 :: a15 :: a16 :: L) := F.drop 17
theorem Fr.give17 {a0 a1 a2 a3 a4 a5 a6 a7 a8 a9 a10 a11 a12 a13 a14 a15 a16 : Addr × HO} (F : Fr He H0 H1 H (a0 :: a1 :: a2 :: a3 :: a4 :: a5 :: a6 :: a7 :: a8 :: a9 :: a10 :: a11 :: a12 :: a13 :: a14 :: a15 :: a16 :: (q, o) :: L)) : Fr He H0 (L2.upd H1 q o) H (a0 :: a1 :: a2 :: a3 :: a4 :: a5 :: a6 :: a7 :: a8 :: a9 :: a10 :: a11 :: a12 :: a13 :: a14 :: a15 :: a16 :: L) := F.give 17 rfl
theorem Fr.at17 {a0 a1 a2 a3 a4 a5 a6 a7 a8 a9 a10 a11 a12 a13 a14 a15 a16 : Addr × HO} (F : Fr He H0 H1 H (a0 :: a1 :: a2 :: a3 :: a4 :: a5 :: a6 :: a7 :: a8 :: a9 :: a10 :: a11 :: a12 :: a13 :: a14 :: a15 :: a16 :: (q, o) :: L)) : H q = some o := F.at 17 rfl
theorem Fr.n117 {a0 a1 a2 a3 a4 a5 a6 a7 a8 a9 a10 a11 a12 a13 a14 a15 a16 : Addr × HO} (F : Fr He H0 H1 H (a0 :: a1 :: a2 :: a3 :: a4 :: a5 :: a6 :: a7 :: a8 :: a9 :: a10 :: a11 :: a12 :: a13 :: a14 :: a15 :: a16 :: (q, o) :: L)) : H1 q = none := F.n1 17 rfl
theorem Fr.back17 {a0 a1 a2 a3 a4 a5 a6 a7 a8 a9 a10 a11 a12 a13 a14 a15 a16 : Addr × HO} {He' : Hp} (F : Fr (del He' q) H0 H1 H (a0 :: a1 :: a2 :: a3 :: a4 :: a5 :: a6 :: a7 :: a8 :: a9 :: a10 :: a11 :: a12 :: a13 :: a14 :: a15 :: a16 :: (q, o) :: L)) (n : H0 q = none) : GrowP q H0 He' H1 H ∧ H q = some o := ⟨F.back 17 rfl n, F.at 17 rfl⟩
theorem Fr.gvl17 {a0 a1 a2 a3 a4 a5 a6 a7 a8 a9 a10 a11 a12 a13 a14 a15 a16 : Addr × HO} {K : PySem.W.Frag} {xs : List V} {ds : List PyData} (F : Fr He H0 H1 H (a0 :: a1 :: a2 :: a3 :: a4 :: a5 :: a6 :: a7 :: a8 :: a9 :: a10 :: a11 :: a12 :: a13 :: a14 :: a15 :: a16 :: (q, .lst xs) :: L)) (h : DtAll K H1 xs ds) : ∃ B, Fr He H0 B H (a0 :: a1 :: a2 :: a3 :: a4 :: a5 :: a6 :: a7 :: a8 :: a9 :: a10 :: a11 :: a12 :: a13 :: a14 :: a15 :: a16 :: L) ∧ Dt K B (.ref q) (.list ds) ∧ L2.Same H1 B := F.gvl 17 rfl h
theorem Fr.gvt17 {a0 a1 a2 a3 a4 a5 a6 a7 a8 a9 a10 a11 a12 a13 a14 a15 a16 : Addr × HO} {K : PySem.W.Frag} {xs : List V} {ds : List PyData} (F : Fr He H0 H1 H (a0 :: a1 :: a2 :: a3 :: a4 :: a5 :: a6 :: a7 :: a8 :: a9 :: a10 :: a11 :: a12 :: a13 :: a14 :: a15 :: a16 :: (q, .tup xs) :: L)) (h : DtAll K H1 xs ds) : ∃ B, Fr He H0 B H (a0 :: a1 :: a2 :: a3 :: a4 :: a5 :: a6 :: a7 :: a8 :: a9 :: a10 :: a11 :: a12 :: a13 :: a14 :: a15 :: a16 :: L) ∧ Dt K B (.ref q) (.tuple ds) ∧ L2.Same H1 B := F.gvt 17 rfl h
theorem Fr.take18 {a0 a1 a2 a3 a4 a5 a6 a7 a8 a9 a10 a11 a12 a13 a14 a15 a16 a17 : Addr × HO} (F : Fr He H0 H1 H (a0 :: a1 :: a2 :: a3 :: a4 :: a5 :: a6 :: a7 :: a8 :: a9 :: a10 :: a11 :: a12 :: a13 :: a14 :: a15 :: a16 :: a17 :: (q, o) :: L)) (old : ∀ b u, b ≠ q → H b = some u → H' b = some u) (e : H' q = some o') : Fr He H0 H1 H' (a0 :: a1 :: a2 :: a3 :: a4 :: a5 :: a6 :: a7 :: a8 :: a9 :: a10 :: a11 :: a12 :: a13 :: a14 :: a15 :: a16 :: a17 :: (q, o') :: L) := F.take 18 rfl old e
theorem Fr.put18 {a0 a1 a2 a3 a4 a5 a6 a7 a8 a9 a10 a11 a12 a13 a14 a15 a16 a17 : Addr × HO} (F : Fr He H0 H1 H (a0 :: a1 :: a2 :: a3 :: a4 :: a5 :: a6 :: a7 :: a8 :: a9 :: a10 :: a11 :: a12 :: a13 :: a14 :: a15 :: a16 :: a17 :: (q, o) :: L)) (hb : ∀ b, b ≠ q → H' b = H b) (hp : H' q = some o') : Fr He H0 H1 H' (a0 :: a1 :: a2 :: a3 :: a4 :: a5 :: a6 :: a7 :: a8 :: a9 :: a10 :: a11 :: a12 :: a13 :: a14 :: a15 :: a16 :: a17 :: (q, o') :: L) := F.put 18 rfl hb hp
theorem Fr.callP18 {a0 a1 a2 a3 a4 a5 a6 a7 a8 a9 a10 a11 a12 a13 a14 a15 a16 a17 : Addr × HO} (F : Fr He H0 H1 H (a0 :: a1 :: a2 :: a3 :: a4 :: a5 :: a6 :: a7 :: a8 :: a9 :: a10 :: a11 :: a12 :: a13 :: a14 :: a15 :: a16 :: a17 :: (q, o) :: L)) (G : GrowP q H1 H H2 H') (e : H' q = some o') : Fr He H0 H2 H' (a0 :: a1 :: a2 :: a3 :: a4 :: a5 :: a6 :: a7 :: a8 :: a9 :: a10 :: a11 :: a12 :: a13 :: a14 :: a15 :: a16 :: a17 :: (q, o') :: L) := F.callP 18 rfl G e
theorem Fr.gen18 {a0 a1 a2 a3 a4 a5 a6 a7 a8 a9 a10 a11 a12 a13 a14 a15 a16 a17 : Addr × HO} (F : Fr He H0 H1 H (a0 :: a1 :: a2 :: a3 :: a4 :: a5 :: a6 :: a7 :: a8 :: a9 :: a10 :: a11 :: a12 :: a13 :: a14 :: a15 :: a16 :: a17 :: (q, o) :: L)) (n : H l = none) (hl : H' l = some u) (hq : H' q = some o') (hb : ∀ b w, b ≠ q → H b = some w → H' b = some w) : Fr He H0 H1 H' ((l, u) :: a0 :: a1 :: a2 :: a3 :: a4 :: a5 :: a6 :: a7 :: a8 :: a9 :: a10 :: a11 :: a12 :: a13 :: a14 :: a15 :: a16 :: a17 :: (q, o') :: L) := F.gen 18 rfl n hl hq hb
theorem Fr.drop18 {a0 a1 a2 a3 a4 a5 a6 a7 a8 a9 a10 a11 a12 a13 a14 a15 a16 a17 : Addr × HO} (F : Fr He H0 H1 H (a0 :: a1 :: a2 :: a3 :: a4 :: a5 :: a6 :: a7 :: a8 :: a9 :: a10 :: a11 :: a12 :: a13 :: a14 :: a15 :: a16 :: a17 :: (q, o) :: L)) : Fr He H0 H1 H (a0 :: a1 :: a2 :: a3 :: a4 :: a5 :: a6 :: a7 :: a8 :: a9 :: a10 :: a11 :: a12 :: a13 :: a14 :: a15 :: a16 :: a17 :: L) := F.drop 18
theorem Fr.give18 {a0 a1 a2 a3 a4 a5 a6 a7 a8 a9 a10 a11 a12 a13 a14 a15 a16 a17 : Addr × HO} (F : Fr He H0 H1 H (a0 :: a1 :: a2 :: a3 :: a4 :: a5 :: a6 :: a7 :: a8 :: a9 :: a10 :: a11 :: a12 :: a13 :: a14 :: a15 :: a16 :: a17 :: (q, o) :: L)) : Fr He H0 (L2.upd H1 q o) H (a0 :: a1 :: a2 :: a3 :: a4 :: a5 :: a6 :: a7 :: a8 :: a9 :: a10 :: a11 :: a12 :: a13 :: a14 :: a15 :: a16 :: a17 :: L) := F.give 18 rfl
theorem Fr.at18 {a0 a1 a2 a3 a4 a5 a6 a7 a8 a9 a10 a11 a12 a13 a14 a15 a16 a17 : Addr × HO} (F : Fr He H0 H1 H (a0 :: a1 :: a2 :: a3 :: a4 :: a5 :: a6 :: a7 :: a8 :: a9 :: a10 :: a11 :: a12 :: a13 :: a14 :: a15 :: a16 :: a17 :: (q, o) :: L)) : H q = some o := F.at 18 rfl
theorem Fr.n118 {a0 a1 a2 a3 a4 a5 a6 a7 a8 a9 a10 a11 a12 a13 a14 a15 a16 a17 : Addr × HO} (F : Fr He H0 H1 H (a0 :: a1 :: a2 :: a3 :: a4 :: a5 :: a6 :: a7 :: a8 :: a9 :: a10 :: a11 :: a12 :: a13 :: a14 :: a15 :: a16 :: a17 :: (q, o) :: L)) : H1 q = none := F.n1 18 rfl
theorem Fr.back18 {a0 a1 a2 a3 a4 a5 a6 a7 a8 a9 a10 a11 a12 a13 a14 a15 a16 a17 : Addr × HO} {He' : Hp} (F : Fr (del He' q) H0 H1 H (a0 :: a1 :: a2 :: a3 :: a4 :: a5 :: a6 :: a7 :: a8 :: a9 :: a10 :: a11 :: a12 :: a13 :: a14 :: a15 :: a16 :: a17 :: (q, o) :: L)) (n : H0 q = none) : GrowP q H0 He' H1 H ∧ H q = some o := ⟨F.back 18 rfl n, F.at 18 rfl⟩
theorem Fr.gvl18 {a0 a1 a2 a3 a4 a5 a6 a7 a8 a9 a10 a11 a12 a13 a14 a15 a16 a17 : Addr × HO} {K : PySem.W.Frag} {xs : List V} {ds : List PyData} (F : Fr He H0 H1 H (a0 :: a1 :: a2 :: a3 :: a4 :: a5 :: a6 :: a7 :: a8 :: a9 :: a10 :: a11 :: a12 :: a13 :: a14 :: a15 :: a16 :: a17 :: (q, .lst xs) :: L)) (h : DtAll K H1 xs ds) : ∃ B, Fr He H0 B H (a0 :: a1 :: a2 :: a3 :: a4 :: a5 :: a6 :: a7 :: a8 :: a9 :: a10 :: a11 :: a12 :: a13 :: a14 :: a15 :: a16 :: a17 :: L) ∧ Dt K B (.ref q) (.list ds) ∧ L2.Same H1 B := F.gvl 18 rfl h
theorem Fr.gvt18 {a0 a1 a2 a3 a4 a5 a6 a7 a8 a9 a10 a11 a12 a13 a14 a15 a16 a17 : Addr × HO} {K : PySem.W.Frag} {xs : List V} {ds : List PyData} (F : Fr He H0 H1 H (a0 :: a1 :: a2 :: a3 :: a4 :: a5 :: a6 :: a7 :: a8 :: a9 :: a10 :: a11 :: a12 :: a13 :: a14 :: a15 :: a16 :: a17 :: (q, .tup xs) :: L)) (h : DtAll K H1 xs ds) : ∃ B, Fr He H0 B H (a0 :: a1 :: a2 :: a3 :: a4 :: a5 :: a6 :: a7 :: a8 :: a9 :: a10 :: a11 :: a12 :: a13 :: a14 :: a15 :: a16 :: a17 :: L) ∧ Dt K B (.ref q) (.tuple ds) ∧ L2.Same H1 B := F.gvt 18 rfl h
theorem Fr.take19 {a0 a1 a2 a3 a4 a5 a6 a7 a8 a9 a10 a11 a12 a13 a14 a15 a16 a17 a18 : Addr × HO} (F : Fr He H0 H1 H (a0 :: a1 :: a2 :: a3 :: a4 :: a5 :: a6 :: a7 :: a8 :: a9 :: a10 :: a11 :: a12 :: a13 :: a14 :: a15 :: a16 :: a17 :: a18 :: (q, o) :: L)) (old : ∀ b u, b ≠ q → H b = some u → H' b = some u) (e : H' q = some o') : Fr He H0 H1 H' (a0 :: a1 :: a2 :: a3 :: a4 :: a5 :: a6 :: a7 :: a8 :: a9 :: a10 :: a11 :: a12 :: a13 :: a14 :: a15 :: a16 :: a17 :: a18 :: (q, o') :: L) := F.take 19 rfl old e
theorem Fr.put19 {a0 a1 a2 a3 a4 a5 a6 a7 a8 a9 a10 a11 a12 a13 a14 a15 a16 a17 a18 : Addr × HO} (F : Fr He H0 H1 H (a0 :: a1 :: a2 :: a3 :: a4 :: a5 :: a6 :: a7 :: a8 :: a9 :: a10 :: a11 :: a12 :: a13 :: a14 :: a15 :: a16 :: a17 :: a18 :: (q, o) :: L)) (hb : ∀ b, b ≠ q → H' b = H b) (hp : H' q = some o') : Fr He H0 H1 H' (a0 :: a1 :: a2 :: a3 :: a4 :: a5 :: a6 :: a7 :: a8 :: a9 :: a10 :: a11 :: a12 :: a13 :: a14 :: a15 :: a16 :: a17 :: a18 :: (q, o') :: L) := F.put 19 rfl hb hp
theorem Fr.callP19 {a0 a1 a2 a3 a4 a5 a6 a7 a8 a9 a10 a11 a12 a13 a14 a15 a16 a17 a18 : Addr × HO} (F : Fr He H0 H1 H (a0 :: a1 :: a2 :: a3 :: a4 :: a5 :: a6 :: a7 :: a8 :: a9 :: a10 :: a11 :: a12 :: a13 :: a14 :: a15 :: a16 :: a17 :: a18 :: (q, o) :: L)) (G : GrowP q H1 H H2 H') (e : H' q = some o') : Fr He H0 H2 H' (a0 :: a1 :: a2 :: a3 :: a4 :: a5 :: a6 :: a7 :: a8 :: a9 :: a10 :: a11 :: a12 :: a13 :: a14 :: a15 :: a16 :: a17 :: a18 :: (q, o') :: L) := F.callP 19 rfl G e
theorem Fr.gen19 {a0 a1 a2 a3 a4 a5 a6 a7 a8 a9 a10 a11 a12 a13 a14 a15 a16 a17 a18 : Addr × HO} (F : Fr He H0 H1 H (a0 :: a1 :: a2 :: a3 :: a4 :: a5 :: a6 :: a7 :: a8 :: a9 :: a10 :: a11 :: a12 :: a13 :: a14 :: a15 :: a16 :: a17 :: a18 :: (q, o) :: L)) (n : H l = none) (hl : H' l = some u) (hq : H' q = some o') (hb : ∀ b w, b ≠ q → H b = some w → H' b = some w) : Fr He H0 H1 H' ((l, u) :: a0 :: a1 :: a2 :: a3 :: a4 :: a5 :: a6 :: a7 :: a8 :: a9 :: a10 :: a11 :: a12 :: a13 :: a14 :: a15 :: a16 :: a17 :: a18 :: (q, o') :: L) := F.gen 19 rfl n hl hq hb
theorem Fr.drop19 {a0 a1 a2 a3 a4 a5 a6 a7 a8 a9 a10 a11 a12 a13 a14 a15 a16 a17 a18 : Addr × HO} (F : Fr He H0 H1 H (a0 :: a1 :: a2 :: a3 :: a4 :: a5 :: a6 :: a7 :: a8 :: a9 :: a10 :: a11 :: a12 :: a13 :: a14 :: a15 :: a16 :: a17 :: a18 :: (q, o) :: L)) : Fr He H0 H1 H (a0 :: a1 :: a2 :: a3 :: a4 :: a5 :: a6 :: a7 :: a8 :: a9 :: a10 :: a11 :: a12 :: a13 :: a14 :: a15 :: a16 :: a17 :: a18 :: L) := F.drop 19
theorem Fr.give19 {a0 a1 a2 a3 a4 a5 a6 a7 a8 a9 a10 a11 a12 a13 a14 a15 a16 a17 a18 : Addr × HO} (F : Fr He H0 H1 H (a0 :: a1 :: a2 :: a3 :: a4 :: a5 :: a6 :: a7 :: a8 :: a9 :: a10 :: a11 :: a12 :: a13 :: a14 :: a15 :: a16 :: a17 :: a18 :: (q, o) :: L)) : Fr He H0 (L2.upd H1 q o) H (a0 :: a1 :: a2 :: a3 :: a4 :: a5 :: a6 :: a7 :: a8 :: a9 :: a10 :: a11 :: a12 :: a13 :: a14 :: a15 :: a16 :: a17 :: a18 :: L) := F.give 19 rfl
theorem Fr.at19 {a0 a1 a2 a3 a4 a5 a6 a7 a8 a9 a10 a11 a12 a13 a14 a15 a16 a17 a18 : Addr × HO} (F : Fr He H0 H1 H (a0 :: a1 :: a2 :: a3 :: a4 :: a5 :: a6 :: a7 :: a8 :: a9 :: a10 :: a11 :: a12 :: a13 :: a14 :: a15 :: a16 :: a17 :: a18 :: (q, o) :: L)) : H q = some o := F.at 19 rfl
theorem Fr.n119 {a0 a1 a2 a3 a4 a5 a6 a7 a8 a9 a10 a11 a12 a13 a14 a15 a16 a17 a18 : Addr × HO} (F : Fr He H0 H1 H (a0 :: a1 :: a2 :: a3 :: a4 :: a5 :: a6 :: a7 :: a8 :: a9 :: a10 :: a11 :: a12 :: a13 :: a14 :: a15 :: a16 :: a17 :: a18 :: (q, o) :: L)) : H1 q = none := F.n1 19 rfl
theorem Fr.back19 {a0 a1 a2 a3 a4 a5 a6 a7 a8 a9 a10 a11 a12 a13 a14 a15 a16 a17 a18 : Addr × HO} {He' : Hp} (F : Fr (del He' q) H0 H1 H (a0 :: a1 :: a2 :: a3 :: a4 :: a5 :: a6 :: a7 :: a8 :: a9 :: a10 :: a11 :: a12 :: a13 :: a14 :: a15 :: a16 :: a17 :: a18 :: (q, o) :: L)) (n : H0 q = none) : GrowP q H0 He' H1 H ∧ H q = some o := ⟨F.back 19 rfl n, F.at 19 rfl⟩
theorem Fr.gvl19 {a0 a1 a2 a3 a4 a5 a6 a7 a8 a9 a10 a11 a12 a13 a14 a15 a16 a17 a18 : Addr × HO} {K : PySem.W.Frag} {xs : List V} {ds : List PyData} (F : Fr He H0 H1 H (a0 :: a1 :: a2 :: a3 :: a4 :: a5 :: a6 :: a7 :: a8 :: a9 :: a10 :: a11 :: a12 :: a13 :: a14 :: a15 :: a16 :: a17 :: a18 :: (q, .lst xs) :: L)) (h : DtAll K H1 xs ds) : ∃ B, Fr He H0 B H (a0 :: a1 :: a2 :: a3 :: a4 :: a5 :: a6 :: a7 :: a8 :: a9 :: a10 :: a11 :: a12 :: a13 :: a14 :: a15 :: a16 :: a17 :: a18 :: L) ∧ Dt K B (.ref q) (.list ds) ∧ L2.Same H1 B := F.gvl 19 rfl h
theorem Fr.gvt19 {a0 a1 a2 a3 a4 a5 a6 a7 a8 a9 a10 a11 a12 a13 a14 a15 a16 a17 a18 : Addr × HO} {K : PySem.W.Frag} {xs : List V} {ds : List PyData} (F : Fr He H0 H1 H (a0 :: a1 :: a2 :: a3 :: a4 :: a5 :: a6 :: a7 :: a8 :: a9 :: a10 :: a11 :: a12 :: a13 :: a14 :: a15 :: a16 :: a17 :: a18 :: (q, .tup xs) :: L)) (h : DtAll K H1 xs ds) : ∃ B, Fr He H0 B H (a0 :: a1 :: a2 :: a3 :: a4 :: a5 :: a6 :: a7 :: a8 :: a9 :: a10 :: a11 :: a12 :: a13 :: a14 :: a15 :: a16 :: a17 :: a18 :: L) ∧ Dt K B (.ref q) (.tuple ds) ∧ L2.Same H1 B := F.gvt 19 rfl h
theorem Fr.take20 {a0 a1 a2 a3 a4 a5 a6 a7 a8 a9 a10 a11 a12 a13 a14 a15 a16 a17 a18 a19 : Addr × HO} (F : Fr He H0 H1 H (a0 :: a1 :: a2 :: a3 :: a4 :: a5 :: a6 :: a7 :: a8 :: a9 :: a10 :: a11 :: a12 :: a13 :: a14 :: a15 :: a16 :: a17 :: a18 :: a19 :: (q, o) :: L)) (old : ∀ b u, b ≠ q → H b = some u → H' b = some u) (e : H' q = some o') : Fr He H0 H1 H' (a0 :: a1 :: a2 :: a3 :: a4 :: a5 :: a6 :: a7 :: a8 :: a9 :: a10 :: a11 :: a12 :: a13 :: a14 :: a15 :: a16 :: a17 :: a18 :: a19 :: (q, o') :: L) := F.take 20 rfl old e
theorem Fr.put20 {a0 a1 a2 a3 a4 a5 a6 a7 a8 a9 a10 a11 a12 a13 a14 a15 a16 a17 a18 a19 : Addr × HO} (F : Fr He H0 H1 H (a0 :: a1 :: a2 :: a3 :: a4 :: a5 :: a6 :: a7 :: a8 :: a9 :: a10 :: a11 :: a12 :: a13 :: a14 :: a15 :: a16 :: a17 :: a18 :: a19 :: (q, o) :: L)) (hb : ∀ b, b ≠ q → H' b = H b) (hp : H' q = some o') : Fr He H0 H1 H' (a0 :: a1 :: a2 :: a3 :: a4 :: a5 :: a6 :: a7 :: a8 :: a9 :: a10 :: a11 :: a12 :: a13 :: a14 :: a15 :: a16 :: a17 :: a18 :: a19 :: (q, o') :: L) := F.put 20 rfl hb hp
theorem Fr.callP20 {a0 a1 a2 a3 a4 a5 a6 a7 a8 a9 a10 a11 a12 a13 a14 a15 a16 a17 a18 a19 : Addr × HO} (F : Fr He H0 H1 H (a0 :: a1 :: a2 :: a3 :: a4 :: a5 :: a6 :: a7 :: a8 :: a9 :: a10 :: a11 :: a12 :: a13 :: a14 :: a15 :: a16 :: a17 :: a18 :: a19 :: (q, o) :: L)) (G : GrowP q H1 H H2 H') (e : H' q = some o') : Fr He H0 H2 H' (a0 :: a1 :: a2 :: a3 :: a4 :: a5 :: a6 :: a7 :: a8 :: a9 :: a10 :: a11 :: a12 :: a13 :: a14 :: a15 :: a16 :: a17 :: a18 :: a19 :: (q, o') :: L) := F.callP 20 rfl G e
theorem Fr.gen20 {a0 a1 a2 a3 a4 a5 a6 a7 a8 a9 a10 a11 a12 a13 a14 a15 a16 a17 a18 a19 : Addr × HO} (F : Fr He H0 H1 H (a0 :: a1 :: a2 :: a3 :: a4 :: a5 :: a6 :: a7 :: a8 :: a9 :: a10 :: a11 :: a12 :: a13 :: a14 :: a15 :: a16 :: a17 :: a18 :: a19 :: (q, o) :: L)) (n : H l = none) (hl : H' l = some u) (hq : H' q = some o') (hb : ∀ b w, b ≠ q → H b = some w → H' b = some w) : Fr He H0 H1 H' ((l, u) :: a0 :: a1 :: a2 :: a3 :: a4 :: a5 :: a6 :: a7 :: a8 :: a9 :: a10 :: a11 :: a12 :: a13 :: a14 :: a15 :: a16 :: a17 :: a18 :: a19 :: (q, o') :: L) := F.gen 20 rfl n hl hq hb
theorem Fr.drop20 {a0 a1 a2 a3 a4 a5 a6 a7 a8 a9 a10 a11 a12 a13 a14 a15 a16 a17 a18 a19 : Addr × HO} (F : Fr He H0 H1 H (a0 :: a1 :: a2 :: a3 :: a4 :: a5 :: a6 :: a7 :: a8 :: a9 :: a10 :: a11 :: a12 :: a13 :: a14 :: a15 :: a16 :: a17 :: a18 :: a19 :: (q, o) :: L)) : Fr He H0 H1 H (a0 :: a1 :: a2 :: a3 :: a4 :: a5 :: a6 :: a7 :: a8 :: a9 :: a10 :: a11 :: a12 :: a13 :: a14 :: a15 :: a16 :: a17 :: a18 :: a19 :: L) := F.drop 20
theorem Fr.give20 {a0 a1 a2 a3 a4 a5 a6 a7 a8 a9 a10 a11 a12 a13 a14 a15 a16 a17 a18 a19 : Addr × HO} (F : Fr He H0 H1 H (a0 :: a1 :: a2 :: a3 :: a4 :: a5 :: a6 :: a7 :: a8 :: a9 :: a10 :: a11 :: a12 :: a13 :: a14 :: a15 :: a16 :: a17 :: a18 :: a19 :: (q, o) :: L)) : Fr He H0 (L2.upd H1 q o) H (a0 :: a1 :: a2 :: a3 :: a4 :: a5 :: a6 :: a7 :: a8 :: a9 :: a10 :: a11 :: a12 :: a13 :: a14 :: a15 :: a16 :: a17 :: a18 :: a19 :: L) := F.give 20 rfl
theorem Fr.at20 {a0 a1 a2 a3 a4 a5 a6 a7 a8 a9 a10 a11 a12 a13 a14 a15 a16 a17 a18 a19 : Addr × HO} (F : Fr He H0 H1 H (a0 :: a1 :: a2 :: a3 :: a4 :: a5 :: a6 :: a7 :: a8 :: a9 :: a10 :: a11 :: a12 :: a13 :: a14 :: a15 :: a16 :: a17 :: a18 :: a19 :: (q, o) :: L)) : H q = some o := F.at 20 rfl
theorem Fr.n120 {a0 a1 a2 a3 a4 a5 a6 a7 a8 a9 a10 a11 a12 a13 a14 a15 a16 a17 a18 a19 : Addr × HO} (F : Fr He H0 H1 H (a0 :: a1 :: a2 :: a3 :: a4 :: a5 :: a6 :: a7 :: a8 :: a9 :: a10 :: a11 :: a12 :: a13 :: a14 :: a15 :: a16 :: a17 :: a18 :: a19 :: (q, o) :: L)) : H1 q = none := F.n1 20 rfl
theorem Fr.back20 {a0 a1 a2 a3 a4 a5 a6 a7 a8 a9 a10 a11 a12 a13 a14 a15 a16 a17 a18 a19 : Addr × HO} {He' : Hp} (F : Fr (del He' q) H0 H1 H (a0 :: a1 :: a2 :: a3 :: a4 :: a5 :: a6 :: a7 :: a8 :: a9 :: a10 :: a11 :: a12 :: a13 :: a14 :: a15 :: a16 :: a17 :: a18 :: a19 :: (q, o) :: L)) (n : H0 q = none) : GrowP q H0 He' H1 H ∧ H q = some o := ⟨F.back 20 rfl n, F.at 20 rfl⟩
theorem Fr.gvl20 {a0 a1 a2 a3 a4 a5 a6 a7 a8 a9 a10 a11 a12 a13 a14 a15 a16 a17 a18 a19 : Addr × HO} {K : PySem.W.Frag} {xs : List V} {ds : List PyData} (F : Fr He H0 H1 H (a0 :: a1 :: a2 :: a3 :: a4 :: a5 :: a6 :: a7 :: a8 :: a9 :: a10 :: a11 :: a12 :: a13 :: a14 :: a15 :: a16 :: a17 :: a18 :: a19 :: (q, .lst xs) :: L)) (h : DtAll K H1 xs ds) : ∃ B, Fr He H0 B H (a0 :: a1 :: a2 :: a3 :: a4 :: a5 :: a6 :: a7 :: a8 :: a9 :: a10 :: a11 :: a12 :: a13 :: a14 :: a15 :: a16 :: a17 :: a18 :: a19 :: L) ∧ Dt K B (.ref q) (.list ds) ∧ L2.Same H1 B := F.gvl 20 rfl h
theorem Fr.gvt20 {a0 a1 a2 a3 a4 a5 a6 a7 a8 a9 a10 a11 a12 a13 a14 a15 a16 a17 a18 a19 : Addr × HO} {K : PySem.W.Frag} {xs : List V} {ds : List PyData} (F : Fr He H0 H1 H (a0 :: a1 :: a2 :: a3 :: a4 :: a5 :: a6 :: a7 :: a8 :: a9 :: a10 :: a11 :: a12 :: a13 :: a14 :: a15 :: a16 :: a17 :: a18 :: a19 :: (q, .tup xs) :: L)) (h : DtAll K H1 xs ds) : ∃ B, Fr He H0 B H (a0 :: a1 :: a2 :: a3 :: a4 :: a5 :: a6 :: a7 :: a8 :: a9 :: a10 :: a11 :: a12 :: a13 :: a14 :: a15 :: a16 :: a17 :: a18 :: a19 :: L) ∧ Dt K B (.ref q) (.tuple ds) ∧ L2.Same H1 B := F.gvt 20 rfl h
theorem Fr.take21 {a0 a1 a2 a3 a4 a5 a6 a7 a8 a9 a10 a11 a12 a13 a14 a15 a16 a17 a18 a19 a20 : Addr × HO} (F : Fr He H0 H1 H (a0 :: a1 :: a2 :: a3 :: a4 :: a5 :: a6 :: a7 :: a8 :: a9 :: a10 :: a11 :: a12 :: a13 :: a14 :: a15 :: a16 :: a17 :: a18 :: a19 :: a20 :: (q, o) :: L)) (old : ∀ b u, b ≠ q → H b = some u → H' b = some u) (e : H' q = some o') : Fr He H0 H1 H' (a0 :: a1 :: a2 :: a3 :: a4 :: a5 :: a6 :: a7 :: a8 :: a9 :: a10 :: a11 :: a12 :: a13 :: a14 :: a15 :: a16 :: a17 :: a18 :: a19 :: a20 :: (q, o') :: L) := F.take 21 rfl old e
theorem Fr.put21 {a0 a1 a2 a3 a4 a5 a6 a7 a8 a9 a10 a11 a12 a13 a14 a15 a16 a17 a18 a19 a20 : Addr × HO} (F : Fr He H0 H1 H (a0 :: a1 :: a2 :: a3 :: a4 :: a5 :: a6 :: a7 :: a8 :: a9 :: a10 :: a11 :: a12 :: a13 :: a14 :: a15 :: a16 :: a17 :: a18 :: a19 :: a20 :: (q, o) :: L)) (hb : ∀ b, b ≠ q → H' b = H b) (hp : H' q = some o') : Fr He H0 H1 H' (a0 :: a1 :: a2 :: a3 :: a4 :: a5 :: a6 :: a7 :: a8 :: a9 :: a10 :: a11 :: a12 :: a13 :: a14 :: a15 :: a16 :: a17 :: a18 :: a19 :: a20 :: (q, o') :: L) := F.put 21 rfl hb hp
theorem Fr.callP21 {a0 a1 a2 a3 a4 a5 a6 a7 a8 a9 a10 a11 a12 a13 a14 a15 a16 a17 a18 a19 a20 : Addr × HO} (F : Fr He H0 H1 H (a0 :: a1 :: a2 :: a3 :: a4 :: a5 :: a6 :: a7 :: a8 :: a9 :: a10 :: a11 :: a12 :: a13 :: a14 :: a15 :: a16 :: a17 :: a18 :: a19 :: a20 :: (q, o) :: L)) (G : GrowP q H1 H H2 H') (e : H' q = some o') : Fr He H0 H2 H' (a0 :: a1 :: a2 :: a3 :: a4 :: a5 :: a6 :: a7 :: a8 :: a9 :: a10 :: a11 :: a12 :: a13 :: a14 :: a15 :: a16 :: a17 :: a18 :: a19 :: a20 :: (q, o') :: L) := F.callP 21 rfl G e
theorem Fr.gen21 {a0 a1 a2 a3 a4 a5 a6 a7 a8 a9 a10 a11 a12 a13 a14 a15 a16 a17 a18 a19 a20 : Addr × HO} (F : Fr He H0 H1 H (a0 :: a1 :: a2 :: a3 :: a4 :: a5 :: a6 :: a7 :: a8 :: a9 :: a10 :: a11 :: a12 :: a13 :: a14 :: a15 :: a16 :: a17 :: a18 :: a19 :: a20 :: (q, o) :: L)) (n : H l = none) (hl : H' l = some u) (hq : H' q = some o') (hb : ∀ b w, b ≠ q → H b = some w → H' b = some w) : Fr He H0 H1 H' ((l, u) :: a0 :: a1 :: a2 :: a3 :: a4 :: a5 :: a6 :: a7 :: a8 :: a9 :: a10 :: a11 :: a12 :: a13 :: a14 :: a15 :: a16 :: a17 :: a18 :: a19 :: a20 :: (q, o') :: L) := F.gen 21 rfl n hl hq hb
theorem Fr.drop21 {a0 a1 a2 a3 a4 a5 a6 a7 a8 a9 a10 a11 a12 a13 a14 a15 a16 a17 a18 a19 a20 : Addr × HO} (F : Fr He H0 H1 H (a0 :: a1 :: a2 :: a3 :: a4 :: a5 :: a6 :: a7 :: a8 :: a9 :: a10 :: a11 :: a12 :: a13 :: a14 :: a15 :: a16 :: a17 :: a18 :: a19 :: a20 :: (q, o) :: L)) : Fr He H0 H1 H (a0 :: a1 :: a2 :: a3 :: a4 :: a5 :: a6 :: a7 :: a8 :: a9 :: a10 :: a11 :: a12 :: a13 :: a14 :: a15 :: a16 :: a17 :: a18 :: a19 :: a20 :: L) := F.drop 21
theorem Fr.give21 {a0 a1 a2 a3 a4 a5 a6 a7 a8 a9 a10 a11 a12 a13 a14 a15 a16 a17 a18 a19 a20 : Addr × HO} (F : Fr He H0 H1 H (a0 :: a1 :: a2 :: a3 :: a4 :: a5 :: a6 :: a7 :: a8 :: a9 :: a10 :: a11 :: a12 :: a13 :: a14 :: a15 :: a16 :: a17 :: a18 :: a19 :: a20 :: (q, o) :: L)) : Fr He H0 (L2.upd H1 q o) H (a0 :: a1 :: a2 :: a3 :: a4 :: a5 :: a6 :: a7 :: a8 :: a9 :: a10 :: a11 :: a12 :: a13 :: a14 :: a15 :: a16 :: a17 :: a18 :: a19 :: a20 :: L) := F.give 21 rfl
theorem Fr.at21 {a0 a1 a2 a3 a4 a5 a6 a7 a8 a9 a10 a11 a12 a13 a14 a15 a16 a17 a18 a19 a20 : Addr × HO} (F : Fr He H0 H1 H (a0 :: a1 :: a2 :: a3 :: a4 :: a5 :: a6 :: a7 :: a8 :: a9 :: a10 :: a11 :: a12 :: a13 :: a14 :: a15 :: a16 :: a17 :: a18 :: a19 :: a20 :: (q, o) :: L)) : H q = some o := F.at 21 rfl
theorem Fr.n121 {a0 a1 a2 a3 a4 a5 a6 a7 a8 a9 a10 a11 a12 a13 a14 a15 a16 a17 a18 a19 a20 : Addr × HO} (F : Fr He H0 H1 H (a0 :: a1 :: a2 :: a3 :: a4 :: a5 :: a6 :: a7 :: a8 :: a9 :: a10 :: a11 :: a12 :: a13 :: a14 :: a15 :: a16 :: a17 :: a18 :: a19 :: a20 :: (q, o) :: L)) : H1 q = none := F.n1 21 rfl
theorem Fr.back21 {a0 a1 a2 a3 a4 a5 a6 a7 a8 a9 a10 a11 a12 a13 a14 a15 a16 a17 a18 a19 a20 : Addr × HO} {He' : Hp} (F : Fr (del He' q) H0 H1 H (a0 :: a1 :: a2 :: a3 :: a4 :: a5 :: a6 :: a7 :: a8 :: a9 :: a10 :: a11 :: a12 :: a13 :: a14 :: a15 :: a16 :: a17 :: a18 :: a19 :: a20 :: (q, o) :: L)) (n : H0 q = none) : GrowP q H0 He' H1 H ∧ H q = some o := ⟨F.back 21 rfl n, F.at 21 rfl⟩
theorem Fr.gvl21 {a0 a1 a2 a3 a4 a5 a6 a7 a8 a9 a10 a11 a12 a13 a14 a15 a16 a17 a18 a19 a20 : Addr × HO} {K : PySem.W.Frag} {xs : List V} {ds : List PyData} (F : Fr He H0 H1 H (a0 :: a1 :: a2 :: a3 :: a4 :: a5 :: a6 :: a7 :: a8 :: a9 :: a10 :: a11 :: a12 :: a13 :: a14 :: a15 :: a16 :: a17 :: a18 :: a19 :: a20 :: (q, .lst xs) :: L)) (h : DtAll K H1 xs ds) : ∃ B, Fr He H0 B H (a0 :: a1 :: a2 :: a3 :: a4 :: a5 :: a6 :: a7 :: a8 :: a9 :: a10 :: a11 :: a12 :: a13 :: a14 :: a15 :: a16 :: a17 :: a18 :: a19 :: a20 :: L) ∧ Dt K B (.ref q) (.list ds) ∧ L2.Same H1 B := F.gvl 21 rfl h
theorem Fr.gvt21 {a0 a1 a2 a3 a4 a5 a6 a7 a8 a9 a10 a11 a12 a13 a14 a15 a16 a17 a18 a19 a20 : Addr × HO} {K : PySem.W.Frag} {xs : List V} {ds : List PyData} (F : Fr He H0 H1 H (a0 :: a1 :: a2 :: a3 :: a4 :: a5 :: a6 :: a7 :: a8 :: a9 :: a10 :: a11 :: a12 :: a13 :: a14 :: a15 :: a16 :: a17 :: a18 :: a19 :: a20 :: (q, .tup xs) :: L)) (h : DtAll K H1 xs ds) : ∃ B, Fr He H0 B H (a0 :: a1 :: a2 :: a3 :: a4 :: a5 :: a6 :: a7 :: a8 :: a9 :: a10 :: a11 :: a12 :: a13 :: a14 :: a15 :: a16 :: a17 :: a18 :: a19 :: a20 :: L) ∧ Dt K B (.ref q) (.tuple ds) ∧ L2.Same H1 B := F.gvt 21 rfl h
theorem Fr.take22 {a0 a1 a2 a3 a4 a5 a6 a7 a8 a9 a10 a11 a12 a13 a14 a15 a16 a17 a18 a19 a20 a21 : Addr × HO} (F : Fr He H0 H1 H (a0 :: a1 :: a2 :: a3 :: a4 :: a5 :: a6 :: a7 :: a8 :: a9 :: a10 :: a11 :: a12 :: a13 :: a14 :: a15 :: a16 :: a17 :: a18 :: a19 :: a20 :: a21 :: (q, o) :: L)) (old : ∀ b u, b ≠ q → H b = some u → H' b = some u) (e : H' q = some o') : Fr He H0 H1 H' (a0 :: a1 :: a2 :: a3 :: a4 :: a5 :: a6 :: a7 :: a8 :: a9 :: a10 :: a11 :: a12 :: a13 :: a14 :: a15 :: a16 :: a17 :: a18 :: a19 :: a20 :: a21 :: (q, o') :: L) := F.take 22 rfl old e
theorem Fr.put22 {a0 a1 a2 a3 a4 a5 a6 a7 a8 a9 a10 a11 a12 a13 a14 a15 a16 a17 a18 a19 a20 a21 : Addr × HO} (F : Fr He H0 H1 H (a0 :: a1 :: a2 :: a3 :: a4 :: a5 :: a6 :: a7 :: a8 :: a9 :: a10 :: a11 :: a12 :: a13 :: a14 :: a15 :: a16 :: a17 :: a18 :: a19 :: a20 :: a21 :: (q, o) :: L)) (hb : ∀ b, b ≠ q → H' b = H b) (hp : H' q = some o') : Fr He H0 H1 H' (a0 :: a1 :: a2 :: a3 :: a4 :: a5 :: a6 :: a7 :: a8 :: a9 :: a10 :: a11 :: a12 :: a13 :: a14 :: a15 :: a16 :: a17 :: a18 :: a19 :: a20 :: a21 :: (q, o') :: L) := F.put 22 rfl hb hp
theorem Fr.callP22 {a0 a1 a2 a3 a4 a5 a6 a7 a8 a9 a10 a11 a12 a13 a14 a15 a16 a17 a18 a19 a20 a21 : Addr × HO} (F : Fr He H0 H1 H (a0 :: a1 :: a2 :: a3 :: a4 :: a5 :: a6 :: a7 :: a8 :: a9 :: a10 :: a11 :: a12 :: a13 :: a14 :: a15 :: a16 :: a17 :: a18 :: a19 :: a20 :: a21 :: (q, o) :: L)) (G : GrowP q H1 H H2 H') (e : H' q = some o') : Fr He H0 H2 H' (a0 :: a1 :: a2 :: a3 :: a4 :: a5 :: a6 :: a7 :: a8 :: a9 :: a10 :: a11 :: a12 :: a13 :: a14 :: a15 :: a16 :: a17 :: a18 :: a19 :: a20 :: a21 :: (q, o') :: L) := F.callP 22 rfl G e
theorem Fr.gen22 {a0 a1 a2 a3 a4 a5 a6 a7 a8 a9 a10 a11 a12 a13 a14 a15 a16 a17 a18 a19 a20 a21 : Addr × HO} (F : Fr He H0 H1 H (a0 :: a1 :: a2 :: a3 :: a4 :: a5 :: a6 :: a7 :: a8 :: a9 :: a10 :: a11 :: a12 :: a13 :: a14 :: a15 :: a16 :: a17 :: a18 :: a19 :: a20 :: a21 :: (q, o) :: L)) (n : H l = none) (hl : H' l = some u) (hq : H' q = some o') (hb : ∀ b w, b ≠ q → H b = some w → H' b = some w) : Fr He H0 H1 H' ((l, u) :: a0 :: a1 :: a2 :: a3 :: a4 :: a5 :: a6 :: a7 :: a8 :: a9 :: a10 :: a11 :: a12 :: a13 :: a14 :: a15 :: a16 :: a17 :: a18 :: a19 :: a20 :: a21 :: (q, o') :: L) := F.gen 22 rfl n hl hq hb
theorem Fr.drop22 {a0 a1 a2 a3 a4 a5 a6 a7 a8 a9 a10 a11 a12 a13 a14 a15 a16 a17 a18 a19 a20 a21 : Addr × HO} (F : Fr He H0 H1 H (a0 :: a1 :: a2 :: a3 :: a4 :: a5 :: a6 :: a7 :: a8 :: a9 :: a10 :: a11 :: a12 :: a13 :: a14 :: a15 :: a16 :: a17 :: a18 :: a19 :: a20 :: a21 :: (q, o) :: L)) : Fr He H0 H1 H (a0 :: a1 :: a2 :: a3 :: a4 :: a5 :: a6 :: a7 :: a8 :: a9 :: a10 :: a11 :: a12 :: a13 :: a14 :: a15 :: a16 :: a17 :: a18 :: a19 :: a20 :: a21 :: L) := F.drop 22
theorem Fr.give22 {a0 a1 a2 a3 a4 a5 a6 a7 a8 a9 a10 a11 a12 a13 a14 a15 a16 a17 a18 a19 a20 a21 : Addr × HO} (F : Fr He H0 H1 H (a0 :: a1 :: a2 :: a3 :: a4 :: a5 :: a6 :: a7 :: a8 :: a9 :: a10 :: a11 :: a12 :: a13 :: a14 :: a15 :: a16 :: a17 :: a18 :: a19 :: a20 :: a21 :: (q, o) :: L)) : Fr He H0 (L2.upd H1 q o) H (a0 :: a1 :: a2 :: a3 :: a4 :: a5 :: a6 :: a7 :: a8 :: a9 :: a10 :: a11 :: a12 :: a13 :: a14 :: a15 :: a16 :: a17 :: a18 :: a19 :: a20 :: a21 :: L) := F.give 22 rfl
theorem Fr.at22 {a0 a1 a2 a3 a4 a5 a6 a7 a8 a9 a10 a11 a12 a13 a14 a15 a16 a17 a18 a19 a20 a21 : Addr × HO} (F : Fr He H0 H1 H (a0 :: a1 :: a2 :: a3 :: a4 :: a5 :: a6 :: a7 :: a8 :: a9 :: a10 :: a11 :: a12 :: a13 :: a14 :: a15 :: a16 :: a17 :: a18 :: a19 :: a20 :: a21 :: (q, o) :: L)) : H q = some o := F.at 22 rfl
theorem Fr.n122 {a0 a1 a2 a3 a4 a5 a6 a7 a8 a9 a10 a11 a12 a13 a14 a15 a16 a17 a18 a19 a20 a21 : Addr × HO} (F : Fr He H0 H1 H (a0 :: a1 :: a2 :: a3 :: a4 :: a5 :: a6 :: a7 :: a8 :: a9 :: a10 :: a11 :: a12 :: a13 :: a14 :: a15 :: a16 :: a17 :: a18 :: a19 :: a20 :: a21 :: (q, o) :: L)) : H1 q = none := F.n1 22 rfl
theorem Fr.back22 {a0 a1 a2 a3 a4 a5 a6 a7 a8 a9 a10 a11 a12 a13 a14 a15 a16 a17 a18 a19 a20 a21 : Addr × HO} {He' : Hp} (F : Fr (del He' q) H0 H1 H (a0 :: a1 :: a2 :: a3 :: a4 :: a5 :: a6 :: a7 :: a8 :: a9 :: a10 :: a11 :: a12 :: a13 :: a14 :: a15 :: a16 :: a17 :: a18 :: a19 :: a20 :: a21 :: (q, o) :: L)) (n : H0 q = none) : GrowP q H0 He' H1 H ∧ H q = some o := ⟨F.back 22 rfl n, F.at 22 rfl⟩
theorem Fr.gvl22 {a0 a1 a2 a3 a4 a5 a6 a7 a8 a9 a10 a11 a12 a13 a14 a15 a16 a17 a18 a19 a20 a21 : Addr × HO} {K : PySem.W.Frag} {xs : List V} {ds : List PyData} (F : Fr He H0 H1 H (a0 :: a1 :: a2 :: a3 :: a4 :: a5 :: a6 :: a7 :: a8 :: a9 :: a10 :: a11 :: a12 :: a13 :: a14 :: a15 :: a16 :: a17 :: a18 :: a19 :: a20 :: a21 :: (q, .lst xs) :: L)) (h : DtAll K H1 xs ds) : ∃ B, Fr He H0 B H (a0 :: a1 :: a2 :: a3 :: a4 :: a5 :: a6 :: a7 :: a8 :: a9 :: a10 :: a11 :: a12 :: a13 :: a14 :: a15 :: a16 :: a17 :: a18 :: a19 :: a20 :: a21 :: L) ∧ Dt K B (.ref q) (.list ds) ∧ L2.Same H1 B := F.gvl 22 rfl h
theorem Fr.gvt22 {a0 a1 a2 a3 a4 a5 a6 a7 a8 a9 a10 a11 a12 a13 a14 a15 a16 a17 a18 a19 a20 a21 : Addr × HO} {K : PySem.W.Frag} {xs : List V} {ds : List PyData} (F : Fr He H0 H1 H (a0 :: a1 :: a2 :: a3 :: a4 :: a5 :: a6 :: a7 :: a8 :: a9 :: a10 :: a11 :: a12 :: a13 :: a14 :: a15 :: a16 :: a17 :: a18 :: a19 :: a20 :: a21 :: (q, .tup xs) :: L)) (h : DtAll K H1 xs ds) : ∃ B, Fr He H0 B H (a0 :: a1 :: a2 :: a3 :: a4 :: a5 :: a6 :: a7 :: a8 :: a9 :: a10 :: a11 :: a12 :: a13 :: a14 :: a15 :: a16 :: a17 :: a18 :: a19 :: a20 :: a21 :: L) ∧ Dt K B (.ref q) (.tuple ds) ∧ L2.Same H1 B := F.gvt 22 rfl h
theorem Fr.take23 {a0 a1 a2 a3 a4 a5 a6 a7 a8 a9 a10 a11 a12 a13 a14 a15 a16 a17 a18 a19 a20 a21 a22 : Addr × HO} (F : Fr He H0 H1 H (a0 :: a1 :: a2 :: a3 :: a4 :: a5 :: a6 :: a7 :: a8 :: a9 :: a10 :: a11 :: a12 :: a13 :: a14 :: a15 :: a16 :: a17 :: a18 :: a19 :: a20 :: a21 :: a22 :: (q, o) :: L)) (old : ∀ b u, b ≠ q → H b = some u → H' b = some u) (e : H' q = some o') : Fr He H0 H1 H' (a0 :: a1 :: a2 :: a3 :: a4 :: a5 :: a6 :: a7 :: a8 :: a9 :: a10 :: a11 :: a12 :: a13 :: a14 :: a15 :: a16 :: a17 :: a18 :: a19 :: a20 :: a21 :: a22 :: (q, o') :: L) := F.take 23 rfl old e
theorem Fr.put23 {a0 a1 a2 a3 a4 a5 a6 a7 a8 a9 a10 a11 a12 a13 a14 a15 a16 a17 a18 a19 a20 a21 a22 : Addr × HO} (F : Fr He H0 H1 H (a0 :: a1 :: a2 :: a3 :: a4 :: a5 :: a6 :: a7 :: a8 :: a9 :: a10 :: a11 :: a12 :: a13 :: a14 :: a15 :: a16 :: a17 :: a18 :: a19 :: a20 :: a21 :: a22 :: (q, o) :: L)) (hb : ∀ b, b ≠ q → H' b = H b) (hp : H' q = some o') : Fr He H0 H1 H' (a0 :: a1 :: a2 :: a3 :: a4 :: a5 :: a6 :: a7 :: a8 :: a9 :: a10 :: a11 :: a12 :: a13 :: a14 :: a15 :: a16 :: a17 :: a18 :: a19 :: a20 :: a21 :: a22 :: (q, o') :: L) := F.put 23 rfl hb hp
theorem Fr.callP23 {a0 a1 a2 a3 a4 a5 a6 a7 a8 a9 a10 a11 a12 a13 a14 a15 a16 a17 a18 a19 a20 a21 a22 : Addr × HO} (F : Fr He H0 H1 H (a0 :: a1 :: a2 :: a3 :: a4 :: a5 :: a6 :: a7 :: a8 :: a9 :: a10 :: a11 :: a12 :: a13 :: a14 :: a15 :: a16 :: a17 :: a18 :: a19 :: a20 :: a21 :: a22 :: (q, o) :: L)) (G : GrowP q H1 H H2 H') (e : H' q = some o') : Fr He H0 H2 H' (a0 :: a1 :: a2 :: a3 :: a4 :: a5 :: a6 :: a7 :: a8 :: a9 :: a10 :: a11 :: a12 :: a13 :: a14 :: a15 :: a16 :: a17 :: a18 :: a19 :: a20 :: a21 :: a22 :: (q, o') :: L) := F.callP 23 rfl G e
theorem Fr.gen23 {a0 a1 a2 a3 a4 a5 a6 a7 a8 a9 a10 a11 a12 a13 a14 a15 a16 a17 a18 a19 a20 a21 a22 : Addr × HO} (F : Fr He H0 H1 H (a0 :: a1 :: a2 :: a3 :: a4 :: a5 :: a6 :: a7 :: a8 :: a9 :: a10 :: a11 :: a12 :: a13 :: a14 :: a15 :: a16 :: a17 :: a18 :: a19 :: a20 :: a21 :: a22 :: (q, o) :: L)) (n : H l = none) (hl : H' l = some u) (hq : H' q = some o') (hb : ∀ b w, b ≠ q → H b = some w → H' b = some w) : Fr He H0 H1 H' ((l, u) :: a0 :: a1 :: a2 :: a3 :: a4 :: a5 :: a6 :: a7 :: a8 :: a9 :: a10 :: a11 :: a12 :: a13 :: a14 :: a15 :: a16 :: a17 :: a18 :: a19 :: a20 :: a21 :: a22 :: (q, o') :: L) := F.gen 23 rfl n hl hq hb
theorem Fr.drop23 {a0 a1 a2 a3 a4 a5 a6 a7 a8 a9 a10 a11 a12 a13 a14 a15 a16 a17 a18 a19 a20 a21 a22 : Addr × HO} (F : Fr He H0 H1 H (a0 :: a1 :: a2 :: a3 :: a4 :: a5 :: a6 :: a7 :: a8 :: a9 :: a10 :: a11 :: a12 :: a13 :: a14 :: a15 :: a16 :: a17 :: a18 :: a19 :: a20 :: a21 :: a22 :: (q, o) :: L)) : Fr He H0 H1 H (a0 :: a1 :: a2 :: a3 :: a4 :: a5 :: a6 :: a7 :: a8 :: a9 :: a10 :: a11 :: a12 :: a13 :: a14 :: a15 :: a16 :: a17 :: a18 :: a19 :: a20 :: a21 :: a22 :: L) := F.drop 23
theorem Fr.give23 {a0 a1 a2 a3 a4 a5 a6 a7 a8 a9 a10 a11 a12 a13 a14 a15 a16 a17 a18 a19 a20 a21 a22 : Addr × HO} (F : Fr He H0 H1 H (a0 :: a1 :: a2 :: a3 :: a4 :: a5 :: a6 :: a7 :: a8 :: a9 :: a10 :: a11 :: a12 :: a13 :: a14 :: a15 :: a16 :: a17 :: a18 :: a19 :: a20 :: a21 :: a22 :: (q, o) :: L)) : Fr He H0 (L2.upd H1 q o) H (a0 :: a1 :: a2 :: a3 :: a4 :: a5 :: a6 :: a7 :: a8 :: a9 :: a10 :: a11 :: a12 :: a13 :: a14 :: a15 :: a16 :: a17 :: a18 :: a19 :: a20 :: a21 :: a22 :: L) := F.give 23 rfl
theorem Fr.at23 {a0 a1 a2 a3 a4 a5 a6 a7 a8 a9 a10 a11 a12 a13 a14 a15 a16 a17 a18 a19 a20 a21 a22 : Addr × HO} (F : Fr He H0 H1 H (a0 :: a1 :: a2 :: a3 :: a4 :: a5 :: a6 :: a7 :: a8 :: a9 :: a10 :: a11 :: a12 :: a13 :: a14 :: a15 :: a16 :: a17 :: a18 :: a19 :: a20 :: a21 :: a22 :: (q, o) :: L)) : H q = some o := F.at 23 rfl
theorem Fr.n123 {a0 a1 a2 a3 a4 a5 a6 a7 a8 a9 a10 a11 a12 a13 a14 a15 a16 a17 a18 a19 a20 a21 a22 : Addr × HO} (F : Fr He H0 H1 H (a0 :: a1 :: a2 :: a3 :: a4 :: a5 :: a6 :: a7 :: a8 :: a9 :: a10 :: a11 :: a12 :: a13 :: a14 :: a15 :: a16 :: a17 :: a18 :: a19 :: a20 :: a21 :: a22 :: (q, o) :: L)) : H1 q = none := F.n1 23 rfl
theorem Fr.back23 {a0 a1 a2 a3 a4 a5 a6 a7 a8 a9 a10 a11 a12 a13 a14 a15 a16 a17 a18 a19 a20 a21 a22 : Addr × HO} {He' : Hp} (F : Fr (del He' q) H0 H1 H (a0 :: a1 :: a2 :: a3 :: a4 :: a5 :: a6 :: a7 :: a8 :: a9 :: a10 :: a11 :: a12 :: a13 :: a14 :: a15 :: a16 :: a17 :: a18 :: a19 :: a20 :: a21 :: a22 :: (q, o) :: L)) (n : H0 q = none) : GrowP q H0 He' H1 H ∧ H q = some o := ⟨F.back 23 rfl n, F.at 23 rfl⟩
theorem Fr.gvl23 {a0 a1 a2 a3 a4 a5 a6 a7 a8 a9 a10 a11 a12 a13 a14 a15 a16 a17 a18 a19 a20 a21 a22 : Addr × HO} {K : PySem.W.Frag} {xs : List V} {ds : List PyData} (F : Fr He H0 H1 H (a0 :: a1 :: a2 :: a3 :: a4 :: a5 :: a6 :: a7 :: a8 :: a9 :: a10 :: a11 :: a12 :: a13 :: a14 :: a15 :: a16 :: a17 :: a18 :: a19 :: a20 :: a21 :: a22 :: (q, .lst xs) :: L)) (h : DtAll K H1 xs ds) : ∃ B, Fr He H0 B H (a0 :: a1 :: a2 :: a3 :: a4 :: a5 :: a6 :: a7 :: a8 :: a9 :: a10 :: a11 :: a12 :: a13 :: a14 :: a15 :: a16 :: a17 :: a18 :: a19 :: a20 :: a21 :: a22 :: L) ∧ Dt K B (.ref q) (.list ds) ∧ L2.Same H1 B := F.gvl 23 rfl h
theorem Fr.gvt23 {a0 a1 a2 a3 a4 a5 a6 a7 a8 a9 a10 a11 a12 a13 a14 a15 a16 a17 a18 a19 a20 a21 a22 : Addr × HO} {K : PySem.W.Frag} {xs : List V} {ds : List PyData} (F : Fr He H0 H1 H (a0 :: a1 :: a2 :: a3 :: a4 :: a5 :: a6 :: a7 :: a8 :: a9 :: a10 :: a11 :: a12 :: a13 :: a14 :: a15 :: a16 :: a17 :: a18 :: a19 :: a20 :: a21 :: a22 :: (q, .tup xs) :: L)) (h : DtAll K H1 xs ds) : ∃ B, Fr He H0 B H (a0 :: a1 :: a2 :: a3 :: a4 :: a5 :: a6 :: a7 :: a8 :: a9 :: a10 :: a11 :: a12 :: a13 :: a14 :: a15 :: a16 :: a17 :: a18 :: a19 :: a20 :: a21 :: a22 :: L) ∧ Dt K B (.ref q) (.tuple ds) ∧ L2.Same H1 B := F.gvt 23 rfl h
theorem Fr.take24 {a0 a1 a2 a3 a4 a5 a6 a7 a8 a9 a10 a11 a12 a13 a14 a15 a16 a17 a18 a19 a20 a21 a22 a23 : Addr × HO} (F : Fr He H0 H1 H (a0 :: a1 :: a2 :: a3 :: a4 :: a5 :: a6 :: a7 :: a8 :: a9 :: a10 :: a11 :: a12 :: a13 :: a14 :: a15 :: a16 :: a17 :: a18 :: a19 :: a20 :: a21 :: a22 :: a23 :: (q, o) :: L)) (old : ∀ b u, b ≠ q → H b = some u → H' b = some u) (e : H' q = some o') : Fr He H0 H1 H' (a0 :: a1 :: a2 :: a3 :: a4 :: a5 :: a6 :: a7 :: a8 :: a9 :: a10 :: a11 :: a12 :: a13 :: a14 :: a15 :: a16 :: a17 :: a18 :: a19 :: a20 :: a21 :: a22 :: a23 :: (q, o') :: L) := F.take 24 rfl old e
theorem Fr.put24 {a0 a1 a2 a3 a4 a5 a6 a7 a8 a9 a10 a11 a12 a13 a14 a15 a16 a17 a18 a19 a20 a21 a22 a23 : Addr × HO} (F : Fr He H0 H1 H (a0 :: a1 :: a2 :: a3 :: a4 :: a5 :: a6 :: a7 :: a8 :: a9 :: a10 :: a11 :: a12 :: a13 :: a14 :: a15 :: a16 :: a17 :: a18 :: a19 :: a20 :: a21 :: a22 :: a23 :: (q, o) :: L)) (hb : ∀ b, b ≠ q → H' b = H b) (hp : H' q = some o') : Fr He H0 H1 H' (a0 :: a1 :: a2 :: a3 :: a4 :: a5 :: a6 :: a7 :: a8 :: a9 :: a10 :: a11 :: a12 :: a13 :: a14 :: a15 :: a16 :: a17 :: a18 :: a19 :: a20 :: a21 :: a22 :: a23 :: (q, o') :: L) := F.put 24 rfl hb hp
theorem Fr.callP24 {a0 a1 a2 a3 a4 a5 a6 a7 a8 a9 a10 a11 a12 a13 a14 a15 a16 a17 a18 a19 a20 a21 a22 a23 : Addr × HO} (F : Fr He H0 H1 H (a0 :: a1 :: a2 :: a3 :: a4 :: a5 :: a6 :: a7 :: a8 :: a9 :: a10 :: a11 :: a12 :: a13 :: a14 :: a15 :: a16 :: a17 :: a18 :: a19 :: a20 :: a21 :: a22 :: a23 :: (q, o) :: L)) (G : GrowP q H1 H H2 H') (e : H' q = some o') : Fr He H0 H2 H' (a0 :: a1 :: a2 :: a3 :: a4 :: a5 :: a6 :: a7 :: a8 :: a9 :: a10 :: a11 :: a12 :: a13 :: a14 :: a15 :: a16 :: a17 :: a18 :: a19 :: a20 :: a21 :: a22 :: a23 :: (q, o') :: L) := F.callP 24 rfl G e
theorem Fr.gen24 {a0 a1 a2 a3 a4 a5 a6 a7 a8 a9 a10 a11 a12 a13 a14 a15 a16 a17 a18 a19 a20 a21 a22 a23 : Addr × HO} (F : Fr He H0 H1 H (a0 :: a1 :: a2 :: a3 :: a4 :: a5 :: a6 :: a7 :: a8 :: a9 :: a10 :: a11 :: a12 :: a13 :: a14 :: a15 :: a16 :: a17 :: a18 :: a19 :: a20 :: a21 :: a22 :: a23 :: (q, o) :: L)) (n : H l = none) (hl : H' l = some u) (hq : H' q = some o') (hb : ∀ b w, b ≠ q → H b = some w → H' b = some w) : Fr He H0 H1 H' ((l, u) :: a0 :: a1 :: a2 :: a3 :: a4 :: a5 :: a6 :: a7 :: a8 :: a9 :: a10 :: a11 :: a12 :: a13 :: a14 :: a15 :: a16 :: a17 :: a18 :: a19 :: a20 :: a21 :: a22 :: a23 :: (q, o') :: L) := F.gen 24 rfl n hl hq hb
theorem Fr.drop24 {a0 a1 a2 a3 a4 a5 a6 a7 a8 a9 a10 a11 a12 a13 a14 a15 a16 a17 a18 a19 a20 a21 a22 a23 : Addr × HO} (F : Fr He H0 H1 H (a0 :: a1 :: a2 :: a3 :: a4 :: a5 :: a6 :: a7 :: a8 :: a9 :: a10 :: a11 :: a12 :: a13 :: a14 :: a15 :: a16 :: a17 :: a18 :: a19 :: a20 :: a21 :: a22 :: a23 :: (q, o) :: L)) : Fr He H0 H1 H (a0 :: a1 :: a2 :: a3 :: a4 :: a5 :: a6 :: a7 :: a8 :: a9 :: a10 :: a11 :: a12 :: a13 :: a14 :: a15 :: a16 :: a17 :: a18 :: a19 :: a20 :: a21 :: a22 :: a23 :: L) := F.drop 24
theorem Fr.give24 {a0 a1 a2 a3 a4 a5 a6 a7 a8 a9 a10 a11 a12 a13 a14 a15 a16 a17 a18 a19 a20 a21 a22 a23 : Addr × HO} (F : Fr He H0 H1 H (a0 :: a1 :: a2 :: a3 :: a4 :: a5 :: a6 :: a7 :: a8 :: a9 :: a10 :: a11 :: a12 :: a13 :: a14 :: a15 :: a16 :: a17 :: a18 :: a19 :: a20 :: a21 :: a22 :: a23 :: (q, o) :: L)) : Fr He H0 (L2.upd H1 q o) H (a0 :: a1 :: a2 :: a3 :: a4 :: a5 :: a6 :: a7 :: a8 :: a9 :: a10 :: a11 :: a12 :: a13 :: a14 :: a15 :: a16 :: a17 :: a18 :: a19 :: a20 :: a21 :: a22 :: a23 :: L) := F.give 24 rfl
theorem Fr.at24 {a0 a1 a2 a3 a4 a5 a6 a7 a8 a9 a10 a11 a12 a13 a14 a15 a16 a17 a18 a19 a20 a21 a22 a23 : Addr × HO} (F : Fr He H0 H1 H (a0 :: a1 :: a2 :: a3 :: a4 :: a5 :: a6 :: a7 :: a8 :: a9 :: a10 :: a11 :: a12 :: a13 :: a14 :: a15 :: a16 :: a17 :: a18 :: a19 :: a20 :: a21 :: a22 :: a23 :: (q, o) :: L)) : H q = some o := F.at 24 rfl
theorem Fr.n124 {a0 a1 a2 a3 a4 a5 a6 a7 a8 a9 a10 a11 a12 a13 a14 a15 a16 a17 a18 a19 a20 a21 a22 a23 : Addr × HO} (F : Fr He H0 H1 H (a0 :: a1 :: a2 :: a3 :: a4 :: a5 :: a6 :: a7 :: a8 :: a9 :: a10 :: a11 :: a12 :: a13 :: a14 :: a15 :: a16 :: a17 :: a18 :: a19 :: a20 :: a21 :: a22 :: a23 :: (q, o) :: L)) : H1 q = none := F.n1 24 rfl
theorem Fr.back24 {a0 a1 a2 a3 a4 a5 a6 a7 a8 a9 a10 a11 a12 a13 a14 a15 a16 a17 a18 a19 a20 a21 a22 a23 : Addr × HO} {He' : Hp} (F : Fr (del He' q) H0 H1 H (a0 :: a1 :: a2 :: a3 :: a4 :: a5 :: a6 :: a7 :: a8 :: a9 :: a10 :: a11 :: a12 :: a13 :: a14 :: a15 :: a16 :: a17 :: a18 :: a19 :: a20 :: a21 :: a22 :: a23 :: (q, o) :: L)) (n : H0 q = none) : GrowP q H0 He' H1 H ∧ H q = some o := ⟨F.back 24 rfl n, F.at 24 rfl⟩
theorem Fr.gvl24 {a0 a1 a2 a3 a4 a5 a6 a7 a8 a9 a10 a11 a12 a13 a14 a15 a16 a17 a18 a19 a20 a21 a22 a23 : Addr × HO} {K : PySem.W.Frag} {xs : List V} {ds : List PyData} (F : Fr He H0 H1 H (a0 :: a1 :: a2 :: a3 :: a4 :: a5 :: a6 :: a7 :: a8 :: a9 :: a10 :: a11 :: a12 :: a13 :: a14 :: a15 :: a16 :: a17 :: a18 :: a19 :: a20 :: a21 :: a22 :: a23 :: (q, .lst xs) :: L)) (h : DtAll K H1 xs ds) : ∃ B, Fr He H0 B H (a0 :: a1 :: a2 :: a3 :: a4 :: a5 :: a6 :: a7 :: a8 :: a9 :: a10 :: a11 :: a12 :: a13 :: a14 :: a15 :: a16 :: a17 :: a18 :: a19 :: a20 :: a21 :: a22 :: a23 :: L) ∧ Dt K B (.ref q) (.list ds) ∧ L2.Same H1 B := F.gvl 24 rfl h
theorem Fr.gvt24 {a0 a1 a2 a3 a4 a5 a6 a7 a8 a9 a10 a11 a12 a13 a14 a15 a16 a17 a18 a19 a20 a21 a22 a23 : Addr × HO} {K : PySem.W.Frag} {xs : List V} {ds : List PyData} (F : Fr He H0 H1 H (a0 :: a1 :: a2 :: a3 :: a4 :: a5 :: a6 :: a7 :: a8 :: a9 :: a10 :: a11 :: a12 :: a13 :: a14 :: a15 :: a16 :: a17 :: a18 :: a19 :: a20 :: a21 :: a22 :: a23 :: (q, .tup xs) :: L)) (h : DtAll K H1 xs ds) : ∃ B, Fr He H0 B H (a0 :: a1 :: a2 :: a3 :: a4 :: a5 :: a6 :: a7 :: a8 :: a9 :: a10 :: a11 :: a12 :: a13 :: a14 :: a15 :: a16 :: a17 :: a18 :: a19 :: a20 :: a21 :: a22 :: a23 :: L) ∧ Dt K B (.ref q) (.tuple ds) ∧ L2.Same H1 B := F.gvt 24 rfl h
theorem Fr.take25 {a0 a1 a2 a3 a4 a5 a6 a7 a8 a9 a10 a11 a12 a13 a14 a15 a16 a17 a18 a19 a20 a21 a22 a23 a24 : Addr × HO} (F : Fr He H0 H1 H (a0 :: a1 :: a2 :: a3 :: a4 :: a5 :: a6 :: a7 :: a8 :: a9 :: a10 :: a11 :: a12 :: a13 :: a14 :: a15 :: a16 :: a17 :: a18 :: a19 :: a20 :: a21 :: a22 :: a23 :: a24 :: (q, o) :: L)) (old : ∀ b u, b ≠ q → H b = some u → H' b = some u) (e : H' q = some o') : Fr He H0 H1 H' (a0 :: a1 :: a2 :: a3 :: a4 :: a5 :: a6 :: a7 :: a8 :: a9 :: a10 :: a11 :: a12 :: a13 :: a14 :: a15 :: a16 :: a17 :: a18 :: a19 :: a20 :: a21 :: a22 :: a23 :: a24 :: (q, o') :: L) := F.take 25 rfl old e
theorem Fr.put25 {a0 a1 a2 a3 a4 a5 a6 a7 a8 a9 a10 a11 a12 a13 a14 a15 a16 a17 a18 a19 a20 a21 a22 a23 a24 : Addr × HO} (F : Fr He H0 H1 H (a0 :: a1 :: a2 :: a3 :: a4 :: a5 :: a6 :: a7 :: a8 :: a9 :: a10 :: a11 :: a12 :: a13 :: a14 :: a15 :: a16 :: a17 :: a18 :: a19 :: a20 :: a21 :: a22 :: a23 :: a24 :: (q, o) :: L)) (hb : ∀ b, b ≠ q → H' b = H b) (hp : H' q = some o') : Fr He H0 H1 H' (a0 :: a1 :: a2 :: a3 :: a4 :: a5 :: a6 :: a7 :: a8 :: a9 :: a10 :: a11 :: a12 :: a13 :: a14 :: a15 :: a16 :: a17 :: a18 :: a19 :: a20 :: a21 :: a22 :: a23 :: a24 :: (q, o') :: L) := F.put 25 rfl hb hp
theorem Fr.callP25 {a0 a1 a2 a3 a4 a5 a6 a7 a8 a9 a10 a11 a12 a13 a14 a15 a16 a17 a18 a19 a20 a21 a22 a23 a24 : Addr × HO} (F : Fr He H0 H1 H (a0 :: a1 :: a2 :: a3 :: a4 :: a5 :: a6 :: a7 :: a8 :: a9 :: a10 :: a11 :: a12 :: a13 :: a14 :: a15 :: a16 :: a17 :: a18 :: a19 :: a20 :: a21 :: a22 :: a23 :: a24 :: (q, o) :: L)) (G : GrowP q H1 H H2 H') (e : H' q = some o') : Fr He H0 H2 H' (a0 :: a1 :: a2 :: a3 :: a4 :: a5 :: a6 :: a7 :: a8 :: a9 :: a10 :: a11 :: a12 :: a13 :: a14 :: a15 :: a16 :: a17 :: a18 :: a19 :: a20 :: a21 :: a22 :: a23 :: a24 :: (q, o') :: L) := F.callP 25 rfl G e
theorem Fr.gen25 {a0 a1 a2 a3 a4 a5 a6 a7 a8 a9 a10 a11 a12 a13 a14 a15 a16 a17 a18 a19 a20 a21 a22 a23 a24 : Addr × HO} (F : Fr He H0 H1 H (a0 :: a1 :: a2 :: a3 :: a4 :: a5 :: a6 :: a7 :: a8 :: a9 :: a10 :: a11 :: a12 :: a13 :: a14 :: a15 :: a16 :: a17 :: a18 :: a19 :: a20 :: a21 :: a22 :: a23 :: a24 :: (q, o) :: L)) (n : H l = none) (hl : H' l = some u) (hq : H' q = some o') (hb : ∀ b w, b ≠ q → H b = some w → H' b = some w) : Fr He H0 H1 H' ((l, u) :: a0 :: a1 :: a2 :: a3 :: a4 :: a5 :: a6 :: a7 :: a8 :: a9 :: a10 :: a11 :: a12 :: a13 :: a14 :: a15 :: a16 :: a17 :: a18 :: a19 :: a20 :: a21 :: a22 :: a23 :: a24 :: (q, o') :: L) := F.gen 25 rfl n hl hq hb
theorem Fr.drop25 {a0 a1 a2 a3 a4 a5 a6 a7 a8 a9 a10 a11 a12 a13 a14 a15 a16 a17 a18 a19 a20 a21 a22 a23 a24 : Addr × HO} (F : Fr He H0 H1 H (a0 :: a1 :: a2 :: a3 :: a4 :: a5 :: a6 :: a7 :: a8 :: a9 :: a10 :: a11 :: a12 :: a13 :: a14 :: a15 :: a16 :: a17 :: a18 :: a19 :: a20 :: a21 :: a22 :: a23 :: a24 :: (q, o) :: L)) : Fr He H0 H1 H (a0 :: a1 :: a2 :: a3 :: a4 :: a5 :: a6 :: a7 :: a8 :: a9 :: a10 :: a11 :: a12 :: a13 :: a14 :: a15 :: a16 :: a17 :: a18 :: a19 :: a20 :: a21 :: a22 :: a23 :: a24 :: L) := F.drop 25
theorem Fr.give25 {a0 a1 a2 a3 a4 a5 a6 a7 a8 a9 a10 a11 a12 a13 a14 a15 a16 a17 a18 a19 a20 a21 a22 a23 a24 : Addr × HO} (F : Fr He H0 H1 H (a0 :: a1 :: a2 :: a3 :: a4 :: a5 :: a6 :: a7 :: a8 :: a9 :: a10 :: a11 :: a12 :: a13 :: a14 :: a15 :: a16 :: a17 :: a18 :: a19 :: a20 :: a21 :: a22 :: a23 :: a24 :: (q, o) :: L)) : Fr He H0 (L2.upd H1 q o) H (a0 :: a1 :: a2 :: a3 :: a4 :: a5 :: a6 :: a7 :: a8 :: a9 :: a10 :: a11 :: a12 :: a13 :: a14 :: a15 :: a16 :: a17 :: a18 :: a19 :: a20 :: a21 :: a22 :: a23 :: a24 :: L) := F.give 25 rfl
theorem Fr.at25 {a0 a1 a2 a3 a4 a5 a6 a7 a8 a9 a10 a11 a12 a13 a14 a15 a16 a17 a18 a19 a20 a21 a22 a23 a24 : Addr × HO} (F : Fr He H0 H1 H (a0 :: a1 :: a2 :: a3 :: a4 :: a5 :: a6 :: a7 :: a8 :: a9 :: a10 :: a11 :: a12 :: a13 :: a14 :: a15 :: a16 :: a17 :: a18 :: a19 :: a20 :: a21 :: a22 :: a23 :: a24 :: (q, o) :: L)) : H q = some o := F.at 25 rfl
theorem Fr.n125 {a0 a1 a2 a3 a4 a5 a6 a7 a8 a9 a10 a11 a12 a13 a14 a15 a16 a17 a18 a19 a20 a21 a22 a23 a24 : Addr × HO} (F : Fr He H0 H1 H (a0 :: a1 :: a2 :: a3 :: a4 :: a5 :: a6 :: a7 :: a8 :: a9 :: a10 :: a11 :: a12 :: a13 :: a14 :: a15 :: a16 :: a17 :: a18 :: a19 :: a20 :: a21 :: a22 :: a23 :: a24 :: (q, o) :: L)) : H1 q = none := F.n1 25 rfl
theorem Fr.back25 {a0 a1 a2 a3 a4 a5 a6 a7 a8 a9 a10 a11 a12 a13 a14 a15 a16 a17 a18 a19 a20 a21 a22 a23 a24 : Addr × HO} {He' : Hp} (F : Fr (del He' q) H0 H1 H (a0 :: a1 :: a2 :: a3 :: a4 :: a5 :: a6 :: a7 :: a8 :: a9 :: a10 :: a11 :: a12 :: a13 :: a14 :: a15 :: a16 :: a17 :: a18 :: a19 :: a20 :: a21 :: a22 :: a23 :: a24 :: (q, o) :: L)) (n : H0 q = none) : GrowP q H0 He' H1 H ∧ H q = some o := ⟨F.back 25 rfl n, F.at 25 rfl⟩
theorem Fr.gvl25 {a0 a1 a2 a3 a4 a5 a6 a7 a8 a9 a10 a11 a12 a13 a14 a15 a16 a17 a18 a19 a20 a21 a22 a23 a24 : Addr × HO} {K : PySem.W.Frag} {xs : List V} {ds : List PyData} (F : Fr He H0 H1 H (a0 :: a1 :: a2 :: a3 :: a4 :: a5 :: a6 :: a7 :: a8 :: a9 :: a10 :: a11 :: a12 :: a13 :: a14 :: a15 :: a16 :: a17 :: a18 :: a19 :: a20 :: a21 :: a22 :: a23 :: a24 :: (q, .lst xs) :: L)) (h : DtAll K H1 xs ds) : ∃ B, Fr He H0 B H (a0 :: a1 :: a2 :: a3 :: a4 :: a5 :: a6 :: a7 :: a8 :: a9 :: a10 :: a11 :: a12 :: a13 :: a14 :: a15 :: a16 :: a17 :: a18 :: a19 :: a20 :: a21 :: a22 :: a23 :: a24 :: L) ∧ Dt K B (.ref q) (.list ds) ∧ L2.Same H1 B := F.gvl 25 rfl h
theorem Fr.gvt25 {a0 a1 a2 a3 a4 a5 a6 a7 a8 a9 a10 a11 a12 a13 a14 a15 a16 a17 a18 a19 a20 a21 a22 a23 a24 : Addr × HO} {K : PySem.W.Frag} {xs : List V} {ds : List PyData} (F : Fr He H0 H1 H (a0 :: a1 :: a2 :: a3 :: a4 :: a5 :: a6 :: a7 :: a8 :: a9 :: a10 :: a11 :: a12 :: a13 :: a14 :: a15 :: a16 :: a17 :: a18 :: a19 :: a20 :: a21 :: a22 :: a23 :: a24 :: (q, .tup xs) :: L)) (h : DtAll K H1 xs ds) : ∃ B, Fr He H0 B H (a0 :: a1 :: a2 :: a3 :: a4 :: a5 :: a6 :: a7 :: a8 :: a9 :: a10 :: a11 :: a12 :: a13 :: a14 :: a15 :: a16 :: a17 :: a18 :: a19 :: a20 :: a21 :: a22 :: a23 :: a24 :: L) ∧ Dt K B (.ref q) (.tuple ds) ∧ L2.Same H1 B := F.gvt 25 rfl h
theorem Fr.take26 {a0 a1 a2 a3 a4 a5 a6 a7 a8 a9 a10 a11 a12 a13 a14 a15 a16 a17 a18 a19 a20 a21 a22 a23 a24 a25 : Addr × HO} (F : Fr He H0 H1 H (a0 :: a1 :: a2 :: a3 :: a4 :: a5 :: a6 :: a7 :: a8 :: a9 :: a10 :: a11 :: a12 :: a13 :: a14 :: a15 :: a16 :: a17 :: a18 :: a19 :: a20 :: a21 :: a22 :: a23 :: a24 :: a25 :: (q, o) :: L)) (old : ∀ b u, b ≠ q → H b = some u → H' b = some u) (e : H' q = some o') : Fr He H0 H1 H' (a0 :: a1 :: a2 :: a3 :: a4 :: a5 :: a6 :: a7 :: a8 :: a9 :: a10 :: a11 :: a12 :: a13 :: a14 :: a15 :: a16 :: a17 :: a18 :: a19 :: a20 :: a21 :: a22 :: a23 :: a24 :: a25 :: (q, o') :: L) := F.take 26 rfl old e
theorem Fr.put26 {a0 a1 a2 a3 a4 a5 a6 a7 a8 a9 a10 a11 a12 a13 a14 a15 a16 a17 a18 a19 a20 a21 a22 a23 a24 a25 : Addr × HO} (F : Fr He H0 H1 H (a0 :: a1 :: a2 :: a3 :: a4 :: a5 :: a6 :: a7 :: a8 :: a9 :: a10 :: a11 :: a12 :: a13 :: a14 :: a15 :: a16 :: a17 :: a18 :: a19 :: a20 :: a21 :: a22 :: a23 :: a24 :: a25 :: (q, o) :: L)) (hb : ∀ b, b ≠ q → H' b = H b) (hp : H' q = some o') : Fr He H0 H1 H' (a0 :: a1 :: a2 :: a3 :: a4 :: a5 :: a6 :: a7 :: a8 :: a9 :: a10 :: a11 :: a12 :: a13 :: a14 :: a15 :: a16 :: a17 :: a18 :: a19 :: a20 :: a21 :: a22 :: a23 :: a24 :: a25 :: (q, o') :: L) := F.put 26 rfl hb hp
theorem Fr.callP26 {a0 a1 a2 a3 a4 a5 a6 a7 a8 a9 a10 a11 a12 a13 a14 a15 a16 a17 a18 a19 a20 a21 a22 a23 a24 a25 : Addr × HO} (F : Fr He H0 H1 H (a0 :: a1 :: a2 :: a3 :: a4 :: a5 :: a6 :: a7 :: a8 :: a9 :: a10 :: a11 :: a12 :: a13 :: a14 :: a15 :: a16 :: a17 :: a18 :: a19 :: a20 :: a21 :: a22 :: a23 :: a24 :: a25 :: (q, o) :: L)) (G : GrowP q H1 H H2 H') (e : H' q = some o') : Fr He H0 H2 H' (a0 :: a1 :: a2 :: a3 :: a4 :: a5 :: a6 :: a7 :: a8 :: a9 :: a10 :: a11 :: a12 :: a13 :: a14 :: a15 :: a16 :: a17 :: a18 :: a19 :: a20 :: a21 :: a22 :: a23 :: a24 :: a25 :: (q, o') :: L) := F.callP 26 rfl G e
theorem Fr.gen26 {a0 a1 a2 a3 a4 a5 a6 a7 a8 a9 a10 a11 a12 a13 a14 a15 a16 a17 a18 a19 a20 a21 a22 a23 a24 a25 : Addr × HO} (F : Fr He H0 H1 H (a0 :: a1 :: a2 :: a3 :: a4 :: a5 :: a6 :: a7 :: a8 :: a9 :: a10 :: a11 :: a12 :: a13 :: a14 :: a15 :: a16 :: a17 :: a18 :: a19 :: a20 :: a21 :: a22 :: a23 :: a24 :: a25 :: (q, o) :: L)) (n : H l = none) (hl : H' l = some u) (hq : H' q = some o') (hb : ∀ b w, b ≠ q → H b = some w → H' b = some w) : Fr He H0 H1 H' ((l, u) :: a0 :: a1 :: a2 :: a3 :: a4 :: a5 :: a6 :: a7 :: a8 :: a9 :: a10 :: a11 :: a12 :: a13 :: a14 :: a15 :: a16 :: a17 :: a18 :: a19 :: a20 :: a21 :: a22 :: a23 :: a24 :: a25 :: (q, o') :: L) := F.gen 26 rfl n hl hq hb
theorem Fr.drop26 {a0 a1 a2 a3 a4 a5 a6 a7 a8 a9 a10 a11 a12 a13 a14 a15 a16 a17 a18 a19 a20 a21 a22 a23 a24 a25 : Addr × HO} (F : Fr He H0 H1 H (a0 :: a1 :: a2 :: a3 :: a4 :: a5 :: a6 :: a7 :: a8 :: a9 :: a10 :: a11 :: a12 :: a13 :: a14 :: a15 :: a16 :: a17 :: a18 :: a19 :: a20 :: a21 :: a22 :: a23 :: a24 :: a25 :: (q, o) :: L)) : Fr He H0 H1 H (a0 :: a1 :: a2 :: a3 :: a4 :: a5 :: a6 :: a7 :: a8 :: a9 :: a10 :: a11 :: a12 :: a13 :: a14 :: a15 :: a16 :: a17 :: a18 :: a19 :: a20 :: a21 :: a22 :: a23 :: a24 :: a25 :: L) := F.drop 26
theorem Fr.give26 {a0 a1 a2 a3 a4 a5 a6 a7 a8 a9 a10 a11 a12 a13 a14 a15 a16 a17 a18 a19 a20 a21 a22 a23 a24 a25 : Addr × HO} (F : Fr He H0 H1 H (a0 :: a1 :: a2 :: a3 :: a4 :: a5 :: a6 :: a7 :: a8 :: a9 :: a10 :: a11 :: a12 :: a13 :: a14 :: a15 :: a16 :: a17 :: a18 :: a19 :: a20 :: a21 :: a22 :: a23 :: a24 :: a25 :: (q, o) :: L)) : Fr He H0 (L2.upd H1 q o) H (a0 :: a1 :: a2 :: a3 :: a4 :: a5 :: a6 :: a7 :: a8 :: a9 :: a10 :: a11 :: a12 :: a13 :: a14 :: a15 :: a16 :: a17 :: a18 :: a19 :: a20 :: a21 :: a22 :: a23 :: a24 :: a25 :: L) := F.give 26 rfl
theorem Fr.at26 {a0 a1 a2 a3 a4 a5 a6 a7 a8 a9 a10 a11 a12 a13 a14 a15 a16 a17 a18 a19 a20 a21 a22 a23 a24 a25 : Addr × HO} (F : Fr He H0 H1 H (a0 :: a1 :: a2 :: a3 :: a4 :: a5 :: a6 :: a7 :: a8 :: a9 :: a10 :: a11 :: a12 :: a13 :: a14 :: a15 :: a16 :: a17 :: a18 :: a19 :: a20 :: a21 :: a22 :: a23 :: a24 :: a25 :: (q, o) :: L)) : H q = some o := F.at 26 rfl
theorem Fr.n126 {a0 a1 a2 a3 a4 a5 a6 a7 a8 a9 a10 a11 a12 a13 a14 a15 a16 a17 a18 a19 a20 a21 a22 a23 a24 a25 : Addr × HO} (F : Fr He H0 H1 H (a0 :: a1 :: a2 :: a3 :: a4 :: a5 :: a6 :: a7 :: a8 :: a9 :: a10 :: a11 :: a12 :: a13 :: a14 :: a15 :: a16 :: a17 :: a18 :: a19 :: a20 :: a21 :: a22 :: a23 :: a24 :: a25 :: (q, o) :: L)) : H1 q = none := F.n1 26 rfl
theorem Fr.back26 {a0 a1 a2 a3 a4 a5 a6 a7 a8 a9 a10 a11 a12 a13 a14 a15 a16 a17 a18 a19 a20 a21 a22 a23 a24 a25 : Addr × HO} {He' : Hp} (F : Fr (del He' q) H0 H1 H (a0 :: a1 :: a2 :: a3 :: a4 :: a5 :: a6 :: a7 :: a8 :: a9 :: a10 :: a11 :: a12 :: a13 :: a14 :: a15 :: a16 :: a17 :: a18 :: a19 :: a20 :: a21 :: a22 :: a23 :: a24 :: a25 :: (q, o) :: L)) (n : H0 q = none) : GrowP q H0 He' H1 H ∧ H q = some o := ⟨F.back 26 rfl n, F.at 26 rfl⟩
theorem Fr.gvl26 {a0 a1 a2 a3 a4 a5 a6 a7 a8 a9 a10 a11 a12 a13 a14 a15 a16 a17 a18 a19 a20 a21 a22 a23 a24 a25 : Addr × HO} {K : PySem.W.Frag} {xs : List V} {ds : List PyData} (F : Fr He H0 H1 H (a0 :: a1 :: a2 :: a3 :: a4 :: a5 :: a6 :: a7 :: a8 :: a9 :: a10 :: a11 :: a12 :: a13 :: a14 :: a15 :: a16 :: a17 :: a18 :: a19 :: a20 :: a21 :: a22 :: a23 :: a24 :: a25 :: (q, .lst xs) :: L)) (h : DtAll K H1 xs ds) : ∃ B, Fr He H0 B H (a0 :: a1 :: a2 :: a3 :: a4 :: a5 :: a6 :: a7 :: a8 :: a9 :: a10 :: a11 :: a12 :: a13 :: a14 :: a15 :: a16 :: a17 :: a18 :: a19 :: a20 :: a21 :: a22 :: a23 :: a24 :: a25 :: L) ∧ Dt K B (.ref q) (.list ds) ∧ L2.Same H1 B := F.gvl 26 rfl h
theorem Fr.gvt26 {a0 a1 a2 a3 a4 a5 a6 a7 a8 a9 a10 a11 a12 a13 a14 a15 a16 a17 a18 a19 a20 a21 a22 a23 a24 a25 : Addr × HO} {K : PySem.W.Frag} {xs : List V} {ds : List PyData} (F : Fr He H0 H1 H (a0 :: a1 :: a2 :: a3 :: a4 :: a5 :: a6 :: a7 :: a8 :: a9 :: a10 :: a11 :: a12 :: a13 :: a14 :: a15 :: a16 :: a17 :: a18 :: a19 :: a20 :: a21 :: a22 :: a23 :: a24 :: a25 :: (q, .tup xs) :: L)) (h : DtAll K H1 xs ds) : ∃ B, Fr He H0 B H (a0 :: a1 :: a2 :: a3 :: a4 :: a5 :: a6 :: a7 :: a8 :: a9 :: a10 :: a11 :: a12 :: a13 :: a14 :: a15 :: a16 :: a17 :: a18 :: a19 :: a20 :: a21 :: a22 :: a23 :: a24 :: a25 :: L) ∧ Dt K B (.ref q) (.tuple ds) ∧ L2.Same H1 B := F.gvt 26 rfl h
theorem Fr.take27 {a0 a1 a2 a3 a4 a5 a6 a7 a8 a9 a10 a11 a12 a13 a14 a15 a16 a17 a18 a19 a20 a21 a22 a23 a24 a25 a26 : Addr × HO} (F : Fr He H0 H1 H (a0 :: a1 :: a2 :: a3 :: a4 :: a5 :: a6 :: a7 :: a8 :: a9 :: a10 :: a11 :: a12 :: a13 :: a14 :: a15 :: a16 :: a17 :: a18 :: a19 :: a20 :: a21 :: a22 :: a23 :: a24 :: a25 :: a26 :: (q, o) :: L)) (old : ∀ b u, b ≠ q → H b = some u → H' b = some u) (e : H' q = some o') : Fr He H0 H1 H' (a0 :: a1 :: a2 :: a3 :: a4 :: a5 :: a6 :: a7 :: a8 :: a9 :: a10 :: a11 :: a12 :: a13 :: a14 :: a15 :: a16 :: a17 :: a18 :: a19 :: a20 :: a21 :: a22 :: a23 :: a24 :: a25 :: a26 :: (q, o') :: L) := F.take 27 rfl old e
theorem Fr.put27 {a0 a1 a2 a3 a4 a5 a6 a7 a8 a9 a10 a11 a12 a13 a14 a15 a16 a17 a18 a19 a20 a21 a22 a23 a24 a25 a26 : Addr × HO} (F : Fr He H0 H1 H (a0 :: a1 :: a2 :: a3 :: a4 :: a5 :: a6 :: a7 :: a8 :: a9 :: a10 :: a11 :: a12 :: a13 :: a14 :: a15 :: a16 :: a17 :: a18 :: a19 :: a20 :: a21 :: a22 :: a23 :: a24 :: a25 :: a26 :: (q, o) :: L)) (hb : ∀ b, b ≠ q → H' b = H b) (hp : H' q = some o') : Fr He H0 H1 H' (a0 :: a1 :: a2 :: a3 :: a4 :: a5 :: a6 :: a7 :: a8 :: a9 :: a10 :: a11 :: a12 :: a13 :: a14 :: a15 :: a16 :: a17 :: a18 :: a19 :: a20 :: a21 :: a22 :: a23 :: a24 :: a25 :: a26 :: (q, o') :: L) := F.put 27 rfl hb hp
theorem Fr.callP27 {a0 a1 a2 a3 a4 a5 a6 a7 a8 a9 a10 a11 a12 a13 a14 a15 a16 a17 a18 a19 a20 a21 a22 a23 a24 a25 a26 : Addr × HO} (F : Fr He H0 H1 H (a0 :: a1 :: a2 :: a3 :: a4 :: a5 :: a6 :: a7 :: a8 :: a9 :: a10 :: a11 :: a12 :: a13 :: a14 :: a15 :: a16 :: a17 :: a18 :: a19 :: a20 :: a21 :: a22 :: a23 :: a24 :: a25 :: a26 :: (q, o) :: L)) (G : GrowP q H1 H H2 H') (e : H' q = some o') : Fr He H0 H2 H' (a0 :: a1 :: a2 :: a3 :: a4 :: a5 :: a6 :: a7 :: a8 :: a9 :: a10 :: a11 :: a12 :: a13 :: a14 :: a15 :: a16 :: a17 :: a18 :: a19 :: a20 :: a21 :: a22 :: a23 :: a24 :: a25 :: a26 :: (q, o') :: L) := F.callP 27 rfl G e
theorem Fr.gen27 {a0 a1 a2 a3 a4 a5 a6 a7 a8 a9 a10 a11 a12 a13 a14 a15 a16 a17 a18 a19 a20 a21 a22 a23 a24 a25 a26 : Addr × HO} (F : Fr He H0 H1 H (a0 :: a1 :: a2 :: a3 :: a4 :: a5 :: a6 :: a7 :: a8 :: a9 :: a10 :: a11 :: a12 :: a13 :: a14 :: a15 :: a16 :: a17 :: a18 :: a19 :: a20 :: a21 :: a22 :: a23 :: a24 :: a25 :: a26 :: (q, o) :: L)) (n : H l = none) (hl : H' l = some u) (hq : H' q = some o') (hb : ∀ b w, b ≠ q → H b = some w → H' b = some w) : Fr He H0 H1 H' ((l, u) :: a0 :: a1 :: a2 :: a3 :: a4 :: a5 :: a6 :: a7 :: a8 :: a9 :: a10 :: a11 :: a12 :: a13 :: a14 :: a15 :: a16 :: a17 :: a18 :: a19 :: a20 :: a21 :: a22 :: a23 :: a24 :: a25 :: a26 :: (q, o') :: L) := F.gen 27 rfl n hl hq hb
theorem Fr.drop27 {a0 a1 a2 a3 a4 a5 a6 a7 a8 a9 a10 a11 a12 a13 a14 a15 a16 a17 a18 a19 a20 a21 a22 a23 a24 a25 a26 : Addr × HO} (F : Fr He H0 H1 H (a0 :: a1 :: a2 :: a3 :: a4 :: a5 :: a6 :: a7 :: a8 :: a9 :: a10 :: a11 :: a12 :: a13 :: a14 :: a15 :: a16 :: a17 :: a18 :: a19 :: a20 :: a21 :: a22 :: a23 :: a24 :: a25 :: a26 :: (q, o) :: L)) : Fr He H0 H1 H (a0 :: a1 :: a2 :: a3 :: a4 :: a5 :: a6 :: a7 :: a8 :: a9 :: a10 :: a11 :: a12 :: a13 :: a14 :: a15 :: a16 :: a17 :: a18 :: a19 :: a20 :: a21 :: a22 :: a23 :: a24 :: a25 :: a26 :: L) := F.drop 27
theorem Fr.give27 {a0 a1 a2 a3 a4 a5 a6 a7 a8 a9 a10 a11 a12 a13 a14 a15 a16 a17 a18 a19 a20 a21 a22 a23 a24 a25 a26 : Addr × HO} (F : Fr He H0 H1 H (a0 :: a1 :: a2 :: a3 :: a4 :: a5 :: a6 :: a7 :: a8 :: a9 :: a10 :: a11 :: a12 :: a13 :: a14 :: a15 :: a16 :: a17 :: a18 :: a19 :: a20 :: a21 :: a22 :: a23 :: a24 :: a25 :: a26 :: (q, o) :: L)) : Fr He H0 (L2.upd H1 q o) H (a0 :: a1 :: a2 :: a3 :: a4 :: a5 :: a6 :: a7 :: a8 :: a9 :: a10 :: a11 :: a12 :: a13 :: a14 :: a15 :: a16 :: a17 :: a18 :: a19 :: a20 :: a21 :: a22 :: a23 :: a24 :: a25 :: a26 :: L) := F.give 27 rfl
theorem Fr.at27 {a0 a1 a2 a3 a4 a5 a6 a7 a8 a9 a10 a11 a12 a13 a14 a15 a16 a17 a18 a19 a20 a21 a22 a23 a24 a25 a26 : Addr × HO} (F : Fr He H0 H1 H (a0 :: a1 :: a2 :: a3 :: a4 :: a5 :: a6 :: a7 :: a8 :: a9 :: a10 :: a11 :: a12 :: a13 :: a14 :: a15 :: a16 :: a17 :: a18 :: a19 :: a20 :: a21 :: a22 :: a23 :: a24 :: a25 :: a26 :: (q, o) :: L)) : H q = some o := F.at 27 rfl
theorem Fr.n127 {a0 a1 a2 a3 a4 a5 a6 a7 a8 a9 a10 a11 a12 a13 a14 a15 a16 a17 a18 a19 a20 a21 a22 a23 a24 a25 a26 : Addr × HO} (F : Fr He H0 H1 H (a0 :: a1 :: a2 :: a3 :: a4 :: a5 :: a6 :: a7 :: a8 :: a9 :: a10 :: a11 :: a12 :: a13 :: a14 :: a15 :: a16 :: a17 :: a18 :: a19 :: a20 :: a21 :: a22 :: a23 :: a24 :: a25 :: a26 :: (q, o) :: L)) : H1 q = none := F.n1 27 rfl
theorem Fr.back27 {a0 a1 a2 a3 a4 a5 a6 a7 a8 a9 a10 a11 a12 a13 a14 a15 a16 a17 a18 a19 a20 a21 a22 a23 a24 a25 a26 : Addr × HO} {He' : Hp} (F : Fr (del He' q) H0 H1 H (a0 :: a1 :: a2 :: a3 :: a4 :: a5 :: a6 :: a7 :: a8 :: a9 :: a10 :: a11 :: a12 :: a13 :: a14 :: a15 :: a16 :: a17 :: a18 :: a19 :: a20 :: a21 :: a22 :: a23 :: a24 :: a25 :: a26 :: (q, o) :: L)) (n : H0 q = none) : GrowP q H0 He' H1 H ∧ H q = some o := ⟨F.back 27 rfl n, F.at 27 rfl⟩
theorem Fr.gvl27 {a0 a1 a2 a3 a4 a5 a6 a7 a8 a9 a10 a11 a12 a13 a14 a15 a16 a17 a18 a19 a20 a21 a22 a23 a24 a25 a26 : Addr × HO} {K : PySem.W.Frag} {xs : List V} {ds : List PyData} (F : Fr He H0 H1 H (a0 :: a1 :: a2 :: a3 :: a4 :: a5 :: a6 :: a7 :: a8 :: a9 :: a10 :: a11 :: a12 :: a13 :: a14 :: a15 :: a16 :: a17 :: a18 :: a19 :: a20 :: a21 :: a22 :: a23 :: a24 :: a25 :: a26 :: (q, .lst xs) :: L)) (h : DtAll K H1 xs ds) : ∃ B, Fr He H0 B H (a0 :: a1 :: a2 :: a3 :: a4 :: a5 :: a6 :: a7 :: a8 :: a9 :: a10 :: a11 :: a12 :: a13 :: a14 :: a15 :: a16 :: a17 :: a18 :: a19 :: a20 :: a21 :: a22 :: a23 :: a24 :: a25 :: a26 :: L) ∧ Dt K B (.ref q) (.list ds) ∧ L2.Same H1 B := F.gvl 27 rfl h
theorem Fr.gvt27 {a0 a1 a2 a3 a4 a5 a6 a7 a8 a9 a10 a11 a12 a13 a14 a15 a16 a17 a18 a19 a20 a21 a22 a23 a24 a25 a26 : Addr × HO} {K : PySem.W.Frag} {xs : List V} {ds : List PyData} (F : Fr He H0 H1 H (a0 :: a1 :: a2 :: a3 :: a4 :: a5 :: a6 :: a7 :: a8 :: a9 :: a10 :: a11 :: a12 :: a13 :: a14 :: a15 :: a16 :: a17 :: a18 :: a19 :: a20 :: a21 :: a22 :: a23 :: a24 :: a25 :: a26 :: (q, .tup xs) :: L)) (h : DtAll K H1 xs ds) : ∃ B, Fr He H0 B H (a0 :: a1 :: a2 :: a3 :: a4 :: a5 :: a6 :: a7 :: a8 :: a9 :: a10 :: a11 :: a12 :: a13 :: a14 :: a15 :: a16 :: a17 :: a18 :: a19 :: a20 :: a21 :: a22 :: a23 :: a24 :: a25 :: a26 :: L) ∧ Dt K B (.ref q) (.tuple ds) ∧ L2.Same H1 B := F.gvt 27 rfl h
theorem Fr.take28 {a0 a1 a2 a3 a4 a5 a6 a7 a8 a9 a10 a11 a12 a13 a14 a15 a16 a17 a18 a19 a20 a21 a22 a23 a24 a25 a26 a27 : Addr × HO} (F : Fr He H0 H1 H (a0 :: a1 :: a2 :: a3 :: a4 :: a5 :: a6 :: a7 :: a8 :: a9 :: a10 :: a11 :: a12 :: a13 :: a14 :: a15 :: a16 :: a17 :: a18 :: a19 :: a20 :: a21 :: a22 :: a23 :: a24 :: a25 :: a26 :: a27 :: (q, o) :: L)) (old : ∀ b u, b ≠ q → H b = some u → H' b = some u) (e : H' q = some o') : Fr He H0 H1 H' (a0 :: a1 :: a2 :: a3 :: a4 :: a5 :: a6 :: a7 :: a8 :: a9 :: a10 :: a11 :: a12 :: a13 :: a14 :: a15 :: a16 :: a17 :: a18 :: a19 :: a20 :: a21 :: a22 :: a23 :: a24 :: a25 :: a26 :: a27 :: (q, o') :: L) := F.take 28 rfl old e
theorem Fr.put28 {a0 a1 a2 a3 a4 a5 a6 a7 a8 a9 a10 a11 a12 a13 a14 a15 a16 a17 a18 a19 a20 a21 a22 a23 a24 a25 a26 a27 : Addr × HO} (F : Fr He H0 H1 H (a0 :: a1 :: a2 :: a3 :: a4 :: a5 :: a6 :: a7 :: a8 :: a9 :: a10 :: a11 :: a12 :: a13 :: a14 :: a15 :: a16 :: a17 :: a18 :: a19 :: a20 :: a21 :: a22 :: a23 :: a24 :: a25 :: a26 :: a27 :: (q, o) :: L)) (hb : ∀ b, b ≠ q → H' b = H b) (hp : H' q = some o') : Fr He H0 H1 H' (a0 :: a1 :: a2 :: a3 :: a4 :: a5 :: a6 :: a7 :: a8 :: a9 :: a10 :: a11 :: a12 :: a13 :: a14 :: a15 :: a16 :: a17 :: a18 :: a19 :: a20 :: a21 :: a22 :: a23 :: a24 :: a25 :: a26 :: a27 :: (q, o') :: L) := F.put 28 rfl hb hp
theorem Fr.callP28 {a0 a1 a2 a3 a4 a5 a6 a7 a8 a9 a10 a11 a12 a13 a14 a15 a16 a17 a18 a19 a20 a21 a22 a23 a24 a25 a26 a27 : Addr × HO} (F : Fr He H0 H1 H (a0 :: a1 :: a2 :: a3 :: a4 :: a5 :: a6 :: a7 :: a8 :: a9 :: a10 :: a11 :: a12 :: a13 :: a14 :: a15 :: a16 :: a17 :: a18 :: a19 :: a20 :: a21 :: a22 :: a23 :: a24 :: a25 :: a26 :: a27 :: (q, o) :: L)) (G : GrowP q H1 H H2 H') (e : H' q = some o') : Fr He H0 H2 H' (a0 :: a1 :: a2 :: a3 :: a4 :: a5 :: a6 :: a7 :: a8 :: a9 :: a10 :: a11 :: a12 :: a13 :: a14 :: a15 :: a16 :: a17 :: a18 :: a19 :: a20 :: a21 :: a22 :: a23 :: a24 :: a25 :: a26 :: a27 :: (q, o') :: L) := F.callP 28 rfl G e
theorem Fr.gen28 {a0 a1 a2 a3 a4 a5 a6 a7 a8 a9 a10 a11 a12 a13 a14 a15 a16 a17 a18 a19 a20 a21 a22 a23 a24 a25 a26 a27 : Addr × HO} (F : Fr He H0 H1 H (a0 :: a1 :: a2 :: a3 :: a4 :: a5 :: a6 :: a7 :: a8 :: a9 :: a10 :: a11 :: a12 :: a13 :: a14 :: a15 :: a16 :: a17 :: a18 :: a19 :: a20 :: a21 :: a22 :: a23 :: a24 :: a25 :: a26 :: a27 :: (q, o) :: L)) (n : H l = none) (hl : H' l = some u) (hq : H' q = some o') (hb : ∀ b w, b ≠ q → H b = some w → H' b = some w) : Fr He H0 H1 H' ((l, u) :: a0 :: a1 :: a2 :: a3 :: a4 :: a5 :: a6 :: a7 :: a8 :: a9 :: a10 :: a11 :: a12 :: a13 :: a14 :: a15 :: a16 :: a17 :: a18 :: a19 :: a20 :: a21 :: a22 :: a23 :: a24 :: a25 :: a26 :: a27 :: (q, o') :: L) := F.gen 28 rfl n hl hq hb
theorem Fr.drop28 {a0 a1 a2 a3 a4 a5 a6 a7 a8 a9 a10 a11 a12 a13 a14 a15 a16 a17 a18 a19 a20 a21 a22 a23 a24 a25 a26 a27 : Addr × HO} (F : Fr He H0 H1 H (a0 :: a1 :: a2 :: a3 :: a4 :: a5 :: a6 :: a7 :: a8 :: a9 :: a10 :: a11 :: a12 :: a13 :: a14 :: a15 :: a16 :: a17 :: a18 :: a19 :: a20 :: a21 :: a22 :: a23 :: a24 :: a25 :: a26 :: a27 :: (q, o) :: L)) : Fr He H0 H1 H (a0 :: a1 :: a2 :: a3 :: a4 :: a5 :: a6 :: a7 :: a8 :: a9 :: a10 :: a11 :: a12 :: a13 :: a14 :: a15 :: a16 :: a17 :: a18 :: a19 :: a20 :: a21 :: a22 :: a23 :: a24 :: a25 :: a26 :: a27 :: L) := F.drop 28
theorem Fr.give28 {a0 a1 a2 a3 a4 a5 a6 a7 a8 a9 a10 a11 a12 a13 a14 a15 a16 a17 a18 a19 a20 a21 a22 a23 a24 a25 a26 a27 : Addr × HO} (F : Fr He H0 H1 H (a0 :: a1 :: a2 :: a3 :: a4 :: a5 :: a6 :: a7 :: a8 :: a9 :: a10 :: a11 :: a12 :: a13 :: a14 :: a15 :: a16 :: a17 :: a18 :: a19 :: a20 :: a21 :: a22 :: a23 :: a24 :: a25 :: a26 :: a27 :: (q, o) :: L)) : Fr He H0 (L2.upd H1 q o) H (a0 :: a1 :: a2 :: a3 :: a4 :: a5 :: a6 :: a7 :: a8 :: a9 :: a10 :: a11 :: a12 :: a13 :: a14 :: a15 :: a16 :: a17 :: a18 :: a19 :: a20 :: a21 :: a22 :: a23 :: a24 :: a25 :: a26 :: a27 :: L) := F.give 28 rfl
theorem Fr.at28 {a0 a1 a2 a3 a4 a5 a6 a7 a8 a9 a10 a11 a12 a13 a14 a15 a16 a17 a18 a19 a20 a21 a22 a23 a24 a25 a26 a27 : Addr × HO} (F : Fr He H0 H1 H (a0 :: a1 :: a2 :: a3 :: a4 :: a5 :: a6 :: a7 :: a8 :: a9 :: a10 :: a11 :: a12 :: a13 :: a14 :: a15 :: a16 :: a17 :: a18 :: a19 :: a20 :: a21 :: a22 :: a23 :: a24 :: a25 :: a26 :: a27 :: (q, o) :: L)) : H q = some o := F.at 28 rfl
theorem Fr.n128 {a0 a1 a2 a3 a4 a5 a6 a7 a8 a9 a10 a11 a12 a13 a14 a15 a16 a17 a18 a19 a20 a21 a22 a23 a24 a25 a26 a27 : Addr × HO} (F : Fr He H0 H1 H (a0 :: a1 :: a2 :: a3 :: a4 :: a5 :: a6 :: a7 :: a8 :: a9 :: a10 :: a11 :: a12 :: a13 :: a14 :: a15 :: a16 :: a17 :: a18 :: a19 :: a20 :: a21 :: a22 :: a23 :: a24 :: a25 :: a26 :: a27 :: (q, o) :: L)) : H1 q = none := F.n1 28 rfl
theorem Fr.back28 {a0 a1 a2 a3 a4 a5 a6 a7 a8 a9 a10 a11 a12 a13 a14 a15 a16 a17 a18 a19 a20 a21 a22 a23 a24 a25 a26 a27 : Addr × HO} {He' : Hp} (F : Fr (del He' q) H0 H1 H (a0 :: a1 :: a2 :: a3 :: a4 :: a5 :: a6 :: a7 :: a8 :: a9 :: a10 :: a11 :: a12 :: a13 :: a14 :: a15 :: a16 :: a17 :: a18 :: a19 :: a20 :: a21 :: a22 :: a23 :: a24 :: a25 :: a26 :: a27 :: (q, o) :: L)) (n : H0 q = none) : GrowP q H0 He' H1 H ∧ H q = some o := ⟨F.back 28 rfl n, F.at 28 rfl⟩
theorem Fr.gvl28 {a0 a1 a2 a3 a4 a5 a6 a7 a8 a9 a10 a11 a12 a13 a14 a15 a16 a17 a18 a19 a20 a21 a22 a23 a24 a25 a26 a27 : Addr × HO} {K : PySem.W.Frag} {xs : List V} {ds : List PyData} (F : Fr He H0 H1 H (a0 :: a1 :: a2 :: a3 :: a4 :: a5 :: a6 :: a7 :: a8 :: a9 :: a10 :: a11 :: a12 :: a13 :: a14 :: a15 :: a16 :: a17 :: a18 :: a19 :: a20 :: a21 :: a22 :: a23 :: a24 :: a25 :: a26 :: a27 :: (q, .lst xs) :: L)) (h : DtAll K H1 xs ds) : ∃ B, Fr He H0 B H (a0 :: a1 :: a2 :: a3 :: a4 :: a5 :: a6 :: a7 :: a8 :: a9 :: a10 :: a11 :: a12 :: a13 :: a14 :: a15 :: a16 :: a17 :: a18 :: a19 :: a20 :: a21 :: a22 :: a23 :: a24 :: a25 :: a26 :: a27 :: L) ∧ Dt K B (.ref q) (.list ds) ∧ L2.Same H1 B := F.gvl 28 rfl h
theorem Fr.gvt28 {a0 a1 a2 a3 a4 a5 a6 a7 a8 a9 a10 a11 a12 a13 a14 a15 a16 a17 a18 a19 a20 a21 a22 a23 a24 a25 a26 a27 : Addr × HO} {K : PySem.W.Frag} {xs : List V} {ds : List PyData} (F : Fr He H0 H1 H (a0 :: a1 :: a2 :: a3 :: a4 :: a5 :: a6 :: a7 :: a8 :: a9 :: a10 :: a11 :: a12 :: a13 :: a14 :: a15 :: a16 :: a17 :: a18 :: a19 :: a20 :: a21 :: a22 :: a23 :: a24 :: a25 :: a26 :: a27 :: (q, .tup xs) :: L)) (h : DtAll K H1 xs ds) : ∃ B, Fr He H0 B H (a0 :: a1 :: a2 :: a3 :: a4 :: a5 :: a6 :: a7 :: a8 :: a9 :: a10 :: a11 :: a12 :: a13 :: a14 :: a15 :: a16 :: a17 :: a18 :: a19 :: a20 :: a21 :: a22 :: a23 :: a24 :: a25 :: a26 :: a27 :: L) ∧ Dt K B (.ref q) (.tuple ds) ∧ L2.Same H1 B := F.gvt 28 rfl h
theorem Fr.take29 {a0 a1 a2 a3 a4 a5 a6 a7 a8 a9 a10 a11 a12 a13 a14 a15 a16 a17 a18 a19 a20 a21 a22 a23 a24 a25 a26 a27 a28 : Addr × HO} (F : Fr He H0 H1 H (a0 :: a1 :: a2 :: a3 :: a4 :: a5 :: a6 :: a7 :: a8 :: a9 :: a10 :: a11 :: a12 :: a13 :: a14 :: a15 :: a16 :: a17 :: a18 :: a19 :: a20 :: a21 :: a22 :: a23 :: a24 :: a25 :: a26 :: a27 :: a28 :: (q, o) :: L)) (old : ∀ b u, b ≠ q → H b = some u → H' b = some u) (e : H' q = some o') : Fr He H0 H1 H' (a0 :: a1 :: a2 :: a3 :: a4 :: a5 :: a6 :: a7 :: a8 :: a9 :: a10 :: a11 :: a12 :: a13 :: a14 :: a15 :: a16 :: a17 :: a18 :: a19 :: a20 :: a21 :: a22 :: a23 :: a24 :: a25 :: a26 :: a27 :: a28 :: (q, o') :: L) := F.take 29 rfl old e
theorem Fr.put29 {a0 a1 a2 a3 a4 a5 a6 a7 a8 a9 a10 a11 a12 a13 a14 a15 a16 a17 a18 a19 a20 a21 a22 a23 a24 a25 a26 a27 a28 : Addr × HO} (F : Fr He H0 H1 H (a0 :: a1 :: a2 :: a3 :: a4 :: a5 :: a6 :: a7 :: a8 :: a9 :: a10 :: a11 :: a12 :: a13 :: a14 :: a15 :: a16 :: a17 :: a18 :: a19 :: a20 :: a21 :: a22 :: a23 :: a24 :: a25 :: a26 :: a27 :: a28 :: (q, o) :: L)) (hb : ∀ b, b ≠ q → H' b = H b) (hp : H' q = some o') : Fr He H0 H1 H' (a0 :: a1 :: a2 :: a3 :: a4 :: a5 :: a6 :: a7 :: a8 :: a9 :: a10 :: a11 :: a12 :: a13 :: a14 :: a15 :: a16 :: a17 :: a18 :: a19 :: a20 :: a21 :: a22 :: a23 :: a24 :: a25 :: a26 :: a27 :: a28 :: (q, o') :: L) := F.put 29 rfl hb hp
theorem Fr.callP29 {a0 a1 a2 a3 a4 a5 a6 a7 a8 a9 a10 a11 a12 a13 a14 a15 a16 a17 a18 a19 a20 a21 a22 a23 a24 a25 a26 a27 a28 : Addr × HO} (F : Fr He H0 H1 H (a0 :: a1 :: a2 :: a3 :: a4 :: a5 :: a6 :: a7 :: a8 :: a9 :: a10 :: a11 :: a12 :: a13 :: a14 :: a15 :: a16 :: a17 :: a18 :: a19 :: a20 :: a21 :: a22 :: a23 :: a24 :: a25 :: a26 :: a27 :: a28 :: (q, o) :: L)) (G : GrowP q H1 H H2 H') (e : H' q = some o') : Fr He H0 H2 H' (a0 :: a1 :: a2 :: a3 :: a4 :: a5 :: a6 :: a7 :: a8 :: a9 :: a10 :: a11 :: a12 :: a13 :: a14 :: a15 :: a16 :: a17 :: a18 :: a19 :: a20 :: a21 :: a22 :: a23 :: a24 :: a25 :: a26 :: a27 :: a28 :: (q, o') :: L) := F.callP 29 rfl G e
theorem Fr.gen29 {a0 a1 a2 a3 a4 a5 a6 a7 a8 a9 a10 a11 a12 a13 a14 a15 a16 a17 a18 a19 a20 a21 a22 a23 a24 a25 a26 a27 a28 : Addr × HO} (F : Fr He H0 H1 H (a0 :: a1 :: a2 :: a3 :: a4 :: a5 :: a6 :: a7 :: a8 :: a9 :: a10 :: a11 :: a12 :: a13 :: a14 :: a15 :: a16 :: a17 :: a18 :: a19 :: a20 :: a21 :: a22 :: a23 :: a24 :: a25 :: a26 :: a27 :: a28 :: (q, o) :: L)) (n : H l = none) (hl : H' l = some u) (hq : H' q = some o') (hb : ∀ b w, b ≠ q → H b = some w → H' b = some w) : Fr He H0 H1 H' ((l, u) :: a0 :: a1 :: a2 :: a3 :: a4 :: a5 :: a6 :: a7 :: a8 :: a9 :: a10 :: a11 :: a12 :: a13 :: a14 :: a15 :: a16 :: a17 :: a18 :: a19 :: a20 :: a21 :: a22 :: a23 :: a24 :: a25 :: a26 :: a27 :: a28 :: (q, o') :: L) := F.gen 29 rfl n hl hq hb
theorem Fr.drop29 {a0 a1 a2 a3 a4 a5 a6 a7 a8 a9 a10 a11 a12 a13 a14 a15 a16 a17 a18 a19 a20 a21 a22 a23 a24 a25 a26 a27 a28 : Addr × HO} (F : Fr He H0 H1 H (a0 :: a1 :: a2 :: a3 :: a4 :: a5 :: a6 :: a7 :: a8 :: a9 :: a10 :: a11 :: a12 :: a13 :: a14 :: a15 :: a16 :: a17 :: a18 :: a19 :: a20 :: a21 :: a22 :: a23 :: a24 :: a25 :: a26 :: a27 :: a28 :: (q, o) :: L)) : Fr He H0 H1 H (a0 :: a1 :: a2 :: a3 :: a4 :: a5 :: a6 :: a7 :: a8 :: a9 :: a10 :: a11 :: a12 :: a13 :: a14 :: a15 :: a16 :: a17 :: a18 :: a19 :: a20 :: a21 :: a22 :: a23 :: a24 :: a25 :: a26 :: a27 :: a28 :: L) := F.drop 29
theorem Fr.give29 {a0 a1 a2 a3 a4 a5 a6 a7 a8 a9 a10 a11 a12 a13 a14 a15 a16 a17 a18 a19 a20 a21 a22 a23 a24 a25 a26 a27 a28 : Addr × HO} (F : Fr He H0 H1 H (a0 :: a1 :: a2 :: a3 :: a4 :: a5 :: a6 :: a7 :: a8 :: a9 :: a10 :: a11 :: a12 :: a13 :: a14 :: a15 :: a16 :: a17 :: a18 :: a19 :: a20 :: a21 :: a22 :: a23 :: a24 :: a25 :: a26 :: a27 :: a28 :: (q, o) :: L)) : Fr He H0 (L2.upd H1 q o) H (a0 :: a1 :: a2 :: a3 :: a4 :: a5 :: a6 :: a7 :: a8 :: a9 :: a10 :: a11 :: a12 :: a13 :: a14 :: a15 :: a16 :: a17 :: a18 :: a19 :: a20 :: a21 :: a22 :: a23 :: a24 :: a25 :: a26 :: a27 :: a28 :: L) := F.give 29 rfl
theorem Fr.at29 {a0 a1 a2 a3 a4 a5 a6 a7 a8 a9 a10 a11 a12 a13 a14 a15 a16 a17 a18 a19 a20 a21 a22 a23 a24 a25 a26 a27 a28 : Addr × HO} (F : Fr He H0 H1 H (a0 :: a1 :: a2 :: a3 :: a4 :: a5 :: a6 :: a7 :: a8 :: a9 :: a10 :: a11 :: a12 :: a13 :: a14 :: a15 :: a16 :: a17 :: a18 :: a19 :: a20 :: a21 :: a22 :: a23 :: a24 :: a25 :: a26 :: a27 :: a28 :: (q, o) :: L)) : H q = some o := F.at 29 rfl
theorem Fr.n129 {a0 a1 a2 a3 a4 a5 a6 a7 a8 a9 a10 a11 a12 a13 a14 a15 a16 a17 a18 a19 a20 a21 a22 a23 a24 a25 a26 a27 a28 : Addr × HO} (F : Fr He H0 H1 H (a0 :: a1 :: a2 :: a3 :: a4 :: a5 :: a6 :: a7 :: a8 :: a9 :: a10 :: a11 :: a12 :: a13 :: a14 :: a15 :: a16 :: a17 :: a18 :: a19 :: a20 :: a21 :: a22 :: a23 :: a24 :: a25 :: a26 :: a27 :: a28 :: (q, o) :: L)) : H1 q = none := F.n1 29 rfl
theorem Fr.back29 {a0 a1 a2 a3 a4 a5 a6 a7 a8 a9 a10 a11 a12 a13 a14 a15 a16 a17 a18 a19 a20 a21 a22 a23 a24 a25 a26 a27 a28 : Addr × HO} {He' : Hp} (F : Fr (del He' q) H0 H1 H (a0 :: a1 :: a2 :: a3 :: a4 :: a5 :: a6 :: a7 :: a8 :: a9 :: a10 :: a11 :: a12 :: a13 :: a14 :: a15 :: a16 :: a17 :: a18 :: a19 :: a20 :: a21 :: a22 :: a23 :: a24 :: a25 :: a26 :: a27 :: a28 :: (q, o) :: L)) (n : H0 q = none) : GrowP q H0 He' H1 H ∧ H q = some o := ⟨F.back 29 rfl n, F.at 29 rfl⟩
theorem Fr.gvl29 {a0 a1 a2 a3 a4 a5 a6 a7 a8 a9 a10 a11 a12 a13 a14 a15 a16 a17 a18 a19 a20 a21 a22 a23 a24 a25 a26 a27 a28 : Addr × HO} {K : PySem.W.Frag} {xs : List V} {ds : List PyData} (F : Fr He H0 H1 H (a0 :: a1 :: a2 :: a3 :: a4 :: a5 :: a6 :: a7 :: a8 :: a9 :: a10 :: a11 :: a12 :: a13 :: a14 :: a15 :: a16 :: a17 :: a18 :: a19 :: a20 :: a21 :: a22 :: a23 :: a24 :: a25 :: a26 :: a27 :: a28 :: (q, .lst xs) :: L)) (h : DtAll K H1 xs ds) : ∃ B, Fr He H0 B H (a0 :: a1 :: a2 :: a3 :: a4 :: a5 :: a6 :: a7 :: a8 :: a9 :: a10 :: a11 :: a12 :: a13 :: a14 :: a15 :: a16 :: a17 :: a18 :: a19 :: a20 :: a21 :: a22 :: a23 :: a24 :: a25 :: a26 :: a27 :: a28 :: L) ∧ Dt K B (.ref q) (.list ds) ∧ L2.Same H1 B := F.gvl 29 rfl h
theorem Fr.gvt29 {a0 a1 a2 a3 a4 a5 a6 a7 a8 a9 a10 a11 a12 a13 a14 a15 a16 a17 a18 a19 a20 a21 a22 a23 a24 a25 a26 a27 a28 : Addr × HO} {K : PySem.W.Frag} {xs : List V} {ds : List PyData} (F : Fr He H0 H1 H (a0 :: a1 :: a2 :: a3 :: a4 :: a5 :: a6 :: a7 :: a8 :: a9 :: a10 :: a11 :: a12 :: a13 :: a14 :: a15 :: a16 :: a17 :: a18 :: a19 :: a20 :: a21 :: a22 :: a23 :: a24 :: a25 :: a26 :: a27 :: a28 :: (q, .tup xs) :: L)) (h : DtAll K H1 xs ds) : ∃ B, Fr He H0 B H (a0 :: a1 :: a2 :: a3 :: a4 :: a5 :: a6 :: a7 :: a8 :: a9 :: a10 :: a11 :: a12 :: a13 :: a14 :: a15 :: a16 :: a17 :: a18 :: a19 :: a20 :: a21 :: a22 :: a23 :: a24 :: a25 :: a26 :: a27 :: a28 :: L) ∧ Dt K B (.ref q) (.tuple ds) ∧ L2.Same H1 B := F.gvt 29 rfl h
theorem Fr.take30 {a0 a1 a2 a3 a4 a5 a6 a7 a8 a9 a10 a11 a12 a13 a14 a15 a16 a17 a18 a19 a20 a21 a22 a23 a24 a25 a26 a27 a28 a29 : Addr × HO} (F : Fr He H0 H1 H (a0 :: a1 :: a2 :: a3 :: a4 :: a5 :: a6 :: a7 :: a8 :: a9 :: a10 :: a11 :: a12 :: a13 :: a14 :: a15 :: a16 :: a17 :: a18 :: a19 :: a20 :: a21 :: a22 :: a23 :: a24 :: a25 :: a26 :: a27 :: a28 :: a29 :: (q, o) :: L)) (old : ∀ b u, b ≠ q → H b = some u → H' b = some u) (e : H' q = some o') : Fr He H0 H1 H' (a0 :: a1 :: a2 :: a3 :: a4 :: a5 :: a6 :: a7 :: a8 :: a9 :: a10 :: a11 :: a12 :: a13 :: a14 :: a15 :: a16 :: a17 :: a18 :: a19 :: a20 :: a21 :: a22 :: a23 :: a24 :: a25 :: a26 :: a27 :: a28 :: a29 :: (q, o') :: L) := F.take 30 rfl old e
theorem Fr.put30 {a0 a1 a2 a3 a4 a5 a6 a7 a8 a9 a10 a11 a12 a13 a14 a15 a16 a17 a18 a19 a20 a21 a22 a23 a24 a25 a26 a27 a28 a29 : Addr × HO} (F : Fr He H0 H1 H (a0 :: a1 :: a2 :: a3 :: a4 :: a5 :: a6 :: a7 :: a8 :: a9 :: a10 :: a11 :: a12 :: a13 :: a14 :: a15 :: a16 :: a17 :: a18 :: a19 :: a20 :: a21 :: a22 :: a23 :: a24 :: a25 :: a26 :: a27 :: a28 :: a29 :: (q, o) :: L)) (hb : ∀ b, b ≠ q → H' b = H b) (hp : H' q = some o') : Fr He H0 H1 H' (a0 :: a1 :: a2 :: a3 :: a4 :: a5 :: a6 :: a7 :: a8 :: a9 :: a10 :: a11 :: a12 :: a13 :: a14 :: a15 :: a16 :: a17 :: a18 :: a19 :: a20 :: a21 :: a22 :: a23 :: a24 :: a25 :: a26 :: a27 :: a28 :: a29 :: (q, o') :: L) := F.put 30 rfl hb hp
theorem Fr.callP30 {a0 a1 a2 a3 a4 a5 a6 a7 a8 a9 a10 a11 a12 a13 a14 a15 a16 a17 a18 a19 a20 a21 a22 a23 a24 a25 a26 a27 a28 a29 : Addr × HO} (F : Fr He H0 H1 H (a0 :: a1 :: a2 :: a3 :: a4 :: a5 :: a6 :: a7 :: a8 :: a9 :: a10 :: a11 :: a12 :: a13 :: a14 :: a15 :: a16 :: a17 :: a18 :: a19 :: a20 :: a21 :: a22 :: a23 :: a24 :: a25 :: a26 :: a27 :: a28 :: a29 :: (q, o) :: L)) (G : GrowP q H1 H H2 H') (e : H' q = some o') : Fr He H0 H2 H' (a0 :: a1 :: a2 :: a3 :: a4 :: a5 :: a6 :: a7 :: a8 :: a9 :: a10 :: a11 :: a12 :: a13 :: a14 :: a15 :: a16 :: a17 :: a18 :: a19 :: a20 :: a21 :: a22 :: a23 :: a24 :: a25 :: a26 :: a27 :: a28 :: a29 :: (q, o') :: L) := F.callP 30 rfl G e
theorem Fr.gen30 {a0 a1 a2 a3 a4 a5 a6 a7 a8 a9 a10 a11 a12 a13 a14 a15 a16 a17 a18 a19 a20 a21 a22 a23 a24 a25 a26 a27 a28 a29 : Addr × HO} (F : Fr He H0 H1 H (a0 :: a1 :: a2 :: a3 :: a4 :: a5 :: a6 :: a7 :: a8 :: a9 :: a10 :: a11 :: a12 :: a13 :: a14 :: a15 :: a16 :: a17 :: a18 :: a19 :: a20 :: a21 :: a22 :: a23 :: a24 :: a25 :: a26 :: a27 :: a28 :: a29 :: (q, o) :: L)) (n : H l = none) (hl : H' l = some u) (hq : H' q = some o') (hb : ∀ b w, b ≠ q → H b = some w → H' b = some w) : Fr He H0 H1 H' ((l, u) :: a0 :: a1 :: a2 :: a3 :: a4 :: a5 :: a6 :: a7 :: a8 :: a9 :: a10 :: a11 :: a12 :: a13 :: a14 :: a15 :: a16 :: a17 :: a18 :: a19 :: a20 :: a21 :: a22 :: a23 :: a24 :: a25 :: a26 :: a27 :: a28 :: a29 :: (q, o') :: L) := F.gen 30 rfl n hl hq hb
theorem Fr.drop30 {a0 a1 a2 a3 a4 a5 a6 a7 a8 a9 a10 a11 a12 a13 a14 a15 a16 a17 a18 a19 a20 a21 a22 a23 a24 a25 a26 a27 a28 a29 : Addr × HO} (F : Fr He H0 H1 H (a0 :: a1 :: a2 :: a3 :: a4 :: a5 :: a6 :: a7 :: a8 :: a9 :: a10 :: a11 :: a12 :: a13 :: a14 :: a15 :: a16 :: a17 :: a18 :: a19 :: a20 :: a21 :: a22 :: a23 :: a24 :: a25 :: a26 :: a27 :: a28 :: a29 :: (q, o) :: L)) : Fr He H0 H1 H (a0 :: a1 :: a2 :: a3 :: a4 :: a5 :: a6 :: a7 :: a8 :: a9 :: a10 :: a11 :: a12 :: a13 :: a14 :: a15 :: a16 :: a17 :: a18 :: a19 :: a20 :: a21 :: a22 :: a23 :: a24 :: a25 :: a26 :: a27 :: a28 :: a29 :: L) := F.drop 30
theorem Fr.give30 {a0 a1 a2 a3 a4 a5 a6 a7 a8 a9 a10 a11 a12 a13 a14 a15 a16 a17 a18 a19 a20 a21 a22 a23 a24 a25 a26 a27 a28 a29 : Addr × HO} (F : Fr He H0 H1 H (a0 :: a1 :: a2 :: a3 :: a4 :: a5 :: a6 :: a7 :: a8 :: a9 :: a10 :: a11 :: a12 :: a13 :: a14 :: a15 :: a16 :: a17 :: a18 :: a19 :: a20 :: a21 :: a22 :: a23 :: a24 :: a25 :: a26 :: a27 :: a28 :: a29 :: (q, o) :: L)) : Fr He H0 (L2.upd H1 q o) H (a0 :: a1 :: a2 :: a3 :: a4 :: a5 :: a6 :: a7 :: a8 :: a9 :: a10 :: a11 :: a12 :: a13 :: a14 :: a15 :: a16 :: a17 :: a18 :: a19 :: a20 :: a21 :: a22 :: a23 :: a24 :: a25 :: a26 :: a27 :: a28 :: a29 :: L) := F.give 30 rfl
theorem Fr.at30 {a0 a1 a2 a3 a4 a5 a6 a7 a8 a9 a10 a11 a12 a13 a14 a15 a16 a17 a18 a19 a20 a21 a22 a23 a24 a25 a26 a27 a28 a29 : Addr × HO} (F : Fr He H0 H1 H (a0 :: a1 :: a2 :: a3 :: a4 :: a5 :: a6 :: a7 :: a8 :: a9 :: a10 :: a11 :: a12 :: a13 :: a14 :: a15 :: a16 :: a17 :: a18 :: a19 :: a20 :: a21 :: a22 :: a23 :: a24 :: a25 :: a26 :: a27 :: a28 :: a29 :: (q, o) :: L)) : H q = some o := F.at 30 rfl
theorem Fr.n130 {a0 a1 a2 a3 a4 a5 a6 a7 a8 a9 a10 a11 a12 a13 a14 a15 a16 a17 a18 a19 a20 a21 a22 a23 a24 a25 a26 a27 a28 a29 : Addr × HO} (F : Fr He H0 H1 H (a0 :: a1 :: a2 :: a3 :: a4 :: a5 :: a6 :: a7 :: a8 :: a9 :: a10 :: a11 :: a12 :: a13 :: a14 :: a15 :: a16 :: a17 :: a18 :: a19 :: a20 :: a21 :: a22 :: a23 :: a24 :: a25 :: a26 :: a27 :: a28 :: a29 :: (q, o) :: L)) : H1 q = none := F.n1 30 rfl
theorem Fr.back30 {a0 a1 a2 a3 a4 a5 a6 a7 a8 a9 a10 a11 a12 a13 a14 a15 a16 a17 a18 a19 a20 a21 a22 a23 a24 a25 a26 a27 a28 a29 : Addr × HO} {He' : Hp} (F : Fr (del He' q) H0 H1 H (a0 :: a1 :: a2 :: a3 :: a4 :: a5 :: a6 :: a7 :: a8 :: a9 :: a10 :: a11 :: a12 :: a13 :: a14 :: a15 :: a16 :: a17 :: a18 :: a19 :: a20 :: a21 :: a22 :: a23 :: a24 :: a25 :: a26 :: a27 :: a28 :: a29 :: (q, o) :: L)) (n : H0 q = none) : GrowP q H0 He' H1 H ∧ H q = some o := ⟨F.back 30 rfl n, F.at 30 rfl⟩
theorem Fr.gvl30 {a0 a1 a2 a3 a4 a5 a6 a7 a8 a9 a10 a11 a12 a13 a14 a15 a16 a17 a18 a19 a20 a21 a22 a23 a24 a25 a26 a27 a28 a29 : Addr × HO} {K : PySem.W.Frag} {xs : List V} {ds : List PyData} (F : Fr He H0 H1 H (a0 :: a1 :: a2 :: a3 :: a4 :: a5 :: a6 :: a7 :: a8 :: a9 :: a10 :: a11 :: a12 :: a13 :: a14 :: a15 :: a16 :: a17 :: a18 :: a19 :: a20 :: a21 :: a22 :: a23 :: a24 :: a25 :: a26 :: a27 :: a28 :: a29 :: (q, .lst xs) :: L)) (h : DtAll K H1 xs ds) : ∃ B, Fr He H0 B H (a0 :: a1 :: a2 :: a3 :: a4 :: a5 :: a6 :: a7 :: a8 :: a9 :: a10 :: a11 :: a12 :: a13 :: a14 :: a15 :: a16 :: a17 :: a18 :: a19 :: a20 :: a21 :: a22 :: a23 :: a24 :: a25 :: a26 :: a27 :: a28 :: a29 :: L) ∧ Dt K B (.ref q) (.list ds) ∧ L2.Same H1 B := F.gvl 30 rfl h
theorem Fr.gvt30 {a0 a1 a2 a3 a4 a5 a6 a7 a8 a9 a10 a11 a12 a13 a14 a15 a16 a17 a18 a19 a20 a21 a22 a23 a24 a25 a26 a27 a28 a29 : Addr × HO} {K : PySem.W.Frag} {xs : List V} {ds : List PyData} (F : Fr He H0 H1 H (a0 :: a1 :: a2 :: a3 :: a4 :: a5 :: a6 :: a7 :: a8 :: a9 :: a10 :: a11 :: a12 :: a13 :: a14 :: a15 :: a16 :: a17 :: a18 :: a19 :: a20 :: a21 :: a22 :: a23 :: a24 :: a25 :: a26 :: a27 :: a28 :: a29 :: (q, .tup xs) :: L)) (h : DtAll K H1 xs ds) : ∃ B, Fr He H0 B H (a0 :: a1 :: a2 :: a3 :: a4 :: a5 :: a6 :: a7 :: a8 :: a9 :: a10 :: a11 :: a12 :: a13 :: a14 :: a15 :: a16 :: a17 :: a18 :: a19 :: a20 :: a21 :: a22 :: a23 :: a24 :: a25 :: a26 :: a27 :: a28 :: a29 :: L) ∧ Dt K B (.ref q) (.tuple ds) ∧ L2.Same H1 B := F.gvt 30 rfl h
theorem Fr.take31 {a0 a1 a2 a3 a4 a5 a6 a7 a8 a9 a10 a11 a12 a13 a14 a15 a16 a17 a18 a19 a20 a21 a22 a23 a24 a25 a26 a27 a28 a29 a30 : Addr × HO} (F : Fr He H0 H1 H (a0 :: a1 :: a2 :: a3 :: a4 :: a5 :: a6 :: a7 :: a8 :: a9 :: a10 :: a11 :: a12 :: a13 :: a14 :: a15 :: a16 :: a17 :: a18 :: a19 :: a20 :: a21 :: a22 :: a23 :: a24 :: a25 :: a26 :: a27 :: a28 :: a29 :: a30 :: (q, o) :: L)) (old : ∀ b u, b ≠ q → H b = some u → H' b = some u) (e : H' q = some o') : Fr He H0 H1 H' (a0 :: a1 :: a2 :: a3 :: a4 :: a5 :: a6 :: a7 :: a8 :: a9 :: a10 :: a11 :: a12 :: a13 :: a14 :: a15 :: a16 :: a17 :: a18 :: a19 :: a20 :: a21 :: a22 :: a23 :: a24 :: a25 :: a26 :: a27 :: a28 :: a29 :: a30 :: (q, o') :: L) := F.take 31 rfl old e
theorem Fr.put31 {a0 a1 a2 a3 a4 a5 a6 a7 a8 a9 a10 a11 a12 a13 a14 a15 a16 a17 a18 a19 a20 a21 a22 a23 a24 a25 a26 a27 a28 a29 a30 : Addr × HO} (F : Fr He H0 H1 H (a0 :: a1 :: a2 :: a3 :: a4 :: a5 :: a6 :: a7 :: a8 :: a9 :: a10 :: a11 :: a12 :: a13 :: a14 :: a15 :: a16 :: a17 :: a18 :: a19 :: a20 :: a21 :: a22 :: a23 :: a24 :: a25 :: a26 :: a27 :: a28 :: a29 :: a30 :: (q, o) :: L)) (hb : ∀ b, b ≠ q → H' b = H b) (hp : H' q = some o') : Fr He H0 H1 H' (a0 :: a1 :: a2 :: a3 :: a4 :: a5 :: a6 :: a7 :: a8 :: a9 :: a10 :: a11 :: a12 :: a13 :: a14 :: a15 :: a16 :: a17 :: a18 :: a19 :: a20 :: a21 :: a22 :: a23 :: a24 :: a25 :: a26 :: a27 :: a28 :: a29 :: a30 :: (q, o') :: L) := F.put 31 rfl hb hp
theorem Fr.callP31 {a0 a1 a2 a3 a4 a5 a6 a7 a8 a9 a10 a11 a12 a13 a14 a15 a16 a17 a18 a19 a20 a21 a22 a23 a24 a25 a26 a27 a28 a29 a30 : Addr × HO} (F : Fr He H0 H1 H (a0 :: a1 :: a2 :: a3 :: a4 :: a5 :: a6 :: a7 :: a8 :: a9 :: a10 :: a11 :: a12 :: a13 :: a14 :: a15 :: a16 :: a17 :: a18 :: a19 :: a20 :: a21 :: a22 :: a23 :: a24 :: a25 :: a26 :: a27 :: a28 :: a29 :: a30 :: (q, o) :: L)) (G : GrowP q H1 H H2 H') (e : H' q = some o') : Fr He H0 H2 H' (a0 :: a1 :: a2 :: a3 :: a4 :: a5 :: a6 :: a7 :: a8 :: a9 :: a10 :: a11 :: a12 :: a13 :: a14 :: a15 :: a16 :: a17 :: a18 :: a19 :: a20 :: a21 :: a22 :: a23 :: a24 :: a25 :: a26 :: a27 :: a28 :: a29 :: a30 :: (q, o') :: L) := F.callP 31 rfl G e
theorem Fr.gen31 {a0 a1 a2 a3 a4 a5 a6 a7 a8 a9 a10 a11 a12 a13 a14 a15 a16 a17 a18 a19 a20 a21 a22 a23 a24 a25 a26 a27 a28 a29 a30 : Addr × HO} (F : Fr He H0 H1 H (a0 :: a1 :: a2 :: a3 :: a4 :: a5 :: a6 :: a7 :: a8 :: a9 :: a10 :: a11 :: a12 :: a13 :: a14 :: a15 :: a16 :: a17 :: a18 :: a19 :: a20 :: a21 :: a22 :: a23 :: a24 :: a25 :: a26 :: a27 :: a28 :: a29 :: a30 :: (q, o) :: L)) (n : H l = none) (hl : H' l = some u) (hq : H' q = some o') (hb : ∀ b w, b ≠ q → H b = some w → H' b = some w) : Fr He H0 H1 H' ((l, u) :: a0 :: a1 :: a2 :: a3 :: a4 :: a5 :: a6 :: a7 :: a8 :: a9 :: a10 :: a11 :: a12 :: a13 :: a14 :: a15 :: a16 :: a17 :: a18 :: a19 :: a20 :: a21 :: a22 :: a23 :: a24 :: a25 :: a26 :: a27 :: a28 :: a29 :: a30 :: (q, o') :: L) := F.gen 31 rfl n hl hq hb
theorem Fr.drop31 {a0 a1 a2 a3 a4 a5 a6 a7 a8 a9 a10 a11 a12 a13 a14 a15 a16 a17 a18 a19 a20 a21 a22 a23 a24 a25 a26 a27 a28 a29 a30 : Addr × HO} (F : Fr He H0 H1 H (a0 :: a1 :: a2 :: a3 :: a4 :: a5 :: a6 :: a7 :: a8 :: a9 :: a10 :: a11 :: a12 :: a13 :: a14 :: a15 :: a16 :: a17 :: a18 :: a19 :: a20 :: a21 :: a22 :: a23 :: a24 :: a25 :: a26 :: a27 :: a28 :: a29 :: a30 :: (q, o) :: L)) : Fr He H0 H1 H (a0 :: a1 :: a2 :: a3 :: a4 :: a5 :: a6 :: a7 :: a8 :: a9 :: a10 :: a11 :: a12 :: a13 :: a14 :: a15 :: a16 :: a17 :: a18 :: a19 :: a20 :: a21 :: a22 :: a23 :: a24 :: a25 :: a26 :: a27 :: a28 :: a29 :: a30 :: L) := F.drop 31
theorem Fr.give31 {a0 a1 a2 a3 a4 a5 a6 a7 a8 a9 a10 a11 a12 a13 a14 a15 a16 a17 a18 a19 a20 a21 a22 a23 a24 a25 a26 a27 a28 a29 a30 : Addr × HO} (F : Fr He H0 H1 H (a0 :: a1 :: a2 :: a3 :: a4 :: a5 :: a6 :: a7 :: a8 :: a9 :: a10 :: a11 :: a12 :: a13 :: a14 :: a15 :: a16 :: a17 :: a18 :: a19 :: a20 :: a21 :: a22 :: a23 :: a24 :: a25 :: a26 :: a27 :: a28 :: a29 :: a30 :: (q, o) :: L)) : Fr He H0 (L2.upd H1 q o) H (a0 :: a1 :: a2 :: a3 :: a4 :: a5 :: a6 :: a7 :: a8 :: a9 :: a10 :: a11 :: a12 :: a13 :: a14 :: a15 :: a16 :: a17 :: a18 :: a19 :: a20 :: a21 :: a22 :: a23 :: a24 :: a25 :: a26 :: a27 :: a28 :: a29 :: a30 :: L) := F.give 31 rfl
theorem Fr.at31 {a0 a1 a2 a3 a4 a5 a6 a7 a8 a9 a10 a11 a12 a13 a14 a15 a16 a17 a18 a19 a20 a21 a22 a23 a24 a25 a26 a27 a28 a29 a30 : Addr × HO} (F : Fr He H0 H1 H (a0 :: a1 :: a2 :: a3 :: a4 :: a5 :: a6 :: a7 :: a8 :: a9 :: a10 :: a11 :: a12 :: a13 :: a14 :: a15 :: a16 :: a17 :: a18 :: a19 :: a20 :: a21 :: a22 :: a23 :: a24 :: a25 :: a26 :: a27 :: a28 :: a29 :: a30 :: (q, o) :: L)) : H q = some o := F.at 31 rfl
theorem Fr.n131 {a0 a1 a2 a3 a4 a5 a6 a7 a8 a9 a10 a11 a12 a13 a14 a15 a16 a17 a18 a19 a20 a21 a22 a23 a24 a25 a26 a27 a28 a29 a30 : Addr × HO} (F : Fr He H0 H1 H (a0 :: a1 :: a2 :: a3 :: a4 :: a5 :: a6 :: a7 :: a8 :: a9 :: a10 :: a11 :: a12 :: a13 :: a14 :: a15 :: a16 :: a17 :: a18 :: a19 :: a20 :: a21 :: a22 :: a23 :: a24 :: a25 :: a26 :: a27 :: a28 :: a29 :: a30 :: (q, o) :: L)) : H1 q = none := F.n1 31 rfl
theorem Fr.back31 {a0 a1 a2 a3 a4 a5 a6 a7 a8 a9 a10 a11 a12 a13 a14 a15 a16 a17 a18 a19 a20 a21 a22 a23 a24 a25 a26 a27 a28 a29 a30 : Addr × HO} {He' : Hp} (F : Fr (del He' q) H0 H1 H (a0 :: a1 :: a2 :: a3 :: a4 :: a5 :: a6 :: a7 :: a8 :: a9 :: a10 :: a11 :: a12 :: a13 :: a14 :: a15 :: a16 :: a17 :: a18 :: a19 :: a20 :: a21 :: a22 :: a23 :: a24 :: a25 :: a26 :: a27 :: a28 :: a29 :: a30 :: (q, o) :: L)) (n : H0 q = none) : GrowP q H0 He' H1 H ∧ H q = some o := ⟨F.back 31 rfl n, F.at 31 rfl⟩
theorem Fr.gvl31 {a0 a1 a2 a3 a4 a5 a6 a7 a8 a9 a10 a11 a12 a13 a14 a15 a16 a17 a18 a19 a20 a21 a22 a23 a24 a25 a26 a27 a28 a29 a30 : Addr × HO} {K : PySem.W.Frag} {xs : List V} {ds : List PyData} (F : Fr He H0 H1 H (a0 :: a1 :: a2 :: a3 :: a4 :: a5 :: a6 :: a7 :: a8 :: a9 :: a10 :: a11 :: a12 :: a13 :: a14 :: a15 :: a16 :: a17 :: a18 :: a19 :: a20 :: a21 :: a22 :: a23 :: a24 :: a25 :: a26 :: a27 :: a28 :: a29 :: a30 :: (q, .lst xs) :: L)) (h : DtAll K H1 xs ds) : ∃ B, Fr He H0 B H (a0 :: a1 :: a2 :: a3 :: a4 :: a5 :: a6 :: a7 :: a8 :: a9 :: a10 :: a11 :: a12 :: a13 :: a14 :: a15 :: a16 :: a17 :: a18 :: a19 :: a20 :: a21 :: a22 :: a23 :: a24 :: a25 :: a26 :: a27 :: a28 :: a29 :: a30 :: L) ∧ Dt K B (.ref q) (.list ds) ∧ L2.Same H1 B := F.gvl 31 rfl h
theorem Fr.gvt31 {a0 a1 a2 a3 a4 a5 a6 a7 a8 a9 a10 a11 a12 a13 a14 a15 a16 a17 a18 a19 a20 a21 a22 a23 a24 a25 a26 a27 a28 a29 a30 : Addr × HO} {K : PySem.W.Frag} {xs : List V} {ds : List PyData} (F : Fr He H0 H1 H (a0 :: a1 :: a2 :: a3 :: a4 :: a5 :: a6 :: a7 :: a8 :: a9 :: a10 :: a11 :: a12 :: a13 :: a14 :: a15 :: a16 :: a17 :: a18 :: a19 :: a20 :: a21 :: a22 :: a23 :: a24 :: a25 :: a26 :: a27 :: a28 :: a29 :: a30 :: (q, .tup xs) :: L)) (h : DtAll K H1 xs ds) : ∃ B, Fr He H0 B H (a0 :: a1 :: a2 :: a3 :: a4 :: a5 :: a6 :: a7 :: a8 :: a9 :: a10 :: a11 :: a12 :: a13 :: a14 :: a15 :: a16 :: a17 :: a18 :: a19 :: a20 :: a21 :: a22 :: a23 :: a24 :: a25 :: a26 :: a27 :: a28 :: a29 :: a30 :: L) ∧ Dt K B (.ref q) (.tuple ds) ∧ L2.Same H1 B := F.gvt 31 rfl h
theorem Fr.take32 {a0 a1 a2 a3 a4 a5 a6 a7 a8 a9 a10 a11 a12 a13 a14 a15 a16 a17 a18 a19 a20 a21 a22 a23 a24 a25 a26 a27 a28 a29 a30 a31 : Addr × HO} (F : Fr He H0 H1 H (a0 :: a1 :: a2 :: a3 :: a4 :: a5 :: a6 :: a7 :: a8 :: a9 :: a10 :: a11 :: a12 :: a13 :: a14 :: a15 :: a16 :: a17 :: a18 :: a19 :: a20 :: a21 :: a22 :: a23 :: a24 :: a25 :: a26 :: a27 :: a28 :: a29 :: a30 :: a31 :: (q, o) :: L)) (old : ∀ b u, b ≠ q → H b = some u → H' b = some u) (e : H' q = some o') : Fr He H0 H1 H' (a0 :: a1 :: a2 :: a3 :: a4 :: a5 :: a6 :: a7 :: a8 :: a9 :: a10 :: a11 :: a12 :: a13 :: a14 :: a15 :: a16 :: a17 :: a18 :: a19 :: a20 :: a21 :: a22 :: a23 :: a24 :: a25 :: a26 :: a27 :: a28 :: a29 :: a30 :: a31 :: (q, o') :: L) := F.take 32 rfl old e
theorem Fr.put32 {a0 a1 a2 a3 a4 a5 a6 a7 a8 a9 a10 a11 a12 a13 a14 a15 a16 a17 a18 a19 a20 a21 a22 a23 a24 a25 a26 a27 a28 a29 a30 a31 : Addr × HO} (F : Fr He H0 H1 H (a0 :: a1 :: a2 :: a3 :: a4 :: a5 :: a6 :: a7 :: a8 :: a9 :: a10 :: a11 :: a12 :: a13 :: a14 :: a15 :: a16 :: a17 :: a18 :: a19 :: a20 :: a21 :: a22 :: a23 :: a24 :: a25 :: a26 :: a27 :: a28 :: a29 :: a30 :: a31 :: (q, o) :: L)) (hb : ∀ b, b ≠ q → H' b = H b) (hp : H' q = some o') : Fr He H0 H1 H' (a0 :: a1 :: a2 :: a3 :: a4 :: a5 :: a6 :: a7 :: a8 :: a9 :: a10 :: a11 :: a12 :: a13 :: a14 :: a15 :: a16 :: a17 :: a18 :: a19 :: a20 :: a21 :: a22 :: a23 :: a24 :: a25 :: a26 :: a27 :: a28 :: a29 :: a30 :: a31 :: (q, o') :: L) := F.put 32 rfl hb hp
theorem Fr.callP32 {a0 a1 a2 a3 a4 a5 a6 a7 a8 a9 a10 a11 a12 a13 a14 a15 a16 a17 a18 a19 a20 a21 a22 a23 a24 a25 a26 a27 a28 a29 a30 a31 : Addr × HO} (F : Fr He H0 H1 H (a0 :: a1 :: a2 :: a3 :: a4 :: a5 :: a6 :: a7 :: a8 :: a9 :: a10 :: a11 :: a12 :: a13 :: a14 :: a15 :: a16 :: a17 :: a18 :: a19 :: a20 :: a21 :: a22 :: a23 :: a24 :: a25 :: a26 :: a27 :: a28 :: a29 :: a30 :: a31 :: (q, o) :: L)) (G : GrowP q H1 H H2 H') (e : H' q = some o') : Fr He H0 H2 H' (a0 :: a1 :: a2 :: a3 :: a4 :: a5 :: a6 :: a7 :: a8 :: a9 :: a10 :: a11 :: a12 :: a13 :: a14 :: a15 :: a16 :: a17 :: a18 :: a19 :: a20 :: a21 :: a22 :: a23 :: a24 :: a25 :: a26 :: a27 :: a28 :: a29 :: a30 :: a31 :: (q, o') :: L) := F.callP 32 rfl G e
theorem Fr.gen32 {a0 a1 a2 a3 a4 a5 a6 a7 a8 a9 a10 a11 a12 a13 a14 a15 a16 a17 a18 a19 a20 a21 a22 a23 a24 a25 a26 a27 a28 a29 a30 a31 : Addr × HO} (F : Fr He H0 H1 H (a0 :: a1 :: a2 :: a3 :: a4 :: a5 :: a6 :: a7 :: a8 :: a9 :: a10 :: a11 :: a12 :: a13 :: a14 :: a15 :: a16 :: a17 :: a18 :: a19 :: a20 :: a21 :: a22 :: a23 :: a24 :: a25 :: a26 :: a27 :: a28 :: a29 :: a30 :: a31 :: (q, o) :: L)) (n : H l = none) (hl : H' l = some u) (hq : H' q = some o') (hb : ∀ b w, b ≠ q → H b = some w → H' b = some w) : Fr He H0 H1 H' ((l, u) :: a0 :: a1 :: a2 :: a3 :: a4 :: a5 :: a6 :: a7 :: a8 :: a9 :: a10 :: a11 :: a12 :: a13 :: a14 :: a15 :: a16 :: a17 :: a18 :: a19 :: a20 :: a21 :: a22 :: a23 :: a24 :: a25 :: a26 :: a27 :: a28 :: a29 :: a30 :: a31 :: (q, o') :: L) := F.gen 32 rfl n hl hq hb
theorem Fr.drop32 {a0 a1 a2 a3 a4 a5 a6 a7 a8 a9 a10 a11 a12 a13 a14 a15 a16 a17 a18 a19 a20 a21 a22 a23 a24 a25 a26 a27 a28 a29 a30 a31 : Addr × HO} (F : Fr He H0 H1 H (a0 :: a1 :: a2 :: a3 :: a4 :: a5 :: a6 :: a7 :: a8 :: a9 :: a10 :: a11 :: a12 :: a13 :: a14 :: a15 :: a16 :: a17 :: a18 :: a19 :: a20 :: a21 :: a22 :: a23 :: a24 :: a25 :: a26 :: a27 :: a28 :: a29 :: a30 :: a31 :: (q, o) :: L)) : Fr He H0 H1 H (a0 :: a1 :: a2 :: a3 :: a4 :: a5 :: a6 :: a7 :: a8 :: a9 :: a10 :: a11 :: a12 :: a13 :: a14 :: a15 :: a16 :: a17 :: a18 :: a19 :: a20 :: a21 :: a22 :: a23 :: a24 :: a25 :: a26 :: a27 :: a28 :: a29 :: a30 :: a31 :: L) := F.drop 32
theorem Fr.give32 {a0 a1 a2 a3 a4 a5 a6 a7 a8 a9 a10 a11 a12 a13 a14 a15 a16 a17 a18 a19 a20 a21 a22 a23 a24 a25 a26 a27 a28 a29 a30 a31 : Addr × HO} (F : Fr He H0 H1 H (a0 :: a1 :: a2 :: a3 :: a4 :: a5 :: a6 :: a7 :: a8 :: a9 :: a10 :: a11 :: a12 :: a13 :: a14 :: a15 :: a16 :: a17 :: a18 :: a19 :: a20 :: a21 :: a22 :: a23 :: a24 :: a25 :: a26 :: a27 :: a28 :: a29 :: a30 :: a31 :: (q, o) :: L)) : Fr He H0 (L2.upd H1 q o) H (a0 :: a1 :: a2 :: a3 :: a4 :: a5 :: a6 :: a7 :: a8 :: a9 :: a10 :: a11 :: a12 :: a13 :: a14 :: a15 :: a16 :: a17 :: a18 :: a19 :: a20 :: a21 :: a22 :: a23 :: a24 :: a25 :: a26 :: a27 :: a28 :: a29 :: a30 :: a31 :: L) := F.give 32 rfl
theorem Fr.at32 {a0 a1 a2 a3 a4 a5 a6 a7 a8 a9 a10 a11 a12 a13 a14 a15 a16 a17 a18 a19 a20 a21 a22 a23 a24 a25 a26 a27 a28 a29 a30 a31 : Addr × HO} (F : Fr He H0 H1 H (a0 :: a1 :: a2 :: a3 :: a4 :: a5 :: a6 :: a7 :: a8 :: a9 :: a10 :: a11 :: a12 :: a13 :: a14 :: a15 :: a16 :: a17 :: a18 :: a19 :: a20 :: a21 :: a22 :: a23 :: a24 :: a25 :: a26 :: a27 :: a28 :: a29 :: a30 :: a31 :: (q, o) :: L)) : H q = some o := F.at 32 rfl
theorem Fr.n132 {a0 a1 a2 a3 a4 a5 a6 a7 a8 a9 a10 a11 a12 a13 a14 a15 a16 a17 a18 a19 a20 a21 a22 a23 a24 a25 a26 a27 a28 a29 a30 a31 : Addr × HO} (F : Fr He H0 H1 H (a0 :: a1 :: a2 :: a3 :: a4 :: a5 :: a6 :: a7 :: a8 :: a9 :: a10 :: a11 :: a12 :: a13 :: a14 :: a15 :: a16 :: a17 :: a18 :: a19 :: a20 :: a21 :: a22 :: a23 :: a24 :: a25 :: a26 :: a27 :: a28 :: a29 :: a30 :: a31 :: (q, o) :: L)) : H1 q = none := F.n1 32 rfl
theorem Fr.back32 {a0 a1 a2 a3 a4 a5 a6 a7 a8 a9 a10 a11 a12 a13 a14 a15 a16 a17 a18 a19 a20 a21 a22 a23 a24 a25 a26 a27 a28 a29 a30 a31 : Addr × HO} {He' : Hp} (F : Fr (del He' q) H0 H1 H (a0 :: a1 :: a2 :: a3 :: a4 :: a5 :: a6 :: a7 :: a8 :: a9 :: a10 :: a11 :: a12 :: a13 :: a14 :: a15 :: a16 :: a17 :: a18 :: a19 :: a20 :: a21 :: a22 :: a23 :: a24 :: a25 :: a26 :: a27 :: a28 :: a29 :: a30 :: a31 :: (q, o) :: L)) (n : H0 q = none) : GrowP q H0 He' H1 H ∧ H q = some o := ⟨F.back 32 rfl n, F.at 32 rfl⟩
theorem Fr.gvl32 {a0 a1 a2 a3 a4 a5 a6 a7 a8 a9 a10 a11 a12 a13 a14 a15 a16 a17 a18 a19 a20 a21 a22 a23 a24 a25 a26 a27 a28 a29 a30 a31 : Addr × HO} {K : PySem.W.Frag} {xs : List V} {ds : List PyData} (F : Fr He H0 H1 H (a0 :: a1 :: a2 :: a3 :: a4 :: a5 :: a6 :: a7 :: a8 :: a9 :: a10 :: a11 :: a12 :: a13 :: a14 :: a15 :: a16 :: a17 :: a18 :: a19 :: a20 :: a21 :: a22 :: a23 :: a24 :: a25 :: a26 :: a27 :: a28 :: a29 :: a30 :: a31 :: (q, .lst xs) :: L)) (h : DtAll K H1 xs ds) : ∃ B, Fr He H0 B H (a0 :: a1 :: a2 :: a3 :: a4 :: a5 :: a6 :: a7 :: a8 :: a9 :: a10 :: a11 :: a12 :: a13 :: a14 :: a15 :: a16 :: a17 :: a18 :: a19 :: a20 :: a21 :: a22 :: a23 :: a24 :: a25 :: a26 :: a27 :: a28 :: a29 :: a30 :: a31 :: L) ∧ Dt K B (.ref q) (.list ds) ∧ L2.Same H1 B := F.gvl 32 rfl h
theorem Fr.gvt32 {a0 a1 a2 a3 a4 a5 a6 a7 a8 a9 a10 a11 a12 a13 a14 a15 a16 a17 a18 a19 a20 a21 a22 a23 a24 a25 a26 a27 a28 a29 a30 a31 : Addr × HO} {K : PySem.W.Frag} {xs : List V} {ds : List PyData} (F : Fr He H0 H1 H (a0 :: a1 :: a2 :: a3 :: a4 :: a5 :: a6 :: a7 :: a8 :: a9 :: a10 :: a11 :: a12 :: a13 :: a14 :: a15 :: a16 :: a17 :: a18 :: a19 :: a20 :: a21 :: a22 :: a23 :: a24 :: a25 :: a26 :: a27 :: a28 :: a29 :: a30 :: a31 :: (q, .tup xs) :: L)) (h : DtAll K H1 xs ds) : ∃ B, Fr He H0 B H (a0 :: a1 :: a2 :: a3 :: a4 :: a5 :: a6 :: a7 :: a8 :: a9 :: a10 :: a11 :: a12 :: a13 :: a14 :: a15 :: a16 :: a17 :: a18 :: a19 :: a20 :: a21 :: a22 :: a23 :: a24 :: a25 :: a26 :: a27 :: a28 :: a29 :: a30 :: a31 :: L) ∧ Dt K B (.ref q) (.tuple ds) ∧ L2.Same H1 B := F.gvt 32 rfl h
theorem Fr.take33 {a0 a1 a2 a3 a4 a5 a6 a7 a8 a9 a10 a11 a12 a13 a14 a15 a16 a17 a18 a19 a20 a21 a22 a23 a24 a25 a26 a27 a28 a29 a30 a31 a32 : Addr × HO} (F : Fr He H0 H1 H (a0 :: a1 :: a2 :: a3 :: a4 :: a5 :: a6 :: a7 :: a8 :: a9 :: a10 :: a11 :: a12 :: a13 :: a14 :: a15 :: a16 :: a17 :: a18 :: a19 :: a20 :: a21 :: a22 :: a23 :: a24 :: a25 :: a26 :: a27 :: a28 :: a29 :: a30 :: a31 :: a32 :: (q, o) :: L)) (old : ∀ b u, b ≠ q → H b = some u → H' b = some u) (e : H' q = some o') : Fr He H0 H1 H' (a0 :: a1 :: a2 :: a3 :: a4 :: a5 :: a6 :: a7 :: a8 :: a9 :: a10 :: a11 :: a12 :: a13 :: a14 :: a15 :: a16 :: a17 :: a18 :: a19 :: a20 :: a21 :: a22 :: a23 :: a24 :: a25 :: a26 :: a27 :: a28 :: a29 :: a30 :: a31 :: a32 :: (q, o') :: L) := F.take 33 rfl old e
theorem Fr.put33 {a0 a1 a2 a3 a4 a5 a6 a7 a8 a9 a10 a11 a12 a13 a14 a15 a16 a17 a18 a19 a20 a21 a22 a23 a24 a25 a26 a27 a28 a29 a30 a31 a32 : Addr × HO} (F : Fr He H0 H1 H (a0 :: a1 :: a2 :: a3 :: a4 :: a5 :: a6 :: a7 :: a8 :: a9 :: a10 :: a11 :: a12 :: a13 :: a14 :: a15 :: a16 :: a17 :: a18 :: a19 :: a20 :: a21 :: a22 :: a23 :: a24 :: a25 :: a26 :: a27 :: a28 :: a29 :: a30 :: a31 :: a32 :: (q, o) :: L)) (hb : ∀ b, b ≠ q → H' b = H b) (hp : H' q = some o') : Fr He H0 H1 H' (a0 :: a1 :: a2 :: a3 :: a4 :: a5 :: a6 :: a7 :: a8 :: a9 :: a10 :: a11 :: a12 :: a13 :: a14 :: a15 :: a16 :: a17 :: a18 :: a19 :: a20 :: a21 :: a22 :: a23 :: a24 :: a25 :: a26 :: a27 :: a28 :: a29 :: a30 :: a31 :: a32 :: (q, o') :: L) := F.put 33 rfl hb hp
theorem Fr.callP33 {a0 a1 a2 a3 a4 a5 a6 a7 a8 a9 a10 a11 a12 a13 a14 a15 a16 a17 a18 a19 a20 a21 a22 a23 a24 a25 a26 a27 a28 a29 a30 a31 a32 : Addr × HO} (F : Fr He H0 H1 H (a0 :: a1 :: a2 :: a3 :: a4 :: a5 :: a6 :: a7 :: a8 :: a9 :: a10 :: a11 :: a12 :: a13 :: a14 :: a15 :: a16 :: a17 :: a18 :: a19 :: a20 :: a21 :: a22 :: a23 :: a24 :: a25 :: a26 :: a27 :: a28 :: a29 :: a30 :: a31 :: a32 :: (q, o) :: L)) (G : GrowP q H1 H H2 H') (e : H' q = some o') : Fr He H0 H2 H' (a0 :: a1 :: a2 :: a3 :: a4 :: a5 :: a6 :: a7 :: a8 :: a9 :: a10 :: a11 :: a12 :: a13 :: a14 :: a15 :: a16 :: a17 :: a18 :: a19 :: a20 :: a21 :: a22 :: a23 :: a24 :: a25 :: a26 :: a27 :: a28 :: a29 :: a30 :: a31 :: a32 :: (q, o') :: L) := F.callP 33 rfl G e
theorem Fr.gen33 {a0 a1 a2 a3 a4 a5 a6 a7 a8 a9 a10 a11 a12 a13 a14 a15 a16 a17 a18 a19 a20 a21 a22 a23 a24 a25 a26 a27 a28 a29 a30 a31 a32 : Addr × HO} (F : Fr He H0 H1 H (a0 :: a1 :: a2 :: a3 :: a4 :: a5 :: a6 :: a7 :: a8 :: a9 :: a10 :: a11 :: a12 :: a13 :: a14 :: a15 :: a16 :: a17 :: a18 :: a19 :: a20 :: a21 :: a22 :: a23 :: a24 :: a25 :: a26 :: a27 :: a28 :: a29 :: a30 :: a31 :: a32 :: (q, o) :: L)) (n : H l = none) (hl : H' l = some u) (hq : H' q = some o') (hb : ∀ b w, b ≠ q → H b = some w → H' b = some w) : Fr He H0 H1 H' ((l, u) :: a0 :: a1 :: a2 :: a3 :: a4 :: a5 :: a6 :: a7 :: a8 :: a9 :: a10 :: a11 :: a12 :: a13 :: a14 :: a15 :: a16 :: a17 :: a18 :: a19 :: a20 :: a21 :: a22 :: a23 :: a24 :: a25 :: a26 :: a27 :: a28 :: a29 :: a30 :: a31 :: a32 :: (q, o') :: L) := F.gen 33 rfl n hl hq hb
theorem Fr.drop33 {a0 a1 a2 a3 a4 a5 a6 a7 a8 a9 a10 a11 a12 a13 a14 a15 a16 a17 a18 a19 a20 a21 a22 a23 a24 a25 a26 a27 a28 a29 a30 a31 a32 : Addr × HO} (F : Fr He H0 H1 H (a0 :: a1 :: a2 :: a3 :: a4 :: a5 :: a6 :: a7 :: a8 :: a9 :: a10 :: a11 :: a12 :: a13 :: a14 :: a15 :: a16 :: a17 :: a18 :: a19 :: a20 :: a21 :: a22 :: a23 :: a24 :: a25 :: a26 :: a27 :: a28 :: a29 :: a30 :: a31 :: a32 :: (q, o) :: L)) : Fr He H0 H1 H (a0 :: a1 :: a2 :: a3 :: a4 :: a5 :: a6 :: a7 :: a8 :: a9 :: a10 :: a11 :: a12 :: a13 :: a14 :: a15 :: a16 :: a17 :: a18 :: a19 :: a20 :: a21 :: a22 :: a23 :: a24 :: a25 :: a26 :: a27 :: a28 :: a29 :: a30 :: a31 :: a32 :: L) := F.drop 33
theorem Fr.give33 {a0 a1 a2 a3 a4 a5 a6 a7 a8 a9 a10 a11 a12 a13 a14 a15 a16 a17 a18 a19 a20 a21 a22 a23 a24 a25 a26 a27 a28 a29 a30 a31 a32 : Addr × HO} (F : Fr He H0 H1 H (a0 :: a1 :: a2 :: a3 :: a4 :: a5 :: a6 :: a7 :: a8 :: a9 :: a10 :: a11 :: a12 :: a13 :: a14 :: a15 :: a16 :: a17 :: a18 :: a19 :: a20 :: a21 :: a22 :: a23 :: a24 :: a25 :: a26 :: a27 :: a28 :: a29 :: a30 :: a31 :: a32 :: (q, o) :: L)) : Fr He H0 (L2.upd H1 q o) H (a0 :: a1 :: a2 :: a3 :: a4 :: a5 :: a6 :: a7 :: a8 :: a9 :: a10 :: a11 :: a12 :: a13 :: a14 :: a15 :: a16 :: a17 :: a18 :: a19 :: a20 :: a21 :: a22 :: a23 :: a24 :: a25 :: a26 :: a27 :: a28 :: a29 :: a30 :: a31 :: a32 :: L) := F.give 33 rfl
theorem Fr.at33 {a0 a1 a2 a3 a4 a5 a6 a7 a8 a9 a10 a11 a12 a13 a14 a15 a16 a17 a18 a19 a20 a21 a22 a23 a24 a25 a26 a27 a28 a29 a30 a31 a32 : Addr × HO} (F : Fr He H0 H1 H (a0 :: a1 :: a2 :: a3 :: a4 :: a5 :: a6 :: a7 :: a8 :: a9 :: a10 :: a11 :: a12 :: a13 :: a14 :: a15 :: a16 :: a17 :: a18 :: a19 :: a20 :: a21 :: a22 :: a23 :: a24 :: a25 :: a26 :: a27 :: a28 :: a29 :: a30 :: a31 :: a32 :: (q, o) :: L)) : H q = some o := F.at 33 rfl
theorem Fr.n133 {a0 a1 a2 a3 a4 a5 a6 a7 a8 a9 a10 a11 a12 a13 a14 a15 a16 a17 a18 a19 a20 a21 a22 a23 a24 a25 a26 a27 a28 a29 a30 a31 a32 : Addr × HO} (F : Fr He H0 H1 H (a0 :: a1 :: a2 :: a3 :: a4 :: a5 :: a6 :: a7 :: a8 :: a9 :: a10 :: a11 :: a12 :: a13 :: a14 :: a15 :: a16 :: a17 :: a18 :: a19 :: a20 :: a21 :: a22 :: a23 :: a24 :: a25 :: a26 :: a27 :: a28 :: a29 :: a30 :: a31 :: a32 :: (q, o) :: L)) : H1 q = none := F.n1 33 rfl
theorem Fr.back33 {a0 a1 a2 a3 a4 a5 a6 a7 a8 a9 a10 a11 a12 a13 a14 a15 a16 a17 a18 a19 a20 a21 a22 a23 a24 a25 a26 a27 a28 a29 a30 a31 a32 : Addr × HO} {He' : Hp} (F : Fr (del He' q) H0 H1 H (a0 :: a1 :: a2 :: a3 :: a4 :: a5 :: a6 :: a7 :: a8 :: a9 :: a10 :: a11 :: a12 :: a13 :: a14 :: a15 :: a16 :: a17 :: a18 :: a19 :: a20 :: a21 :: a22 :: a23 :: a24 :: a25 :: a26 :: a27 :: a28 :: a29 :: a30 :: a31 :: a32 :: (q, o) :: L)) (n : H0 q = none) : GrowP q H0 He' H1 H ∧ H q = some o := ⟨F.back 33 rfl n, F.at 33 rfl⟩
theorem Fr.gvl33 {a0 a1 a2 a3 a4 a5 a6 a7 a8 a9 a10 a11 a12 a13 a14 a15 a16 a17 a18 a19 a20 a21 a22 a23 a24 a25 a26 a27 a28 a29 a30 a31 a32 : Addr × HO} {K : PySem.W.Frag} {xs : List V} {ds : List PyData} (F : Fr He H0 H1 H (a0 :: a1 :: a2 :: a3 :: a4 :: a5 :: a6 :: a7 :: a8 :: a9 :: a10 :: a11 :: a12 :: a13 :: a14 :: a15 :: a16 :: a17 :: a18 :: a19 :: a20 :: a21 :: a22 :: a23 :: a24 :: a25 :: a26 :: a27 :: a28 :: a29 :: a30 :: a31 :: a32 :: (q, .lst xs) :: L)) (h : DtAll K H1 xs ds) : ∃ B, Fr He H0 B H (a0 :: a1 :: a2 :: a3 :: a4 :: a5 :: a6 :: a7 :: a8 :: a9 :: a10 :: a11 :: a12 :: a13 :: a14 :: a15 :: a16 :: a17 :: a18 :: a19 :: a20 :: a21 :: a22 :: a23 :: a24 :: a25 :: a26 :: a27 :: a28 :: a29 :: a30 :: a31 :: a32 :: L) ∧ Dt K B (.ref q) (.list ds) ∧ L2.Same H1 B := F.gvl 33 rfl h
theorem Fr.gvt33 {a0 a1 a2 a3 a4 a5 a6 a7 a8 a9 a10 a11 a12 a13 a14 a15 a16 a17 a18 a19 a20 a21 a22 a23 a24 a25 a26 a27 a28 a29 a30 a31 a32 : Addr × HO} {K : PySem.W.Frag} {xs : List V} {ds : List PyData} (F : Fr He H0 H1 H (a0 :: a1 :: a2 :: a3 :: a4 :: a5 :: a6 :: a7 :: a8 :: a9 :: a10 :: a11 :: a12 :: a13 :: a14 :: a15 :: a16 :: a17 :: a18 :: a19 :: a20 :: a21 :: a22 :: a23 :: a24 :: a25 :: a26 :: a27 :: a28 :: a29 :: a30 :: a31 :: a32 :: (q, .tup xs) :: L)) (h : DtAll K H1 xs ds) : ∃ B, Fr He H0 B H (a0 :: a1 :: a2 :: a3 :: a4 :: a5 :: a6 :: a7 :: a8 :: a9 :: a10 :: a11 :: a12 :: a13 :: a14 :: a15 :: a16 :: a17 :: a18 :: a19 :: a20 :: a21 :: a22 :: a23 :: a24 :: a25 :: a26 :: a27 :: a28 :: a29 :: a30 :: a31 :: a32 :: L) ∧ Dt K B (.ref q) (.tuple ds) ∧ L2.Same H1 B := F.gvt 33 rfl h
theorem Fr.take34 {a0 a1 a2 a3 a4 a5 a6 a7 a8 a9 a10 a11 a12 a13 a14 a15 a16 a17 a18 a19 a20 a21 a22 a23 a24 a25 a26 a27 a28 a29 a30 a31 a32 a33 : Addr × HO} (F : Fr He H0 H1 H (a0 :: a1 :: a2 :: a3 :: a4 :: a5 :: a6 :: a7 :: a8 :: a9 :: a10 :: a11 :: a12 :: a13 :: a14 :: a15 :: a16 :: a17 :: a18 :: a19 :: a20 :: a21 :: a22 :: a23 :: a24 :: a25 :: a26 :: a27 :: a28 :: a29 :: a30 :: a31 :: a32 :: a33 :: (q, o) :: L)) (old : ∀ b u, b ≠ q → H b = some u → H' b = some u) (e : H' q = some o') : Fr He H0 H1 H' (a0 :: a1 :: a2 :: a3 :: a4 :: a5 :: a6 :: a7 :: a8 :: a9 :: a10 :: a11 :: a12 :: a13 :: a14 :: a15 :: a16 :: a17 :: a18 :: a19 :: a20 :: a21 :: a22 :: a23 :: a24 :: a25 :: a26 :: a27 :: a28 :: a29 :: a30 :: a31 :: a32 :: a33 :: (q, o') :: L) := F.take 34 rfl old e
theorem Fr.put34 {a0 a1 a2 a3 a4 a5 a6 a7 a8 a9 a10 a11 a12 a13 a14 a15 a16 a17 a18 a19 a20 a21 a22 a23 a24 a25 a26 a27 a28 a29 a30 a31 a32 a33 : Addr × HO} (F : Fr He H0 H1 H (a0 :: a1 :: a2 :: a3 :: a4 :: a5 :: a6 :: a7 :: a8 :: a9 :: a10 :: a11 :: a12 :: a13 :: a14 :: a15 :: a16 :: a17 :: a18 :: a19 :: a20 :: a21 :: a22 :: a23 :: a24 :: a25 :: a26 :: a27 :: a28 :: a29 :: a30 :: a31 :: a32 :: a33 :: (q, o) :: L)) (hb : ∀ b, b ≠ q → H' b = H b) (hp : H' q = some o') : Fr He H0 H1 H' (a0 :: a1 :: a2 :: a3 :: a4 :: a5 :: a6 :: a7 :: a8 :: a9 :: a10 :: a11 :: a12 :: a13 :: a14 :: a15 :: a16 :: a17 :: a18 :: a19 :: a20 :: a21 :: a22 :: a23 :: a24 :: a25 :: a26 :: a27 :: a28 :: a29 :: a30 :: a31 :: a32 :: a33 :: (q, o') :: L) := F.put 34 rfl hb hp
theorem Fr.callP34 {a0 a1 a2 a3 a4 a5 a6 a7 a8 a9 a10 a11 a12 a13 a14 a15 a16 a17 a18 a19 a20 a21 a22 a23 a24 a25 a26 a27 a28 a29 a30 a31 a32 a33 : Addr × HO} (F : Fr He H0 H1 H (a0 :: a1 :: a2 :: a3 :: a4 :: a5 :: a6 :: a7 :: a8 :: a9 :: a10 :: a11 :: a12 :: a13 :: a14 :: a15 :: a16 :: a17 :: a18 :: a19 :: a20 :: a21 :: a22 :: a23 :: a24 :: a25 :: a26 :: a27 :: a28 :: a29 :: a30 :: a31 :: a32 :: a33 :: (q, o) :: L)) (G : GrowP q H1 H H2 H') (e : H' q = some o') : Fr He H0 H2 H' (a0 :: a1 :: a2 :: a3 :: a4 :: a5 :: a6 :: a7 :: a8 :: a9 :: a10 :: a11 :: a12 :: a13 :: a14 :: a15 :: a16 :: a17 :: a18 :: a19 :: a20 :: a21 :: a22 :: a23 :: a24 :: a25 :: a26 :: a27 :: a28 :: a29 :: a30 :: a31 :: a32 :: a33 :: (q, o') :: L) := F.callP 34 rfl G e
theorem Fr.gen34 {a0 a1 a2 a3 a4 a5 a6 a7 a8 a9 a10 a11 a12 a13 a14 a15 a16 a17 a18 a19 a20 a21 a22 a23 a24 a25 a26 a27 a28 a29 a30 a31 a32 a33 : Addr × HO} (F : Fr He H0 H1 H (a0 :: a1 :: a2 :: a3 :: a4 :: a5 :: a6 :: a7 :: a8 :: a9 :: a10 :: a11 :: a12 :: a13 :: a14 :: a15 :: a16 :: a17 :: a18 :: a19 :: a20 :: a21 :: a22 :: a23 :: a24 :: a25 :: a26 :: a27 :: a28 :: a29 :: a30 :: a31 :: a32 :: a33 :: (q, o) :: L)) (n : H l = none) (hl : H' l = some u) (hq : H' q = some o') (hb : ∀ b w, b ≠ q → H b = some w → H' b = some w) : Fr He H0 H1 H' ((l, u) :: a0 :: a1 :: a2 :: a3 :: a4 :: a5 :: a6 :: a7 :: a8 :: a9 :: a10 :: a11 :: a12 :: a13 :: a14 :: a15 :: a16 :: a17 :: a18 :: a19 :: a20 :: a21 :: a22 :: a23 :: a24 :: a25 :: a26 :: a27 :: a28 :: a29 :: a30 :: a31 :: a32 :: a33 :: (q, o') :: L) := F.gen 34 rfl n hl hq hb
theorem Fr.drop34 {a0 a1 a2 a3 a4 a5 a6 a7 a8 a9 a10 a11 a12 a13 a14 a15 a16 a17 a18 a19 a20 a21 a22 a23 a24 a25 a26 a27 a28 a29 a30 a31 a32 a33 : Addr × HO} (F : Fr He H0 H1 H (a0 :: a1 :: a2 :: a3 :: a4 :: a5 :: a6 :: a7 :: a8 :: a9 :: a10 :: a11 :: a12 :: a13 :: a14 :: a15 :: a16 :: a17 :: a18 :: a19 :: a20 :: a21 :: a22 :: a23 :: a24 :: a25 :: a26 :: a27 :: a28 :: a29 :: a30 :: a31 :: a32 :: a33 :: (q, o) :: L)) : Fr He H0 H1 H (a0 :: a1 :: a2 :: a3 :: a4 :: a5 :: a6 :: a7 :: a8 :: a9 :: a10 :: a11 :: a12 :: a13 :: a14 :: a15 :: a16 :: a17 :: a18 :: a19 :: a20 :: a21 :: a22 :: a23 :: a24 :: a25 :: a26 :: a27 :: a28 :: a29 :: a30 :: a31 :: a32 :: a33 :: L) := F.drop 34
theorem Fr.give34 {a0 a1 a2 a3 a4 a5 a6 a7 a8 a9 a10 a11 a12 a13 a14 a15 a16 a17 a18 a19 a20 a21 a22 a23 a24 a25 a26 a27 a28 a29 a30 a31 a32 a33 : Addr × HO} (F : Fr He H0 H1 H (a0 :: a1 :: a2 :: a3 :: a4 :: a5 :: a6 :: a7 :: a8 :: a9 :: a10 :: a11 :: a12 :: a13 :: a14 :: a15 :: a16 :: a17 :: a18 :: a19 :: a20 :: a21 :: a22 :: a23 :: a24 :: a25 :: a26 :: a27 :: a28 :: a29 :: a30 :: a31 :: a32 :: a33 :: (q, o) :: L)) : Fr He H0 (L2.upd H1 q o) H (a0 :: a1 :: a2 :: a3 :: a4 :: a5 :: a6 :: a7 :: a8 :: a9 :: a10 :: a11 :: a12 :: a13 :: a14 :: a15 :: a16 :: a17 :: a18 :: a19 :: a20 :: a21 :: a22 :: a23 :: a24 :: a25 :: a26 :: a27 :: a28 :: a29 :: a30 :: a31 :: a32 :: a33 :: L) := F.give 34 rfl
theorem Fr.at34 {a0 a1 a2 a3 a4 a5 a6 a7 a8 a9 a10 a11 a12 a13 a14 a15 a16 a17 a18 a19 a20 a21 a22 a23 a24 a25 a26 a27 a28 a29 a30 a31 a32 a33 : Addr × HO} (F : Fr He H0 H1 H (a0 :: a1 :: a2 :: a3 :: a4 :: a5 :: a6 :: a7 :: a8 :: a9 :: a10 :: a11 :: a12 :: a13 :: a14 :: a15 :: a16 :: a17 :: a18 :: a19 :: a20 :: a21 :: a22 :: a23 :: a24 :: a25 :: a26 :: a27 :: a28 :: a29 :: a30 :: a31 :: a32 :: a33 :: (q, o) :: L)) : H q = some o := F.at 34 rfl
theorem Fr.n134 {a0 a1 a2 a3 a4 a5 a6 a7 a8 a9 a10 a11 a12 a13 a14 a15 a16 a17 a18 a19 a20 a21 a22 a23 a24 a25 a26 a27 a28 a29 a30 a31 a32 a33 : Addr × HO} (F : Fr He H0 H1 H (a0 :: a1 :: a2 :: a3 :: a4 :: a5 :: a6 :: a7 :: a8 :: a9 :: a10 :: a11 :: a12 :: a13 :: a14 :: a15 :: a16 :: a17 :: a18 :: a19 :: a20 :: a21 :: a22 :: a23 :: a24 :: a25 :: a26 :: a27 :: a28 :: a29 :: a30 :: a31 :: a32 :: a33 :: (q, o) :: L)) : H1 q = none := F.n1 34 rfl
theorem Fr.back34 {a0 a1 a2 a3 a4 a5 a6 a7 a8 a9 a10 a11 a12 a13 a14 a15 a16 a17 a18 a19 a20 a21 a22 a23 a24 a25 a26 a27 a28 a29 a30 a31 a32 a33 : Addr × HO} {He' : Hp} (F : Fr (del He' q) H0 H1 H (a0 :: a1 :: a2 :: a3 :: a4 :: a5 :: a6 :: a7 :: a8 :: a9 :: a10 :: a11 :: a12 :: a13 :: a14 :: a15 :: a16 :: a17 :: a18 :: a19 :: a20 :: a21 :: a22 :: a23 :: a24 :: a25 :: a26 :: a27 :: a28 :: a29 :: a30 :: a31 :: a32 :: a33 :: (q, o) :: L)) (n : H0 q = none) : GrowP q H0 He' H1 H ∧ H q = some o := ⟨F.back 34 rfl n, F.at 34 rfl⟩
theorem Fr.gvl34 {a0 a1 a2 a3 a4 a5 a6 a7 a8 a9 a10 a11 a12 a13 a14 a15 a16 a17 a18 a19 a20 a21 a22 a23 a24 a25 a26 a27 a28 a29 a30 a31 a32 a33 : Addr × HO} {K : PySem.W.Frag} {xs : List V} {ds : List PyData} (F : Fr He H0 H1 H (a0 :: a1 :: a2 :: a3 :: a4 :: a5 :: a6 :: a7 :: a8 :: a9 :: a10 :: a11 :: a12 :: a13 :: a14 :: a15 :: a16 :: a17 :: a18 :: a19 :: a20 :: a21 :: a22 :: a23 :: a24 :: a25 :: a26 :: a27 :: a28 :: a29 :: a30 :: a31 :: a32 :: a33 :: (q, .lst xs) :: L)) (h : DtAll K H1 xs ds) : ∃ B, Fr He H0 B H (a0 :: a1 :: a2 :: a3 :: a4 :: a5 :: a6 :: a7 :: a8 :: a9 :: a10 :: a11 :: a12 :: a13 :: a14 :: a15 :: a16 :: a17 :: a18 :: a19 :: a20 :: a21 :: a22 :: a23 :: a24 :: a25 :: a26 :: a27 :: a28 :: a29 :: a30 :: a31 :: a32 :: a33 :: L) ∧ Dt K B (.ref q) (.list ds) ∧ L2.Same H1 B := F.gvl 34 rfl h
theorem Fr.gvt34 {a0 a1 a2 a3 a4 a5 a6 a7 a8 a9 a10 a11 a12 a13 a14 a15 a16 a17 a18 a19 a20 a21 a22 a23 a24 a25 a26 a27 a28 a29 a30 a31 a32 a33 : Addr × HO} {K : PySem.W.Frag} {xs : List V} {ds : List PyData} (F : Fr He H0 H1 H (a0 :: a1 :: a2 :: a3 :: a4 :: a5 :: a6 :: a7 :: a8 :: a9 :: a10 :: a11 :: a12 :: a13 :: a14 :: a15 :: a16 :: a17 :: a18 :: a19 :: a20 :: a21 :: a22 :: a23 :: a24 :: a25 :: a26 :: a27 :: a28 :: a29 :: a30 :: a31 :: a32 :: a33 :: (q, .tup xs) :: L)) (h : DtAll K H1 xs ds) : ∃ B, Fr He H0 B H (a0 :: a1 :: a2 :: a3 :: a4 :: a5 :: a6 :: a7 :: a8 :: a9 :: a10 :: a11 :: a12 :: a13 :: a14 :: a15 :: a16 :: a17 :: a18 :: a19 :: a20 :: a21 :: a22 :: a23 :: a24 :: a25 :: a26 :: a27 :: a28 :: a29 :: a30 :: a31 :: a32 :: a33 :: L) ∧ Dt K B (.ref q) (.tuple ds) ∧ L2.Same H1 B := F.gvt 34 rfl h
theorem Fr.take35 {a0 a1 a2 a3 a4 a5 a6 a7 a8 a9 a10 a11 a12 a13 a14 a15 a16 a17 a18 a19 a20 a21 a22 a23 a24 a25 a26 a27 a28 a29 a30 a31 a32 a33 a34 : Addr × HO} (F : Fr He H0 H1 H (a0 :: a1 :: a2 :: a3 :: a4 :: a5 :: a6 :: a7 :: a8 :: a9 :: a10 :: a11 :: a12 :: a13 :: a14 :: a15 :: a16 :: a17 :: a18 :: a19 :: a20 :: a21 :: a22 :: a23 :: a24 :: a25 :: a26 :: a27 :: a28 :: a29 :: a30 :: a31 :: a32 :: a33 :: a34 :: (q, o) :: L)) (old : ∀ b u, b ≠ q → H b = some u → H' b = some u) (e : H' q = some o') : Fr He H0 H1 H' (a0 :: a1 :: a2 :: a3 :: a4 :: a5 :: a6 :: a7 :: a8 :: a9 :: a10 :: a11 :: a12 :: a13 :: a14 :: a15 :: a16 :: a17 :: a18 :: a19 :: a20 :: a21 :: a22 :: a23 :: a24 :: a25 :: a26 :: a27 :: a28 :: a29 :: a30 :: a31 :: a32 :: a33 :: a34 :: (q, o') :: L) := F.take 35 rfl old e
theorem Fr.put35 {a0 a1 a2 a3 a4 a5 a6 a7 a8 a9 a10 a11 a12 a13 a14 a15 a16 a17 a18 a19 a20 a21 a22 a23 a24 a25 a26 a27 a28 a29 a30 a31 a32 a33 a34 : Addr × HO} (F : Fr He H0 H1 H (a0 :: a1 :: a2 :: a3 :: a4 :: a5 :: a6 :: a7 :: a8 :: a9 :: a10 :: a11 :: a12 :: a13 :: a14 :: a15 :: a16 :: a17 :: a18 :: a19 :: a20 :: a21 :: a22 :: a23 :: a24 :: a25 :: a26 :: a27 :: a28 :: a29 :: a30 :: a31 :: a32 :: a33 :: a34 :: (q, o) :: L)) (hb : ∀ b, b ≠ q → H' b = H b) (hp : H' q = some o') : Fr He H0 H1 H' (a0 :: a1 :: a2 :: a3 :: a4 :: a5 :: a6 :: a7 :: a8 :: a9 :: a10 :: a11 :: a12 :: a13 :: a14 :: a15 :: a16 :: a17 :: a18 :: a19 :: a20 :: a21 :: a22 :: a23 :: a24 :: a25 :: a26 :: a27 :: a28 :: a29 :: a30 :: a31 :: a32 :: a33 :: a34 :: (q, o') :: L) := F.put 35 rfl hb hp
theorem Fr.callP35 {a0 a1 a2 a3 a4 a5 a6 a7 a8 a9 a10 a11 a12 a13 a14 a15 a16 a17 a18 a19 a20 a21 a22 a23 a24 a25 a26 a27 a28 a29 a30 a31 a32 a33 a34 : Addr × HO} (F : Fr He H0 H1 H (a0 :: a1 :: a2 :: a3 :: a4 :: a5 :: a6 :: a7 :: a8 :: a9 :: a10 :: a11 :: a12 :: a13 :: a14 :: a15 :: a16 :: a17 :: a18 :: a19 :: a20 :: a21 :: a22 :: a23 :: a24 :: a25 :: a26 :: a27 :: a28 :: a29 :: a30 :: a31 :: a32 :: a33 :: a34 :: (q, o) :: L)) (G : GrowP q H1 H H2 H') (e : H' q = some o') : Fr He H0 H2 H' (a0 :: a1 :: a2 :: a3 :: a4 :: a5 :: a6 :: a7 :: a8 :: a9 :: a10 :: a11 :: a12 :: a13 :: a14 :: a15 :: a16 :: a17 :: a18 :: a19 :: a20 :: a21 :: a22 :: a23 :: a24 :: a25 :: a26 :: a27 :: a28 :: a29 :: a30 :: a31 :: a32 :: a33 :: a34 :: (q, o') :: L) := F.callP 35 rfl G e
theorem Fr.gen35 {a0 a1 a2 a3 a4 a5 a6 a7 a8 a9 a10 a11 a12 a13 a14 a15 a16 a17 a18 a19 a20 a21 a22 a23 a24 a25 a26 a27 a28 a29 a30 a31 a32 a33 a34 : Addr × HO} (F : Fr He H0 H1 H (a0 :: a1 :: a2 :: a3 :: a4 :: a5 :: a6 :: a7 :: a8 :: a9 :: a10 :: a11 :: a12 :: a13 :: a14 :: a15 :: a16 :: a17 :: a18 :: a19 :: a20 :: a21 :: a22 :: a23 :: a24 :: a25 :: a26 :: a27 :: a28 :: a29 :: a30 :: a31 :: a32 :: a33 :: a34 :: (q, o) :: L)) (n : H l = none) (hl : H' l = some u) (hq : H' q = some o') (hb : ∀ b w, b ≠ q → H b = some w → H' b = some w) : Fr He H0 H1 H' ((l, u) :: a0 :: a1 :: a2 :: a3 :: a4 :: a5 :: a6 :: a7 :: a8 :: a9 :: a10 :: a11 :: a12 :: a13 :: a14 :: a15 :: a16 :: a17 :: a18 :: a19 :: a20 :: a21 :: a22 :: a23 :: a24 :: a25 :: a26 :: a27 :: a28 :: a29 :: a30 :: a31 :: a32 :: a33 :: a34 :: (q, o') :: L) := F.gen 35 rfl n hl hq hb
theorem Fr.drop35 {a0 a1 a2 a3 a4 a5 a6 a7 a8 a9 a10 a11 a12 a13 a14 a15 a16 a17 a18 a19 a20 a21 a22 a23 a24 a25 a26 a27 a28 a29 a30 a31 a32 a33 a34 : Addr × HO} (F : Fr He H0 H1 H (a0 :: a1 :: a2 :: a3 :: a4 :: a5 :: a6 :: a7 :: a8 :: a9 :: a10 :: a11 :: a12 :: a13 :: a14 :: a15 :: a16 :: a17 :: a18 :: a19 :: a20 :: a21 :: a22 :: a23 :: a24 :: a25 :: a26 :: a27 :: a28 :: a29 :: a30 :: a31 :: a32 :: a33 :: a34 :: (q, o) :: L)) : Fr He H0 H1 H (a0 :: a1 :: a2 :: a3 :: a4 :: a5 :: a6 :: a7 :: a8 :: a9 :: a10 :: a11 :: a12 :: a13 :: a14 :: a15 :: a16 :: a17 :: a18 :: a19 :: a20 :: a21 :: a22 :: a23 :: a24 :: a25 :: a26 :: a27 :: a28 :: a29 :: a30 :: a31 :: a32 :: a33 :: a34 :: L) := F.drop 35
theorem Fr.give35 {a0 a1 a2 a3 a4 a5 a6 a7 a8 a9 a10 a11 a12 a13 a14 a15 a16 a17 a18 a19 a20 a21 a22 a23 a24 a25 a26 a27 a28 a29 a30 a31 a32 a33 a34 : Addr × HO} (F : Fr He H0 H1 H (a0 :: a1 :: a2 :: a3 :: a4 :: a5 :: a6 :: a7 :: a8 :: a9 :: a10 :: a11 :: a12 :: a13 :: a14 :: a15 :: a16 :: a17 :: a18 :: a19 :: a20 :: a21 :: a22 :: a23 :: a24 :: a25 :: a26 :: a27 :: a28 :: a29 :: a30 :: a31 :: a32 :: a33 :: a34 :: (q, o) :: L)) : Fr He H0 (L2.upd H1 q o) H (a0 :: a1 :: a2 :: a3 :: a4 :: a5 :: a6 :: a7 :: a8 :: a9 :: a10 :: a11 :: a12 :: a13 :: a14 :: a15 :: a16 :: a17 :: a18 :: a19 :: a20 :: a21 :: a22 :: a23 :: a24 :: a25 :: a26 :: a27 :: a28 :: a29 :: a30 :: a31 :: a32 :: a33 :: a34 :: L) := F.give 35 rfl
theorem Fr.at35 {a0 a1 a2 a3 a4 a5 a6 a7 a8 a9 a10 a11 a12 a13 a14 a15 a16 a17 a18 a19 a20 a21 a22 a23 a24 a25 a26 a27 a28 a29 a30 a31 a32 a33 a34 : Addr × HO} (F : Fr He H0 H1 H (a0 :: a1 :: a2 :: a3 :: a4 :: a5 :: a6 :: a7 :: a8 :: a9 :: a10 :: a11 :: a12 :: a13 :: a14 :: a15 :: a16 :: a17 :: a18 :: a19 :: a20 :: a21 :: a22 :: a23 :: a24 :: a25 :: a26 :: a27 :: a28 :: a29 :: a30 :: a31 :: a32 :: a33 :: a34 :: (q, o) :: L)) : H q = some o := F.at 35 rfl
theorem Fr.n135 {a0 a1 a2 a3 a4 a5 a6 a7 a8 a9 a10 a11 a12 a13 a14 a15 a16 a17 a18 a19 a20 a21 a22 a23 a24 a25 a26 a27 a28 a29 a30 a31 a32 a33 a34 : Addr × HO} (F : Fr He H0 H1 H (a0 :: a1 :: a2 :: a3 :: a4 :: a5 :: a6 :: a7 :: a8 :: a9 :: a10 :: a11 :: a12 :: a13 :: a14 :: a15 :: a16 :: a17 :: a18 :: a19 :: a20 :: a21 :: a22 :: a23 :: a24 :: a25 :: a26 :: a27 :: a28 :: a29 :: a30 :: a31 :: a32 :: a33 :: a34 :: (q, o) :: L)) : H1 q = none := F.n1 35 rfl
theorem Fr.back35 {a0 a1 a2 a3 a4 a5 a6 a7 a8 a9 a10 a11 a12 a13 a14 a15 a16 a17 a18 a19 a20 a21 a22 a23 a24 a25 a26 a27 a28 a29 a30 a31 a32 a33 a34 : Addr × HO} {He' : Hp} (F : Fr (del He' q) H0 H1 H (a0 :: a1 :: a2 :: a3 :: a4 :: a5 :: a6 :: a7 :: a8 :: a9 :: a10 :: a11 :: a12 :: a13 :: a14 :: a15 :: a16 :: a17 :: a18 :: a19 :: a20 :: a21 :: a22 :: a23 :: a24 :: a25 :: a26 :: a27 :: a28 :: a29 :: a30 :: a31 :: a32 :: a33 :: a34 :: (q, o) :: L)) (n : H0 q = none) : GrowP q H0 He' H1 H ∧ H q = some o := ⟨F.back 35 rfl n, F.at 35 rfl⟩
theorem Fr.gvl35 {a0 a1 a2 a3 a4 a5 a6 a7 a8 a9 a10 a11 a12 a13 a14 a15 a16 a17 a18 a19 a20 a21 a22 a23 a24 a25 a26 a27 a28 a29 a30 a31 a32 a33 a34 : Addr × HO} {K : PySem.W.Frag} {xs : List V} {ds : List PyData} (F : Fr He H0 H1 H (a0 :: a1 :: a2 :: a3 :: a4 :: a5 :: a6 :: a7 :: a8 :: a9 :: a10 :: a11 :: a12 :: a13 :: a14 :: a15 :: a16 :: a17 :: a18 :: a19 :: a20 :: a21 :: a22 :: a23 :: a24 :: a25 :: a26 :: a27 :: a28 :: a29 :: a30 :: a31 :: a32 :: a33 :: a34 :: (q, .lst xs) :: L)) (h : DtAll K H1 xs ds) : ∃ B, Fr He H0 B H (a0 :: a1 :: a2 :: a3 :: a4 :: a5 :: a6 :: a7 :: a8 :: a9 :: a10 :: a11 :: a12 :: a13 :: a14 :: a15 :: a16 :: a17 :: a18 :: a19 :: a20 :: a21 :: a22 :: a23 :: a24 :: a25 :: a26 :: a27 :: a28 :: a29 :: a30 :: a31 :: a32 :: a33 :: a34 :: L) ∧ Dt K B (.ref q) (.list ds) ∧ L2.Same H1 B := F.gvl 35 rfl h
theorem Fr.gvt35 {a0 a1 a2 a3 a4 a5 a6 a7 a8 a9 a10 a11 a12 a13 a14 a15 a16 a17 a18 a19 a20 a21 a22 a23 a24 a25 a26 a27 a28 a29 a30 a31 a32 a33 a34 : Addr × HO} {K : PySem.W.Frag} {xs : List V} {ds : List PyData} (F : Fr He H0 H1 H (a0 :: a1 :: a2 :: a3 :: a4 :: a5 :: a6 :: a7 :: a8 :: a9 :: a10 :: a11 :: a12 :: a13 :: a14 :: a15 :: a16 :: a17 :: a18 :: a19 :: a20 :: a21 :: a22 :: a23 :: a24 :: a25 :: a26 :: a27 :: a28 :: a29 :: a30 :: a31 :: a32 :: a33 :: a34 :: (q, .tup xs) :: L)) (h : DtAll K H1 xs ds) : ∃ B, Fr He H0 B H (a0 :: a1 :: a2 :: a3 :: a4 :: a5 :: a6 :: a7 :: a8 :: a9 :: a10 :: a11 :: a12 :: a13 :: a14 :: a15 :: a16 :: a17 :: a18 :: a19 :: a20 :: a21 :: a22 :: a23 :: a24 :: a25 :: a26 :: a27 :: a28 :: a29 :: a30 :: a31 :: a32 :: a33 :: a34 :: L) ∧ Dt K B (.ref q) (.tuple ds) ∧ L2.Same H1 B := F.gvt 35 rfl h
end
theorem Fr.nn0 {He H0 H1 H : Hp} {L : List (Addr × HO)} {q : Addr} {o : HO} (F : Fr He H0 H1 H ((q, o) :: L)) : H q ≠ none := by rw [F.at 0 rfl]; exact fun z => nomatch z
theorem Fr.nn1 {a0 : Addr × HO} {He H0 H1 H : Hp} {L : List (Addr × HO)} {q : Addr} {o : HO} (F : Fr He H0 H1 H (a0 :: (q, o) :: L)) : H q ≠ none := by rw [F.at 1 rfl]; exact fun z => nomatch z
theorem Fr.nn2 {a0 a1 : Addr × HO} {He H0 H1 H : Hp} {L : List (Addr × HO)} {q : Addr} {o : HO} (F : Fr He H0 H1 H (a0 :: a1 :: (q, o) :: L)) : H q ≠ none := by rw [F.at 2 rfl]; exact fun z => nomatch z
theorem Fr.nn3 {a0 a1 a2 : Addr × HO} {He H0 H1 H : Hp} {L : List (Addr × HO)} {q : Addr} {o : HO} (F : Fr He H0 H1 H (a0 :: a1 :: a2 :: (q, o) :: L)) : H q ≠ none := by rw [F.at 3 rfl]; exact fun z => nomatch z
theorem Fr.nn4 {a0 a1 a2 a3 : Addr × HO} {He H0 H1 H : Hp} {L : List (Addr × HO)} {q : Addr} {o : HO} (F : Fr He H0 H1 H (a0 :: a1 :: a2 :: a3 :: (q, o) :: L)) : H q ≠ none := by rw [F.at 4 rfl]; exact fun z => nomatch z
theorem Fr.nn5 {a0 a1 a2 a3 a4 : Addr × HO} {He H0 H1 H : Hp} {L : List (Addr × HO)} {q : Addr} {o : HO} (F : Fr He H0 H1 H (a0 :: a1 :: a2 :: a3 :: a4 :: (q, o) :: L)) : H q ≠ none := by rw [F.at 5 rfl]; exact fun z => nomatch z
theorem Fr.nn6 {a0 a1 a2 a3 a4 a5 : Addr × HO} {He H0 H1 H : Hp} {L : List (Addr × HO)} {q : Addr} {o : HO} (F : Fr He H0 H1 H (a0 :: a1 :: a2 :: a3 :: a4 :: a5 :: (q, o) :: L)) : H q ≠ none := by rw [F.at 6 rfl]; exact fun z => nomatch z
theorem Fr.nn7 {a0 a1 a2 a3 a4 a5 a6 : Addr × HO} {He H0 H1 H : Hp} {L : List (Addr × HO)} {q : Addr} {o : HO} (F : Fr He H0 H1 H (a0 :: a1 :: a2 :: a3 :: a4 :: a5 :: a6 :: (q, o) :: L)) : H q ≠ none := by rw [F.at 7 rfl]; exact fun z => nomatch z
theorem Fr.nn8 {a0 a1 a2 a3 a4 a5 a6 a7 : Addr × HO} {He H0 H1 H : Hp} {L : List (Addr × HO)} {q : Addr} {o : HO} (F : Fr He H0 H1 H (a0 :: a1 :: a2 :: a3 :: a4 :: a5 :: a6 :: a7 :: (q, o) :: L)) : H q ≠ none := by rw [F.at 8 rfl]; exact fun z => nomatch z
theorem Fr.nn9 {a0 a1 a2 a3 a4 a5 a6 a7 a8 : Addr × HO} {He H0 H1 H : Hp} {L : List (Addr × HO)} {q : Addr} {o : HO} (F : Fr He H0 H1 H (a0 :: a1 :: a2 :: a3 :: a4 :: a5 :: a6 :: a7 :: a8 :: (q, o) :: L)) : H q ≠ none := by rw [F.at 9 rfl]; exact fun z => nomatch z
theorem Fr.nn10 {a0 a1 a2 a3 a4 a5 a6 a7 a8 a9 : Addr × HO} {He H0 H1 H : Hp} {L : List (Addr × HO)} {q : Addr} {o : HO} (F : Fr He H0 H1 H (a0 :: a1 :: a2 :: a3 :: a4 :: a5 :: a6 :: a7 :: a8 :: a9 :: (q, o) :: L)) : H q ≠ none := by rw [F.at 10 rfl]; exact fun z => nomatch z
theorem Fr.nn11 {a0 a1 a2 a3 a4 a5 a6 a7 a8 a9 a10 : Addr × HO} {He H0 H1 H : Hp} {L : List (Addr × HO)} {q : Addr} {o : HO} (F : Fr He H0 H1 H (a0 :: a1 :: a2 :: a3 :: a4 :: a5 :: a6 :: a7 :: a8 :: a9 :: a10 :: (q, o) :: L)) : H q ≠ none := by rw [F.at 11 rfl]; exact fun z => nomatch z
theorem Fr.nn12 {a0 a1 a2 a3 a4 a5 a6 a7 a8 a9 a10 a11 : Addr × HO} {He H0 H1 H : Hp} {L : List (Addr × HO)} {q : Addr} {o : HO} (F : Fr He H0 H1 H (a0 :: a1 :: a2 :: a3 :: a4 :: a5 :: a6 :: a7 :: a8 :: a9 :: a10 :: a11 :: (q, o) :: L)) : H q ≠ none := by rw [F.at 12 rfl]; exact fun z => nomatch z
theorem Fr.nn13 {a0 a1 a2 a3 a4 a5 a6 a7 a8 a9 a10 a11 a12 : Addr × HO} {He H0 H1 H : Hp} {L : List (Addr × HO)} {q : Addr} {o : HO} (F : Fr He H0 H1 H (a0 :: a1 :: a2 :: a3 :: a4 :: a5 :: a6 :: a7 :: a8 :: a9 :: a10 :: a11 :: a12 :: (q, o) :: L)) : H q ≠ none := by rw [F.at 13 rfl]; exact fun z => nomatch z
theorem Fr.nn14 {a0 a1 a2 a3 a4 a5 a6 a7 a8 a9 a10 a11 a12 a13 : Addr × HO} {He H0 H1 H : Hp} {L : List (Addr × HO)} {q : Addr} {o : HO} (F : Fr He H0 H1 H (a0 :: a1 :: a2 :: a3 :: a4 :: a5 :: a6 :: a7 :: a8 :: a9 :: a10 :: a11 :: a12 :: a13 :: (q, o) :: L)) : H q ≠ none := by rw [F.at 14 rfl]; exact fun z => nomatch z
theorem Fr.nn15 {a0 a1 a2 a3 a4 a5 a6 a7 a8 a9 a10 a11 a12 a13 a14 : Addr × HO} {He H0 H1 H : Hp} {L : List (Addr × HO)} {q : Addr} {o : HO} (F : Fr He H0 H1 H (a0 :: a1 :: a2 :: a3 :: a4 :: a5 :: a6 :: a7 :: a8 :: a9 :: a10 :: a11 :: a12 :: a13 :: a14 :: (q, o) :: L)) : H q ≠ none := by rw [F.at 15 rfl]; exact fun z => nomatch z
theorem Fr.nn16 {a0 a1 a2 a3 a4 a5 a6 a7 a8 a9 a10 a11 a12 a13 a14 a15 : Addr × HO} {He H0 H1 H : Hp} {L : List (Addr × HO)} {q : Addr} {o : HO} (F : Fr He H0 H1 H (a0 :: a1 :: a2 :: a3 :: a4 :: a5 :: a6 :: a7 :: a8 :: a9 :: a10 :: a11 :: a12 :: a13 :: a14 :: a15 :: (q, o) :: L)) : H q ≠ none := by rw [F.at 16 rfl]; exact fun z => nomatch z
theorem Fr.nn17 {a0 a1 a2 a3 a4 a5 a6 a7 a8 a9 a10 a11 a12 a13 a14 a15 a16 : Addr × HO} {He H0 H1 H : Hp} {L : List (Addr × HO)} {q : Addr} {o : HO} (F : Fr He H0 H1 H (a0 :: a1 :: a2 :: a3 :: a4 :: a5 :: a6 :: a7 :: a8 :: a9 :: a10 :: a11 :: a12 :: a13 :: a14 :: a15 :: a16 :: (q, o) :: L)) : H q ≠ none := by rw [F.at 17 rfl]; exact fun z => nomatch z
theorem Fr.nn18 {a0 a1 a2 a3 a4 a5 a6 a7 a8 a9 a10 a11 a12 a13 a14 a15 a16 a17 : Addr × HO} {He H0 H1 H : Hp} {L : List (Addr × HO)} {q : Addr} {o : HO} (F : Fr He H0 H1 H (a0 :: a1 :: a2 :: a3 :: a4 :: a5 :: a6 :: a7 :: a8 :: a9 :: a10 :: a11 :: a12 :: a13 :: a14 :: a15 :: a16 :: a17 :: (q, o) :: L)) : H q ≠ none := by rw [F.at 18 rfl]; exact fun z => nomatch z
theorem Fr.nn19 {a0 a1 a2 a3 a4 a5 a6 a7 a8 a9 a10 a11 a12 a13 a14 a15 a16 a17 a18 : Addr × HO} {He H0 H1 H : Hp} {L : List (Addr × HO)} {q : Addr} {o : HO} (F : Fr He H0 H1 H (a0 :: a1 :: a2 :: a3 :: a4 :: a5 :: a6 :: a7 :: a8 :: a9 :: a10 :: a11 :: a12 :: a13 :: a14 :: a15 :: a16 :: a17 :: a18 :: (q, o) :: L)) : H q ≠ none := by rw [F.at 19 rfl]; exact fun z => nomatch z
theorem Fr.nn20 {a0 a1 a2 a3 a4 a5 a6 a7 a8 a9 a10 a11 a12 a13 a14 a15 a16 a17 a18 a19 : Addr × HO} {He H0 H1 H : Hp} {L : List (Addr × HO)} {q : Addr} {o : HO} (F : Fr He H0 H1 H (a0 :: a1 :: a2 :: a3 :: a4 :: a5 :: a6 :: a7 :: a8 :: a9 :: a10 :: a11 :: a12 :: a13 :: a14 :: a15 :: a16 :: a17 :: a18 :: a19 :: (q, o) :: L)) : H q ≠ none := by rw [F.at 20 rfl]; exact fun z => nomatch z
theorem Fr.nn21 {a0 a1 a2 a3 a4 a5 a6 a7 a8 a9 a10 a11 a12 a13 a14 a15 a16 a17 a18 a19 a20 : Addr × HO} {He H0 H1 H : Hp} {L : List (Addr × HO)} {q : Addr} {o : HO} (F : Fr He H0 H1 H (a0 :: a1 :: a2 :: a3 :: a4 :: a5 :: a6 :: a7 :: a8 :: a9 :: a10 :: a11 :: a12 :: a13 :: a14 :: a15 :: a16 :: a17 :: a18 :: a19 :: a20 :: (q, o) :: L)) : H q ≠ none := by rw [F.at 21 rfl]; exact fun z => nomatch z
theorem Fr.nn22 {a0 a1 a2 a3 a4 a5 a6 a7 a8 a9 a10 a11 a12 a13 a14 a15 a16 a17 a18 a19 a20 a21 : Addr × HO} {He H0 H1 H : Hp} {L : List (Addr × HO)} {q : Addr} {o : HO} (F : Fr He H0 H1 H (a0 :: a1 :: a2 :: a3 :: a4 :: a5 :: a6 :: a7 :: a8 :: a9 :: a10 :: a11 :: a12 :: a13 :: a14 :: a15 :: a16 :: a17 :: a18 :: a19 :: a20 :: a21 :: (q, o) :: L)) : H q ≠ none := by rw [F.at 22 rfl]; exact fun z => nomatch z
theorem Fr.nn23 {a0 a1 a2 a3 a4 a5 a6 a7 a8 a9 a10 a11 a12 a13 a14 a15 a16 a17 a18 a19 a20 a21 a22 : Addr × HO} {He H0 H1 H : Hp} {L : List (Addr × HO)} {q : Addr} {o : HO} (F : Fr He H0 H1 H (a0 :: a1 :: a2 :: a3 :: a4 :: a5 :: a6 :: a7 :: a8 :: a9 :: a10 :: a11 :: a12 :: a13 :: a14 :: a15 :: a16 :: a17 :: a18 :: a19 :: a20 :: a21 :: a22 :: (q, o) :: L)) : H q ≠ none := by rw [F.at 23 rfl]; exact fun z => nomatch z
theorem Fr.nn24 {a0 a1 a2 a3 a4 a5 a6 a7 a8 a9 a10 a11 a12 a13 a14 a15 a16 a17 a18 a19 a20 a21 a22 a23 : Addr × HO} {He H0 H1 H : Hp} {L : List (Addr × HO)} {q : Addr} {o : HO} (F : Fr He H0 H1 H (a0 :: a1 :: a2 :: a3 :: a4 :: a5 :: a6 :: a7 :: a8 :: a9 :: a10 :: a11 :: a12 :: a13 :: a14 :: a15 :: a16 :: a17 :: a18 :: a19 :: a20 :: a21 :: a22 :: a23 :: (q, o) :: L)) : H q ≠ none := by rw [F.at 24 rfl]; exact fun z => nomatch z
theorem Fr.nn25 {a0 a1 a2 a3 a4 a5 a6 a7 a8 a9 a10 a11 a12 a13 a14 a15 a16 a17 a18 a19 a20 a21 a22 a23 a24 : Addr × HO} {He H0 H1 H : Hp} {L : List (Addr × HO)} {q : Addr} {o : HO} (F : Fr He H0 H1 H (a0 :: a1 :: a2 :: a3 :: a4 :: a5 :: a6 :: a7 :: a8 :: a9 :: a10 :: a11 :: a12 :: a13 :: a14 :: a15 :: a16 :: a17 :: a18 :: a19 :: a20 :: a21 :: a22 :: a23 :: a24 :: (q, o) :: L)) : H q ≠ none := by rw [F.at 25 rfl]; exact fun z => nomatch z
theorem Fr.nn26 {a0 a1 a2 a3 a4 a5 a6 a7 a8 a9 a10 a11 a12 a13 a14 a15 a16 a17 a18 a19 a20 a21 a22 a23 a24 a25 : Addr × HO} {He H0 H1 H : Hp} {L : List (Addr × HO)} {q : Addr} {o : HO} (F : Fr He H0 H1 H (a0 :: a1 :: a2 :: a3 :: a4 :: a5 :: a6 :: a7 :: a8 :: a9 :: a10 :: a11 :: a12 :: a13 :: a14 :: a15 :: a16 :: a17 :: a18 :: a19 :: a20 :: a21 :: a22 :: a23 :: a24 :: a25 :: (q, o) :: L)) : H q ≠ none := by rw [F.at 26 rfl]; exact fun z => nomatch z
theorem Fr.nn27 {a0 a1 a2 a3 a4 a5 a6 a7 a8 a9 a10 a11 a12 a13 a14 a15 a16 a17 a18 a19 a20 a21 a22 a23 a24 a25 a26 : Addr × HO} {He H0 H1 H : Hp} {L : List (Addr × HO)} {q : Addr} {o : HO} (F : Fr He H0 H1 H (a0 :: a1 :: a2 :: a3 :: a4 :: a5 :: a6 :: a7 :: a8 :: a9 :: a10 :: a11 :: a12 :: a13 :: a14 :: a15 :: a16 :: a17 :: a18 :: a19 :: a20 :: a21 :: a22 :: a23 :: a24 :: a25 :: a26 :: (q, o) :: L)) : H q ≠ none := by rw [F.at 27 rfl]; exact fun z => nomatch z
theorem Fr.nn28 {a0 a1 a2 a3 a4 a5 a6 a7 a8 a9 a10 a11 a12 a13 a14 a15 a16 a17 a18 a19 a20 a21 a22 a23 a24 a25 a26 a27 : Addr × HO} {He H0 H1 H : Hp} {L : List (Addr × HO)} {q : Addr} {o : HO} (F : Fr He H0 H1 H (a0 :: a1 :: a2 :: a3 :: a4 :: a5 :: a6 :: a7 :: a8 :: a9 :: a10 :: a11 :: a12 :: a13 :: a14 :: a15 :: a16 :: a17 :: a18 :: a19 :: a20 :: a21 :: a22 :: a23 :: a24 :: a25 :: a26 :: a27 :: (q, o) :: L)) : H q ≠ none := by rw [F.at 28 rfl]; exact fun z => nomatch z
theorem Fr.nn29 {a0 a1 a2 a3 a4 a5 a6 a7 a8 a9 a10 a11 a12 a13 a14 a15 a16 a17 a18 a19 a20 a21 a22 a23 a24 a25 a26 a27 a28 : Addr × HO} {He H0 H1 H : Hp} {L : List (Addr × HO)} {q : Addr} {o : HO} (F : Fr He H0 H1 H (a0 :: a1 :: a2 :: a3 :: a4 :: a5 :: a6 :: a7 :: a8 :: a9 :: a10 :: a11 :: a12 :: a13 :: a14 :: a15 :: a16 :: a17 :: a18 :: a19 :: a20 :: a21 :: a22 :: a23 :: a24 :: a25 :: a26 :: a27 :: a28 :: (q, o) :: L)) : H q ≠ none := by rw [F.at 29 rfl]; exact fun z => nomatch z
theorem Fr.nn30 {a0 a1 a2 a3 a4 a5 a6 a7 a8 a9 a10 a11 a12 a13 a14 a15 a16 a17 a18 a19 a20 a21 a22 a23 a24 a25 a26 a27 a28 a29 : Addr × HO} {He H0 H1 H : Hp} {L : List (Addr × HO)} {q : Addr} {o : HO} (F : Fr He H0 H1 H (a0 :: a1 :: a2 :: a3 :: a4 :: a5 :: a6 :: a7 :: a8 :: a9 :: a10 :: a11 :: a12 :: a13 :: a14 :: a15 :: a16 :: a17 :: a18 :: a19 :: a20 :: a21 :: a22 :: a23 :: a24 :: a25 :: a26 :: a27 :: a28 :: a29 :: (q, o) :: L)) : H q ≠ none := by rw [F.at 30 rfl]; exact fun z => nomatch z
theorem Fr.nn31 {a0 a1 a2 a3 a4 a5 a6 a7 a8 a9 a10 a11 a12 a13 a14 a15 a16 a17 a18 a19 a20 a21 a22 a23 a24 a25 a26 a27 a28 a29 a30 : Addr × HO} {He H0 H1 H : Hp} {L : List (Addr × HO)} {q : Addr} {o : HO} (F : Fr He H0 H1 H (a0 :: a1 :: a2 :: a3 :: a4 :: a5 :: a6 :: a7 :: a8 :: a9 :: a10 :: a11 :: a12 :: a13 :: a14 :: a15 :: a16 :: a17 :: a18 :: a19 :: a20 :: a21 :: a22 :: a23 :: a24 :: a25 :: a26 :: a27 :: a28 :: a29 :: a30 :: (q, o) :: L)) : H q ≠ none := by rw [F.at 31 rfl]; exact fun z => nomatch z
theorem Fr.nn32 {a0 a1 a2 a3 a4 a5 a6 a7 a8 a9 a10 a11 a12 a13 a14 a15 a16 a17 a18 a19 a20 a21 a22 a23 a24 a25 a26 a27 a28 a29 a30 a31 : Addr × HO} {He H0 H1 H : Hp} {L : List (Addr × HO)} {q : Addr} {o : HO} (F : Fr He H0 H1 H (a0 :: a1 :: a2 :: a3 :: a4 :: a5 :: a6 :: a7 :: a8 :: a9 :: a10 :: a11 :: a12 :: a13 :: a14 :: a15 :: a16 :: a17 :: a18 :: a19 :: a20 :: a21 :: a22 :: a23 :: a24 :: a25 :: a26 :: a27 :: a28 :: a29 :: a30 :: a31 :: (q, o) :: L)) : H q ≠ none := by rw [F.at 32 rfl]; exact fun z => nomatch z
theorem Fr.nn33 {a0 a1 a2 a3 a4 a5 a6 a7 a8 a9 a10 a11 a12 a13 a14 a15 a16 a17 a18 a19 a20 a21 a22 a23 a24 a25 a26 a27 a28 a29 a30 a31 a32 : Addr × HO} {He H0 H1 H : Hp} {L : List (Addr × HO)} {q : Addr} {o : HO} (F : Fr He H0 H1 H (a0 :: a1 :: a2 :: a3 :: a4 :: a5 :: a6 :: a7 :: a8 :: a9 :: a10 :: a11 :: a12 :: a13 :: a14 :: a15 :: a16 :: a17 :: a18 :: a19 :: a20 :: a21 :: a22 :: a23 :: a24 :: a25 :: a26 :: a27 :: a28 :: a29 :: a30 :: a31 :: a32 :: (q, o) :: L)) : H q ≠ none := by rw [F.at 33 rfl]; exact fun z => nomatch z
theorem Fr.nn34 {a0 a1 a2 a3 a4 a5 a6 a7 a8 a9 a10 a11 a12 a13 a14 a15 a16 a17 a18 a19 a20 a21 a22 a23 a24 a25 a26 a27 a28 a29 a30 a31 a32 a33 : Addr × HO} {He H0 H1 H : Hp} {L : List (Addr × HO)} {q : Addr} {o : HO} (F : Fr He H0 H1 H (a0 :: a1 :: a2 :: a3 :: a4 :: a5 :: a6 :: a7 :: a8 :: a9 :: a10 :: a11 :: a12 :: a13 :: a14 :: a15 :: a16 :: a17 :: a18 :: a19 :: a20 :: a21 :: a22 :: a23 :: a24 :: a25 :: a26 :: a27 :: a28 :: a29 :: a30 :: a31 :: a32 :: a33 :: (q, o) :: L)) : H q ≠ none := by rw [F.at 34 rfl]; exact fun z => nomatch z
theorem Fr.nn35 {a0 a1 a2 a3 a4 a5 a6 a7 a8 a9 a10 a11 a12 a13 a14 a15 a16 a17 a18 a19 a20 a21 a22 a23 a24 a25 a26 a27 a28 a29 a30 a31 a32 a33 a34 : Addr × HO} {He H0 H1 H : Hp} {L : List (Addr × HO)} {q : Addr} {o : HO} (F : Fr He H0 H1 H (a0 :: a1 :: a2 :: a3 :: a4 :: a5 :: a6 :: a7 :: a8 :: a9 :: a10 :: a11 :: a12 :: a13 :: a14 :: a15 :: a16 :: a17 :: a18 :: a19 :: a20 :: a21 :: a22 :: a23 :: a24 :: a25 :: a26 :: a27 :: a28 :: a29 :: a30 :: a31 :: a32 :: a33 :: a34 :: (q, o) :: L)) : H q ≠ none := by rw [F.at 35 rfl]; exact fun z => nomatch z
theorem Fr.anew {He H0 H1 H : Hp} {L : List (Addr × HO)} (_ : Fr He H0 H1 H L) : Fr H H H H [] := Fr.start (L2.Same.refl H)
theorem New.cast {H H' : Hp} {p : Addr} {o o' : HO} (N : New H H' p o) (e : o = o') : New H H' p o' := e ▸ N
theorem Ow.l_of {K : PySem.W.Frag} {H0 H : Hp} {x : V} {d : PyData} (h : Ow K H0 H x d) (hl : isListD d = true) : ∃ p xs ds, x = .ref p ∧ d = .list ds ∧ H0 p = none ∧ H p = some (.lst xs) ∧ DtAll K H0 xs ds := by
  rcases h with h | ⟨p, kvs, ds, _, e, _⟩ | ⟨_, h, _⟩
  · exact h
  · rw [e] at hl; cases hl
  · rw [h] at hl; cases hl
theorem Ow.d_of {K : PySem.W.Frag} {H0 H : Hp} {x : V} {d : PyData} (h : Ow K H0 H x d) (hl : isDictD d = true) : ∃ p kvs ds, x = .ref p ∧ d = .dict ds ∧ H0 p = none ∧ H p = some (.dK kvs) ∧ DtKv K H0 kvs ds := by
  rcases h with ⟨p, kvs, ds, _, e, _⟩ | h | ⟨_, _, h⟩
  · rw [e] at hl; cases hl
  · exact h
  · rw [h] at hl; cases hl
theorem un1 {k : Nat} {A : Around} (hr : RoomH k A) : A.units + 1 < cLine := by have := hr.un; omega
theorem dis4 {v : V} {a b c : Addr} (h1 : v ≠ .ref a) (h2 : v ≠ .ref b) (h3 : v ≠ .ref c) (h4 : a ≠ b) (h5 : a ≠ c) (h6 : b ≠ c) : ∀ (i j : Nat) (p : Addr), [v, .ref a, .ref b, .ref c][i]? = some (.ref p) → [v, .ref a, .ref b, .ref c][j]? = some (.ref p) → i = j := by
  intro i j p hi hj
  match i, j, hi, hj with
  | 0, 0, _, _ => rfl
  | 1, 1, _, _ => rfl
  | 2, 2, _, _ => rfl
  | 3, 3, _, _ => rfl
  | 0, 1, hi, hj => cases hj; exact absurd (Option.some.inj hi) h1
  | 0, 2, hi, hj => cases hj; exact absurd (Option.some.inj hi) h2
  | 0, 3, hi, hj => cases hj; exact absurd (Option.some.inj hi) h3
  | 1, 0, hi, hj => cases hi; exact absurd (Option.some.inj hj) h1
  | 2, 0, hi, hj => cases hi; exact absurd (Option.some.inj hj) h2
  | 3, 0, hi, hj => cases hi; exact absurd (Option.some.inj hj) h3
  | 1, 2, hi, hj => cases hi; cases hj; exact absurd rfl h4
  | 1, 3, hi, hj => cases hi; cases hj; exact absurd rfl h5
  | 2, 1, hi, hj => cases hi; cases hj; exact absurd rfl h4
  | 2, 3, hi, hj => cases hi; cases hj; exact absurd rfl h6
  | 3, 1, hi, hj => cases hi; cases hj; exact absurd rfl h5
  | 3, 2, hi, hj => cases hi; cases hj; exact absurd rfl h6
  | n + 4, _, hi, _ => cases hi
  | _, n + 4, _, hj => cases hj
theorem all4 {α : Type} {β : Type} {P : α → β → Prop} {a b c d : α} {e f g h : β} (h1 : P a e) (h2 : P b f) (h3 : P c g) (h4 : P d h) : ∀ (i : Nat) (x : α) (y : β), [a, b, c, d][i]? = some x → [e, f, g, h][i]? = some y → P x y := by
  intro i x y hx hy
  match i, hx, hy with
  | 0, hx, hy => cases hx; cases hy; exact h1
  | 1, hx, hy => cases hx; cases hy; exact h2
  | 2, hx, hy => cases hx; cases hy; exact h3
  | 3, hx, hy => cases hx; cases hy; exact h4
  | n + 4, hx, _ => cases hx
theorem not4 {α : Type} {a b c d e : α} (h1 : a ≠ e) (h2 : b ≠ e) (h3 : c ≠ e) (h4 : d ≠ e) : ∀ i : Nat, [a, b, c, d][i]? ≠ some e := by
  intro i hx
  match i, hx with
  | 0, hx => cases hx; exact h1 rfl
  | 1, hx => cases hx; exact h2 rfl
  | 2, hx => cases hx; exact h3 rfl
  | 3, hx => cases hx; exact h4 rfl
  | n + 4, hx => cases hx
theorem takes_no {X : Cx} : Takes X fun _ _ _ _ => False := fun _ _ ⟨_, _, _, _, _, _, _, _, _, _, _, _, _, _, _, _, w⟩ => w.elim
theorem room_mark {k : Nat} {A : Around} {v : Option Value} (hr : RoomH k A) : RoomH k (A.mark v) := ⟨hr.dp, hr.un⟩
/-! the laws' things with "more" put into them -/
def isMore : PyData → Bool
  | .str x => decide (x = "more")
  | _ => false
def putD (ds : List (PyData × PyData)) : List (PyData × PyData) := if (ds.any fun p => isMore p.1) = true then ds.map (fun p => if isMore p.1 = true then (p.1, .int 1) else p) else ds ++ [(.str "more", .int 1)]
def moreD : PyData → PyData
  | .list ds => .list (ds ++ [.str "more"])
  | .dict ds => .dict (putD ds)
  | d => d
theorem moreD_else {d : PyData} (h1 : isListD d = false) (h2 : isDictD d = false) : moreD d = d := by
  cases d with
  | list ds => cases h1
  | dict ds => cases h2
  | _ => rfl
theorem Ow.els {K : PySem.W.Frag} {H0 H : Hp} {x : V} {d : PyData} (h : Ow K H0 H x d) (h1 : isListD d = false) (h2 : isDictD d = false) : Ow K H0 H x (moreD d) := by rw [moreD_else h1 h2]; exact h
def lenD : PyData → Nat
  | .list ds => ds.length
  | .tuple ds => ds.length
  | .dict ds => ds.length
  | _ => 0
theorem items_len (d : PyData) : (itemsD d).length ≤ lenD d := by cases d <;> first | exact Nat.le_refl _ | exact Nat.zero_le _
theorem szAll_app : ∀ as bs : List PyData, szAll (as ++ bs) = szAll as + szAll bs
  | [], bs => by rw [List.nil_append, szAll, Nat.zero_add]
  | a :: as, bs => by rw [List.cons_append, szAll, szAll, szAll_app as bs]; omega
theorem showAll_app : ∀ as bs : List PyData, PyData.showableAll (as ++ bs) = (PyData.showableAll as && PyData.showableAll bs)
  | [], bs => by rw [List.nil_append, PyData.showableAll, Bool.true_and]
  | a :: as, bs => by rw [List.cons_append, PyData.showableAll, PyData.showableAll, showAll_app as bs, Bool.and_assoc]
theorem depthAll_app : ∀ as bs : List PyData, PyData.depthAll (as ++ bs) = max (PyData.depthAll as) (PyData.depthAll bs)
  | [], bs => by rw [List.nil_append, PyData.depthAll, Nat.zero_max]
  | a :: as, bs => by rw [List.cons_append, PyData.depthAll, PyData.depthAll, depthAll_app as bs]; omega
theorem kv_facts : ∀ ds : List (PyData × PyData), PyData.showableKv ds = true →
    (PyData.showableKv (ds.map fun p => if isMore p.1 = true then (p.1, .int 1) else p) = true ∧ PyData.showableKv (ds ++ [(.str "more", .int 1)]) = true) ∧
    (PyData.depthKv (ds.map fun p => if isMore p.1 = true then (p.1, .int 1) else p) ≤ PyData.depthKv ds ∧ PyData.depthKv (ds ++ [(.str "more", .int 1)]) ≤ PyData.depthKv ds) ∧
    (szKv (ds.map fun p => if isMore p.1 = true then (p.1, .int 1) else p) ≤ szKv ds + 1921 * ds.length ∧ szKv (ds ++ [(.str "more", .int 1)]) ≤ szKv ds + 2000)
  | [], _ => ⟨⟨rfl, by decide +kernel⟩, ⟨Nat.le_refl _, by decide +kernel⟩, Nat.zero_le _, by decide +kernel⟩
  | (k, v) :: ds, h => by
    have h' : (k.showable = true ∧ v.showable = true) ∧ PyData.showableKv ds = true := by simpa [PyData.showableKv] using h
    obtain ⟨⟨a1, a2⟩, ⟨b1, b2⟩, c1, c2⟩ := kv_facts ds h'.2
    refine ⟨⟨?_, ?_⟩, ⟨?_, ?_⟩, ?_, ?_⟩
    · rw [List.map_cons]
      split
      · rw [PyData.showableKv, h'.1.1, a1]; decide +kernel
      · rw [PyData.showableKv, h'.1.1, h'.1.2, a1]; rfl
    · rw [List.cons_append, PyData.showableKv, h'.1.1, h'.1.2, a2]; rfl
    · rw [List.map_cons]
      split
      · simp only [PyData.depthKv]
        have : (PyData.int 1).depth = 0 := rfl
        omega
      · simp only [PyData.depthKv]; omega
    · rw [List.cons_append]
      simp only [PyData.depthKv]; omega
    · rw [List.map_cons, List.length_cons]
      split
      · simp only [szKv, szD]; omega
      · simp only [szKv]; omega
    · rw [List.cons_append]
      simp only [szKv]; omega
theorem fine_more {n : Nat} {d : PyData} (h : Fine n d) (hd : d.depth ≤ 40) (hl : lenD d ≤ 200) : Fine (n + 400000) (moreD d) ∧ (moreD d).depth ≤ 40 ∧ lenD (moreD d) ≤ lenD d + 1 := by
  cases d with
  | list ds =>
    have s := h.sh
    have z := h.sz
    simp only [PyData.showable] at s
    simp only [szD] at z
    simp only [PyData.depth] at hd
    have e1 : PyData.depthAll [.str "more"] = 0 := rfl
    have e2 : szAll [.str "more"] ≤ 100 := by decide +kernel
    refine ⟨⟨?_, ?_, ?_⟩, ?_, ?_⟩
    · simp only [moreD, PyData.showable, showAll_app, s]; rfl
    · simp only [moreD, PyData.depth, depthAll_app]; omega
    · simp only [moreD, szD, szAll_app]; omega
    · simp only [moreD, PyData.depth, depthAll_app]; omega
    · simp only [moreD, lenD, List.length_append, List.length_cons, List.length_nil]; omega
  | dict ds =>
    have s := h.sh
    have z := h.sz
    simp only [PyData.showable] at s
    simp only [szD] at z
    simp only [PyData.depth] at hd
    simp only [lenD] at hl
    obtain ⟨⟨a1, a2⟩, ⟨b1, b2⟩, c1, c2⟩ := kv_facts ds s
    by_cases hm : (ds.any fun p => isMore p.1) = true
    · have e : putD ds = ds.map (fun p => if isMore p.1 = true then (p.1, .int 1) else p) := if_pos hm
      refine ⟨⟨?_, ?_, ?_⟩, ?_, ?_⟩
      · simp only [moreD, PyData.showable, e, a1]
      · simp only [moreD, PyData.depth, e]; omega
      · simp only [moreD, szD, e]; omega
      · simp only [moreD, PyData.depth, e]; omega
      · simp only [moreD, lenD, e, List.length_map]; omega
    · have e : putD ds = ds ++ [(.str "more", .int 1)] := if_neg hm
      refine ⟨⟨?_, ?_, ?_⟩, ?_, ?_⟩
      · simp only [moreD, PyData.showable, e, a2]
      · simp only [moreD, PyData.depth, e]; omega
      · simp only [moreD, szD, e]; omega
      · simp only [moreD, PyData.depth, e]; omega
      · simp only [moreD, lenD, e, List.length_append, List.length_cons, List.length_nil]; omega
  | _ => exact ⟨h.mono (by omega), hd, Nat.le_succ _⟩
theorem isMore_key (k : Key) : isMore (keyD k) = decide (k = .inr "more") := by
  cases k with
  | inl i => simp [keyD, isMore]
  | inr x => simp [keyD, isMore]
theorem kv_any {K : PySem.W.Frag} {H : Hp} : ∀ {kvs : List (Key × V)} {ds : List (PyData × PyData)}, DtKv K H kvs ds → (ds.any fun p => isMore p.1) = kvs.any fun kv => decide (kv.1 = .inr "more")
  | _, _, .nil => rfl
  | _, _, .cons h1 h2 => by
    rw [List.any_cons, List.any_cons, kv_any h2]
    simp only [isMore_key]
theorem kv_map {K : PySem.W.Frag} {H : Hp} : ∀ {kvs : List (Key × V)} {ds : List (PyData × PyData)}, DtKv K H kvs ds → DtKv K H (kvs.map fun kv => if kv.1 = .inr "more" then (kv.1, V.int 1) else kv) (ds.map fun p => if isMore p.1 = true then (p.1, .int 1) else p)
  | _, _, .nil => .nil
  | _, _, .cons (k := k) h1 h2 => by
    rw [List.map_cons, List.map_cons]
    by_cases e : k = .inr "more"
    · rw [if_pos e, if_pos (by rw [isMore_key]; exact decide_eq_true e)]
      exact .cons (.int 1) (kv_map h2)
    · rw [if_neg e, if_neg (by rw [isMore_key, decide_eq_false e]; exact Bool.false_ne_true)]
      exact .cons h1 (kv_map h2)
theorem kv_app {K : PySem.W.Frag} {H : Hp} {k : Key} {v : V} {d : PyData} (hd : Dt K H v d) : ∀ {kvs : List (Key × V)} {ds : List (PyData × PyData)}, DtKv K H kvs ds → DtKv K H (kvs ++ [(k, v)]) (ds ++ [(keyD k, d)])
  | _, _, .nil => .cons hd .nil
  | _, _, .cons h1 h2 => .cons h1 (kv_app hd h2)
theorem kv_put {K : PySem.W.Frag} {H : Hp} {kvs : List (Key × V)} {ds : List (PyData × PyData)} (h : DtKv K H kvs ds) : DtKv K H (putK kvs (.inr "more") (.int 1)) (putD ds) := by
  unfold putK putD
  rw [kv_any h]
  split
  · exact kv_map h
  · exact kv_app (.int 1) h
theorem kv_len {K : PySem.W.Frag} {H : Hp} : ∀ {kvs : List (Key × V)} {ds : List (PyData × PyData)}, DtKv K H kvs ds → kvs.length = ds.length
  | _, _, .nil => rfl
  | _, _, .cons _ h => by rw [List.length_cons, List.length_cons, kv_len h]
section
variable {X : Cx} {H : Hp} {Q : VK} {p : Addr} {xs : List V} {i : Int}
/-- any place of a list -/
theorem x_any (h : SqL X.K H p xs) (h0 : 0 ≤ i) (h1 : i < xs.length) (q : ∀ v, v ∈ xs → Q v H) : wIx X (.ref p) (.int i) H Q := by
  obtain ⟨v, hv, hm⟩ := atI_mem h0 h1
  exact x_list h hv (q v hm)
/-! loops that only make things -/
variable {σ : St} {D : Ends} {body : List Stmt} {tg it c a : Expr} {pos : Pos}
theorem s_forLS (hp : PassesOwn (model X.prog X.w) X.A X.env X.xe) (hc : X.calm = true) (hf : ∀ x, foldedSetIterable it X.env x = pure x)
    (h : wE X it σ H fun x H1 => ∃ a xs, x = .ref a ∧ SqL X.K H1 a xs ∧ ∃ P : Nat → St → Prop, P 0 σ ∧
      (∀ i y σ' H', xs[i]? = some y → P i σ' → L2.Same H1 H' → wG X tg y σ' H' fun σ2 H2 => wB X body { nx := fun σ3 H3 => P (i + 1) σ3 ∧ L2.Same H1 H3, rt := D.rt, bk := D.nx, ct := fun σ3 H3 => P (i + 1) σ3 ∧ L2.Same H1 H3 } σ2 H2) ∧
      (∀ σ' H', P xs.length σ' → L2.Same H1 H' → D.nx σ' H')) : wS X (.For tg it body [] pos) D σ H :=
  s_forL hp hc hf (wE.mono h fun x H1 ⟨a, xs, e, hx, P, h0, hs, hd⟩ => ⟨a, xs, e, hx, fun i σ' H' => P i σ' ∧ L2.Same H1 H', ⟨h0, fun _ _ z => z⟩, fun i σ' H' _ p => p.2.seq hx, fun i y σ' H' hi p => hs i y σ' H' hi p.1 p.2, fun σ' H' p => hd σ' H' p.1 p.2⟩)
theorem s_forQS (hp : PassesOwn (model X.prog X.w) X.A X.env X.xe) (hc : X.calm = true) (hf : ∀ x, foldedSetIterable it X.env x = pure x)
    (h : wE X it σ H fun x H1 => ∃ a xs, x = .ref a ∧ Sq X.K H1 a xs ∧ ∃ P : Nat → St → Prop, P 0 σ ∧
      (∀ i y σ' H', xs[i]? = some y → P i σ' → L2.Same H1 H' → wG X tg y σ' H' fun σ2 H2 => wB X body { nx := fun σ3 H3 => P (i + 1) σ3 ∧ L2.Same H1 H3, rt := D.rt, bk := D.nx, ct := fun σ3 H3 => P (i + 1) σ3 ∧ L2.Same H1 H3 } σ2 H2) ∧
      (∀ σ' H', P xs.length σ' → L2.Same H1 H' → D.nx σ' H')) : wS X (.For tg it body [] pos) D σ H :=
  s_forQ hp hc hf (wE.mono h fun x H1 ⟨a, xs, e, hx, P, h0, hs, hd⟩ => ⟨a, xs, e, hx, fun i σ' H' => P i σ' ∧ L2.Same H1 H', ⟨h0, fun _ _ z => z⟩, fun i σ' H' _ p => p.2, fun i y σ' H' hi p => hs i y σ' H' hi p.1 p.2, fun σ' H' p => hd σ' H' p.1 p.2⟩)
theorem s_forRS {p pos' : Pos} (hp : PassesOwn (model X.prog X.w) X.A X.env X.xe) (hc : X.calm = true) (hg : Gl X "range") (hm : X.mg "range" = none) (hs1 : starEach [a] X.env = [(false, eval a X.env)]) (hf : ∀ x, foldedSetIterable (.Call (.Name "range" p) [a] [] pos) X.env x = pure x)
    (h : wA X [a] σ H fun vs H1 => ∃ n : Nat, vs = [.int (n : Int)] ∧ n < 2 ^ 62 ∧ ∃ P : Nat → St → Prop, P 0 σ ∧
      (∀ i σ' H', i < n → P i σ' → L2.Same H1 H' → wG X tg (.int (i : Int)) σ' H' fun σ2 H2 => wB X body { nx := fun σ3 H3 => P (i + 1) σ3 ∧ L2.Same H1 H3, rt := D.rt, bk := D.nx, ct := fun σ3 H3 => P (i + 1) σ3 ∧ L2.Same H1 H3 } σ2 H2) ∧
      (∀ σ' H', P n σ' → L2.Same H1 H' → D.nx σ' H')) : wS X (.For tg (.Call (.Name "range" p) [a] [] pos) body [] pos') D σ H :=
  s_forR hp hc hg hm hs1 hf (wA.mono h fun vs H1 ⟨n, e, hz, P, h0, hs, hd⟩ => ⟨n, e, hz, fun i σ' H' => P i σ' ∧ L2.Same H1 H', ⟨h0, fun _ _ z => z⟩, fun i σ' H' hi p => hs i σ' H' hi p.1 p.2, fun σ' H' p => hd σ' H' p.1 p.2⟩)
theorem s_whileS (hp : PassesOwn (model X.prog X.w) X.A X.env X.xe) (P : Nat → St → Prop) (m0 : Nat) (h0 : P m0 σ)
    (hs : ∀ m σ' H', P m σ' → L2.Same H H' → wT X c σ' H' fun k H1 => if k = true then wB X body { nx := fun σ2 H2 => (∃ m', m' < m ∧ P m' σ2) ∧ L2.Same H H2, rt := D.rt, bk := D.nx, ct := fun σ2 H2 => (∃ m', m' < m ∧ P m' σ2) ∧ L2.Same H H2 } σ' H1 else D.nx σ' H1) :
    wS X (.While c body [] pos) D σ H :=
  s_while hp (fun m σ' H' => P m σ' ∧ L2.Same H H') m0 ⟨h0, fun _ _ z => z⟩ fun m σ' H' p => wT.mono (hs m σ' H' p.1 p.2) fun k H1 q => by
    cases k with
    | true => exact wB.mono q (fun σ2 H2 ⟨⟨m', hm, z⟩, s⟩ => ⟨m', hm, z, s⟩) (fun _ _ z => z) (fun _ _ z => z) (fun σ2 H2 ⟨⟨m', hm, z⟩, s⟩ => ⟨m', hm, z, s⟩)
    | false => exact q
/-- for thing in [..]: the things' tops are owned, each turn may change its thing's top -/
theorem s_forTh (hp : PassesOwn (model X.prog X.w) X.A X.env X.xe) (hc : X.calm = true) (hf : ∀ x, foldedSetIterable it X.env x = pure x)
    (h : wE X it σ H fun x H1 => ∃ (a : Addr) (xs : List V) (ds : List PyData) (B : Hp), x = .ref a ∧ H1 a = some (.lst xs) ∧ (∀ i : Nat, xs[i]? ≠ some (.ref a)) ∧ L2.Same B H1 ∧ ds.length = xs.length ∧ (∀ (i : Nat) y d, xs[i]? = some y → ds[i]? = some d → Ow X.K B H1 y d) ∧
      (∀ (i j : Nat) p, xs[i]? = some (.ref p) → xs[j]? = some (.ref p) → i = j) ∧ ∃ P : Nat → St → Prop, P 0 σ ∧
      (∀ i y d σ' H', xs[i]? = some y → ds[i]? = some d → P i σ' → L2.Same B H' → Ow X.K B H' y d → wG X tg y σ' H' fun σ2 H2 => wB X body
        { nx := fun σ3 H3 => P (i + 1) σ3 ∧ L2.Same B H3 ∧ ∀ b u, y ≠ .ref b → H' b = some u → H3 b = some u, rt := D.rt, bk := D.nx, ct := fun σ3 H3 => P (i + 1) σ3 ∧ L2.Same B H3 ∧ ∀ b u, y ≠ .ref b → H' b = some u → H3 b = some u } σ2 H2) ∧
      (∀ σ' H', P xs.length σ' → L2.Same B H' → D.nx σ' H')) : wS X (.For tg it body [] pos) D σ H := by
  refine s_forL hp hc hf (wE.mono h fun x H1 ⟨a, xs, ds, B, e, ha, hna, hB, hl, ho, hd, P, h0, hs, hn⟩ => ⟨a, xs, e, SqL.of ha,
    fun i σ' H' => P i σ' ∧ L2.Same B H' ∧ H' a = some (.lst xs) ∧ ∀ (j : Nat) y d, i ≤ j → xs[j]? = some y → ds[j]? = some d → Ow X.K B H' y d, ⟨h0, hB, ha, fun j y d _ => ho j y d⟩, fun i σ' H' _ p => SqL.of p.2.2.1, ?_, fun σ' H' p => hn σ' H' p.1 p.2.1⟩)
  rintro i y σ' H' hi ⟨p1, p2, p3, p4⟩
  have hi2 : i < ds.length := by rw [hl]; exact (List.getElem?_eq_some_iff.mp hi).1
  have hdi : ds[i]? = some ds[i] := List.getElem?_eq_getElem hi2
  have fin : ∀ σ3 H3, (P (i + 1) σ3 ∧ L2.Same B H3 ∧ ∀ b u, y ≠ .ref b → H' b = some u → H3 b = some u) → P (i + 1) σ3 ∧ L2.Same B H3 ∧ H3 a = some (.lst xs) ∧ ∀ (j : Nat) y d, i + 1 ≤ j → xs[j]? = some y → ds[j]? = some d → Ow X.K B H3 y d := by
    rintro σ3 H3 ⟨q1, q2, q3⟩
    refine ⟨q1, q2, q3 _ _ (fun z => hna i (by rw [hi, z])) p3, fun j z d hj hz hd' => ?_⟩
    have old := p4 j z d (by omega) hz hd'
    by_cases hy : ∃ p, y = .ref p
    · obtain ⟨p, rfl⟩ := hy
      refine old.keep (q := p) (fun b u hb => q3 b u (fun z => hb (V.ref.inj z).symm)) fun e => ?_
      rw [e] at hz
      have := hd i j p hi hz
      omega
    · exact old.same fun b u hb => q3 b u (fun z => hy ⟨b, z⟩) hb
  have w := hs i y ds[i] σ' H' hi hdi p1 p2 (p4 i y _ (Nat.le_refl _) hi hdi)
  refine ⟨fun pins s u I r => ?_⟩
  exact wpAny_mono (w.run pins s u I r) (fun _ _ ⟨σ2, H2, J, q⟩ => ⟨σ2, H2, J, wB.mono q fin (fun _ _ z => z) (fun _ _ z => z) fin⟩) fun _ _ z => z
end
end Tw
/-! Tw13: what the written part says of the text's defs and of its exceptions. -/
namespace Tw
open PySem PySem.Spec PyProof.Rows L2
open L2H (RoomH)
/-- a def stands in the module -/
structure HasDef (K : PySem.W.Frag) (x : Str) (st : Stmt) : Prop where
  ex : ∃ (f : Addr) (oc : Value) (od an : Option Addr) (osl : Array (Option Value)) (kV dc pm cd ct : Value), PySem.W.nsIn K mainGlobals x = some (some (.ref f)) ∧
    K.lookup f = some ⟨oc, od, .func (PySem.W.fnOf x x (defArgs st) (defBody st) (defScope st) .none kV dc pm an cd ct), osl⟩ ∧ PySem.W.codeIn K cd x = true ∧ PySem.W.keepIn K (.ref f) = true
theorem HasDef.mk' {K : PySem.W.Frag} {x : Str} {st : Stmt} {f : Addr} {oc : Value} {od an : Option Addr} {osl : Array (Option Value)} {kV dc pm cd ct : Value} (a : PySem.W.nsIn K mainGlobals x = some (some (.ref f)))
    (l : K.lookup f = some ⟨oc, od, .func (PySem.W.fnOf x x (defArgs st) (defBody st) (defScope st) .none kV dc pm an cd ct), osl⟩) (c : PySem.W.codeIn K cd x = true) (k : PySem.W.keepIn K (.ref f) = true) : HasDef K x st := ⟨_, _, _, _, _, _, _, _, _, _, a, l, c, k⟩
section
variable {K : PySem.W.Frag} {mg : Str → Option Value} {h : Heap} {x : Str} {st : Stmt}
theorem HasDef.dn (D : HasDef K x st) (X : K.In h) (G : h.Ns mainGlobals mg) : Dn K mg x st := by
  obtain ⟨f, oc, od, an, osl, kV, dc, pm, cd, ct, a, l, c, k⟩ := D.ex
  exact ⟨_, _, fun_mk l c k, PySem.W.mg_of X G a⟩
end
theorem Bn.of {K : PySem.W.Frag} {mg : Str → Option Value} {h : Heap} (X : K.In h) (G : h.Ns mainGlobals mg) (a1 : PySem.W.nsIn K mainGlobals "len" = some none) (a2 : PySem.W.nsIn K mainGlobals "isinstance" = some none) (a3 : PySem.W.nsIn K mainGlobals "int" = some none)
    (a4 : PySem.W.nsIn K mainGlobals "bool" = some none) (a5 : PySem.W.nsIn K mainGlobals "list" = some none) (a6 : PySem.W.nsIn K mainGlobals "tuple" = some none) (a7 : PySem.W.nsIn K mainGlobals "dict" = some none) (a8 : PySem.W.nsIn K mainGlobals "str" = some none) (a9 : PySem.W.nsIn K mainGlobals "all" = some none)
    (a10 : PySem.W.nsIn K mainGlobals "range" = some none) (a11 : PySem.W.nsIn K mainGlobals "repr" = some none) (a12 : PySem.W.nsIn K mainGlobals "max" = some none) (a13 : PySem.W.nsIn K mainGlobals "min" = some none) (a14 : PySem.W.nsIn K mainGlobals "abs" = some none) : Bn mg :=
  ⟨PySem.W.mg_none_of X G a1, PySem.W.mg_none_of X G a2, PySem.W.mg_none_of X G a3, PySem.W.mg_none_of X G a4, PySem.W.mg_none_of X G a5, PySem.W.mg_none_of X G a6, PySem.W.mg_none_of X G a7, PySem.W.mg_none_of X G a8, PySem.W.mg_none_of X G a9, PySem.W.mg_none_of X G a10, PySem.W.mg_none_of X G a11, PySem.W.mg_none_of X G a12, PySem.W.mg_none_of X G a13, PySem.W.mg_none_of X G a14⟩
def clsBody : Stmt → List Stmt
  | .ClassDef (body := b) .. => b
  | _ => []
def iniOf (st : Stmt) : Stmt := (clsBody st).getD 0 (.Pass ⟨0, 0, 0, 0⟩)
/-- an own exception class with an __init__ of its own, over a class over ValueError -/
structure HasExc (K : PySem.W.Frag) (x q fld : Str) (st : Stmt) (C : Addr) : Prop where
  g : PySem.W.nsIn K mainGlobals x = some (some (.ref C))
  oex : OexC K C
  no : PySem.W.findIn K (.ref C) fld = some none
  xf : XfC K C
  te : PySem.W.exmOne K (.ref C) (.ref C) = some true
  ini : ∃ (f : Addr) (oc : Value) (od an : Option Addr) (osl : Array (Option Value)) (kV dc pm cd ct : Value), PySem.W.findIn K (.ref C) "__init__" = some (some (.ref f)) ∧ PySem.W.typeIn K (.ref f) = some (.type "function") ∧
    K.lookup f = some ⟨oc, od, .func (PySem.W.fnOf "__init__" q (defArgs (iniOf st)) (defBody (iniOf st)) (defScope (iniOf st)) .none kV dc pm an cd ct), osl⟩ ∧ PySem.W.codeIn K cd q = true ∧ PySem.W.keepIn K (.ref f) = true
theorem HasExc.mk' {K : PySem.W.Frag} {x q fld : Str} {st : Stmt} {C f : Addr} {oc : Value} {od an : Option Addr} {osl : Array (Option Value)} {kV dc pm cd ct : Value}
    (g : PySem.W.nsIn K mainGlobals x = some (some (.ref C))) (oex : OexC K C) (no : PySem.W.findIn K (.ref C) fld = some none) (ga : PySem.W.findIn K (.ref C) "__getattribute__" = some (some (.builtin "BaseException.__getattribute__"))) (gg : PySem.W.findIn K (.ref C) "__getattr__" = some none)
    (hd : PySem.W.hasDictIn K C = true) (sC : PySem.W.subIn K (.ref C) (.ref C) = some true) (i : PySem.W.findIn K (.ref C) "__init__" = some (some (.ref f))) (t : PySem.W.typeIn K (.ref f) = some (.type "function"))
    (l : K.lookup f = some ⟨oc, od, .func (PySem.W.fnOf "__init__" q (defArgs (iniOf st)) (defBody (iniOf st)) (defScope (iniOf st)) .none kV dc pm an cd ct), osl⟩) (c : PySem.W.codeIn K cd q = true) (k : PySem.W.keepIn K (.ref f) = true) : HasExc K x q fld st C :=
  ⟨g, oex, no, ⟨ga, gg, oex.exC, hd⟩, PySem.W.exm_ref oex.exC hd oex.tyC sC, _, _, _, _, _, _, _, _, _, _, i, t, l, c, k⟩
theorem oexC_mk {K : PySem.W.Frag} {C : Addr} {nm q N bs bm sn sub ab col dd k0 k1 k2 k3 k5} (xL : K.lookup C = some (excClassObj nm q C N bs bm true sn sub ab col dd k0 k1 k2 k3 k5 "ValueError.__new__")) (hb : PySem.HandSPX.refsVE bm = true)
    (sa : PySem.W.findIn K (.ref C) "__setattr__" = some (some (.builtin "object.__setattr__"))) (ec : PySem.W.subIn K (.ref C) (.type "BaseException") = some true) (tc : PySem.W.typeIn K (.ref C) = some (.type "type")) (kc : PySem.W.keepIn K (.ref C) = true) : OexC K C :=
  ⟨⟨_, _, _, _, _, _, _, _, _, _, _, _, _, _, _, xL, hb⟩, sa, ec, tc, kc⟩
/-- the own base class, by its name -/
structure HasBase (K : PySem.W.Frag) (x : Str) (B : Addr) : Prop where
  g : PySem.W.nsIn K mainGlobals x = some (some (.ref B))
  b : BinC K B
section
variable {P : Program} {w : World} {K : PySem.W.Frag} {mg : Str → Option Value} {base h : Heap} {x q fld : Str} {st : Stmt} {C : Addr}
theorem HasExc.ex (D : HasExc K x q fld st C) (X : K.In h) (G : h.Ns mainGlobals mg) {ps : List Str}
    (F : ∀ (f : Addr) (fd : FuncData), Fun K "__init__" q (iniOf st) f fd → FnOk P w K mg base CX0 1 f fd ps (spExc C fld))
    (hb : ∀ (kV doc pm : Value) (an : Option Addr) (cdv ct : Value) (us : List Value), us.length = ps.length → bindArgs (PySem.W.fnOf "__init__" q (defArgs (iniOf st)) (defBody (iniOf st)) (defScope (iniOf st)) .none kV doc pm an cdv ct) ⟨us, []⟩ = pure (ps.zip us)) : ExK P w K mg base x fld C := by
  obtain ⟨f, oc, od, an, osl, kV, dc, pm, cd, ct, i, t, l, c, k⟩ := D.ini
  have Fu := fun_mk (st := iniOf st) l c k
  exact ⟨D.oex, PySem.W.mg_of X G D.g, ⟨f, _, ps, i, t, F f _ Fu, Fu.binds hb⟩, D.no, D.xf⟩
end
end Tw
namespace Tw
open PySem PySem.Spec PyProof.Rows L2
open L2H (RoomH)

set_option hygiene false in
local macro_rules | `(tactic| walk_at "own") => `(tactic| first
  | exact F.at0 | exact F.at1 | exact F.at2 | exact F.at3 | exact F.at4 | exact F.at5 | exact F.at6 | exact F.at7 | exact F.at8 | exact F.at9 | exact F.at10 | exact F.at11 | exact F.at12 | exact F.at13 | exact F.at14 | exact F.at15 | exact F.at16 | exact F.at17 | exact F.at18 | exact F.at19 | exact F.at20 | exact F.at21 | exact F.at22 | exact F.at23 | exact F.at24 | exact F.at25 | exact F.at26 | exact F.at27 | exact F.at28 | exact F.at29 | exact F.at30 | exact F.at31 | exact F.at32 | exact F.at33 | exact F.at34 | exact F.at35 | fail "own")
set_option hygiene false in
local macro_rules | `(tactic| walk_at "put") => `(tactic| first
  | replace F := F.put0 hB hA | replace F := F.put1 hB hA | replace F := F.put2 hB hA | replace F := F.put3 hB hA | replace F := F.put4 hB hA | replace F := F.put5 hB hA | replace F := F.put6 hB hA | replace F := F.put7 hB hA | replace F := F.put8 hB hA | replace F := F.put9 hB hA | replace F := F.put10 hB hA | replace F := F.put11 hB hA | replace F := F.put12 hB hA | replace F := F.put13 hB hA | replace F := F.put14 hB hA | replace F := F.put15 hB hA | replace F := F.put16 hB hA | replace F := F.put17 hB hA | replace F := F.put18 hB hA | replace F := F.put19 hB hA | replace F := F.put20 hB hA | replace F := F.put21 hB hA | replace F := F.put22 hB hA | replace F := F.put23 hB hA | replace F := F.put24 hB hA | replace F := F.put25 hB hA | replace F := F.put26 hB hA | replace F := F.put27 hB hA | replace F := F.put28 hB hA | replace F := F.put29 hB hA | replace F := F.put30 hB hA | replace F := F.put31 hB hA | replace F := F.put32 hB hA | replace F := F.put33 hB hA | replace F := F.put34 hB hA | replace F := F.put35 hB hA | fail "put")
set_option hygiene false in
local macro_rules | `(tactic| walk_at "tk") => `(tactic| first
  | replace F := F.take0 hB hA | replace F := F.take1 hB hA | replace F := F.take2 hB hA | replace F := F.take3 hB hA | replace F := F.take4 hB hA | replace F := F.take5 hB hA | replace F := F.take6 hB hA | replace F := F.take7 hB hA | replace F := F.take8 hB hA | replace F := F.take9 hB hA | replace F := F.take10 hB hA | replace F := F.take11 hB hA | replace F := F.take12 hB hA | replace F := F.take13 hB hA | replace F := F.take14 hB hA | replace F := F.take15 hB hA | replace F := F.take16 hB hA | replace F := F.take17 hB hA | replace F := F.take18 hB hA | replace F := F.take19 hB hA | replace F := F.take20 hB hA | replace F := F.take21 hB hA | replace F := F.take22 hB hA | replace F := F.take23 hB hA | replace F := F.take24 hB hA | replace F := F.take25 hB hA | replace F := F.take26 hB hA | replace F := F.take27 hB hA | replace F := F.take28 hB hA | replace F := F.take29 hB hA | replace F := F.take30 hB hA | replace F := F.take31 hB hA | replace F := F.take32 hB hA | replace F := F.take33 hB hA | replace F := F.take34 hB hA | replace F := F.take35 hB hA | fail "tk")
set_option hygiene false in
local macro_rules | `(tactic| walk_at "gen") => `(tactic| first
  | replace F := F.gen0 hl h2l h2q old | replace F := F.gen1 hl h2l h2q old | replace F := F.gen2 hl h2l h2q old | replace F := F.gen3 hl h2l h2q old | replace F := F.gen4 hl h2l h2q old | replace F := F.gen5 hl h2l h2q old | replace F := F.gen6 hl h2l h2q old | replace F := F.gen7 hl h2l h2q old | replace F := F.gen8 hl h2l h2q old | replace F := F.gen9 hl h2l h2q old | replace F := F.gen10 hl h2l h2q old | replace F := F.gen11 hl h2l h2q old | replace F := F.gen12 hl h2l h2q old | replace F := F.gen13 hl h2l h2q old | fail "gen")
set_option hygiene false in
local macro_rules | `(tactic| walk_at "callP") => `(tactic| first
  | replace F := F.callP0 hG hA | replace F := F.callP1 hG hA | replace F := F.callP2 hG hA | replace F := F.callP3 hG hA | replace F := F.callP4 hG hA | replace F := F.callP5 hG hA | replace F := F.callP6 hG hA | replace F := F.callP7 hG hA | replace F := F.callP8 hG hA | replace F := F.callP9 hG hA | replace F := F.callP10 hG hA | replace F := F.callP11 hG hA | replace F := F.callP12 hG hA | replace F := F.callP13 hG hA | fail "callP")
set_option hygiene false in
local macro_rules | `(tactic| walk_at "back") => `(tactic| first
  | (obtain ⟨hG, hA⟩ := F.back0 hn) | (obtain ⟨hG, hA⟩ := F.back1 hn) | (obtain ⟨hG, hA⟩ := F.back2 hn) | (obtain ⟨hG, hA⟩ := F.back3 hn) | (obtain ⟨hG, hA⟩ := F.back4 hn) | (obtain ⟨hG, hA⟩ := F.back5 hn) | (obtain ⟨hG, hA⟩ := F.back6 hn) | (obtain ⟨hG, hA⟩ := F.back7 hn) | (obtain ⟨hG, hA⟩ := F.back8 hn) | (obtain ⟨hG, hA⟩ := F.back9 hn) | (obtain ⟨hG, hA⟩ := F.back10 hn) | (obtain ⟨hG, hA⟩ := F.back11 hn) | (obtain ⟨hG, hA⟩ := F.back12 hn) | (obtain ⟨hG, hA⟩ := F.back13 hn) | (obtain ⟨hG, hA⟩ := F.back14 hn) | (obtain ⟨hG, hA⟩ := F.back15 hn) | (obtain ⟨hG, hA⟩ := F.back16 hn) | (obtain ⟨hG, hA⟩ := F.back17 hn) | (obtain ⟨hG, hA⟩ := F.back18 hn) | (obtain ⟨hG, hA⟩ := F.back19 hn) | (obtain ⟨hG, hA⟩ := F.back20 hn) | (obtain ⟨hG, hA⟩ := F.back21 hn) | (obtain ⟨hG, hA⟩ := F.back22 hn) | (obtain ⟨hG, hA⟩ := F.back23 hn) | (obtain ⟨hG, hA⟩ := F.back24 hn) | (obtain ⟨hG, hA⟩ := F.back25 hn) | (obtain ⟨hG, hA⟩ := F.back26 hn) | (obtain ⟨hG, hA⟩ := F.back27 hn) | (obtain ⟨hG, hA⟩ := F.back28 hn) | (obtain ⟨hG, hA⟩ := F.back29 hn) | (obtain ⟨hG, hA⟩ := F.back30 hn) | (obtain ⟨hG, hA⟩ := F.back31 hn) | (obtain ⟨hG, hA⟩ := F.back32 hn) | (obtain ⟨hG, hA⟩ := F.back33 hn) | (obtain ⟨hG, hA⟩ := F.back34 hn) | (obtain ⟨hG, hA⟩ := F.back35 hn) | fail "back")
set_option hygiene false in
local macro_rules | `(tactic| walk_at "n1") => `(tactic| first
  | exact F.n10 | exact F.n11 | exact F.n12 | exact F.n13 | exact F.n14 | exact F.n15 | exact F.n16 | exact F.n17 | exact F.n18 | exact F.n19 | exact F.n110 | exact F.n111 | exact F.n112 | exact F.n113 | exact F.n114 | exact F.n115 | exact F.n116 | exact F.n117 | exact F.n118 | exact F.n119 | exact F.n120 | exact F.n121 | exact F.n122 | exact F.n123 | exact F.n124 | exact F.n125 | exact F.n126 | exact F.n127 | exact F.n128 | exact F.n129 | exact F.n130 | exact F.n131 | exact F.n132 | exact F.n133 | exact F.n134 | exact F.n135 | fail "n1")
local macro_rules | `(tactic| walk_at "vis") => `(tactic| first | exact Or.inl rfl | exact Or.inr (Or.inl rfl) | exact Or.inr (Or.inr rfl))
local macro_rules | `(tactic| walk_at "loc") => `(tactic| first | exact Or.inl rfl | exact Or.inr rfl)
local macro_rules | `(tactic| walk_at "cm") => `(tactic| first | rfl | exact nomark _)
set_option hygiene false in
local macro_rules | `(tactic| walk_at "hh") => `(tactic| first | exact hh | exact fun z => nomatch z)
set_option hygiene false in
local macro_rules | `(tactic| walk_at "seq") => `(tactic| first
  | assumption
  | exact SqL.of (by walk_at "own")
  | exact SqT.of (by walk_at "own")
  | exact L2.Same.seq F.g.sub (by assumption)
  | exact SqT_same F.g.sub (by assumption)
  | exact L2.Same.seq F.g.old (by assumption)
  | exact SqT_same F.g.old (by assumption)
  | fail "seq")
local macro_rules | `(tactic| walk_at "dti") => `(tactic| first | exact Dt.ints (by walk_at "seq") | exact Dt.intsT (by walk_at "seq"))
set_option hygiene false in
local macro_rules | `(tactic| walk_at "dt") => `(tactic| first
  | assumption
  | exact Dt.int _
  | exact Dt.str _
  | exact Dt.bl _
  | exact Dt.non
  | exact Dt.same F.g.sub (by assumption)
  | fail "dt")
local macro_rules | `(tactic| walk_at "ar") => `(tactic| first | assumption | omega | decide | (decide +kernel))
local macro_rules | `(tactic| walk_at "ix") => `(tactic| first | rfl | assumption | fail "ix")
local macro_rules | `(tactic| walk_at "sz") => `(tactic| first | assumption | exact sz_ok rfl | exact sz_lt' (by omega) | exact sz_le' (by omega) | exact sz_le' (by walk_at "len") | exact sz_lt' (by walk_at "len"))
local macro_rules | `(tactic| walk_at "rel") => `(tactic| first | exact rfl | exact ⟨_, rfl⟩)
local macro_rules | `(tactic| walk_at "len") => `(tactic| (simp only [List.length_append, List.length_cons, List.length_nil, List.length_map, List.length_take, List.length_drop, List.length_dropLast, List.length_range]; omega))
local macro_rules | `(tactic| walk_at "ty") => `(tactic| exact ty_list (by walk_at "seq"))
def top (i : Nat) : Stmt := PySem.Challenge.pw_termwide_k50_whole_rows_part.main.body.getD i (.Pass ⟨0, 0, 0, 0⟩)
section
variable {P : Program} {w : World} {K : PySem.W.Frag} {mg : Str → Option Value} {base : Heap}

def spIsNum (K : PySem.W.Frag) : Sp := fun vs H Q _ => ∃ x d, vs = [x] ∧ Dt K H x d ∧ Q (.bl (isNum d)) H
set_option hygiene false in
local macro_rules | `(tactic| walk_at "blk") => `(tactic| (show blkC ["thing"] (defScope st_is_number) _ _ = true; decide +kernel))
abbrev st_is_number : Stmt := top 4
theorem sc_is_number : FnScope ["thing"] ["thing"] (defScope st_is_number) := ⟨rfl, rfl, rfl, by decide +kernel, rfl, by decide +kernel, by decide +kernel⟩
theorem ok_is_number (M : Bn mg)   (DD : Dn K mg "is_number" st_is_number) : Cal P w K mg base CX0 true 1 "is_number" [] (spIsNum K) := by
  refine cal_g DD sc_is_number (fun _ _ _ _ _ _ us hl => by match us, hl with | [_], _ => rfl) (fun vs H Q E h => ?_) fun f cdv A outer s H vs Q E hr hh hg h => ?_
  · obtain ⟨x, d, rfl, _⟩ := h; rfl
  · have nd := sc_is_number.nd
    have n0 : Nm ["thing"] 0 "thing" := ⟨rfl, by decide, by decide⟩
    obtain ⟨x, d, rfl, hd, q⟩ := h
    have F := Fr.start (L2.Same.refl H)
    refine b_one ?_
    refine s_ret ?_
    refine e_and ?_
    refine e_isi M.isinstance rfl rfl rfl ?_
    refine a_cons rfl ?_
    refine e_v n0 rfl (by walk_at "vis") ⟨_, rfl, ?_⟩
    refine a_cons rfl ?_
    refine e_tyInt M.int rfl ?_
    refine a_nil ?_
    refine c_isInt (by walk_at "dt") ?_
    refine ⟨_, rfl, ?_⟩
    first | refine if_d (fun hb1 => ?_) (fun hb1 => ?_) | refine if_nd (fun hb1 => ?_) (fun hb1 => ?_) | refine if_b (fun hb1 => ?_) (fun hb1 => ?_)
    · refine e_one ?_
      refine e_not ?_
      refine e_isi M.isinstance rfl rfl rfl ?_
      refine a_cons rfl ?_
      refine e_v n0 rfl (by walk_at "vis") ⟨_, rfl, ?_⟩
      refine a_cons rfl ?_
      refine e_tyBool M.bool rfl ?_
      refine a_nil ?_
      refine c_isBool (by walk_at "dt") ?_
      first | refine ⟨_, rfl, ?_⟩ | refine tru_int ?_
      cases d <;> first | exact q | (simp [isIntD] at *; done)
    · cases d <;> first | exact q | (simp [isIntD] at *; done)

def floorOk (ns : List Int) : Bool := !ns.isEmpty && (ns.drop 1).all (fun t => decide (1 ≤ t)) && (decide (ns.length = 1) || !decide (ns.getLastD 0 = 1))
def floorRow (d : PyData) : Bool := isSeqD d && match intsOf (itemsD d) with
  | some ns => floorOk ns
  | none => false
def spFloor (K : PySem.W.Frag) : Sp := fun vs H Q _ => ∃ x d, vs = [x] ∧ Dt K H x d ∧ (itemsD d).length ≤ 1000000 ∧ ∀ H', L2.Same H H' → Q (.bl (floorRow d)) H'
theorem floorRow_of {d : PyData} {ns : List Int} (hs : isSeqD d = true) (e : itemsD d = ns.map PyData.int) : floorRow d = floorOk ns := by
  unfold floorRow
  rw [hs, e, intsOf_map]
  rfl
theorem floorRow_num {d : PyData} (h : (itemsD d).all isNum = false) : floorRow d = false := by
  unfold floorRow
  rw [← intsOf_all] at h
  cases e : intsOf (itemsD d) with
  | none => simp
  | some ns => rw [e] at h; cases h
theorem ints_here {ds : List PyData} (h : ds.all isNum = true) : ∃ ns : List Int, ds = ns.map PyData.int := by
  rw [← intsOf_all] at h
  cases e : intsOf ds with
  | none => rw [e] at h; cases h
  | some ns => exact ⟨ns, of_intsOf e⟩
set_option hygiene false in
local macro_rules | `(tactic| walk_at "blk") => `(tactic| (show blkC ["thing", "term"] (defScope st_is_floor_row) _ _ = true; decide +kernel))
abbrev st_is_floor_row : Stmt := top 6
theorem sc_is_floor_row : FnScope ["thing", "term"] ["thing"] (defScope st_is_floor_row) := ⟨rfl, rfl, rfl, by decide +kernel, rfl, by decide +kernel, by decide +kernel⟩
theorem ok_is_floor_row (M : Bn mg)  (C_is_number : Cal P w K mg base CX0 true 1 "is_number" [] (spIsNum K)) (DD : Dn K mg "is_floor_row" st_is_floor_row) : Cal P w K mg base CX0 true 2 "is_floor_row" [] (spFloor K) := by
  refine cal_g DD sc_is_floor_row (fun _ _ _ _ _ _ us hl => by match us, hl with | [_], _ => rfl) (fun vs H Q E h => ?_) fun f cdv A outer s H vs Q E hr hh hg h => ?_
  · obtain ⟨x, d, rfl, _⟩ := h; rfl
  · have nd := sc_is_floor_row.nd
    have n0 : Nm ["thing", "term"] 0 "thing" := ⟨rfl, by decide, by decide⟩
    have n1 : Nm ["thing", "term"] 1 "term" := ⟨rfl, by decide, by decide⟩
    obtain ⟨x, d, rfl, hd, hz, q⟩ := h
    have F := Fr.start (L2.Same.refl H)
    refine b_cons ?_
    refine s_if ?_
    refine t_or ?_
    refine t_not ?_
    refine t_val (fun _ => rfl) ?_
    refine e_isi M.isinstance rfl rfl rfl ?_
    refine a_cons rfl ?_
    refine e_v n0 rfl (by walk_at "vis") ⟨_, rfl, ?_⟩
    refine a_cons rfl ?_
    refine e_tup ?_
    refine a_cons rfl ?_
    refine e_tyList M.list rfl ?_
    refine a_cons rfl ?_
    refine e_tyTuple M.tuple rfl ?_
    refine a_nil ?_
    refine ⟨sz_ok rfl, ?_⟩
    intro p1 H1 N1
    replace F := F.make N1
    refine a_nil ?_
    refine c_isSeq (by walk_at "own") (by walk_at "dt") ?_
    first | refine ⟨_, rfl, ?_⟩ | refine tru_int ?_
    first | refine if_d (fun hb2 => ?_) (fun hb2 => ?_) | refine if_nd (fun hb2 => ?_) (fun hb2 => ?_) | refine if_b (fun hb2 => ?_) (fun hb2 => ?_)
    · have e : floorRow d = false := by unfold floorRow; simp at hb2; rw [hb2]; rfl
      refine iteT ?_
      have e : floorRow d = false := by first | exact e | exact floorRow_num (by simpa using hb2)
      refine b_one ?_
      refine s_ret ?_
      refine e_bl ?_
      rw [e] at q
      exact q _ F.g.old
    · obtain ⟨a, xs, rfl, hq, hD⟩ := hd.seq_of (by simpa using hb2)
      have hs : isSeqD d = true := by simpa using hb2
      have hxl := hD.length
      refine k_or ?_
      refine t_cmp (by walk_at "cm") ?_
      refine e_len M.len rfl rfl rfl ?_
      refine a_cons rfl ?_
      refine e_v n0 rfl (by walk_at "vis") ⟨_, rfl, ?_⟩
      refine a_nil ?_
      refine c_lenQ (hq.same F.g.old) ?_
      refine e_int ?_
      first | refine o_eqI ?_ | refine o_eqB ?_ | refine o_eqS ?_ | refine o_eqD (un64 hr) (by walk_at "dp") (by walk_at "dp") (by walk_at "sh") (by walk_at "sh") ?_
      refine ⟨_, rfl, ?_⟩
      first | refine if_d (fun hb3 => ?_) (fun hb3 => ?_) | refine if_nd (fun hb3 => ?_) (fun hb3 => ?_) | refine if_b (fun hb3 => ?_) (fun hb3 => ?_)
      · have e : floorRow d = false := by unfold floorRow; have h0 : itemsD d = [] := (by cases h : itemsD d with | nil => rfl | cons a b => (rw [h] at hxl; simp at hxl; omega)); rw [h0]; simp [intsOf, floorOk]
        refine iteT ?_
        have e : floorRow d = false := by first | exact e | exact floorRow_num (by simpa using hb3)
        refine b_one ?_
        refine s_ret ?_
        refine e_bl ?_
        rw [e] at q
        exact q _ F.g.old
      · refine k_or1 ?_
        refine t_not ?_
        refine t_val (fun _ => rfl) ?_
        refine e_all M.all rfl rfl rfl ?_
        refine a_cons rfl ?_
        refine e_mapQ (own := [("term", 1)]) rfl nd (by walk_at "blk") (fun _ => rfl) ?_
        refine e_v n0 rfl (by walk_at "vis") ⟨_, rfl, ?_⟩
        refine ⟨_, _, rfl, hq.same F.g.old, by omega, fun i => .bl (isNum ((itemsD d).getD i .none)), fun i y H' hi hs => ?_, fun l H2 N => ?_⟩
        · intro sB HB C cl fp
          replace F := F.same hs
          obtain ⟨dy, hdy, hy⟩ := hD.get' hi
          replace hy := hy.same F.g.old
          refine g_v n1 nd rfl (by walk_at "loc") (by walk_at "loc") ?_
          refine ⟨rfl, rfl, ?_⟩
          intro sB' HB' C' cl' fp'
          refine e_cal C_is_number ⟨rfl, rfl, rfl, rfl, rfl⟩ (by decide) hr (by walk_at "hh") hg rfl rfl rfl (by decide) ?_
          refine a_cons rfl ?_
          refine e_v n1 rfl (by walk_at "vis") ⟨_, rfl, ?_⟩
          refine a_nil ?_
          refine ⟨_, _, rfl, hy, ?_⟩
          exact ⟨by simp only [getD_some hdy], fun _ _ z => z⟩
        · skip
          replace F := F.make N
          refine a_nil ?_
          refine c_all rfl (bs := (List.range xs.length).map fun i => isNum ((itemsD d).getD i .none)) (by rw [List.map_map]; exact SqL.of (F.at0)) ?_
          rw [all_range, hxl, range_all]
          first | refine ⟨_, rfl, ?_⟩ | refine tru_int ?_
          first | refine if_d (fun hb4 => ?_) (fun hb4 => ?_) | refine if_nd (fun hb4 => ?_) (fun hb4 => ?_) | refine if_b (fun hb4 => ?_) (fun hb4 => ?_)
          · have e : floorRow d = false := by first | exact e | exact floorRow_num (by simpa using hb4)
            refine b_one ?_
            refine s_ret ?_
            refine e_bl ?_
            rw [e] at q
            exact q _ F.g.old
          · have hn : (itemsD d).all isNum = true := by simpa using hb4
            obtain ⟨ns, ens⟩ := ints_here hn
            have e0 := floorRow_of hs ens
            rw [ens] at hD
            obtain rfl := hD.ints_of
            rw [List.length_map] at hxl
            have hnl : ns.length ≤ 1000000 := by rw [ens, List.length_map] at hz; exact hz
            refine b_nil ?_
            refine b_cons ?_
            refine s_if ?_
            refine t_not ?_
            refine t_val (fun _ => rfl) ?_
            refine e_all M.all rfl rfl rfl ?_
            refine a_cons rfl ?_
            refine e_mapQ (own := [("term", 1)]) rfl nd (by walk_at "blk") (fun _ => rfl) ?_
            refine e_slice ?_
            refine e_v n0 rfl (by walk_at "vis") ⟨_, rfl, ?_⟩
            refine p_some ?_
            refine e_int ?_
            refine ⟨_, rfl, ?_⟩
            refine p_none ?_
            refine l_seq (hq.same F.g.old) ?_
            intro p5 H5 S5 hS
            replace F := F.same S5
            rw [cut_from (by decide), ← List.map_drop] at hS
            refine ⟨_, _, rfl, hS, by rw [List.length_map, List.length_drop]; omega, fun i => .bl (decide (1 ≤ (ns.drop 1).getD i 0)), fun i y H' hi hs => ?_, fun l H2 N => ?_⟩
            · intro sB HB C cl fp
              replace F := F.same hs
              obtain rfl := get_map_int hi
              refine g_v n1 nd rfl (by walk_at "loc") (by walk_at "loc") ?_
              refine ⟨rfl, rfl, ?_⟩
              intro sB' HB' C' cl' fp'
              refine e_cmp (by walk_at "cm") ?_
              refine e_v n1 rfl (by walk_at "vis") ⟨_, rfl, ?_⟩
              refine e_int ?_
              refine o_ge ?_
              exact ⟨rfl, fun _ _ z => z⟩
            · skip
              replace F := F.make N
              refine a_nil ?_
              refine c_all rfl (bs := (List.range (ns.drop 1).length).map fun i => decide (1 ≤ (ns.drop 1).getD i 0)) (by have := F.at0; rw [List.length_map] at this; rw [List.map_map]; exact SqL.of this) ?_
              rw [all_range, range_all (g := fun t => decide (1 ≤ t)) (d := 0) (ns.drop 1)]
              first | refine ⟨_, rfl, ?_⟩ | refine tru_int ?_
              first | refine if_d (fun hb6 => ?_) (fun hb6 => ?_) | refine if_nd (fun hb6 => ?_) (fun hb6 => ?_) | refine if_b (fun hb6 => ?_) (fun hb6 => ?_)
              · have hx : (ns.drop 1).all (fun t => decide (1 ≤ t)) = false := by simpa using hb6
                have e : floorRow d = false := by rw [e0]; unfold floorOk; rw [hx, Bool.and_false, Bool.false_and]
                refine b_one ?_
                refine s_ret ?_
                refine e_bl ?_
                rw [e] at q
                exact q _ F.g.old
              · have hx : (ns.drop 1).all (fun t => decide (1 ≤ t)) = true := by simpa using hb6
                have hne : ns ≠ [] := by intro z; rw [z] at hxl; apply hb3; rw [List.length_map, z]; rfl
                have hem : (!ns.isEmpty) = true := by cases ns with | nil => exact absurd rfl hne | cons _ _ => rfl
                refine b_nil ?_
                refine b_one ?_
                refine s_ret ?_
                refine e_or ?_
                refine e_cmp (by walk_at "cm") ?_
                refine e_len M.len rfl rfl rfl ?_
                refine a_cons rfl ?_
                refine e_v n0 rfl (by walk_at "vis") ⟨_, rfl, ?_⟩
                refine a_nil ?_
                refine c_lenQ (hq.same F.g.old) ?_
                rw [List.length_map]
                refine e_int ?_
                first | refine o_eqI ?_ | refine o_eqB ?_ | refine o_eqS ?_ | refine o_eqD (un64 hr) (by walk_at "dp") (by walk_at "dp") (by walk_at "sh") (by walk_at "sh") ?_
                refine ⟨_, rfl, ?_⟩
                first | refine if_d (fun hb7 => ?_) (fun hb7 => ?_) | refine if_nd (fun hb7 => ?_) (fun hb7 => ?_) | refine if_b (fun hb7 => ?_) (fun hb7 => ?_)
                · have eok : floorOk ns = true := by unfold floorOk; rw [hx, hem, decide_eq_true (show ns.length = 1 by omega)]; rfl
                  rw [e0, eok] at q
                  exact q _ F.g.old
                · have eok : floorOk ns = !decide (ns.getLastD 0 = 1) := by unfold floorOk; rw [hx, hem, decide_eq_false (show ¬ ns.length = 1 by omega)]; rfl
                  refine e_one ?_
                  refine e_cmp (by walk_at "cm") ?_
                  refine e_ix (fun _ _ => rfl) ?_
                  refine e_v n0 rfl (by walk_at "vis") ⟨_, rfl, ?_⟩
                  refine e_un ?_
                  refine e_int ?_
                  refine u_neg ?_
                  refine x_sq (hq.same F.g.old) (atI_intL hne) ?_
                  refine e_int ?_
                  first | refine o_neI ?_ | refine o_neB ?_ | refine o_neS ?_ | refine o_neD (un64 hr) (by walk_at "dp") (by walk_at "dp") (by walk_at "sh") (by walk_at "sh") ?_
                  rw [e0, eok] at q
                  exact q _ F.g.old
set_option hygiene false in
local macro_rules | `(tactic| walk_at "blk") => `(tactic| (show blkC ["script", "k"] (defScope st_law_cell) _ _ = true; decide +kernel))
abbrev st_law_cell : Stmt := top 10
theorem sc_law_cell : FnScope ["script", "k"] ["script", "k"] (defScope st_law_cell) := ⟨rfl, rfl, rfl, by decide +kernel, rfl, by decide +kernel, by decide +kernel⟩
theorem ok_law_cell (M : Bn mg)   (DD : Dn K mg "_law_cell" st_law_cell) : Cal P w K mg base CX0 true 1 "_law_cell" [] (spCell K) := by
  refine cal_g DD sc_law_cell (fun _ _ _ _ _ _ us hl => by match us, hl with | [_, _], _ => rfl) (fun vs H Q E h => ?_) fun f cdv A outer s H vs Q E hr hh hg h => ?_
  · obtain ⟨a, k, ns, rfl, _⟩ := h; rfl
  · have nd := sc_law_cell.nd
    have n0 : Nm ["script", "k"] 0 "script" := ⟨rfl, by decide, by decide⟩
    have n1 : Nm ["script", "k"] 1 "k" := ⟨rfl, by decide, by decide⟩
    obtain ⟨a, k, ns, rfl, h0, hq, q⟩ := h
    have F := Fr.start (L2.Same.refl H)
    refine b_cons ?_
    refine s_if ?_
    refine t_cmp (by walk_at "cm") ?_
    refine e_v n1 rfl (by walk_at "vis") ⟨_, rfl, ?_⟩
    refine e_len M.len rfl rfl rfl ?_
    refine a_cons rfl ?_
    refine e_v n0 rfl (by walk_at "vis") ⟨_, rfl, ?_⟩
    refine a_nil ?_
    refine c_lenL hq ?_
    rw [List.length_map]
    refine o_lt ?_
    refine ⟨_, rfl, ?_⟩
    first | refine if_d (fun hb1 => ?_) (fun hb1 => ?_) | refine if_nd (fun hb1 => ?_) (fun hb1 => ?_) | refine if_b (fun hb1 => ?_) (fun hb1 => ?_)
    · refine b_one ?_
      refine s_ret ?_
      refine e_ix (fun _ _ => rfl) ?_
      refine e_v n0 rfl (by walk_at "vis") ⟨_, rfl, ?_⟩
      refine e_v n1 rfl (by walk_at "vis") ⟨_, rfl, ?_⟩
      refine x_list hq (atI_int h0 hb1) ?_
      exact q _
    · refine b_nil ?_
      refine b_one ?_
      refine s_ret ?_
      refine e_op ?_
      refine e_op ?_
      refine e_int ?_
      refine e_v n1 rfl (by walk_at "vis") ⟨_, rfl, ?_⟩
      first | refine o_mulR (by omega) (by omega) ?_ | refine o_mulL (by omega) (by omega) ?_ | refine o_mul (by walk_at "ar") ?_
      refine e_int ?_
      first | refine o_add ?_ | refine o_addS (by walk_at "sz") ?_ | (refine o_catL (by walk_at "own") (by walk_at "own") (by walk_at "sz") ?_; intro pC HC NC; replace F := F.make NC)
      exact q _
set_option hygiene false in
local macro_rules | `(tactic| walk_at "blk") => `(tactic| (show blkC ["cell"] (defScope st_law_purse) _ _ = true; decide +kernel))
abbrev st_law_purse : Stmt := top 11
theorem sc_law_purse : FnScope ["cell"] ["cell"] (defScope st_law_purse) := ⟨rfl, rfl, rfl, by decide +kernel, rfl, by decide +kernel, by decide +kernel⟩
theorem ok_law_purse (M : Bn mg)   (DD : Dn K mg "_law_purse" st_law_purse) : Cal P w K mg base CX0 true 1 "_law_purse" [] spPurse := by
  refine cal_g DD sc_law_purse (fun _ _ _ _ _ _ us hl => by match us, hl with | [_], _ => rfl) (fun vs H Q E h => ?_) fun f cdv A outer s H vs Q E hr hh hg h => ?_
  · obtain ⟨k, rfl, _⟩ := h; rfl
  · have nd := sc_law_purse.nd
    have n0 : Nm ["cell"] 0 "cell" := ⟨rfl, by decide, by decide⟩
    obtain ⟨k, rfl, q⟩ := h
    have F := Fr.start (L2.Same.refl H)
    refine b_one ?_
    refine s_ret ?_
    refine e_lst ?_
    refine a_cons rfl ?_
    refine e_max M.max rfl rfl rfl ?_
    refine a_cons rfl ?_
    refine e_int ?_
    refine a_cons rfl ?_
    refine e_op ?_
    refine e_v n0 rfl (by walk_at "vis") ⟨_, rfl, ?_⟩
    refine e_op ?_
    refine e_int ?_
    refine e_int ?_
    refine o_powZ (by walk_at "ar") (by walk_at "ar") (by walk_at "ar") ?_
    refine o_sub ?_
    refine a_nil ?_
    refine c_max rfl ?_
    refine a_cons rfl ?_
    refine e_op ?_
    refine e_v n0 rfl (by walk_at "vis") ⟨_, rfl, ?_⟩
    refine e_int ?_
    first | refine o_mod (by walk_at "ar") ?_ | refine o_modG (by walk_at "ar") ?_
    refine a_cons rfl ?_
    refine e_int ?_
    refine a_nil ?_
    refine ⟨sz_ok rfl, ?_⟩
    intro p1 H1 N1
    replace F := F.make N1
    exact q _ _ _ N1 ⟨_, _, _, rfl, by omega, by omega, by omega, by omega, by omega⟩
set_option hygiene false in
local macro_rules | `(tactic| walk_at "blk") => `(tactic| (show blkC ["purse", "many", "digit", "one", "other"] (defScope st_law_take) _ _ = true; decide +kernel))
abbrev st_law_take : Stmt := top 12
theorem sc_law_take : FnScope ["purse", "many", "digit", "one", "other"] ["purse", "many"] (defScope st_law_take) := ⟨rfl, rfl, rfl, by decide +kernel, rfl, by decide +kernel, by decide +kernel⟩
theorem ok_law_take (M : Bn mg)   (DD : Dn K mg "_law_take" st_law_take) : Cal P w K mg base CX0 true 1 "_law_take" [] spTake := by
  refine cal_g DD sc_law_take (fun _ _ _ _ _ _ us hl => by match us, hl with | [_, _], _ => rfl) (fun vs H Q E h => ?_) fun f cdv A outer s H vs Q E hr hh hg h => ?_
  · obtain ⟨q, m, o, n, rfl, _⟩ := h; rfl
  · have nd := sc_law_take.nd
    have n0 : Nm ["purse", "many", "digit", "one", "other"] 0 "purse" := ⟨rfl, by decide, by decide⟩
    have n1 : Nm ["purse", "many", "digit", "one", "other"] 1 "many" := ⟨rfl, by decide, by decide⟩
    have n2 : Nm ["purse", "many", "digit", "one", "other"] 2 "digit" := ⟨rfl, by decide, by decide⟩
    have n3 : Nm ["purse", "many", "digit", "one", "other"] 3 "one" := ⟨rfl, by decide, by decide⟩
    have n4 : Nm ["purse", "many", "digit", "one", "other"] 4 "other" := ⟨rfl, by decide, by decide⟩
    obtain ⟨qa, m, o, n, rfl, hq, ⟨a, b, c, rfl, h1, h2, h3, h4, h5⟩, hn, m0, m1, q⟩ := h
    have m2 := lg64 m0 m1
    have F := Fr.lent0 hq
    refine b_cons ?_
    refine s_if ?_
    refine t_cmp (by walk_at "cm") ?_
    refine e_ix (fun _ _ => rfl) ?_
    refine e_v n0 rfl (by walk_at "vis") ⟨_, rfl, ?_⟩
    refine e_int ?_
    first | refine x_list (by walk_at "seq") (by walk_at "ix") ?_ | refine x_tup (by walk_at "seq") (by walk_at "ix") ?_
    refine e_int ?_
    refine o_gt ?_
    refine ⟨_, rfl, ?_⟩
    first | refine if_d (fun hb1 => ?_) (fun hb1 => ?_) | refine if_nd (fun hb1 => ?_) (fun hb1 => ?_) | refine if_b (fun hb1 => ?_) (fun hb1 => ?_)
    · refine b_cons ?_
      refine s_v n2 nd rfl (by walk_at "loc") rfl (by walk_at "loc") ?_
      refine e_op ?_
      refine e_ix (fun _ _ => rfl) ?_
      refine e_v n0 rfl (by walk_at "vis") ⟨_, rfl, ?_⟩
      refine e_int ?_
      first | refine x_list (by walk_at "seq") (by walk_at "ix") ?_ | refine x_tup (by walk_at "seq") (by walk_at "ix") ?_
      refine e_v n1 rfl (by walk_at "vis") ⟨_, rfl, ?_⟩
      first | refine o_mod (by walk_at "ar") ?_ | refine o_modG (by walk_at "ar") ?_
      refine b_cons ?_
      refine s_asg rfl rfl rfl ?_
      refine e_op ?_
      refine e_ix (fun _ _ => rfl) ?_
      refine e_v n0 rfl (by walk_at "vis") ⟨_, rfl, ?_⟩
      refine e_int ?_
      first | refine x_list (by walk_at "seq") (by walk_at "ix") ?_ | refine x_tup (by walk_at "seq") (by walk_at "ix") ?_
      refine e_v n1 rfl (by walk_at "vis") ⟨_, rfl, ?_⟩
      first | refine o_fdiv (by walk_at "ar") (by walk_at "ar") ?_ | refine o_fdivG (by walk_at "ar") ?_
      refine g_sub (fun _ => rfl) ?_
      refine e_v n0 rfl (by walk_at "vis") ⟨_, rfl, ?_⟩
      refine e_int ?_
      refine st_l (by walk_at "own") rfl ?_
      intro H2 h2a h2b
      have hB := h2b
      have hA := h2a
      walk_at "put"
      refine b_one ?_
      refine s_ret ?_
      refine e_v n2 rfl (by walk_at "vis") ⟨_, rfl, ?_⟩
      exact q _ _ _ (Int.emod_nonneg _ (by omega)) (Int.emod_lt_of_pos _ m0) ⟨_, _, _, rfl, Int.ediv_nonneg h1 (by omega), h2, h3, h4, by omega⟩ (F.at0) F.old
    · refine b_nil ?_
      refine b_cons ?_
      refine s_asg rfl rfl rfl ?_
      refine e_op ?_
      refine e_ix (fun _ _ => rfl) ?_
      refine e_v n0 rfl (by walk_at "vis") ⟨_, rfl, ?_⟩
      refine e_int ?_
      first | refine x_list (by walk_at "seq") (by walk_at "ix") ?_ | refine x_tup (by walk_at "seq") (by walk_at "ix") ?_
      refine e_int ?_
      first | refine o_add ?_ | refine o_addS (by walk_at "sz") ?_ | (refine o_catL (by walk_at "own") (by walk_at "own") (by walk_at "sz") ?_; intro pC HC NC; replace F := F.make NC)
      refine g_sub (fun _ => rfl) ?_
      refine e_v n0 rfl (by walk_at "vis") ⟨_, rfl, ?_⟩
      refine e_int ?_
      refine st_l (by walk_at "own") rfl ?_
      intro H3 h3a h3b
      have hB := h3b
      have hA := h3a
      walk_at "put"
      refine b_cons ?_
      refine s_v n3 nd rfl (by walk_at "loc") rfl (by walk_at "loc") ?_
      refine e_op ?_
      refine e_op ?_
      refine e_op ?_
      refine e_op ?_
      refine e_ix (fun _ _ => rfl) ?_
      refine e_v n0 rfl (by walk_at "vis") ⟨_, rfl, ?_⟩
      refine e_int ?_
      first | refine x_list (by walk_at "seq") (by walk_at "ix") ?_ | refine x_tup (by walk_at "seq") (by walk_at "ix") ?_
      refine e_op ?_
      refine e_int ?_
      refine e_ix (fun _ _ => rfl) ?_
      refine e_v n0 rfl (by walk_at "vis") ⟨_, rfl, ?_⟩
      refine e_int ?_
      first | refine x_list (by walk_at "seq") (by walk_at "ix") ?_ | refine x_tup (by walk_at "seq") (by walk_at "ix") ?_
      first | refine o_mulR (by omega) (by omega) ?_ | refine o_mulL (by omega) (by omega) ?_ | refine o_mul (by walk_at "ar") ?_
      first | refine o_add ?_ | refine o_addS (by walk_at "sz") ?_ | (refine o_catL (by walk_at "own") (by walk_at "own") (by walk_at "sz") ?_; intro pC HC NC; replace F := F.make NC)
      refine e_int ?_
      first | refine o_add ?_ | refine o_addS (by walk_at "sz") ?_ | (refine o_catL (by walk_at "own") (by walk_at "own") (by walk_at "sz") ?_; intro pC HC NC; replace F := F.make NC)
      refine e_int ?_
      refine o_powZ (by walk_at "ar") (by walk_at "ar") (by walk_at "ar") ?_
      refine e_int ?_
      first | refine o_mod (by walk_at "ar") ?_ | refine o_modG (by walk_at "ar") ?_
      refine b_cons ?_
      refine s_v n4 nd rfl (by walk_at "loc") rfl (by walk_at "loc") ?_
      refine e_op ?_
      refine e_op ?_
      refine e_op ?_
      refine e_op ?_
      refine e_op ?_
      refine e_v n3 rfl (by walk_at "vis") ⟨_, rfl, ?_⟩
      refine e_int ?_
      first | refine o_fdiv (by walk_at "ar") (by walk_at "ar") ?_ | refine o_fdivG (by walk_at "ar") ?_
      refine e_op ?_
      refine e_op ?_
      refine e_int ?_
      refine e_ix (fun _ _ => rfl) ?_
      refine e_v n0 rfl (by walk_at "vis") ⟨_, rfl, ?_⟩
      refine e_int ?_
      first | refine x_list (by walk_at "seq") (by walk_at "ix") ?_ | refine x_tup (by walk_at "seq") (by walk_at "ix") ?_
      first | refine o_mulR (by omega) (by omega) ?_ | refine o_mulL (by omega) (by omega) ?_ | refine o_mul (by walk_at "ar") ?_
      refine e_ix (fun _ _ => rfl) ?_
      refine e_v n0 rfl (by walk_at "vis") ⟨_, rfl, ?_⟩
      refine e_int ?_
      first | refine x_list (by walk_at "seq") (by walk_at "ix") ?_ | refine x_tup (by walk_at "seq") (by walk_at "ix") ?_
      first | refine o_mulR (by omega) (by omega) ?_ | refine o_mulL (by omega) (by omega) ?_ | refine o_mul (by walk_at "ar") ?_
      first | refine o_add ?_ | refine o_addS (by walk_at "sz") ?_ | (refine o_catL (by walk_at "own") (by walk_at "own") (by walk_at "sz") ?_; intro pC HC NC; replace F := F.make NC)
      refine e_int ?_
      first | refine o_add ?_ | refine o_addS (by walk_at "sz") ?_ | (refine o_catL (by walk_at "own") (by walk_at "own") (by walk_at "sz") ?_; intro pC HC NC; replace F := F.make NC)
      refine e_int ?_
      have hc2 : 0 ≤ 104729 * (c + 1) * (c + 1) := Int.mul_nonneg (by omega) (by omega)
      have hc3 : 104729 * (c + 1) * (c + 1) ≤ 104729 * 1000001 * 1000001 := Int.mul_le_mul (by omega) (by omega) (by omega) (by omega)
      refine o_powZ (by omega) (by decide) (by decide) ?_
      refine e_int ?_
      first | refine o_mod (by walk_at "ar") ?_ | refine o_modG (by walk_at "ar") ?_
      refine b_one ?_
      refine s_ret ?_
      refine e_op ?_
      refine e_op ?_
      refine e_op ?_
      refine e_v n3 rfl (by walk_at "vis") ⟨_, rfl, ?_⟩
      refine e_int ?_
      first | refine o_fdiv (by walk_at "ar") (by walk_at "ar") ?_ | refine o_fdivG (by walk_at "ar") ?_
      refine e_op ?_
      refine e_int ?_
      refine e_op ?_
      refine e_v n4 rfl (by walk_at "vis") ⟨_, rfl, ?_⟩
      refine e_int ?_
      first | refine o_fdiv (by walk_at "ar") (by walk_at "ar") ?_ | refine o_fdivG (by walk_at "ar") ?_
      first | refine o_mulR (by omega) (by omega) ?_ | refine o_mulL (by omega) (by omega) ?_ | refine o_mul (by walk_at "ar") ?_
      first | refine o_add ?_ | refine o_addS (by walk_at "sz") ?_ | (refine o_catL (by walk_at "own") (by walk_at "own") (by walk_at "sz") ?_; intro pC HC NC; replace F := F.make NC)
      refine e_v n1 rfl (by walk_at "vis") ⟨_, rfl, ?_⟩
      first | refine o_mod (by walk_at "ar") ?_ | refine o_modG (by walk_at "ar") ?_
      exact q _ _ _ (Int.emod_nonneg _ (by omega)) (Int.emod_lt_of_pos _ m0) ⟨_, _, _, rfl, h1, h2, h3, by omega, by omega⟩ (F.at0) F.old

def spNeed (K : PySem.W.Frag) (C : Addr) : Sp := fun vs H Q E => ∃ x d, vs = [x] ∧ Dt K H x d ∧ (itemsD d).length ≤ 1000000 ∧ (floorRow d = true → ∀ H', L2.Same H H' → Q .non H') ∧
  (floorRow d = false → ∀ dd H', L2.Same H H' → H' dd = some (.xd [("found", x)]) → E (.ref C) (some dd) H')
set_option hygiene false in
local macro_rules | `(tactic| walk_at "blk") => `(tactic| (show blkC ["thing"] (defScope st_need_row) _ _ = true; decide +kernel))
abbrev st_need_row : Stmt := top 7
theorem sc_need_row : FnScope ["thing"] ["thing"] (defScope st_need_row) := ⟨rfl, rfl, rfl, by decide +kernel, rfl, by decide +kernel, by decide +kernel⟩
theorem ok_need_row (M : Bn mg) {C : Addr} (T_NoRow : ExK P w K mg base "NoRow" "found" C) (C_is_floor_row : Cal P w K mg base CX0 true 2 "is_floor_row" [] (spFloor K)) (DD : Dn K mg "need_row" st_need_row) : Cal P w K mg base (L2.CX P w) true 3 "need_row" [] (spNeed K C) := by
  refine cal_g DD sc_need_row (fun _ _ _ _ _ _ us hl => by match us, hl with | [_], _ => rfl) (fun vs H Q E h => ?_) fun f cdv A outer s H vs Q E hr hh hg h => ?_
  · obtain ⟨x, d, rfl, _⟩ := h; rfl
  · have nd := sc_need_row.nd
    have n0 : Nm ["thing"] 0 "thing" := ⟨rfl, by decide, by decide⟩
    obtain ⟨x, d, rfl, hd, hz, q, qe⟩ := h
    have F := Fr.start (L2.Same.refl H)
    refine b_one ?_
    refine s_if ?_
    refine t_not ?_
    refine t_val (fun _ => rfl) ?_
    refine e_cal C_is_floor_row ⟨rfl, rfl, rfl, rfl, rfl⟩ (by decide) hr (by walk_at "hh") hg rfl rfl rfl (by decide) ?_
    refine a_cons rfl ?_
    refine e_v n0 rfl (by walk_at "vis") ⟨_, rfl, ?_⟩
    refine a_nil ?_
    refine ⟨_, _, rfl, by walk_at "dt", hz, ?_⟩
    intro H1 S1
    replace F := F.same S1
    first | refine ⟨_, rfl, ?_⟩ | refine tru_int ?_
    first | refine if_d (fun hb2 => ?_) (fun hb2 => ?_) | refine if_nd (fun hb2 => ?_) (fun hb2 => ?_) | refine if_b (fun hb2 => ?_) (fun hb2 => ?_)
    · refine b_one ?_
      refine s_raise rfl (takes_of rfl rfl rfl rfl) ?_
      refine r_own T_NoRow (room2 hr (by decide) (hh rfl)) rfl rfl ?_
      refine e_v n0 rfl (by walk_at "vis") ⟨_, rfl, ?_⟩
      intro dd H3 e3 S3 x3
      exact qe (by simpa using hb2) dd _ (F.g.old.trans S3) x3
    · refine b_nil ?_
      exact q (by simpa using hb2) _ F.g.old

def cpl : List Int → List Int → Nat
  | a :: as, b :: bs => if a = b then cpl as bs + 1 else 0
  | _, _ => 0
theorem cpl_le : ∀ as bs : List Int, cpl as bs ≤ as.length ∧ cpl as bs ≤ bs.length
  | [], _ => ⟨by simp [cpl], by simp [cpl]⟩
  | _ :: _, [] => ⟨by simp [cpl], by simp [cpl]⟩
  | a :: as, b :: bs => by
    have := cpl_le as bs
    unfold cpl
    split
    · simp only [List.length_cons]; omega
    · simp only [List.length_cons]; omega
theorem cpl_eq : ∀ (as bs : List Int) (i : Nat), i < cpl as bs → as.getD i 0 = bs.getD i 0
  | [], _, i, h => by simp [cpl] at h
  | _ :: _, [], i, h => by simp [cpl] at h
  | a :: as, b :: bs, i, h => by
    unfold cpl at h
    split at h
    · rename_i e
      cases i with
      | zero => simpa using e
      | succ i => simpa using cpl_eq as bs i (by omega)
    · omega
theorem cpl_ne : ∀ (as bs : List Int), cpl as bs < as.length → cpl as bs < bs.length → as.getD (cpl as bs) 0 ≠ bs.getD (cpl as bs) 0
  | [], _, h, _ => by simp at h
  | _ :: _, [], _, h => by simp at h
  | a :: as, b :: bs, h1, h2 => by
    unfold cpl at h1 h2 ⊢
    split
    · rename_i e
      rw [if_pos e] at h1 h2
      simpa using cpl_ne as bs (by simpa using h1) (by simpa using h2)
    · simpa using ‹¬ a = b›
theorem cpl_lt {as bs : List Int} {p : Nat} (hp : p ≤ cpl as bs) (h1 : p < as.length) (h2 : p < bs.length) (e : as.getD p 0 = bs.getD p 0) : p < cpl as bs := by
  rcases Nat.lt_or_ge p (cpl as bs) with h | h
  · exact h
  · have hpe : p = cpl as bs := by omega
    rw [hpe] at h1 h2 e
    exact absurd e (cpl_ne as bs h1 h2)
theorem cpl_stop {as bs : List Int} {p : Nat} (hp : p ≤ cpl as bs) (e : as.getD p 0 ≠ bs.getD p 0) : p = cpl as bs := by
  rcases Nat.lt_or_ge p (cpl as bs) with h | h
  · exact absurd (cpl_eq _ _ p h) e
  · omega
/-- which side: 1 where the first is the greater -/
def lessR (as bs : List Int) : Bool := if cpl as bs = as.length then false else if cpl as bs = bs.length then true else decide (as.getD (cpl as bs) 0 < bs.getD (cpl as bs) 0)
def partD (as bs : List Int) : PyData := if cpl as bs = as.length ∧ cpl as bs = bs.length then .none else
  .tuple [.int (cpl as bs : Nat), .int (if lessR as bs == decide (((cpl as bs : Nat) : Int) % 2 = 0) then -1 else 1)]
def rowOf (d : PyData) : List Int := (intsOf (itemsD d)).getD []
theorem floor_of {K : PySem.W.Frag} {H : Hp} {x : V} {d : PyData} (hd : Dt K H x d) (h : floorRow d = true) : ∃ a, x = .ref a ∧ Sq K H a ((rowOf d).map V.int) ∧ itemsD d = (rowOf d).map PyData.int ∧ floorOk (rowOf d) = true := by
  unfold floorRow at h
  rw [Bool.and_eq_true] at h
  obtain ⟨hs, h⟩ := h
  obtain ⟨a, xs, rfl, hq, hD⟩ := hd.seq_of hs
  unfold rowOf
  cases e : intsOf (itemsD d) with
  | none => rw [e] at h; cases h
  | some ns =>
    rw [e] at h
    have e2 := of_intsOf e
    rw [e2] at hD
    rw [hD.ints_of] at hq
    exact ⟨a, rfl, hq, e2, h⟩
def spPart (K : PySem.W.Frag) (C : Addr) : Sp := fun vs H Q E => ∃ x1 d1 x2 d2, vs = [x1, x2] ∧ Dt K H x1 d1 ∧ Dt K H x2 d2 ∧ (itemsD d1).length ≤ 1000000 ∧ (itemsD d2).length ≤ 1000000 ∧
  (floorRow d1 = false → ∀ dd H', L2.Same H H' → H' dd = some (.xd [("found", x1)]) → E (.ref C) (some dd) H') ∧
  (floorRow d1 = true → floorRow d2 = false → ∀ dd H', L2.Same H H' → H' dd = some (.xd [("found", x2)]) → E (.ref C) (some dd) H') ∧
  (floorRow d1 = true → floorRow d2 = true → ∀ v H', L2.Same H H' → Dt K H' v (partD (rowOf d1) (rowOf d2)) → Q v H')
set_option hygiene false in
local macro_rules | `(tactic| walk_at "blk") => `(tactic| (show blkC ["one", "other", "place", "less"] (defScope st_parting) _ _ = true; decide +kernel))
abbrev st_parting : Stmt := top 8
theorem sc_parting : FnScope ["one", "other", "place", "less"] ["one", "other"] (defScope st_parting) := ⟨rfl, rfl, rfl, by decide +kernel, rfl, by decide +kernel, by decide +kernel⟩
theorem ok_parting (M : Bn mg) {C : Addr} (C_need_row : Cal P w K mg base (L2.CX P w) true 3 "need_row" [] (spNeed K C)) (DD : Dn K mg "parting" st_parting) : Cal P w K mg base (L2.CX P w) true 4 "parting" [] (spPart K C) := by
  refine cal_g DD sc_parting (fun _ _ _ _ _ _ us hl => by match us, hl with | [_, _], _ => rfl) (fun vs H Q E h => ?_) fun f cdv A outer s H vs Q E hr hh hg h => ?_
  · obtain ⟨x1, d1, x2, d2, rfl, _⟩ := h; rfl
  · have nd := sc_parting.nd
    have n0 : Nm ["one", "other", "place", "less"] 0 "one" := ⟨rfl, by decide, by decide⟩
    have n1 : Nm ["one", "other", "place", "less"] 1 "other" := ⟨rfl, by decide, by decide⟩
    have n2 : Nm ["one", "other", "place", "less"] 2 "place" := ⟨rfl, by decide, by decide⟩
    have n3 : Nm ["one", "other", "place", "less"] 3 "less" := ⟨rfl, by decide, by decide⟩
    obtain ⟨x1, d1, x2, d2, rfl, hd1, hd2, z1, z2, q1, q2, qr⟩ := h
    have F := Fr.start (L2.Same.refl H)
    refine b_cons ?_
    refine s_expr rfl ?_
    refine e_calX C_need_row (takes_of rfl rfl rfl rfl) ⟨rfl, rfl, rfl, rfl, rfl⟩ (by decide) hr (by walk_at "hh") hg rfl rfl rfl (by decide) ?_
    refine a_cons rfl ?_
    refine e_v n0 rfl (by walk_at "vis") ⟨_, rfl, ?_⟩
    refine a_nil ?_
    refine ⟨_, _, rfl, by walk_at "dt", z1, fun r1 H1 S1 => ?_, q1⟩
    replace F := F.same S1
    refine b_cons ?_
    refine s_expr rfl ?_
    refine e_calX C_need_row (takes_of rfl rfl rfl rfl) ⟨rfl, rfl, rfl, rfl, rfl⟩ (by decide) hr (by walk_at "hh") hg rfl rfl rfl (by decide) ?_
    refine a_cons rfl ?_
    refine e_v n1 rfl (by walk_at "vis") ⟨_, rfl, ?_⟩
    refine a_nil ?_
    refine ⟨_, _, rfl, hd2.same S1, z2, fun r2 H2 S2 => ?_, fun r2 dd H2 S2 hx => q2 r1 r2 dd H2 (S1.trans S2) hx⟩
    replace F := F.same S2
    obtain ⟨a1, rfl, hs1, e1, o1⟩ := floor_of hd1 r1
    obtain ⟨a2, rfl, hs2, e2, o2⟩ := floor_of hd2 r2
    replace hs1 := hs1.same F.g.old
    replace hs2 := hs2.same F.g.old
    have hc1 := cpl_le (rowOf d1) (rowOf d2)
    refine b_cons ?_
    refine s_v n2 nd rfl (by walk_at "loc") rfl (by walk_at "loc") ?_
    refine e_int ?_
    refine b_cut (I := fun σ' H' => σ' = [some (.ref a1), some (.ref a2), some (.int (cpl (rowOf d1) (rowOf d2) : Nat)), none] ∧ H' = H2) ?_ (fun σ' H' hI => ?_)
    · refine s_while (passes_of rfl) (fun m σ' H' => ∃ p : Nat, σ' = [some (.ref a1), some (.ref a2), some (.int p), none] ∧ H' = H2 ∧ p ≤ cpl (rowOf d1) (rowOf d2) ∧ m = cpl (rowOf d1) (rowOf d2) - p) (cpl (rowOf d1) (rowOf d2)) ⟨0, rfl, rfl, Nat.zero_le _, rfl⟩ ?_
      rintro m σ' H' ⟨p, rfl, rfl, hp, rfl⟩
      refine t_and ?_
      refine t_cmp (by walk_at "cm") ?_
      refine e_v n2 rfl (by walk_at "vis") ⟨_, rfl, ?_⟩
      refine e_len M.len rfl rfl rfl ?_
      refine a_cons rfl ?_
      refine e_v n0 rfl (by walk_at "vis") ⟨_, rfl, ?_⟩
      refine a_nil ?_
      refine c_lenQ hs1 ?_
      rw [List.length_map]
      refine o_lt ?_
      refine ⟨_, rfl, ?_⟩
      first | refine if_d (fun hb1 => ?_) (fun hb1 => ?_) | refine if_nd (fun hb1 => ?_) (fun hb1 => ?_) | refine if_b (fun hb1 => ?_) (fun hb1 => ?_)
      · refine k_and ?_
        refine t_cmp (by walk_at "cm") ?_
        refine e_v n2 rfl (by walk_at "vis") ⟨_, rfl, ?_⟩
        refine e_len M.len rfl rfl rfl ?_
        refine a_cons rfl ?_
        refine e_v n1 rfl (by walk_at "vis") ⟨_, rfl, ?_⟩
        refine a_nil ?_
        refine c_lenQ hs2 ?_
        rw [List.length_map]
        refine o_lt ?_
        refine ⟨_, rfl, ?_⟩
        first | refine if_d (fun hb2 => ?_) (fun hb2 => ?_) | refine if_nd (fun hb2 => ?_) (fun hb2 => ?_) | refine if_b (fun hb2 => ?_) (fun hb2 => ?_)
        · refine k_and1 ?_
          refine t_cmp (by walk_at "cm") ?_
          refine e_ix (fun _ _ => rfl) ?_
          refine e_v n0 rfl (by walk_at "vis") ⟨_, rfl, ?_⟩
          refine e_v n2 rfl (by walk_at "vis") ⟨_, rfl, ?_⟩
          refine x_sq hs1 (atI_int (by omega) (by omega)) ?_
          refine e_ix (fun _ _ => rfl) ?_
          refine e_v n1 rfl (by walk_at "vis") ⟨_, rfl, ?_⟩
          refine e_v n2 rfl (by walk_at "vis") ⟨_, rfl, ?_⟩
          refine x_sq hs2 (atI_int (by omega) (by omega)) ?_
          first | refine o_eqI ?_ | refine o_eqB ?_ | refine o_eqS ?_ | refine o_eqD (un64 hr) (by walk_at "dp") (by walk_at "dp") (by walk_at "sh") (by walk_at "sh") ?_
          refine ⟨_, rfl, ?_⟩
          first | refine if_d (fun hb3 => ?_) (fun hb3 => ?_) | refine if_nd (fun hb3 => ?_) (fun hb3 => ?_) | refine if_b (fun hb3 => ?_) (fun hb3 => ?_)
          · have hlt := cpl_lt hp (by omega) (by omega) (by simpa using hb3)
            refine b_one ?_
            refine s_vaug n2 nd rfl (by walk_at "loc") (by walk_at "loc") ⟨_, rfl, ?_⟩
            refine e_int ?_
            first | refine ip_add' ?_ | refine ip_sub' ?_
            exact ⟨_, by omega, p + 1, by rw [Int.natCast_add]; rfl, rfl, by omega, rfl⟩
          · have hpe : p = cpl (rowOf d1) (rowOf d2) := by first | exact hpe | exact cpl_stop hp (by simpa using hb3)
            rw [hpe]
            exact ⟨rfl, rfl⟩
        · have hpe : p = cpl (rowOf d1) (rowOf d2) := by omega
          refine iteF ?_
          have hpe : p = cpl (rowOf d1) (rowOf d2) := by first | exact hpe | exact cpl_stop hp (by simpa using hb2)
          rw [hpe]
          exact ⟨rfl, rfl⟩
      · have hpe : p = cpl (rowOf d1) (rowOf d2) := by omega
        refine iteF ?_
        have hpe : p = cpl (rowOf d1) (rowOf d2) := by first | exact hpe | exact cpl_stop hp (by simpa using hb1)
        rw [hpe]
        exact ⟨rfl, rfl⟩
    · obtain ⟨rfl, rfl⟩ := hI
      refine b_cons ?_
      refine s_if ?_
      refine t_and ?_
      refine t_cmp (by walk_at "cm") ?_
      refine e_v n2 rfl (by walk_at "vis") ⟨_, rfl, ?_⟩
      refine e_len M.len rfl rfl rfl ?_
      refine a_cons rfl ?_
      refine e_v n0 rfl (by walk_at "vis") ⟨_, rfl, ?_⟩
      refine a_nil ?_
      refine c_lenQ hs1 ?_
      rw [List.length_map]
      first | refine o_eqI ?_ | refine o_eqB ?_ | refine o_eqS ?_ | refine o_eqD (un64 hr) (by walk_at "dp") (by walk_at "dp") (by walk_at "sh") (by walk_at "sh") ?_
      refine ⟨_, rfl, ?_⟩
      first | refine if_d (fun hb4 => ?_) (fun hb4 => ?_) | refine if_nd (fun hb4 => ?_) (fun hb4 => ?_) | refine if_b (fun hb4 => ?_) (fun hb4 => ?_)
      · refine k_and1 ?_
        refine t_cmp (by walk_at "cm") ?_
        refine e_v n2 rfl (by walk_at "vis") ⟨_, rfl, ?_⟩
        refine e_len M.len rfl rfl rfl ?_
        refine a_cons rfl ?_
        refine e_v n1 rfl (by walk_at "vis") ⟨_, rfl, ?_⟩
        refine a_nil ?_
        refine c_lenQ hs2 ?_
        rw [List.length_map]
        first | refine o_eqI ?_ | refine o_eqB ?_ | refine o_eqS ?_ | refine o_eqD (un64 hr) (by walk_at "dp") (by walk_at "dp") (by walk_at "sh") (by walk_at "sh") ?_
        refine ⟨_, rfl, ?_⟩
        first | refine if_d (fun hb5 => ?_) (fun hb5 => ?_) | refine if_nd (fun hb5 => ?_) (fun hb5 => ?_) | refine if_b (fun hb5 => ?_) (fun hb5 => ?_)
        · refine b_one ?_
          refine s_ret ?_
          refine e_non ?_
          refine qr r1 r2 _ _ F.g.old ?_
          unfold partD
          rw [if_pos ⟨by omega, by omega⟩]
          exact .non
        · refine b_nil ?_
          refine b_cons ?_
          refine s_if ?_
          refine t_cmp (by walk_at "cm") ?_
          refine e_v n2 rfl (by walk_at "vis") ⟨_, rfl, ?_⟩
          refine e_len M.len rfl rfl rfl ?_
          refine a_cons rfl ?_
          refine e_v n0 rfl (by walk_at "vis") ⟨_, rfl, ?_⟩
          refine a_nil ?_
          refine c_lenQ hs1 ?_
          rw [List.length_map]
          first | refine o_eqI ?_ | refine o_eqB ?_ | refine o_eqS ?_ | refine o_eqD (un64 hr) (by walk_at "dp") (by walk_at "dp") (by walk_at "sh") (by walk_at "sh") ?_
          refine ⟨_, rfl, ?_⟩
          first | refine if_d (fun hb6 => ?_) (fun hb6 => ?_) | refine if_nd (fun hb6 => ?_) (fun hb6 => ?_) | refine if_b (fun hb6 => ?_) (fun hb6 => ?_)
          · have hw : false = lessR (rowOf d1) (rowOf d2) := by unfold lessR; rw [if_pos (by omega)]
            refine b_one ?_
            refine s_v n3 nd rfl (by walk_at "loc") rfl (by walk_at "loc") ?_
            refine e_bl ?_
            refine b_one ?_
            refine s_ret ?_
            refine e_tup ?_
            refine a_cons rfl ?_
            refine e_v n2 rfl (by walk_at "vis") ⟨_, rfl, ?_⟩
            refine a_cons rfl ?_
            refine e_if ?_
            refine t_cmp (by walk_at "cm") ?_
            refine e_v n3 rfl (by walk_at "vis") ⟨_, rfl, ?_⟩
            refine e_cmp (by walk_at "cm") ?_
            refine e_op ?_
            refine e_v n2 rfl (by walk_at "vis") ⟨_, rfl, ?_⟩
            refine e_int ?_
            first | refine o_mod (by walk_at "ar") ?_ | refine o_modG (by walk_at "ar") ?_
            refine e_int ?_
            first | refine o_eqI ?_ | refine o_eqB ?_ | refine o_eqS ?_ | refine o_eqD (un64 hr) (by walk_at "dp") (by walk_at "dp") (by walk_at "sh") (by walk_at "sh") ?_
            first | refine o_eqI ?_ | refine o_eqB ?_ | refine o_eqS ?_ | refine o_eqD (un64 hr) (by walk_at "dp") (by walk_at "dp") (by walk_at "sh") (by walk_at "sh") ?_
            refine ⟨_, rfl, ?_⟩
            first | refine if_d (fun hb7 => ?_) (fun hb7 => ?_) | refine if_nd (fun hb7 => ?_) (fun hb7 => ?_) | refine if_b (fun hb7 => ?_) (fun hb7 => ?_)
            · have hsd : (if lessR (rowOf d1) (rowOf d2) == decide (((cpl (rowOf d1) (rowOf d2) : Nat) : Int) % 2 = 0) then (-1 : Int) else 1) = -1 := by rw [← hw]; exact if_pos (beq_iff_eq.mpr hb7)
              refine e_un ?_
              refine e_int ?_
              refine u_neg ?_
              refine a_nil ?_
              refine ⟨sz_ok rfl, ?_⟩
              intro p8 H8 N8
              replace F := F.make N8
              refine qr r1 r2 _ _ F.g.old ?_
              unfold partD
              rw [if_neg (by omega), hsd]
              exact .tup (SqT.of (F.at0)) (.cons (.int _) (.cons (.int _) .nil))
            · have hsd : (if lessR (rowOf d1) (rowOf d2) == decide (((cpl (rowOf d1) (rowOf d2) : Nat) : Int) % 2 = 0) then (-1 : Int) else 1) = 1 := by rw [← hw]; exact if_neg (fun z => hb7 (beq_iff_eq.mp z))
              refine e_int ?_
              refine a_nil ?_
              refine ⟨sz_ok rfl, ?_⟩
              intro p9 H9 N9
              replace F := F.make N9
              refine qr r1 r2 _ _ F.g.old ?_
              unfold partD
              rw [if_neg (by omega), hsd]
              exact .tup (SqT.of (F.at0)) (.cons (.int _) (.cons (.int _) .nil))
          · refine b_one ?_
            refine s_if ?_
            refine t_cmp (by walk_at "cm") ?_
            refine e_v n2 rfl (by walk_at "vis") ⟨_, rfl, ?_⟩
            refine e_len M.len rfl rfl rfl ?_
            refine a_cons rfl ?_
            refine e_v n1 rfl (by walk_at "vis") ⟨_, rfl, ?_⟩
            refine a_nil ?_
            refine c_lenQ hs2 ?_
            rw [List.length_map]
            first | refine o_eqI ?_ | refine o_eqB ?_ | refine o_eqS ?_ | refine o_eqD (un64 hr) (by walk_at "dp") (by walk_at "dp") (by walk_at "sh") (by walk_at "sh") ?_
            refine ⟨_, rfl, ?_⟩
            first | refine if_d (fun hb10 => ?_) (fun hb10 => ?_) | refine if_nd (fun hb10 => ?_) (fun hb10 => ?_) | refine if_b (fun hb10 => ?_) (fun hb10 => ?_)
            · have hw : true = lessR (rowOf d1) (rowOf d2) := by unfold lessR; rw [if_neg (by omega), if_pos (by omega)]
              refine b_one ?_
              refine s_v n3 nd rfl (by walk_at "loc") rfl (by walk_at "loc") ?_
              refine e_bl ?_
              refine b_one ?_
              refine s_ret ?_
              refine e_tup ?_
              refine a_cons rfl ?_
              refine e_v n2 rfl (by walk_at "vis") ⟨_, rfl, ?_⟩
              refine a_cons rfl ?_
              refine e_if ?_
              refine t_cmp (by walk_at "cm") ?_
              refine e_v n3 rfl (by walk_at "vis") ⟨_, rfl, ?_⟩
              refine e_cmp (by walk_at "cm") ?_
              refine e_op ?_
              refine e_v n2 rfl (by walk_at "vis") ⟨_, rfl, ?_⟩
              refine e_int ?_
              first | refine o_mod (by walk_at "ar") ?_ | refine o_modG (by walk_at "ar") ?_
              refine e_int ?_
              first | refine o_eqI ?_ | refine o_eqB ?_ | refine o_eqS ?_ | refine o_eqD (un64 hr) (by walk_at "dp") (by walk_at "dp") (by walk_at "sh") (by walk_at "sh") ?_
              first | refine o_eqI ?_ | refine o_eqB ?_ | refine o_eqS ?_ | refine o_eqD (un64 hr) (by walk_at "dp") (by walk_at "dp") (by walk_at "sh") (by walk_at "sh") ?_
              refine ⟨_, rfl, ?_⟩
              first | refine if_d (fun hb11 => ?_) (fun hb11 => ?_) | refine if_nd (fun hb11 => ?_) (fun hb11 => ?_) | refine if_b (fun hb11 => ?_) (fun hb11 => ?_)
              · have hsd : (if lessR (rowOf d1) (rowOf d2) == decide (((cpl (rowOf d1) (rowOf d2) : Nat) : Int) % 2 = 0) then (-1 : Int) else 1) = -1 := by rw [← hw]; exact if_pos (beq_iff_eq.mpr hb11)
                refine e_un ?_
                refine e_int ?_
                refine u_neg ?_
                refine a_nil ?_
                refine ⟨sz_ok rfl, ?_⟩
                intro p12 H12 N12
                replace F := F.make N12
                refine qr r1 r2 _ _ F.g.old ?_
                unfold partD
                rw [if_neg (by omega), hsd]
                exact .tup (SqT.of (F.at0)) (.cons (.int _) (.cons (.int _) .nil))
              · have hsd : (if lessR (rowOf d1) (rowOf d2) == decide (((cpl (rowOf d1) (rowOf d2) : Nat) : Int) % 2 = 0) then (-1 : Int) else 1) = 1 := by rw [← hw]; exact if_neg (fun z => hb11 (beq_iff_eq.mp z))
                refine e_int ?_
                refine a_nil ?_
                refine ⟨sz_ok rfl, ?_⟩
                intro p13 H13 N13
                replace F := F.make N13
                refine qr r1 r2 _ _ F.g.old ?_
                unfold partD
                rw [if_neg (by omega), hsd]
                exact .tup (SqT.of (F.at0)) (.cons (.int _) (.cons (.int _) .nil))
            · have hw : decide ((rowOf d1).getD (cpl (rowOf d1) (rowOf d2)) 0 < (rowOf d2).getD (cpl (rowOf d1) (rowOf d2)) 0) = lessR (rowOf d1) (rowOf d2) := by unfold lessR; rw [if_neg (by omega), if_neg (by omega)]
              refine b_one ?_
              refine s_v n3 nd rfl (by walk_at "loc") rfl (by walk_at "loc") ?_
              refine e_cmp (by walk_at "cm") ?_
              refine e_ix (fun _ _ => rfl) ?_
              refine e_v n0 rfl (by walk_at "vis") ⟨_, rfl, ?_⟩
              refine e_v n2 rfl (by walk_at "vis") ⟨_, rfl, ?_⟩
              refine x_sq hs1 (atI_int (by omega) (by omega)) ?_
              refine e_ix (fun _ _ => rfl) ?_
              refine e_v n1 rfl (by walk_at "vis") ⟨_, rfl, ?_⟩
              refine e_v n2 rfl (by walk_at "vis") ⟨_, rfl, ?_⟩
              refine x_sq hs2 (atI_int (by omega) (by omega)) ?_
              refine o_lt ?_
              refine b_one ?_
              refine s_ret ?_
              refine e_tup ?_
              refine a_cons rfl ?_
              refine e_v n2 rfl (by walk_at "vis") ⟨_, rfl, ?_⟩
              refine a_cons rfl ?_
              refine e_if ?_
              refine t_cmp (by walk_at "cm") ?_
              refine e_v n3 rfl (by walk_at "vis") ⟨_, rfl, ?_⟩
              refine e_cmp (by walk_at "cm") ?_
              refine e_op ?_
              refine e_v n2 rfl (by walk_at "vis") ⟨_, rfl, ?_⟩
              refine e_int ?_
              first | refine o_mod (by walk_at "ar") ?_ | refine o_modG (by walk_at "ar") ?_
              refine e_int ?_
              first | refine o_eqI ?_ | refine o_eqB ?_ | refine o_eqS ?_ | refine o_eqD (un64 hr) (by walk_at "dp") (by walk_at "dp") (by walk_at "sh") (by walk_at "sh") ?_
              first | refine o_eqI ?_ | refine o_eqB ?_ | refine o_eqS ?_ | refine o_eqD (un64 hr) (by walk_at "dp") (by walk_at "dp") (by walk_at "sh") (by walk_at "sh") ?_
              refine ⟨_, rfl, ?_⟩
              first | refine if_d (fun hb14 => ?_) (fun hb14 => ?_) | refine if_nd (fun hb14 => ?_) (fun hb14 => ?_) | refine if_b (fun hb14 => ?_) (fun hb14 => ?_)
              · have hsd : (if lessR (rowOf d1) (rowOf d2) == decide (((cpl (rowOf d1) (rowOf d2) : Nat) : Int) % 2 = 0) then (-1 : Int) else 1) = -1 := by rw [← hw]; exact if_pos (beq_iff_eq.mpr hb14)
                refine e_un ?_
                refine e_int ?_
                refine u_neg ?_
                refine a_nil ?_
                refine ⟨sz_ok rfl, ?_⟩
                intro p15 H15 N15
                replace F := F.make N15
                refine qr r1 r2 _ _ F.g.old ?_
                unfold partD
                rw [if_neg (by omega), hsd]
                exact .tup (SqT.of (F.at0)) (.cons (.int _) (.cons (.int _) .nil))
              · have hsd : (if lessR (rowOf d1) (rowOf d2) == decide (((cpl (rowOf d1) (rowOf d2) : Nat) : Int) % 2 = 0) then (-1 : Int) else 1) = 1 := by rw [← hw]; exact if_neg (fun z => hb14 (beq_iff_eq.mp z))
                refine e_int ?_
                refine a_nil ?_
                refine ⟨sz_ok rfl, ?_⟩
                intro p16 H16 N16
                replace F := F.make N16
                refine qr r1 r2 _ _ F.g.old ?_
                unfold partD
                rw [if_neg (by omega), hsd]
                exact .tup (SqT.of (F.at0)) (.cons (.int _) (.cons (.int _) .nil))
      · refine iteF ?_
        refine b_nil ?_
        refine b_cons ?_
        refine s_if ?_
        refine t_cmp (by walk_at "cm") ?_
        refine e_v n2 rfl (by walk_at "vis") ⟨_, rfl, ?_⟩
        refine e_len M.len rfl rfl rfl ?_
        refine a_cons rfl ?_
        refine e_v n0 rfl (by walk_at "vis") ⟨_, rfl, ?_⟩
        refine a_nil ?_
        refine c_lenQ hs1 ?_
        rw [List.length_map]
        first | refine o_eqI ?_ | refine o_eqB ?_ | refine o_eqS ?_ | refine o_eqD (un64 hr) (by walk_at "dp") (by walk_at "dp") (by walk_at "sh") (by walk_at "sh") ?_
        refine ⟨_, rfl, ?_⟩
        first | refine if_d (fun hb17 => ?_) (fun hb17 => ?_) | refine if_nd (fun hb17 => ?_) (fun hb17 => ?_) | refine if_b (fun hb17 => ?_) (fun hb17 => ?_)
        · have hw : false = lessR (rowOf d1) (rowOf d2) := by unfold lessR; rw [if_pos (by omega)]
          refine b_one ?_
          refine s_v n3 nd rfl (by walk_at "loc") rfl (by walk_at "loc") ?_
          refine e_bl ?_
          refine b_one ?_
          refine s_ret ?_
          refine e_tup ?_
          refine a_cons rfl ?_
          refine e_v n2 rfl (by walk_at "vis") ⟨_, rfl, ?_⟩
          refine a_cons rfl ?_
          refine e_if ?_
          refine t_cmp (by walk_at "cm") ?_
          refine e_v n3 rfl (by walk_at "vis") ⟨_, rfl, ?_⟩
          refine e_cmp (by walk_at "cm") ?_
          refine e_op ?_
          refine e_v n2 rfl (by walk_at "vis") ⟨_, rfl, ?_⟩
          refine e_int ?_
          first | refine o_mod (by walk_at "ar") ?_ | refine o_modG (by walk_at "ar") ?_
          refine e_int ?_
          first | refine o_eqI ?_ | refine o_eqB ?_ | refine o_eqS ?_ | refine o_eqD (un64 hr) (by walk_at "dp") (by walk_at "dp") (by walk_at "sh") (by walk_at "sh") ?_
          first | refine o_eqI ?_ | refine o_eqB ?_ | refine o_eqS ?_ | refine o_eqD (un64 hr) (by walk_at "dp") (by walk_at "dp") (by walk_at "sh") (by walk_at "sh") ?_
          refine ⟨_, rfl, ?_⟩
          first | refine if_d (fun hb18 => ?_) (fun hb18 => ?_) | refine if_nd (fun hb18 => ?_) (fun hb18 => ?_) | refine if_b (fun hb18 => ?_) (fun hb18 => ?_)
          · have hsd : (if lessR (rowOf d1) (rowOf d2) == decide (((cpl (rowOf d1) (rowOf d2) : Nat) : Int) % 2 = 0) then (-1 : Int) else 1) = -1 := by rw [← hw]; exact if_pos (beq_iff_eq.mpr hb18)
            refine e_un ?_
            refine e_int ?_
            refine u_neg ?_
            refine a_nil ?_
            refine ⟨sz_ok rfl, ?_⟩
            intro p19 H19 N19
            replace F := F.make N19
            refine qr r1 r2 _ _ F.g.old ?_
            unfold partD
            rw [if_neg (by omega), hsd]
            exact .tup (SqT.of (F.at0)) (.cons (.int _) (.cons (.int _) .nil))
          · have hsd : (if lessR (rowOf d1) (rowOf d2) == decide (((cpl (rowOf d1) (rowOf d2) : Nat) : Int) % 2 = 0) then (-1 : Int) else 1) = 1 := by rw [← hw]; exact if_neg (fun z => hb18 (beq_iff_eq.mp z))
            refine e_int ?_
            refine a_nil ?_
            refine ⟨sz_ok rfl, ?_⟩
            intro p20 H20 N20
            replace F := F.make N20
            refine qr r1 r2 _ _ F.g.old ?_
            unfold partD
            rw [if_neg (by omega), hsd]
            exact .tup (SqT.of (F.at0)) (.cons (.int _) (.cons (.int _) .nil))
        · refine b_one ?_
          refine s_if ?_
          refine t_cmp (by walk_at "cm") ?_
          refine e_v n2 rfl (by walk_at "vis") ⟨_, rfl, ?_⟩
          refine e_len M.len rfl rfl rfl ?_
          refine a_cons rfl ?_
          refine e_v n1 rfl (by walk_at "vis") ⟨_, rfl, ?_⟩
          refine a_nil ?_
          refine c_lenQ hs2 ?_
          rw [List.length_map]
          first | refine o_eqI ?_ | refine o_eqB ?_ | refine o_eqS ?_ | refine o_eqD (un64 hr) (by walk_at "dp") (by walk_at "dp") (by walk_at "sh") (by walk_at "sh") ?_
          refine ⟨_, rfl, ?_⟩
          first | refine if_d (fun hb21 => ?_) (fun hb21 => ?_) | refine if_nd (fun hb21 => ?_) (fun hb21 => ?_) | refine if_b (fun hb21 => ?_) (fun hb21 => ?_)
          · have hw : true = lessR (rowOf d1) (rowOf d2) := by unfold lessR; rw [if_neg (by omega), if_pos (by omega)]
            refine b_one ?_
            refine s_v n3 nd rfl (by walk_at "loc") rfl (by walk_at "loc") ?_
            refine e_bl ?_
            refine b_one ?_
            refine s_ret ?_
            refine e_tup ?_
            refine a_cons rfl ?_
            refine e_v n2 rfl (by walk_at "vis") ⟨_, rfl, ?_⟩
            refine a_cons rfl ?_
            refine e_if ?_
            refine t_cmp (by walk_at "cm") ?_
            refine e_v n3 rfl (by walk_at "vis") ⟨_, rfl, ?_⟩
            refine e_cmp (by walk_at "cm") ?_
            refine e_op ?_
            refine e_v n2 rfl (by walk_at "vis") ⟨_, rfl, ?_⟩
            refine e_int ?_
            first | refine o_mod (by walk_at "ar") ?_ | refine o_modG (by walk_at "ar") ?_
            refine e_int ?_
            first | refine o_eqI ?_ | refine o_eqB ?_ | refine o_eqS ?_ | refine o_eqD (un64 hr) (by walk_at "dp") (by walk_at "dp") (by walk_at "sh") (by walk_at "sh") ?_
            first | refine o_eqI ?_ | refine o_eqB ?_ | refine o_eqS ?_ | refine o_eqD (un64 hr) (by walk_at "dp") (by walk_at "dp") (by walk_at "sh") (by walk_at "sh") ?_
            refine ⟨_, rfl, ?_⟩
            first | refine if_d (fun hb22 => ?_) (fun hb22 => ?_) | refine if_nd (fun hb22 => ?_) (fun hb22 => ?_) | refine if_b (fun hb22 => ?_) (fun hb22 => ?_)
            · have hsd : (if lessR (rowOf d1) (rowOf d2) == decide (((cpl (rowOf d1) (rowOf d2) : Nat) : Int) % 2 = 0) then (-1 : Int) else 1) = -1 := by rw [← hw]; exact if_pos (beq_iff_eq.mpr hb22)
              refine e_un ?_
              refine e_int ?_
              refine u_neg ?_
              refine a_nil ?_
              refine ⟨sz_ok rfl, ?_⟩
              intro p23 H23 N23
              replace F := F.make N23
              refine qr r1 r2 _ _ F.g.old ?_
              unfold partD
              rw [if_neg (by omega), hsd]
              exact .tup (SqT.of (F.at0)) (.cons (.int _) (.cons (.int _) .nil))
            · have hsd : (if lessR (rowOf d1) (rowOf d2) == decide (((cpl (rowOf d1) (rowOf d2) : Nat) : Int) % 2 = 0) then (-1 : Int) else 1) = 1 := by rw [← hw]; exact if_neg (fun z => hb22 (beq_iff_eq.mp z))
              refine e_int ?_
              refine a_nil ?_
              refine ⟨sz_ok rfl, ?_⟩
              intro p24 H24 N24
              replace F := F.make N24
              refine qr r1 r2 _ _ F.g.old ?_
              unfold partD
              rw [if_neg (by omega), hsd]
              exact .tup (SqT.of (F.at0)) (.cons (.int _) (.cons (.int _) .nil))
          · have hw : decide ((rowOf d1).getD (cpl (rowOf d1) (rowOf d2)) 0 < (rowOf d2).getD (cpl (rowOf d1) (rowOf d2)) 0) = lessR (rowOf d1) (rowOf d2) := by unfold lessR; rw [if_neg (by omega), if_neg (by omega)]
            refine b_one ?_
            refine s_v n3 nd rfl (by walk_at "loc") rfl (by walk_at "loc") ?_
            refine e_cmp (by walk_at "cm") ?_
            refine e_ix (fun _ _ => rfl) ?_
            refine e_v n0 rfl (by walk_at "vis") ⟨_, rfl, ?_⟩
            refine e_v n2 rfl (by walk_at "vis") ⟨_, rfl, ?_⟩
            refine x_sq hs1 (atI_int (by omega) (by omega)) ?_
            refine e_ix (fun _ _ => rfl) ?_
            refine e_v n1 rfl (by walk_at "vis") ⟨_, rfl, ?_⟩
            refine e_v n2 rfl (by walk_at "vis") ⟨_, rfl, ?_⟩
            refine x_sq hs2 (atI_int (by omega) (by omega)) ?_
            refine o_lt ?_
            refine b_one ?_
            refine s_ret ?_
            refine e_tup ?_
            refine a_cons rfl ?_
            refine e_v n2 rfl (by walk_at "vis") ⟨_, rfl, ?_⟩
            refine a_cons rfl ?_
            refine e_if ?_
            refine t_cmp (by walk_at "cm") ?_
            refine e_v n3 rfl (by walk_at "vis") ⟨_, rfl, ?_⟩
            refine e_cmp (by walk_at "cm") ?_
            refine e_op ?_
            refine e_v n2 rfl (by walk_at "vis") ⟨_, rfl, ?_⟩
            refine e_int ?_
            first | refine o_mod (by walk_at "ar") ?_ | refine o_modG (by walk_at "ar") ?_
            refine e_int ?_
            first | refine o_eqI ?_ | refine o_eqB ?_ | refine o_eqS ?_ | refine o_eqD (un64 hr) (by walk_at "dp") (by walk_at "dp") (by walk_at "sh") (by walk_at "sh") ?_
            first | refine o_eqI ?_ | refine o_eqB ?_ | refine o_eqS ?_ | refine o_eqD (un64 hr) (by walk_at "dp") (by walk_at "dp") (by walk_at "sh") (by walk_at "sh") ?_
            refine ⟨_, rfl, ?_⟩
            first | refine if_d (fun hb25 => ?_) (fun hb25 => ?_) | refine if_nd (fun hb25 => ?_) (fun hb25 => ?_) | refine if_b (fun hb25 => ?_) (fun hb25 => ?_)
            · have hsd : (if lessR (rowOf d1) (rowOf d2) == decide (((cpl (rowOf d1) (rowOf d2) : Nat) : Int) % 2 = 0) then (-1 : Int) else 1) = -1 := by rw [← hw]; exact if_pos (beq_iff_eq.mpr hb25)
              refine e_un ?_
              refine e_int ?_
              refine u_neg ?_
              refine a_nil ?_
              refine ⟨sz_ok rfl, ?_⟩
              intro p26 H26 N26
              replace F := F.make N26
              refine qr r1 r2 _ _ F.g.old ?_
              unfold partD
              rw [if_neg (by omega), hsd]
              exact .tup (SqT.of (F.at0)) (.cons (.int _) (.cons (.int _) .nil))
            · have hsd : (if lessR (rowOf d1) (rowOf d2) == decide (((cpl (rowOf d1) (rowOf d2) : Nat) : Int) % 2 = 0) then (-1 : Int) else 1) = 1 := by rw [← hw]; exact if_neg (fun z => hb25 (beq_iff_eq.mp z))
              refine e_int ?_
              refine a_nil ?_
              refine ⟨sz_ok rfl, ?_⟩
              intro p27 H27 N27
              replace F := F.make N27
              refine qr r1 r2 _ _ F.g.old ?_
              unfold partD
              rw [if_neg (by omega), hsd]
              exact .tup (SqT.of (F.at0)) (.cons (.int _) (.cons (.int _) .nil))

theorem floorOk_one (f : Int) : floorOk [f] = true := rfl
theorem floorOk_row (f : Int) (ns : List Int) (h : ∀ i ∈ ns, 1 ≤ i) (hn : ns ≠ []) : floorOk ((f :: ns).dropLast ++ [(f :: ns).getLastD 0 + 1]) = true := by
  obtain ⟨l, b, rfl⟩ : ∃ l b, ns = l ++ [b] := by
    rcases List.eq_nil_or_concat ns with e | ⟨l, b, e⟩
    · exact absurd e hn
    · exact ⟨l, b, by rw [e, List.concat_eq_append]⟩
  have e1 : (f :: (l ++ [b])).dropLast = f :: l := by rw [← List.cons_append, List.dropLast_concat]
  have e2 : (f :: (l ++ [b])).getLastD 0 = b := by
    show ((f :: l) ++ [b]).getLastD 0 = b
    rw [List.getLastD_eq_getLast?, List.getLast?_concat]; rfl
  have hb := h b (by simp)
  rw [e1, e2]
  unfold floorOk
  have e3 : ((f :: l ++ [b + 1]).getLastD 0) = b + 1 := by rw [List.getLastD_eq_getLast?, List.getLast?_concat]; rfl
  rw [e3]
  simp only [List.cons_append, List.isEmpty_cons, List.drop_succ_cons, List.drop_zero, List.all_append, List.all_cons, List.all_nil]
  have h1 : l.all (fun t => decide (1 ≤ t)) = true := List.all_eq_true.mpr fun x hx => decide_eq_true (h x (by simp [hx]))
  rw [h1, decide_eq_true (show (1 : Int) ≤ b + 1 by omega), decide_eq_false (show ¬ b + 1 = 1 by omega)]
  simp
def Sml (b : Int) (ns : List Int) : Prop := ∀ i ∈ ns, -b ≤ i ∧ i ≤ b
theorem getLastD_mem (f : Int) (ns : List Int) : (f :: ns).getLastD 0 ∈ f :: ns := by
  rw [List.getLastD_eq_getLast?, List.getLast?_eq_some_getLast (by simp)]
  exact List.getLast_mem (by simp)
theorem sml_row {f : Int} {ns : List Int} (h1 : -(10 ^ 12) ≤ f) (h2 : f ≤ 10 ^ 12) (h : ∀ (i : Nat) v, ns[i]? = some v → 1 ≤ v ∧ v ≤ 10 ^ 12) : Sml (2 ^ 41) ((f :: ns).dropLast ++ [(f :: ns).getLastD 0 + 1]) ∧ Sml (2 ^ 41) (f :: ns) := by
  have all : ∀ i ∈ f :: ns, -(10 ^ 12) ≤ i ∧ i ≤ 10 ^ 12 := fun i hi => by
    rcases List.mem_cons.mp hi with rfl | hi
    · exact ⟨h1, h2⟩
    · obtain ⟨j, hj⟩ := List.getElem?_of_mem hi
      have := h j i hj
      omega
  refine ⟨fun i hi => ?_, fun i hi => by have := all i hi; omega⟩
  rcases List.mem_append.mp hi with hi | hi
  · have := all i ((List.dropLast_sublist _).subset hi)
    omega
  · have e : i = (f :: ns).getLastD 0 + 1 := by simpa using hi
    have := all _ (getLastD_mem f ns)
    omega
theorem ones_of {ns : List Int} (h : ∀ (i : Nat) v, ns[i]? = some v → 1 ≤ v ∧ v ≤ 10 ^ 12) : ∀ i ∈ ns, 1 ≤ i := fun i hi => by
  obtain ⟨j, hj⟩ := List.getElem?_of_mem hi
  exact (h j i hj).1
def spRow (K : PySem.W.Frag) : Sp := fun vs H Q _ => ∃ q H0 o n, vs = [.ref q] ∧ L2.Same H0 H ∧ H0 q = none ∧ H q = some o ∧ Pu o n ∧ n ≤ 900000 ∧
  ∀ p H1 H' o' (ns : List Int), GrowP q H0 H H1 H' → H' q = some o' → Pu o' (n + 100) → H1 p = some (.lst (ns.map V.int)) → floorOk ns = true → ns.length ≤ 60 → Sml (2 ^ 41) ns → Q (.ref p) H'
set_option hygiene false in
local macro_rules | `(tactic| walk_at "blk") => `(tactic| (show blkC ["purse", "many", "wide", "first", "row", "k"] (defScope st_law_row) _ _ = true; decide +kernel))
abbrev st_law_row : Stmt := top 15
theorem sc_law_row : FnScope ["purse", "many", "wide", "first", "row", "k"] ["purse"] (defScope st_law_row) := ⟨rfl, rfl, rfl, by decide +kernel, rfl, by decide +kernel, by decide +kernel⟩
theorem ok_law_row (M : Bn mg)  (C_law_take : Cal P w K mg base CX0 true 1 "_law_take" [] spTake) (DD : Dn K mg "_law_row" st_law_row) : Cal P w K mg base CX0 true 2 "_law_row" [] (spRow K) := by
  refine cal_g DD sc_law_row (fun _ _ _ _ _ _ us hl => by match us, hl with | [_], _ => rfl) (fun vs H Q E h => ?_) fun f cdv A outer s H vs Q E hr hh hg h => ?_
  · obtain ⟨q, H0, o, n, rfl, _⟩ := h; rfl
  · have nd := sc_law_row.nd
    have n0 : Nm ["purse", "many", "wide", "first", "row", "k"] 0 "purse" := ⟨rfl, by decide, by decide⟩
    have n1 : Nm ["purse", "many", "wide", "first", "row", "k"] 1 "many" := ⟨rfl, by decide, by decide⟩
    have n2 : Nm ["purse", "many", "wide", "first", "row", "k"] 2 "wide" := ⟨rfl, by decide, by decide⟩
    have n3 : Nm ["purse", "many", "wide", "first", "row", "k"] 3 "first" := ⟨rfl, by decide, by decide⟩
    have n4 : Nm ["purse", "many", "wide", "first", "row", "k"] 4 "row" := ⟨rfl, by decide, by decide⟩
    have n5 : Nm ["purse", "many", "wide", "first", "row", "k"] 5 "k" := ⟨rfl, by decide, by decide⟩
    obtain ⟨qa, H0, o, n, rfl, hS, hn, hq, ho, hz, q⟩ := h
    have F := Fr.lent hS hn hq
    refine b_cons ?_
    refine s_v n1 nd rfl (by walk_at "loc") rfl (by walk_at "loc") ?_
    refine e_ix (fun _ _ => rfl) ?_
    refine e_lst ?_
    refine a_cons rfl ?_
    refine e_int ?_
    refine a_cons rfl ?_
    refine e_int ?_
    refine a_cons rfl ?_
    refine e_op ?_
    refine e_int ?_
    refine e_cal C_law_take ⟨rfl, rfl, rfl, rfl, rfl⟩ (by decide) hr (by walk_at "hh") hg rfl rfl rfl (by decide) ?_
    refine a_cons rfl ?_
    refine e_v n0 rfl (by walk_at "vis") ⟨_, rfl, ?_⟩
    refine a_cons rfl ?_
    refine e_int ?_
    refine a_nil ?_
    refine ⟨_, _, _, _, rfl, by walk_at "own", by assumption, by omega, by omega, by omega, ?_⟩
    intro r1 o1 H1 l1 u1 P1 hA hB
    walk_at "tk"
    first | refine o_add ?_ | refine o_addS (by walk_at "sz") ?_ | (refine o_catL (by walk_at "own") (by walk_at "own") (by walk_at "sz") ?_; intro pC HC NC; replace F := F.make NC)
    refine a_cons rfl ?_
    refine e_op ?_
    refine e_int ?_
    refine e_cal C_law_take ⟨rfl, rfl, rfl, rfl, rfl⟩ (by decide) hr (by walk_at "hh") hg rfl rfl rfl (by decide) ?_
    refine a_cons rfl ?_
    refine e_v n0 rfl (by walk_at "vis") ⟨_, rfl, ?_⟩
    refine a_cons rfl ?_
    refine e_int ?_
    refine a_nil ?_
    refine ⟨_, _, _, _, rfl, by walk_at "own", by assumption, by omega, by omega, by omega, ?_⟩
    intro r2 o2 H2 l2 u2 P2 hA hB
    walk_at "tk"
    first | refine o_add ?_ | refine o_addS (by walk_at "sz") ?_ | (refine o_catL (by walk_at "own") (by walk_at "own") (by walk_at "sz") ?_; intro pC HC NC; replace F := F.make NC)
    refine a_nil ?_
    refine ⟨sz_ok rfl, ?_⟩
    intro p3 H3 N3
    replace F := F.make N3
    refine e_cal C_law_take ⟨rfl, rfl, rfl, rfl, rfl⟩ (by decide) hr (by walk_at "hh") hg rfl rfl rfl (by decide) ?_
    refine a_cons rfl ?_
    refine e_v n0 rfl (by walk_at "vis") ⟨_, rfl, ?_⟩
    refine a_cons rfl ?_
    refine e_int ?_
    refine a_nil ?_
    refine ⟨_, _, _, _, rfl, by walk_at "own", by assumption, by omega, by omega, by omega, ?_⟩
    intro r4 o4 H4 l4 u4 P4 hA hB
    walk_at "tk"
    refine x_any (by walk_at "seq") (by omega) (by walk_at "len") (fun v5 hv5 => ?_)
    obtain ⟨many, rfl, many1, many2⟩ : ∃ m : Int, v5 = .int m ∧ 1 ≤ m ∧ m ≤ 60 := by
      simp only [List.mem_cons, List.not_mem_nil, or_false] at hv5
      rcases hv5 with rfl | rfl | rfl | rfl <;> exact ⟨_, rfl, by first | omega | decide, by first | omega | decide⟩
    replace F := F.drop0
    refine b_cons ?_
    refine s_v n2 nd rfl (by walk_at "loc") rfl (by walk_at "loc") ?_
    refine e_ix (fun _ _ => rfl) ?_
    refine e_lst ?_
    refine a_cons rfl ?_
    refine e_int ?_
    refine a_cons rfl ?_
    refine e_int ?_
    refine a_cons rfl ?_
    refine e_int ?_
    refine a_cons rfl ?_
    refine e_op ?_
    refine e_int ?_
    refine e_int ?_
    refine o_powZ (by walk_at "ar") (by walk_at "ar") (by walk_at "ar") ?_
    refine a_cons rfl ?_
    refine e_op ?_
    refine e_op ?_
    refine e_int ?_
    refine e_int ?_
    refine o_powZ (by walk_at "ar") (by walk_at "ar") (by walk_at "ar") ?_
    refine e_int ?_
    refine o_sub ?_
    refine a_nil ?_
    refine ⟨sz_ok rfl, ?_⟩
    intro p6 H6 N6
    replace F := F.make N6
    refine e_cal C_law_take ⟨rfl, rfl, rfl, rfl, rfl⟩ (by decide) hr (by walk_at "hh") hg rfl rfl rfl (by decide) ?_
    refine a_cons rfl ?_
    refine e_v n0 rfl (by walk_at "vis") ⟨_, rfl, ?_⟩
    refine a_cons rfl ?_
    refine e_int ?_
    refine a_nil ?_
    refine ⟨_, _, _, _, rfl, by walk_at "own", by assumption, by omega, by omega, by omega, ?_⟩
    intro r7 o7 H7 l7 u7 P7 hA hB
    walk_at "tk"
    refine x_any (by walk_at "seq") (by omega) (by walk_at "len") (fun v8 hv8 => ?_)
    obtain ⟨wide, rfl, wide1, wide2⟩ : ∃ m : Int, v8 = .int m ∧ 2 ≤ m ∧ m ≤ 10 ^ 12 := by
      simp only [List.mem_cons, List.not_mem_nil, or_false] at hv8
      rcases hv8 with rfl | rfl | rfl | rfl | rfl <;> exact ⟨_, rfl, by first | omega | decide, by first | omega | decide⟩
    replace F := F.drop0
    refine b_cons ?_
    refine s_v n3 nd rfl (by walk_at "loc") rfl (by walk_at "loc") ?_
    refine e_ix (fun _ _ => rfl) ?_
    refine e_lst ?_
    refine a_cons rfl ?_
    refine e_cal C_law_take ⟨rfl, rfl, rfl, rfl, rfl⟩ (by decide) hr (by walk_at "hh") hg rfl rfl rfl (by decide) ?_
    refine a_cons rfl ?_
    refine e_v n0 rfl (by walk_at "vis") ⟨_, rfl, ?_⟩
    refine a_cons rfl ?_
    refine e_v n2 rfl (by walk_at "vis") ⟨_, rfl, ?_⟩
    refine a_nil ?_
    refine ⟨_, _, _, _, rfl, by walk_at "own", by assumption, by omega, by omega, by omega, ?_⟩
    intro r9 o9 H9 l9 u9 P9 hA hB
    walk_at "tk"
    refine a_cons rfl ?_
    refine e_op ?_
    refine e_un ?_
    refine e_int ?_
    refine u_neg ?_
    refine e_cal C_law_take ⟨rfl, rfl, rfl, rfl, rfl⟩ (by decide) hr (by walk_at "hh") hg rfl rfl rfl (by decide) ?_
    refine a_cons rfl ?_
    refine e_v n0 rfl (by walk_at "vis") ⟨_, rfl, ?_⟩
    refine a_cons rfl ?_
    refine e_v n2 rfl (by walk_at "vis") ⟨_, rfl, ?_⟩
    refine a_nil ?_
    refine ⟨_, _, _, _, rfl, by walk_at "own", by assumption, by omega, by omega, by omega, ?_⟩
    intro r10 o10 H10 l10 u10 P10 hA hB
    walk_at "tk"
    refine o_sub ?_
    refine a_cons rfl ?_
    refine e_int ?_
    refine a_nil ?_
    refine ⟨sz_ok rfl, ?_⟩
    intro p11 H11 N11
    replace F := F.make N11
    refine e_cal C_law_take ⟨rfl, rfl, rfl, rfl, rfl⟩ (by decide) hr (by walk_at "hh") hg rfl rfl rfl (by decide) ?_
    refine a_cons rfl ?_
    refine e_v n0 rfl (by walk_at "vis") ⟨_, rfl, ?_⟩
    refine a_cons rfl ?_
    refine e_int ?_
    refine a_nil ?_
    refine ⟨_, _, _, _, rfl, by walk_at "own", by assumption, by omega, by omega, by omega, ?_⟩
    intro r12 o12 H12 l12 u12 P12 hA hB
    walk_at "tk"
    refine x_any (by walk_at "seq") (by omega) (by walk_at "len") (fun v13 hv13 => ?_)
    obtain ⟨fst, rfl, fst1, fst2⟩ : ∃ m : Int, v13 = .int m ∧ -(10 ^ 12) ≤ m ∧ m ≤ 10 ^ 12 := by
      simp only [List.mem_cons, List.not_mem_nil, or_false] at hv13
      rcases hv13 with rfl | rfl | rfl <;> exact ⟨_, rfl, by first | omega | decide, by first | omega | decide⟩
    replace F := F.drop0
    refine b_cons ?_
    refine s_v n4 nd rfl (by walk_at "loc") rfl (by walk_at "loc") ?_
    refine e_op ?_
    refine e_lst ?_
    refine a_cons rfl ?_
    refine e_v n3 rfl (by walk_at "vis") ⟨_, rfl, ?_⟩
    refine a_nil ?_
    refine ⟨sz_ok rfl, ?_⟩
    intro p14 H14 N14
    replace F := F.make N14
    refine e_lcP (own := [("k", 5)]) rfl nd (by walk_at "blk") rfl M.range rfl (fun _ => rfl) ?_
    refine a_cons rfl ?_
    refine e_op ?_
    refine e_v n1 rfl (by walk_at "vis") ⟨_, rfl, ?_⟩
    refine e_int ?_
    refine o_sub ?_
    refine a_nil ?_
    refine ⟨_, qa, _, _, 1, fun _ v => 1 ≤ v ∧ v ≤ 10 ^ 12, rfl, by omega, by omega, by walk_at "own", by assumption, fun i H' o' hi hq' ho' => ?_, fun l ns o' H2 hl hlq h2l h2q ho' old hlen hP => ?_⟩
    · intro sB HB C cl fp
      replace F := Fr.lent0 hq'
      refine g_v n5 nd rfl (by walk_at "loc") (by walk_at "loc") ?_
      refine ⟨rfl, rfl, ?_⟩
      intro sB' HB' C' cl' fp'
      refine e_op ?_
      refine e_int ?_
      refine e_cal C_law_take ⟨rfl, rfl, rfl, rfl, rfl⟩ (by decide) hr (by walk_at "hh") hg rfl rfl rfl (by decide) ?_
      refine a_cons rfl ?_
      refine e_v n0 rfl (by walk_at "vis") ⟨_, rfl, ?_⟩
      refine a_cons rfl ?_
      refine e_v n2 rfl (by walk_at "vis") ⟨_, rfl, ?_⟩
      refine a_nil ?_
      refine ⟨_, _, _, _, rfl, by walk_at "own", by assumption, by omega, by omega, by omega, ?_⟩
      intro r15 o15 H15 l15 u15 P15 hA hB
      walk_at "tk"
      first | refine o_add ?_ | refine o_addS (by walk_at "sz") ?_ | (refine o_catL (by walk_at "own") (by walk_at "own") (by walk_at "sz") ?_; intro pC HC NC; replace F := F.make NC)
      exact ⟨_, _, rfl, ⟨by omega, by omega⟩, F.at0, Pu.mono (by assumption) (by omega), F.old⟩
    · walk_at "gen"
      refine o_catL (by walk_at "own") (by walk_at "own") (by walk_at "sz") ?_
      intro pC HC NC
      replace NC : New _ _ _ (.lst ((fst :: ns).map V.int)) := NC
      replace F := F.make NC
      refine b_one ?_
      refine s_ret ?_
      refine e_if ?_
      refine t_cmp (by walk_at "cm") ?_
      refine e_v n1 rfl (by walk_at "vis") ⟨_, rfl, ?_⟩
      refine e_int ?_
      refine o_gt ?_
      refine ⟨_, rfl, ?_⟩
      first | refine if_d (fun hb16 => ?_) (fun hb16 => ?_) | refine if_nd (fun hb16 => ?_) (fun hb16 => ?_) | refine if_b (fun hb16 => ?_) (fun hb16 => ?_)
      · have hne : ns ≠ [] := fun z => by rw [z] at hlen; simp at hlen; omega
        have hok := floorOk_row fst ns (ones_of hP) hne
        have hsm := (sml_row fst1 fst2 hP).1
        have hle : ((fst :: ns).dropLast ++ [(fst :: ns).getLastD 0 + 1]).length ≤ 60 := by walk_at "len"
        refine e_op ?_
        refine e_slice ?_
        refine e_v n4 rfl (by walk_at "vis") ⟨_, rfl, ?_⟩
        refine p_none ?_
        refine p_some ?_
        refine e_un ?_
        refine e_int ?_
        refine u_neg ?_
        refine ⟨_, rfl, ?_⟩
        refine l_list (by walk_at "seq") ?_
        intro p17 H17 N17
        rw [cut_last] at N17
        replace F := F.make N17
        refine e_lst ?_
        refine a_cons rfl ?_
        refine e_op ?_
        refine e_ix (fun _ _ => rfl) ?_
        refine e_v n4 rfl (by walk_at "vis") ⟨_, rfl, ?_⟩
        refine e_un ?_
        refine e_int ?_
        refine u_neg ?_
        refine x_list (xs := (fst :: ns).map V.int) (by walk_at "seq") (atI_intL (by simp)) ?_
        refine e_int ?_
        first | refine o_add ?_ | refine o_addS (by walk_at "sz") ?_ | (refine o_catL (by walk_at "own") (by walk_at "own") (by walk_at "sz") ?_; intro pC HC NC; replace F := F.make NC)
        refine a_nil ?_
        refine ⟨sz_ok rfl, ?_⟩
        intro p18 H18 N18
        replace F := F.make N18
        refine o_catL (by walk_at "own") (by walk_at "own") (by walk_at "sz") ?_
        intro pC HC NC
        replace NC := NC.cast (o' := .lst (((fst :: ns).dropLast ++ [(fst :: ns).getLastD 0 + 1]).map V.int)) (by rw [List.map_append, List.map_dropLast]; rfl)
        replace F := F.make NC
        replace F := F.give0
        walk_at "back"
        exact q _ _ _ _ _ hG hA (Pu.mono (by assumption) (by omega)) upd_same hok hle hsm
      · have hnil : ns = [] := List.eq_nil_of_length_eq_zero (by omega)
        have hok : floorOk (fst :: ns) = true := by rw [hnil]; rfl
        have hsm := (sml_row fst1 fst2 hP).2
        have hle : (fst :: ns).length ≤ 60 := by walk_at "len"
        refine e_v n4 rfl (by walk_at "vis") ⟨_, rfl, ?_⟩
        replace F := F.give0
        walk_at "back"
        exact q _ _ _ _ _ hG hA (Pu.mono (by assumption) (by omega)) upd_same hok hle hsm

/-- top and bottom of a row -/
def valF : List Int → Int × Int
  | [] => (1, 0)
  | a :: r => (a * (valF r).1 + (valF r).2, (valF r).1)
theorem val_step (ns : List Int) (i : Nat) (hi : i < ns.dropLast.reverse.length) : ns.drop (ns.length - 1 - (i + 1)) = (ns.dropLast.reverse).getD i 0 :: ns.drop (ns.length - 1 - i) := by
  have h1 : i < ns.length - 1 := by simpa using hi
  have h2 : ns.length - 1 - (i + 1) < ns.length := by omega
  rw [List.drop_eq_getElem_cons h2]
  have e : ns.length - 1 - (i + 1) + 1 = ns.length - 1 - i := by omega
  rw [e, List.getD_eq_getElem?_getD, List.getElem?_eq_getElem hi]
  congr 1
  show _ = ns.dropLast.reverse[i]
  rw [List.getElem_reverse, List.getElem_dropLast]
  congr 1
  simp only [List.length_dropLast]
  omega
theorem val_last {ns : List Int} (h : ns ≠ []) : ns.drop (ns.length - 1 - 0) = [ns.getLastD 0] := by
  rcases List.eq_nil_or_concat ns with e | ⟨l, b, e⟩
  · exact absurd e h
  · rw [e, List.concat_eq_append, List.getLastD_eq_getLast?, List.getLast?_concat]
    simp
theorem Sml.rev {ns : List Int} (h : Sml (2 ^ 42) ns) (i : Nat) : -(2 ^ 42) ≤ (ns.dropLast.reverse).getD i 0 ∧ (ns.dropLast.reverse).getD i 0 ≤ 2 ^ 42 := by
  rw [List.getD_eq_getElem?_getD]
  cases e : ns.dropLast.reverse[i]? with
  | none => exact ⟨by decide, by decide⟩
  | some v => exact h v ((List.dropLast_sublist _).subset (List.mem_reverse.mp (List.mem_of_getElem? e)))
def spVal (K : PySem.W.Frag) : Sp := fun vs H Q _ => ∃ a ns, vs = [.ref a] ∧ SqL K H a (ns.map V.int) ∧ ns ≠ [] ∧ Sml (2 ^ 42) ns ∧ ns.length ≤ 1000 ∧ ∀ p H', L2.Same H H' → SqT K H' p [.int (valF ns).1, .int (valF ns).2] → Q (.ref p) H'
set_option hygiene false in
local macro_rules | `(tactic| walk_at "blk") => `(tactic| (show blkC ["row", "top", "bottom", "term"] (defScope st_law_value) _ _ = true; decide +kernel))
abbrev st_law_value : Stmt := top 16
theorem sc_law_value : FnScope ["row", "top", "bottom", "term"] ["row"] (defScope st_law_value) := ⟨rfl, rfl, rfl, by decide +kernel, rfl, by decide +kernel, by decide +kernel⟩
theorem ok_law_value (M : Bn mg)   (DD : Dn K mg "_law_value" st_law_value) : Cal P w K mg base CX0 true 1 "_law_value" [] (spVal K) := by
  refine cal_g DD sc_law_value (fun _ _ _ _ _ _ us hl => by match us, hl with | [_], _ => rfl) (fun vs H Q E h => ?_) fun f cdv A outer s H vs Q E hr hh hg h => ?_
  · obtain ⟨a, ns, rfl, _⟩ := h; rfl
  · have nd := sc_law_value.nd
    have n0 : Nm ["row", "top", "bottom", "term"] 0 "row" := ⟨rfl, by decide, by decide⟩
    have n1 : Nm ["row", "top", "bottom", "term"] 1 "top" := ⟨rfl, by decide, by decide⟩
    have n2 : Nm ["row", "top", "bottom", "term"] 2 "bottom" := ⟨rfl, by decide, by decide⟩
    have n3 : Nm ["row", "top", "bottom", "term"] 3 "term" := ⟨rfl, by decide, by decide⟩
    obtain ⟨a, ns, rfl, hq, hne, hsm, hl, q⟩ := h
    have F := Fr.start (L2.Same.refl H)
    refine b_cons ?_
    refine s_par rfl nd n1.at_ n2.at_ (by decide) rfl rfl rfl rfl ?_
    refine a_cons rfl ?_
    refine e_ix (fun _ _ => rfl) ?_
    refine e_v n0 rfl (by walk_at "vis") ⟨_, rfl, ?_⟩
    refine e_un ?_
    refine e_int ?_
    refine u_neg ?_
    refine x_list hq (atI_intL hne) ?_
    refine a_cons rfl ?_
    refine e_int ?_
    refine a_nil ?_
    refine ⟨_, _, rfl, ?_⟩
    refine b_cons ?_
    refine s_forL (passes_of rfl) rfl (fun _ => rfl) ?_
    refine e_step ?_
    refine e_v n0 rfl (by walk_at "vis") ⟨_, rfl, ?_⟩
    refine p_some ?_
    refine e_un ?_
    refine e_int ?_
    refine u_neg ?_
    refine ⟨_, rfl, ?_⟩
    refine p_none ?_
    refine p_some ?_
    refine e_un ?_
    refine e_int ?_
    refine u_neg ?_
    refine ⟨_, rfl, ?_⟩
    refine ⟨_, _, rfl, hq, by decide, by rw [pick_back2 _ (by rw [List.length_map]; exact List.length_pos_iff.mpr hne)]; exact sz_le' (by rw [List.length_reverse, List.length_dropLast, List.length_map]; omega), ?_⟩
    intro p1 H1 N1
    rw [pick_back2 _ (by rw [List.length_map]; exact List.length_pos_iff.mpr hne), ← List.map_dropLast, ← List.map_reverse] at N1
    replace F := F.make N1
    refine ⟨_, _, rfl, by walk_at "seq", fun i σ' H' => (∃ t : Option V, σ' = [some (.ref a), some (.int (valF (ns.drop (ns.length - 1 - i))).1), some (.int (valF (ns.drop (ns.length - 1 - i))).2), t]) ∧ L2.Same H1 H', ⟨⟨none, by rw [val_last hne]; show _ = [_, some (V.int (_ * 1 + 0)), _, _]; rw [Int.mul_one, Int.add_zero]; rfl⟩, fun _ _ z => z⟩, fun i σ' H' _ p => p.2.seq (by walk_at "seq"), ?_, ?_⟩
    · rintro i y σ' H' hi ⟨⟨t, rfl⟩, hS⟩
      have hil : i < ns.dropLast.reverse.length := by simpa using (List.getElem?_eq_some_iff.mp hi).1
      obtain rfl := get_map_int hi
      have hb := hsm.rev i
      refine g_v n3 nd rfl (by walk_at "loc") (by walk_at "loc") ?_
      refine b_one ?_
      refine s_par rfl nd n1.at_ n2.at_ (by decide) rfl rfl rfl rfl ?_
      refine a_cons rfl ?_
      refine e_op ?_
      refine e_op ?_
      refine e_v n3 rfl (by walk_at "vis") ⟨_, rfl, ?_⟩
      refine e_v n1 rfl (by walk_at "vis") ⟨_, rfl, ?_⟩
      first | refine o_mulR (by omega) (by omega) ?_ | refine o_mulL (by omega) (by omega) ?_ | refine o_mul (by walk_at "ar") ?_
      refine e_v n2 rfl (by walk_at "vis") ⟨_, rfl, ?_⟩
      first | refine o_add ?_ | refine o_addS (by walk_at "sz") ?_ | (refine o_catL (by walk_at "own") (by walk_at "own") (by walk_at "sz") ?_; intro pC HC NC; replace F := F.make NC)
      refine a_cons rfl ?_
      refine e_v n1 rfl (by walk_at "vis") ⟨_, rfl, ?_⟩
      refine a_nil ?_
      refine ⟨_, _, rfl, ?_⟩
      refine ⟨⟨some (.int ((ns.dropLast.reverse).getD i 0)), ?_⟩, hS⟩
      rw [val_step ns i hil]
      rfl
    · rintro σ' H' ⟨⟨t, rfl⟩, hS⟩
      replace F := F.same hS
      refine b_one ?_
      refine s_ret ?_
      refine e_tup ?_
      refine a_cons rfl ?_
      refine e_v n1 rfl (by walk_at "vis") ⟨_, rfl, ?_⟩
      refine a_cons rfl ?_
      refine e_v n2 rfl (by walk_at "vis") ⟨_, rfl, ?_⟩
      refine a_nil ?_
      refine ⟨sz_ok rfl, ?_⟩
      intro p2 H2 N2
      replace F := F.make N2
      refine q _ _ F.g.old ?_
      have e : ns.drop (ns.length - 1 - ((ns.dropLast.reverse).map V.int).length) = ns := by rw [List.length_map, List.length_reverse, List.length_dropLast, Nat.sub_self]; rfl
      have z := SqT.of (K := K) F.at0
      rw [e] at z
      exact z

theorem Sml.mono {b c : Int} {ns : List Int} (h : Sml b ns) (hc : b ≤ c) : Sml c ns := fun i hi => by have := h i hi; omega
theorem Sml.app {b : Int} {ns ms : List Int} (h : Sml b ns) (k : Sml b ms) : Sml b (ns ++ ms) := fun i hi => (List.mem_append.mp hi).elim (h i) (k i)
theorem Sml.take {b : Int} {ns : List Int} (h : Sml b ns) (n : Nat) : Sml b (ns.take n) := fun i hi => h i (List.mem_of_mem_take hi)
theorem Sml.drop {b : Int} {ns : List Int} (h : Sml b ns) (n : Nat) : Sml b (ns.drop n) := fun i hi => h i (List.mem_of_mem_drop hi)
theorem Sml.one {b v : Int} (h1 : -b ≤ v) (h2 : v ≤ b) : Sml b [v] := fun i hi => by
  have e : i = v := by simpa using hi
  rw [e]
  exact ⟨h1, h2⟩
theorem Sml.two {b v w : Int} (h1 : -b ≤ v) (h2 : v ≤ b) (h3 : -b ≤ w) (h4 : w ≤ b) : Sml b [v, w] := fun i hi => by
  rcases List.mem_cons.mp hi with rfl | hi
  · exact ⟨h1, h2⟩
  · exact Sml.one h3 h4 i hi
theorem Sml.max1 {b : Int} {ns : List Int} (h : Sml b ns) (hb : 1 ≤ b) : Sml b (ns.map fun t => max 1 t) := fun i hi => by
  obtain ⟨j, hj, rfl⟩ := List.mem_map.mp hi
  have := h j hj
  omega
theorem Sml.at {b : Int} {ns : List Int} (h : Sml b ns) (i : Nat) (h0 : 0 ≤ b) : -b ≤ ns.getD i 0 ∧ ns.getD i 0 ≤ b := by
  rw [List.getD_eq_getElem?_getD]
  cases e : ns[i]? with
  | none =>
    show -b ≤ 0 ∧ 0 ≤ b
    omega
  | some v => exact h v (List.mem_of_getElem? e)
theorem floorOk_ne {ns : List Int} (h : floorOk ns = true) : ns ≠ [] := by
  rintro rfl
  cases h
theorem floorRow_list (ns : List Int) : floorRow (.list (ns.map PyData.int)) = floorOk ns := floorRow_of rfl rfl
def spOther (K : PySem.W.Frag) : Sp := fun vs H Q _ => ∃ q H0 a o n ns, vs = [.ref q, .ref a] ∧ L2.Same H0 H ∧ H0 q = none ∧ H q = some o ∧ Pu o n ∧ n ≤ 800000 ∧ H0 a = some (.lst (ns.map V.int)) ∧ floorOk ns = true ∧ ns.length ≤ 60 ∧ Sml (2 ^ 41) ns ∧
  ∀ p H1 H' o' (ms : List Int), GrowP q H0 H H1 H' → H' q = some o' → Pu o' (n + 200) → H1 p = some (.lst (ms.map V.int)) → floorOk ms = true → ms.length ≤ 100 → Sml (2 ^ 42) ms → Q (.ref p) H'
set_option hygiene false in
local macro_rules | `(tactic| walk_at "blk") => `(tactic| (show blkC ["purse", "row", "way", "at", "more", "found", "term"] (defScope st_law_other) _ _ = true; decide +kernel))
abbrev st_law_other : Stmt := top 17
theorem sc_law_other : FnScope ["purse", "row", "way", "at", "more", "found", "term"] ["purse", "row"] (defScope st_law_other) := ⟨rfl, rfl, rfl, by decide +kernel, rfl, by decide +kernel, by decide +kernel⟩
theorem ok_law_other (M : Bn mg)  (C_law_take : Cal P w K mg base CX0 true 1 "_law_take" [] spTake) (C_law_row : Cal P w K mg base CX0 true 2 "_law_row" [] (spRow K)) (C_is_floor_row : Cal P w K mg base CX0 true 2 "is_floor_row" [] (spFloor K)) (DD : Dn K mg "_law_other" st_law_other) : Cal P w K mg base CX0 true 3 "_law_other" [] (spOther K) := by
  refine cal_g DD sc_law_other (fun _ _ _ _ _ _ us hl => by match us, hl with | [_, _], _ => rfl) (fun vs H Q E h => ?_) fun f cdv A outer s H vs Q E hr hh hg h => ?_
  · obtain ⟨q, H0, a, o, n, ns, rfl, _⟩ := h; rfl
  · have nd := sc_law_other.nd
    have n0 : Nm ["purse", "row", "way", "at", "more", "found", "term"] 0 "purse" := ⟨rfl, by decide, by decide⟩
    have n1 : Nm ["purse", "row", "way", "at", "more", "found", "term"] 1 "row" := ⟨rfl, by decide, by decide⟩
    have n2 : Nm ["purse", "row", "way", "at", "more", "found", "term"] 2 "way" := ⟨rfl, by decide, by decide⟩
    have n3 : Nm ["purse", "row", "way", "at", "more", "found", "term"] 3 "at" := ⟨rfl, by decide, by decide⟩
    have n4 : Nm ["purse", "row", "way", "at", "more", "found", "term"] 4 "more" := ⟨rfl, by decide, by decide⟩
    have n5 : Nm ["purse", "row", "way", "at", "more", "found", "term"] 5 "found" := ⟨rfl, by decide, by decide⟩
    have n6 : Nm ["purse", "row", "way", "at", "more", "found", "term"] 6 "term" := ⟨rfl, by decide, by decide⟩
    obtain ⟨qa, H0, a, o, n, ns, rfl, hS, hn, hq, ho, hz, hs, hf, hl, hm, q⟩ := h
    have F := Fr.lent hS hn hq
    have hne := floorOk_ne hf
    have hpos := List.length_pos_iff.mpr hne
    refine b_cons ?_
    refine s_v n2 nd rfl (by walk_at "loc") rfl (by walk_at "loc") ?_
    refine e_cal C_law_take ⟨rfl, rfl, rfl, rfl, rfl⟩ (by decide) hr (by walk_at "hh") hg rfl rfl rfl (by decide) ?_
    refine a_cons rfl ?_
    refine e_v n0 rfl (by walk_at "vis") ⟨_, rfl, ?_⟩
    refine a_cons rfl ?_
    refine e_int ?_
    refine a_nil ?_
    refine ⟨_, _, _, _, rfl, by walk_at "own", by assumption, by omega, by omega, by omega, ?_⟩
    intro r1 o1 H1 l1 u1 P1 hA hB
    walk_at "tk"
    refine b_cons ?_
    refine s_v n3 nd rfl (by walk_at "loc") rfl (by walk_at "loc") ?_
    refine e_cal C_law_take ⟨rfl, rfl, rfl, rfl, rfl⟩ (by decide) hr (by walk_at "hh") hg rfl rfl rfl (by decide) ?_
    refine a_cons rfl ?_
    refine e_v n0 rfl (by walk_at "vis") ⟨_, rfl, ?_⟩
    refine a_cons rfl ?_
    refine e_len M.len rfl rfl rfl ?_
    refine a_cons rfl ?_
    refine e_v n1 rfl (by walk_at "vis") ⟨_, rfl, ?_⟩
    refine a_nil ?_
    refine c_lenL (SqL.of ((F.g.base.trans F.g.sub) _ _ hs)) ?_
    rw [List.length_map]
    refine a_nil ?_
    refine ⟨_, _, _, _, rfl, by walk_at "own", by assumption, by omega, by omega, by omega, ?_⟩
    intro r2 o2 H2 l2 u2 P2 hA hB
    walk_at "tk"
    refine b_cons ?_
    refine s_v n4 nd rfl (by walk_at "loc") rfl (by walk_at "loc") ?_
    refine e_cal C_law_row ⟨rfl, rfl, rfl, rfl, rfl⟩ (by decide) hr (by walk_at "hh") hg rfl rfl rfl (by decide) ?_
    refine a_cons rfl ?_
    refine e_v n0 rfl (by walk_at "vis") ⟨_, rfl, ?_⟩
    refine a_nil ?_
    refine ⟨_, _, _, _, rfl, F.g.sub, by walk_at "n1", by walk_at "own", by assumption, by omega, ?_⟩
    intro pm Hb H3 o3 ms hG hA P3 hmq fm lm sm
    walk_at "callP"
    refine b_cons ?_
    refine s_if ?_
    refine t_cmp (by walk_at "cm") ?_
    refine e_v n2 rfl (by walk_at "vis") ⟨_, rfl, ?_⟩
    refine e_int ?_
    first | refine o_eqI ?_ | refine o_eqB ?_ | refine o_eqS ?_ | refine o_eqD (un64 hr) (by walk_at "dp") (by walk_at "dp") (by walk_at "sh") (by walk_at "sh") ?_
    refine ⟨_, rfl, ?_⟩
    first | refine if_d (fun hb4 => ?_) (fun hb4 => ?_) | refine if_nd (fun hb4 => ?_) (fun hb4 => ?_) | refine if_b (fun hb4 => ?_) (fun hb4 => ?_)
    · refine b_one ?_
      refine s_ret ?_
      refine e_listc M.list rfl rfl rfl ?_
      refine a_cons rfl ?_
      refine e_v n1 rfl (by walk_at "vis") ⟨_, rfl, ?_⟩
      refine a_nil ?_
      refine c_listL (SqL.of ((F.g.base.trans F.g.sub) _ _ hs)) ?_
      intro pL HL NL
      replace F := F.make NL
      replace F := F.give0
      walk_at "back"
      exact q _ _ _ _ _ hG hA (Pu.mono (by assumption) (by omega)) upd_same hf (by omega) (hm.mono (by decide))
    · refine b_nil ?_
      refine b_cut (I := fun σ' H' => ∃ (pf : Addr) (fs : List Int) (o' : HO), σ' = [some (.ref qa), some (.ref a), some (.int r1), some (.int r2), some (.ref pm), some (.ref pf), none] ∧ Fr (del H qa) H0 Hb H' [(pf, .lst (fs.map V.int)), (qa, o')] ∧ Pu o' (n + 103) ∧ fs.length ≤ 120 ∧ Sml (2 ^ 42) fs) ?_ (fun σ' H' hI => ?_)
      · refine s_v n5 nd rfl (by walk_at "loc") rfl (by walk_at "loc") ?_
        refine e_op ?_
        refine e_slice ?_
        refine e_v n1 rfl (by walk_at "vis") ⟨_, rfl, ?_⟩
        refine p_none ?_
        refine p_some ?_
        refine e_v n3 rfl (by walk_at "vis") ⟨_, rfl, ?_⟩
        refine ⟨_, rfl, ?_⟩
        refine l_list (xs := ns.map V.int) (SqL.of ((F.g.base.trans F.g.sub) _ _ hs)) ?_
        intro p5 H5 N5
        rw [cut_to (by omega), ← List.map_take] at N5
        replace F := F.make N5
        refine e_mapQ (own := [("term", 6)]) rfl nd (by walk_at "blk") (fun _ => rfl) ?_
        refine e_v n4 rfl (by walk_at "vis") ⟨_, rfl, ?_⟩
        refine ⟨_, _, rfl, .inl (SqL.of (F.g.sub _ _ hmq)), by rw [List.length_map]; omega, fun i => .int (max 1 (ms.getD i 0)), fun i y H' hi hs => ?_, fun l H2 N => ?_⟩
        · intro sB HB C cl fp
          replace F := F.same hs
          obtain rfl := get_map_int hi
          refine g_v n6 nd rfl (by walk_at "loc") (by walk_at "loc") ?_
          refine ⟨rfl, rfl, ?_⟩
          intro sB' HB' C' cl' fp'
          refine e_max M.max rfl rfl rfl ?_
          refine a_cons rfl ?_
          refine e_int ?_
          refine a_cons rfl ?_
          refine e_v n6 rfl (by walk_at "vis") ⟨_, rfl, ?_⟩
          refine a_nil ?_
          refine c_max rfl ?_
          exact ⟨rfl, fun _ _ z => z⟩
        · replace N := N.cast (o' := .lst ((ms.map fun t => max 1 t).map V.int)) (by rw [List.length_map, map_range (g := fun t => V.int (max 1 t)) (d := 0) ms, List.map_map]; rfl)
          replace F := F.make N
          refine o_catL (by walk_at "own") (by walk_at "own") (by walk_at "sz") ?_
          intro pC HC NC
          replace NC := NC.cast (o' := .lst ((ns.take r2.toNat ++ ms.map fun t => max 1 t).map V.int)) (by simp only [List.map_append, List.map_cons, List.map_nil])
          replace F := F.make NC
          exact ⟨_, _, _, rfl, F.drop1.drop1, Pu.mono (by assumption) (by omega), by walk_at "len", ((hm.mono (by decide)).take _).app ((sm.mono (by decide)).max1 (by decide))⟩
      · obtain ⟨pf, fs, oj6, rfl, F, pj6, hfl, hfs⟩ := hI
        refine b_cut (I := fun σ' H' => ∃ (pf : Addr) (fs : List Int) (o' : HO), σ' = [some (.ref qa), some (.ref a), some (.int r1), some (.int r2), some (.ref pm), some (.ref pf), none] ∧ Fr (del H qa) H0 Hb H' [(pf, .lst (fs.map V.int)), (qa, o')] ∧ Pu o' (n + 104) ∧ fs.length ≤ 120 ∧ Sml (2 ^ 42) fs) ?_ (fun σ' H' hI => ?_)
        · refine s_if ?_
          refine t_cmp (by walk_at "cm") ?_
          refine e_v n2 rfl (by walk_at "vis") ⟨_, rfl, ?_⟩
          refine e_int ?_
          first | refine o_eqI ?_ | refine o_eqB ?_ | refine o_eqS ?_ | refine o_eqD (un64 hr) (by walk_at "dp") (by walk_at "dp") (by walk_at "sh") (by walk_at "sh") ?_
          refine ⟨_, rfl, ?_⟩
          first | refine if_d (fun hb7 => ?_) (fun hb7 => ?_) | refine if_nd (fun hb7 => ?_) (fun hb7 => ?_) | refine if_b (fun hb7 => ?_) (fun hb7 => ?_)
          · refine b_one ?_
            refine s_v n5 nd rfl (by walk_at "loc") rfl (by walk_at "loc") ?_
            refine e_op ?_
            refine e_op ?_
            refine e_slice ?_
            refine e_v n1 rfl (by walk_at "vis") ⟨_, rfl, ?_⟩
            refine p_none ?_
            refine p_some ?_
            refine e_v n3 rfl (by walk_at "vis") ⟨_, rfl, ?_⟩
            refine ⟨_, rfl, ?_⟩
            refine l_list (xs := ns.map V.int) (SqL.of ((F.g.base.trans F.g.sub) _ _ hs)) ?_
            intro p8 H8 N8
            rw [cut_to (by omega), ← List.map_take] at N8
            replace F := F.make N8
            refine e_lst ?_
            refine a_cons rfl ?_
            refine e_op ?_
            refine e_op ?_
            refine e_ix (fun _ _ => rfl) ?_
            refine e_v n1 rfl (by walk_at "vis") ⟨_, rfl, ?_⟩
            refine e_v n3 rfl (by walk_at "vis") ⟨_, rfl, ?_⟩
            refine x_list (SqL.of ((F.g.base.trans F.g.sub) _ _ hs)) (atI_int (by omega) (by omega)) ?_
            refine e_int ?_
            first | refine o_add ?_ | refine o_addS (by walk_at "sz") ?_ | (refine o_catL (by walk_at "own") (by walk_at "own") (by walk_at "sz") ?_; intro pC HC NC; replace F := F.make NC)
            refine e_op ?_
            refine e_int ?_
            refine e_cal C_law_take ⟨rfl, rfl, rfl, rfl, rfl⟩ (by decide) hr (by walk_at "hh") hg rfl rfl rfl (by decide) ?_
            refine a_cons rfl ?_
            refine e_v n0 rfl (by walk_at "vis") ⟨_, rfl, ?_⟩
            refine a_cons rfl ?_
            refine e_int ?_
            refine a_nil ?_
            refine ⟨_, _, _, _, rfl, by walk_at "own", by assumption, by omega, by omega, by omega, ?_⟩
            intro rz o9 H9 l9 u9 P9 hA hB
            walk_at "tk"
            first | refine o_mulR (by omega) (by omega) ?_ | refine o_mulL (by omega) (by omega) ?_ | refine o_mul (by walk_at "ar") ?_
            refine o_sub ?_
            refine a_nil ?_
            refine ⟨sz_ok rfl, ?_⟩
            intro p10 H10 N10
            replace F := F.make N10
            refine o_catL (by walk_at "own") (by walk_at "own") (by walk_at "sz") ?_
            intro pC HC NC
            replace NC := NC.cast (o' := .lst ((ns.take r2.toNat ++ [ns.getD r2.toNat 0 + 1 - 2 * rz]).map V.int)) (by simp only [List.map_append, List.map_cons, List.map_nil])
            replace F := F.make NC
            refine e_slice ?_
            refine e_v n1 rfl (by walk_at "vis") ⟨_, rfl, ?_⟩
            refine p_some ?_
            refine e_op ?_
            refine e_v n3 rfl (by walk_at "vis") ⟨_, rfl, ?_⟩
            refine e_int ?_
            first | refine o_add ?_ | refine o_addS (by walk_at "sz") ?_ | (refine o_catL (by walk_at "own") (by walk_at "own") (by walk_at "sz") ?_; intro pC HC NC; replace F := F.make NC)
            refine ⟨_, rfl, ?_⟩
            refine p_none ?_
            refine l_list (xs := ns.map V.int) (SqL.of ((F.g.base.trans F.g.sub) _ _ hs)) ?_
            intro p11 H11 N11
            rw [cut_from (by omega), ← List.map_drop] at N11
            replace F := F.make N11
            refine o_catL (by walk_at "own") (by walk_at "own") (by walk_at "sz") ?_
            intro pC HC NC
            replace NC := NC.cast (o' := .lst (((ns.take r2.toNat ++ [ns.getD r2.toNat 0 + 1 - 2 * rz]) ++ ns.drop (r2 + 1).toNat).map V.int)) (by simp only [List.map_append, List.map_cons, List.map_nil])
            replace F := F.make NC
            first
              | exact ⟨_, _, _, rfl, F, Pu.mono (by assumption) (by omega), hfl, hfs⟩
              | exact ⟨_, _, _, rfl, F.drop1.drop1.drop1.drop1.drop1, Pu.mono (by assumption) (by omega), by walk_at "len", ((((hm.mono (by decide)).take _).app (Sml.one (by have := hm.at r2.toNat (by decide); omega) (by have := hm.at r2.toNat (by decide); omega))).app ((hm.mono (by decide)).drop _))⟩
          · refine b_nil ?_
            first
              | exact ⟨_, _, _, rfl, F, Pu.mono (by assumption) (by omega), hfl, hfs⟩
              | exact ⟨_, _, _, rfl, F.drop1.drop1.drop1.drop1.drop1, Pu.mono (by assumption) (by omega), by walk_at "len", ((((hm.mono (by decide)).take _).app (Sml.one (by have := hm.at r2.toNat (by decide); omega) (by have := hm.at r2.toNat (by decide); omega))).app ((hm.mono (by decide)).drop _))⟩
        · obtain ⟨pf, fs, oj12, rfl, F, pj12, hfl, hfs⟩ := hI
          refine b_cut (I := fun σ' H' => ∃ (pf : Addr) (fs : List Int) (o' : HO), σ' = [some (.ref qa), some (.ref a), some (.int r1), some (.int r2), some (.ref pm), some (.ref pf), none] ∧ Fr (del H qa) H0 Hb H' [(pf, .lst (fs.map V.int)), (qa, o')] ∧ Pu o' (n + 104) ∧ fs.length ≤ 120 ∧ Sml (2 ^ 42) fs) ?_ (fun σ' H' hI => ?_)
          · refine s_if ?_
            refine t_cmp (by walk_at "cm") ?_
            refine e_v n2 rfl (by walk_at "vis") ⟨_, rfl, ?_⟩
            refine e_int ?_
            first | refine o_eqI ?_ | refine o_eqB ?_ | refine o_eqS ?_ | refine o_eqD (un64 hr) (by walk_at "dp") (by walk_at "dp") (by walk_at "sh") (by walk_at "sh") ?_
            refine ⟨_, rfl, ?_⟩
            first | refine if_d (fun hb13 => ?_) (fun hb13 => ?_) | refine if_nd (fun hb13 => ?_) (fun hb13 => ?_) | refine if_b (fun hb13 => ?_) (fun hb13 => ?_)
            · refine b_one ?_
              refine s_v n5 nd rfl (by walk_at "loc") rfl (by walk_at "loc") ?_
              refine e_slice ?_
              refine e_v n1 rfl (by walk_at "vis") ⟨_, rfl, ?_⟩
              refine p_none ?_
              refine p_some ?_
              refine e_op ?_
              refine e_v n3 rfl (by walk_at "vis") ⟨_, rfl, ?_⟩
              refine e_int ?_
              first | refine o_add ?_ | refine o_addS (by walk_at "sz") ?_ | (refine o_catL (by walk_at "own") (by walk_at "own") (by walk_at "sz") ?_; intro pC HC NC; replace F := F.make NC)
              refine ⟨_, rfl, ?_⟩
              refine l_list (xs := ns.map V.int) (SqL.of ((F.g.base.trans F.g.sub) _ _ hs)) ?_
              intro p14 H14 N14
              rw [cut_to (by omega), ← List.map_take] at N14
              replace F := F.make N14
              first
                | exact ⟨_, _, _, rfl, F, Pu.mono (by assumption) (by omega), hfl, hfs⟩
                | exact ⟨_, _, _, rfl, F.drop1, Pu.mono (by assumption) (by omega), by walk_at "len", ((hm.mono (by decide)).take _)⟩
            · refine b_nil ?_
              first
                | exact ⟨_, _, _, rfl, F, Pu.mono (by assumption) (by omega), hfl, hfs⟩
                | exact ⟨_, _, _, rfl, F.drop1, Pu.mono (by assumption) (by omega), by walk_at "len", ((hm.mono (by decide)).take _)⟩
          · obtain ⟨pf, fs, oj15, rfl, F, pj15, hfl, hfs⟩ := hI
            refine b_cut (I := fun σ' H' => ∃ (pf : Addr) (fs : List Int) (o' : HO), σ' = [some (.ref qa), some (.ref a), some (.int r1), some (.int r2), some (.ref pm), some (.ref pf), none] ∧ Fr (del H qa) H0 Hb H' [(pf, .lst (fs.map V.int)), (qa, o')] ∧ Pu o' (n + 105) ∧ fs.length ≤ 120 ∧ Sml (2 ^ 42) fs) ?_ (fun σ' H' hI => ?_)
            · refine s_if ?_
              refine t_cmp (by walk_at "cm") ?_
              refine e_v n2 rfl (by walk_at "vis") ⟨_, rfl, ?_⟩
              refine e_int ?_
              first | refine o_eqI ?_ | refine o_eqB ?_ | refine o_eqS ?_ | refine o_eqD (un64 hr) (by walk_at "dp") (by walk_at "dp") (by walk_at "sh") (by walk_at "sh") ?_
              refine ⟨_, rfl, ?_⟩
              first | refine if_d (fun hb16 => ?_) (fun hb16 => ?_) | refine if_nd (fun hb16 => ?_) (fun hb16 => ?_) | refine if_b (fun hb16 => ?_) (fun hb16 => ?_)
              · refine b_one ?_
                refine s_v n5 nd rfl (by walk_at "loc") rfl (by walk_at "loc") ?_
                refine e_op ?_
                refine e_v n1 rfl (by walk_at "vis") ⟨_, rfl, ?_⟩
                refine e_lst ?_
                refine a_cons rfl ?_
                refine e_op ?_
                refine e_int ?_
                refine e_cal C_law_take ⟨rfl, rfl, rfl, rfl, rfl⟩ (by decide) hr (by walk_at "hh") hg rfl rfl rfl (by decide) ?_
                refine a_cons rfl ?_
                refine e_v n0 rfl (by walk_at "vis") ⟨_, rfl, ?_⟩
                refine a_cons rfl ?_
                refine e_int ?_
                refine a_nil ?_
                refine ⟨_, _, _, _, rfl, by walk_at "own", by assumption, by omega, by omega, by omega, ?_⟩
                intro rz o17 H17 l17 u17 P17 hA hB
                walk_at "tk"
                first | refine o_add ?_ | refine o_addS (by walk_at "sz") ?_ | (refine o_catL (by walk_at "own") (by walk_at "own") (by walk_at "sz") ?_; intro pC HC NC; replace F := F.make NC)
                refine a_cons rfl ?_
                refine e_int ?_
                refine a_nil ?_
                refine ⟨sz_ok rfl, ?_⟩
                intro p18 H18 N18
                replace F := F.make N18
                refine o_catL (xs := ns.map V.int) ((F.g.base.trans F.g.sub) _ _ hs) (by walk_at "own") (by walk_at "sz") ?_
                intro pC HC NC
                replace NC := NC.cast (o' := .lst ((ns ++ [1 + rz, 2]).map V.int)) (by simp only [List.map_append, List.map_cons, List.map_nil])
                replace F := F.make NC
                first
                  | exact ⟨_, _, _, rfl, F, Pu.mono (by assumption) (by omega), hfl, hfs⟩
                  | exact ⟨_, _, _, rfl, F.drop1.drop1, Pu.mono (by assumption) (by omega), by walk_at "len", ((hm.mono (by decide)).app (Sml.two (by omega) (by omega) (by omega) (by omega)))⟩
              · refine b_nil ?_
                first
                  | exact ⟨_, _, _, rfl, F, Pu.mono (by assumption) (by omega), hfl, hfs⟩
                  | exact ⟨_, _, _, rfl, F.drop1.drop1, Pu.mono (by assumption) (by omega), by walk_at "len", ((hm.mono (by decide)).app (Sml.two (by omega) (by omega) (by omega) (by omega)))⟩
            · obtain ⟨pf, fs, oj19, rfl, F, pj19, hfl, hfs⟩ := hI
              refine b_one ?_
              refine s_ret ?_
              refine e_if ?_
              refine t_and ?_
              refine t_cmp (by walk_at "cm") ?_
              refine e_len M.len rfl rfl rfl ?_
              refine a_cons rfl ?_
              refine e_v n5 rfl (by walk_at "vis") ⟨_, rfl, ?_⟩
              refine a_nil ?_
              refine c_lenL (by walk_at "seq") ?_
              rw [List.length_map]
              refine e_int ?_
              refine o_lt ?_
              refine ⟨_, rfl, ?_⟩
              first | refine if_d (fun hb20 => ?_) (fun hb20 => ?_) | refine if_nd (fun hb20 => ?_) (fun hb20 => ?_) | refine if_b (fun hb20 => ?_) (fun hb20 => ?_)
              · refine k_and1 ?_
                refine t_val (fun _ => rfl) ?_
                refine e_cal C_is_floor_row ⟨rfl, rfl, rfl, rfl, rfl⟩ (by decide) hr (by walk_at "hh") hg rfl rfl rfl (by decide) ?_
                refine a_cons rfl ?_
                refine e_v n5 rfl (by walk_at "vis") ⟨_, rfl, ?_⟩
                refine a_nil ?_
                refine ⟨_, .list (fs.map PyData.int), rfl, Dt.ints (by walk_at "seq"), by show (fs.map PyData.int).length ≤ _; rw [List.length_map]; omega, ?_⟩
                intro H21 S21
                replace F := F.same S21
                first | refine ⟨_, rfl, ?_⟩ | refine tru_int ?_
                first | refine if_d (fun hb22 => ?_) (fun hb22 => ?_) | refine if_nd (fun hb22 => ?_) (fun hb22 => ?_) | refine if_b (fun hb22 => ?_) (fun hb22 => ?_)
                · have hok : floorOk fs = true := by rw [← floorRow_list]; exact hb22
                  refine e_v n5 rfl (by walk_at "vis") ⟨_, rfl, ?_⟩
                  first
                    | (replace F := F.give0
                       walk_at "back"
                       exact q _ _ _ _ _ hG hA (Pu.mono (by assumption) (by omega)) upd_same hok (by omega) hfs)
                    | (walk_at "back"
                       exact q _ _ _ _ _ hG hA (Pu.mono (by assumption) (by omega)) hmq fm (by omega) (sm.mono (by decide)))
                · refine e_v n4 rfl (by walk_at "vis") ⟨_, rfl, ?_⟩
                  first
                    | (replace F := F.give0
                       walk_at "back"
                       exact q _ _ _ _ _ hG hA (Pu.mono (by assumption) (by omega)) upd_same hok (by omega) hfs)
                    | (walk_at "back"
                       exact q _ _ _ _ _ hG hA (Pu.mono (by assumption) (by omega)) hmq fm (by omega) (sm.mono (by decide)))
              · refine iteF ?_
                refine e_v n4 rfl (by walk_at "vis") ⟨_, rfl, ?_⟩
                first
                  | (replace F := F.give0
                     walk_at "back"
                     exact q _ _ _ _ _ hG hA (Pu.mono (by assumption) (by omega)) upd_same hok (by omega) hfs)
                  | (walk_at "back"
                     exact q _ _ _ _ _ hG hA (Pu.mono (by assumption) (by omega)) hmq fm (by omega) (sm.mono (by decide)))

theorem rowOf_l (ns : List Int) : rowOf (.list (ns.map PyData.int)) = ns := by
  show (intsOf (ns.map PyData.int)).getD [] = ns
  rw [intsOf_map]
  rfl
theorem rowOf_t (ns : List Int) : rowOf (.tuple (ns.map PyData.int)) = ns := rowOf_l ns
theorem floorRow_tuple (ns : List Int) : floorRow (.tuple (ns.map PyData.int)) = floorOk ns := floorRow_of rfl rfl
theorem cpl_self : ∀ ns : List Int, cpl ns ns = ns.length
  | [] => rfl
  | a :: r => by rw [cpl, if_pos rfl, cpl_self r]; rfl
theorem part_same (ns : List Int) : partD ns ns = .none := by
  unfold partD
  rw [cpl_self, if_pos ⟨rfl, rfl⟩]
theorem cpl_both : ∀ {ns ms : List Int}, cpl ns ms = ns.length → cpl ns ms = ms.length → ns = ms
  | [], [], _, _ => rfl
  | [], b :: bs, _, h => by simp [cpl] at h
  | a :: as, [], h, _ => by simp [cpl] at h
  | a :: as, b :: bs, h1, h2 => by
    unfold cpl at h1 h2
    split at h1
    · rename_i e
      rw [if_pos e] at h2
      have := cpl_both (ns := as) (ms := bs) (by simpa using h1) (by simpa using h2)
      rw [e, this]
    · simp at h1
theorem drop_cpl : ∀ {ns ms : List Int} {p : Nat}, p < cpl ns ms → (ns.drop p).take 1 = (ms.drop p).take 1
  | [], _, p, h => by simp [cpl] at h
  | _ :: _, [], p, h => by simp [cpl] at h
  | a :: as, b :: bs, p, h => by
    unfold cpl at h
    split at h
    · rename_i e
      cases p with
      | zero => simp [e]
      | succ p => simpa using drop_cpl (ns := as) (ms := bs) (p := p) (by omega)
    · omega
theorem drop_stop : ∀ {ns ms : List Int}, ns ≠ ms → (ns.drop (cpl ns ms)).take 1 ≠ (ms.drop (cpl ns ms)).take 1
  | [], [], h => absurd rfl h
  | [], b :: bs, _ => by simp [cpl]
  | a :: as, [], _ => by simp [cpl]
  | a :: as, b :: bs, h => by
    unfold cpl
    split
    · rename_i e
      have := drop_stop (ns := as) (ms := bs) (fun z => h (by rw [e, z]))
      simpa using this
    · rename_i e
      simpa using e
/-- terms from 1 on, the last from 2 on -/
def Tl (r : List Int) : Prop := (∀ i ∈ r, 1 ≤ i) ∧ (r ≠ [] → 2 ≤ r.getLastD 0)
theorem gl_cons {a : Int} {r : List Int} (h : r ≠ []) : (a :: r).getLastD 0 = r.getLastD 0 := by
  cases r with
  | nil => exact absurd rfl h
  | cons b s => rfl
theorem Tl.tail {a : Int} {r : List Int} (h : Tl (a :: r)) : Tl r := ⟨fun i hi => h.1 i (List.mem_cons_of_mem _ hi), fun hn => by
  have := h.2 (by simp)
  rw [gl_cons hn] at this
  exact this⟩
theorem Tl.val : ∀ {r : List Int}, Tl r → 0 ≤ (valF r).2 ∧ (valF r).2 < (valF r).1
  | [], _ => ⟨by decide, by decide⟩
  | a :: r, h => by
    have ih := Tl.val h.tail
    have ha := h.1 a (by simp)
    refine ⟨by show 0 ≤ (valF r).1; omega, ?_⟩
    show (valF r).1 < a * (valF r).1 + (valF r).2
    cases r with
    | nil =>
      have := h.2 (by simp)
      have h2 : 2 ≤ a := by simpa [List.getLastD] using this
      show (1 : Int) < a * 1 + 0
      omega
    | cons b s =>
      have ih2 := Tl.val h.tail.tail
      have hq : 0 < (valF (b :: s)).2 := by show 0 < (valF s).1; omega
      have h3 : 1 * (valF (b :: s)).1 ≤ a * (valF (b :: s)).1 := Int.mul_le_mul_of_nonneg_right ha (by omega)
      omega
def lessB (ns ms : List Int) : Bool := lessR ns ms == decide (((cpl ns ms : Nat) : Int) % 2 = 0)
theorem lessR_cons {a : Int} {r s : List Int} : lessR (a :: r) (a :: s) = lessR r s := by
  unfold lessR
  rw [cpl, if_pos rfl]
  simp only [List.length_cons, Nat.add_right_cancel_iff, List.getD_cons_succ]
theorem lessB_cons {a : Int} {r s : List Int} : lessB (a :: r) (a :: s) = !lessB r s := by
  unfold lessB
  rw [lessR_cons, cpl, if_pos rfl]
  have e : decide ((((cpl r s + 1 : Nat) : Int)) % 2 = 0) = !decide (((cpl r s : Nat) : Int) % 2 = 0) := by
    by_cases h : ((cpl r s : Nat) : Int) % 2 = 0
    · rw [decide_eq_true h, decide_eq_false (by omega)]; rfl
    · rw [decide_eq_false h, decide_eq_true (by omega)]; rfl
  rw [e]
  cases lessR r s <;> cases decide (((cpl r s : Nat) : Int) % 2 = 0) <;> rfl
theorem lessB_ne {a b : Int} {r s : List Int} (h : a ≠ b) : lessB (a :: r) (b :: s) = decide (a < b) := by
  unfold lessB lessR
  rw [cpl, if_neg h]
  simp
def Lt (ns ms : List Int) : Prop := (valF ns).1 * (valF ms).2 < (valF ms).1 * (valF ns).2
instance {ns ms : List Int} : Decidable (Lt ns ms) := by unfold Lt; infer_instance
theorem lt_first {a b : Int} {r s : List Int} (hr : Tl r) (hs : Tl s) (h : a < b) : Lt (a :: r) (b :: s) := by
  have h1 := hr.val
  have h2 := hs.val
  show (a * (valF r).1 + (valF r).2) * (valF s).1 < (b * (valF s).1 + (valF s).2) * (valF r).1
  generalize (valF r).1 = p at *
  generalize (valF r).2 = q at *
  generalize (valF s).1 = t at *
  generalize (valF s).2 = u at *
  have e1 : (a * p + q) * t = a * (p * t) + q * t := by rw [Int.add_mul, Int.mul_assoc]
  have e2 : (b * t + u) * p = b * (p * t) + u * p := by rw [Int.add_mul, Int.mul_assoc, Int.mul_comm t p]
  rw [e1, e2]
  have h3 : q * t < p * t := Int.mul_lt_mul_of_pos_right h1.2 (by omega)
  have h4 : 0 ≤ u * p := Int.mul_nonneg h2.1 (by omega)
  have h5 : (a + 1) * (p * t) ≤ b * (p * t) := Int.mul_le_mul_of_nonneg_right (by omega) (Int.mul_nonneg (by omega) (by omega))
  rw [Int.add_mul, Int.one_mul] at h5
  omega
theorem lt_cons {a : Int} {r s : List Int} : Lt (a :: r) (a :: s) ↔ Lt s r := by
  show (a * (valF r).1 + (valF r).2) * (valF s).1 < (a * (valF s).1 + (valF s).2) * (valF r).1 ↔ (valF s).1 * (valF r).2 < (valF r).1 * (valF s).2
  generalize (valF r).1 = p
  generalize (valF r).2 = q
  generalize (valF s).1 = t
  generalize (valF s).2 = u
  have e1 : (a * p + q) * t = a * (p * t) + t * q := by rw [Int.add_mul, Int.mul_assoc, Int.mul_comm q t]
  have e2 : (a * t + u) * p = a * (p * t) + p * u := by rw [Int.add_mul, Int.mul_assoc, Int.mul_comm t p, Int.mul_comm u p]
  rw [e1, e2]
  omega
/-- the tails compared -/
theorem tails : ∀ {r s : List Int}, Tl r → Tl s → r ≠ s → (lessB r s = true ∧ Lt r s) ∨ (lessB r s = false ∧ Lt s r)
  | [], [], _, _, h => absurd rfl h
  | [], b :: s, _, hs, _ => .inr ⟨rfl, by
    have h1 := hs.tail.val
    have h2 := hs.val
    show (valF (b :: s)).1 * 0 < 1 * (valF s).1
    omega⟩
  | a :: r, [], hr, _, _ => .inl ⟨by simp [lessB, lessR, cpl], by
    have h1 := hr.tail.val
    show (valF (a :: r)).1 * 0 < 1 * (valF r).1
    omega⟩
  | a :: r, b :: s, hr, hs, h => by
    by_cases e : a = b
    · subst e
      rw [lessB_cons, lt_cons, lt_cons]
      rcases tails hr.tail hs.tail (fun z => h (by rw [z])) with ⟨h1, h2⟩ | ⟨h1, h2⟩
      · exact .inr ⟨by rw [h1]; rfl, h2⟩
      · exact .inl ⟨by rw [h1]; rfl, h2⟩
    · rw [lessB_ne e]
      by_cases h2 : a < b
      · exact .inl ⟨decide_eq_true h2, lt_first hr.tail hs.tail h2⟩
      · exact .inr ⟨decide_eq_false h2, lt_first hs.tail hr.tail (by omega)⟩
theorem tl_of {a : Int} {r : List Int} (h : floorOk (a :: r) = true) : Tl r := by
  unfold floorOk at h
  simp only [List.isEmpty_cons, Bool.not_false, Bool.true_and, List.drop_succ_cons, List.drop_zero, Bool.and_eq_true, List.all_eq_true, decide_eq_true_eq, Bool.or_eq_true, Bool.not_eq_true', decide_eq_false_iff_not] at h
  refine ⟨h.1, fun hn => ?_⟩
  have h2 : ¬ (a :: r).getLastD 0 = 1 := h.2.resolve_left fun z => hn (List.eq_nil_of_length_eq_zero (by simpa using z))
  rw [gl_cons hn] at h2
  have hm : r.getLastD 0 ∈ r := by
    rw [List.getLastD_eq_getLast?, List.getLast?_eq_some_getLast hn]
    exact List.getLast_mem hn
  have := h.1 _ hm
  omega
/-- THE PLAIN LAW: the side that is told is that of the values -/
theorem part_law {ns ms : List Int} (h1 : floorOk ns = true) (h2 : floorOk ms = true) (h : ns ≠ ms) : partD ns ms = .tuple [.int (cpl ns ms : Nat), .int (if decide ((valF ns).1 * (valF ms).2 < (valF ms).1 * (valF ns).2) then -1 else 1)] := by
  have hb : lessB ns ms = decide (Lt ns ms) := by
    cases ns with
    | nil => cases h1
    | cons a r =>
      cases ms with
      | nil => cases h2
      | cons b s =>
        have t1 := tl_of h1
        have t2 := tl_of h2
        have key : (lessB (a :: r) (b :: s) = true ∧ Lt (a :: r) (b :: s)) ∨ (lessB (a :: r) (b :: s) = false ∧ Lt (b :: s) (a :: r)) := by
          by_cases e : a = b
          · subst e
            rw [lessB_cons, lt_cons, lt_cons]
            rcases tails t1 t2 (fun z => h (by rw [z])) with ⟨k1, k2⟩ | ⟨k1, k2⟩
            · exact .inr ⟨by rw [k1]; rfl, k2⟩
            · exact .inl ⟨by rw [k1]; rfl, k2⟩
          · rw [lessB_ne e]
            by_cases k : a < b
            · exact .inl ⟨decide_eq_true k, lt_first t1 t2 k⟩
            · exact .inr ⟨decide_eq_false k, lt_first t2 t1 (by omega)⟩
        rcases key with ⟨k1, k2⟩ | ⟨k1, k2⟩
        · rw [k1, decide_eq_true k2]
        · rw [k1, decide_eq_false (by unfold Lt at k2 ⊢; omega)]
  unfold partD
  rw [if_neg (fun z => h (cpl_both z.1 z.2))]
  have hb' : (lessR ns ms == decide (((cpl ns ms : Nat) : Int) % 2 = 0)) = decide ((valF ns).1 * (valF ms).2 < (valF ms).1 * (valF ns).2) := hb
  rw [hb']
theorem val_bound {ns : List Int} (h : Sml (2 ^ 42) ns) : (valF ns).1.natAbs ≤ 2 ^ (43 * ns.length) ∧ (valF ns).2.natAbs ≤ 2 ^ (43 * ns.length) := by
  induction ns with
  | nil => exact ⟨by decide, by decide⟩
  | cons a r ih =>
    have ih := ih fun i hi => h i (List.mem_cons_of_mem _ hi)
    have ha := h a (by simp)
    have e : 2 ^ (43 * (a :: r).length) = 2 ^ 43 * 2 ^ (43 * r.length) := by rw [List.length_cons, Nat.mul_succ, Nat.add_comm, Nat.pow_add]
    rw [e]
    refine ⟨?_, ?_⟩
    · show (a * (valF r).1 + (valF r).2).natAbs ≤ _
      have h1 := Int.natAbs_add_le (a * (valF r).1) (valF r).2
      rw [Int.natAbs_mul] at h1
      have h2 : a.natAbs ≤ 2 ^ 42 := by omega
      have h3 := Nat.mul_le_mul h2 ih.1
      omega
    · show (valF r).1.natAbs ≤ _
      have := ih.1
      omega
theorem val_mul {ns ms : List Int} (h1 : Sml (2 ^ 42) ns) (h2 : Sml (2 ^ 42) ms) (l1 : ns.length ≤ 1000) (l2 : ms.length ≤ 1000) : CMulW (valF ns).1 (valF ms).2 := by
  have lg : ∀ {x n : Nat}, x ≤ 2 ^ n → x.log2 ≤ n := fun {x n} hx => by
    by_cases hx0 : x = 0
    · rw [hx0]; exact Nat.zero_le _
    · have := (Nat.log2_lt hx0).mpr (show x < 2 ^ (n + 1) by rw [Nat.pow_succ]; have := Nat.two_pow_pos n; omega)
      omega
  have b1 := lg (val_bound h1).1
  have b2 := lg (val_bound h2).2
  show _ + _ < 1000000
  omega
theorem fine_part {ns ms : List Int} (h : ns.length ≤ 1000) : Fine 4000 (partD ns ms) := by
  have hc := (cpl_le ns ms).1
  have hl : ∀ i : Int, -1000 ≤ i → i ≤ 1000 → i.natAbs.log2 < 1920 := fun i h1 h2 => by
    by_cases h0 : i.natAbs = 0
    · rw [h0]; decide
    · have := (Nat.log2_lt h0).mpr (show i.natAbs < 2 ^ 10 by omega)
      omega
  unfold partD
  split
  · exact ⟨rfl, by decide, by decide⟩
  · refine fine_intsT (ns := [((cpl ns ms : Nat) : Int), _]) (fun i hi => ?_) (by show 1923 * 2 + 3 ≤ 4000; decide)
    rcases List.mem_cons.mp hi with rfl | hi
    · exact hl _ (by omega) (by omega)
    · have e := List.mem_singleton.mp hi
      rw [e]
      split <;> exact hl _ (by decide) (by decide)
theorem Sml.lg {b : Int} {ns : List Int} (h : Sml (2 ^ 42) ns) : ∀ i ∈ ns, i.natAbs.log2 < 1920 := fun i hi => by
  have := h i hi
  by_cases h0 : i.natAbs = 0
  · rw [h0]; decide
  · have := (Nat.log2_lt h0).mpr (show i.natAbs < 2 ^ 43 by omega)
    omega
theorem fine_rows {ns ms : List Int} (h1 : Sml (2 ^ 42) ns) (h2 : Sml (2 ^ 42) ms) (l1 : ns.length ≤ 1000) (l2 : ms.length ≤ 1000) : Fine 4000000 (.list [.list (ns.map PyData.int), .list (ms.map PyData.int)]) :=
  fine_2 (fine_ints (n := 1923 * 1000 + 2) (h1.lg (b := 0)) (by omega)) (fine_ints (n := 1923 * 1000 + 2) (h2.lg (b := 0)) (by omega)) (by rw [PyData.depth, depthAll_ints]; decide) (by rw [PyData.depth, depthAll_ints]; decide) (by decide)
theorem ix_pm (k : Bool) : atI [V.int 1, V.int (-1)] (if k = true then 1 else 0) = some (.int (if k = true then -1 else 1)) := by cases k <;> rfl
def spRight (K : PySem.W.Frag) : Sp := fun vs H Q _ => ∃ a b ns ms, vs = [.ref a, .ref b] ∧ SqL K H a (ns.map V.int) ∧ SqL K H b (ms.map V.int) ∧ floorOk ns = true ∧ floorOk ms = true ∧ ns.length ≤ 1000 ∧ ms.length ≤ 1000 ∧ Sml (2 ^ 42) ns ∧ Sml (2 ^ 42) ms ∧
  ∀ H', L2.Same H H' → Q (.bl true) H'

local macro_rules | `(tactic| walk_at "itm") => `(tactic| (show (List.map PyData.int _).length ≤ 1000000; rw [List.length_map]; omega))
local macro_rules | `(tactic| walk_at "flr") => `(tactic| first | (rw [floorRow_list]; assumption) | (rw [floorRow_tuple]; assumption))
theorem three {K : PySem.W.Frag} {H : Hp} {v1 v2 v3 y : V} {i : Nat} {d : PyData} (h1 : Dt K H v1 d) (h2 : Dt K H v2 d) (h3 : Dt K H v3 d) (h : [v1, v2, v3][i]? = some y) : Dt K H y d := by
  match i, h with
  | 0, h => cases h; exact h1
  | 1, h => cases h; exact h2
  | 2, h => cases h; exact h3
  | n + 3, h => cases h
theorem cut_iff {ns ms : List Int} {p : Nat} (hne : ns ≠ ms) (hp : p ≤ cpl ns ms) (h : (ns.drop p).take 1 = (ms.drop p).take 1) : p < cpl ns ms := by
  rcases Nat.lt_or_ge p (cpl ns ms) with z | z
  · exact z
  · have e : p = cpl ns ms := by omega
    rw [e] at h
    exact absurd h (drop_stop hne)
theorem cut_end {ns ms : List Int} {p : Nat} (hp : p ≤ cpl ns ms) (h : ¬ (ns.drop p).take 1 = (ms.drop p).take 1) : p = cpl ns ms := by
  rcases Nat.lt_or_ge p (cpl ns ms) with z | z
  · exact absurd (drop_cpl z) h
  · omega
theorem one_step {p : Nat} {ns : List Int} : ((ns.drop ((p : Int)).toNat).take (((p : Int) + 1).toNat - ((p : Int)).toNat)) = (ns.drop p).take 1 := by
  have e : ((p : Int) + 1).toNat - ((p : Int)).toNat = 1 := by omega
  rw [e, Int.toNat_natCast]
set_option hygiene false in
local macro_rules | `(tactic| walk_at "blk") => `(tactic| (show blkC ["one", "other", "kept", "found", "told", "place", "a", "b", "c", "d"] (defScope st_law_right) _ _ = true; decide +kernel))
abbrev st_law_right : Stmt := top 18
theorem sc_law_right : FnScope ["one", "other", "kept", "found", "told", "place", "a", "b", "c", "d"] ["one", "other"] (defScope st_law_right) := ⟨rfl, rfl, rfl, by decide +kernel, rfl, by decide +kernel, by decide +kernel⟩
theorem ok_law_right (M : Bn mg) {C : Addr} (C_parting : Cal P w K mg base (L2.CX P w) true 4 "parting" [] (spPart K C)) (C_law_value : Cal P w K mg base CX0 true 1 "_law_value" [] (spVal K)) (DD : Dn K mg "_law_right" st_law_right) : Cal P w K mg base CX0 true 5 "_law_right" [] (spRight K) := by
  refine cal_g DD sc_law_right (fun _ _ _ _ _ _ us hl => by match us, hl with | [_, _], _ => rfl) (fun vs H Q E h => ?_) fun f cdv A outer s H vs Q E hr hh hg h => ?_
  · obtain ⟨a, b, ns, ms, rfl, _⟩ := h; rfl
  · have nd := sc_law_right.nd
    have n0 : Nm ["one", "other", "kept", "found", "told", "place", "a", "b", "c", "d"] 0 "one" := ⟨rfl, by decide, by decide⟩
    have n1 : Nm ["one", "other", "kept", "found", "told", "place", "a", "b", "c", "d"] 1 "other" := ⟨rfl, by decide, by decide⟩
    have n2 : Nm ["one", "other", "kept", "found", "told", "place", "a", "b", "c", "d"] 2 "kept" := ⟨rfl, by decide, by decide⟩
    have n3 : Nm ["one", "other", "kept", "found", "told", "place", "a", "b", "c", "d"] 3 "found" := ⟨rfl, by decide, by decide⟩
    have n4 : Nm ["one", "other", "kept", "found", "told", "place", "a", "b", "c", "d"] 4 "told" := ⟨rfl, by decide, by decide⟩
    have n5 : Nm ["one", "other", "kept", "found", "told", "place", "a", "b", "c", "d"] 5 "place" := ⟨rfl, by decide, by decide⟩
    have n6 : Nm ["one", "other", "kept", "found", "told", "place", "a", "b", "c", "d"] 6 "a" := ⟨rfl, by decide, by decide⟩
    have n7 : Nm ["one", "other", "kept", "found", "told", "place", "a", "b", "c", "d"] 7 "b" := ⟨rfl, by decide, by decide⟩
    have n8 : Nm ["one", "other", "kept", "found", "told", "place", "a", "b", "c", "d"] 8 "c" := ⟨rfl, by decide, by decide⟩
    have n9 : Nm ["one", "other", "kept", "found", "told", "place", "a", "b", "c", "d"] 9 "d" := ⟨rfl, by decide, by decide⟩
    obtain ⟨a, b, ns, ms, rfl, hs1, hs2, f1, f2, l1, l2, sm1, sm2, q⟩ := h
    have hS0 := L2.Same.refl H
    have F := Fr.start (L2.Same.refl H)
    refine b_cons ?_
    refine s_v n2 nd rfl (by walk_at "loc") rfl (by walk_at "loc") ?_
    refine e_repr M.repr rfl rfl rfl ?_
    refine a_cons rfl ?_
    refine e_lst ?_
    refine a_cons rfl ?_
    refine e_v n0 rfl (by walk_at "vis") ⟨_, rfl, ?_⟩
    refine a_cons rfl ?_
    refine e_v n1 rfl (by walk_at "vis") ⟨_, rfl, ?_⟩
    refine a_nil ?_
    refine ⟨sz_ok rfl, ?_⟩
    intro p1 H1 N1
    replace F := F.make N1
    refine a_nil ?_
    refine c_reprF hr hg (d := .list [.list (ns.map PyData.int), .list (ms.map PyData.int)]) (.lst (by walk_at "seq") (.cons (Dt.ints (by walk_at "seq")) (.cons (Dt.ints (by walk_at "seq")) .nil))) (fine_rows sm1 sm2 l1 l2) (by decide) ?_
    generalize hs0 : (PyData.list [.list (ns.map PyData.int), .list (ms.map PyData.int)]).shown = s0
    refine b_cons ?_
    refine s_v n3 nd rfl (by walk_at "loc") rfl (by walk_at "loc") ?_
    refine e_calX C_parting takes_no ⟨rfl, rfl, rfl, rfl, rfl⟩ (by decide) hr (by walk_at "hh") hg rfl rfl rfl (by decide) ?_
    refine a_cons rfl ?_
    refine e_tuplec M.tuple rfl rfl rfl ?_
    refine a_cons rfl ?_
    refine e_v n0 rfl (by walk_at "vis") ⟨_, rfl, ?_⟩
    refine a_nil ?_
    first | (refine c_tupL (by walk_at "seq") ?_; intro pL HL NL; replace F := F.make NL) | refine c_tupT (by walk_at "seq") ?_
    refine a_cons rfl ?_
    refine e_v n1 rfl (by walk_at "vis") ⟨_, rfl, ?_⟩
    refine a_nil ?_
    refine ⟨_, _, _, _, rfl, by walk_at "dti", by walk_at "dti", by walk_at "itm", by walk_at "itm", fun z => ?_, fun _ z => ?_, fun _ _ vF H2 S2 hF => ?_⟩
    · exact absurd (z.symm.trans (by walk_at "flr")) Bool.false_ne_true
    · exact absurd (z.symm.trans (by walk_at "flr")) Bool.false_ne_true
    replace F := F.same S2
    simp only [rowOf_l, rowOf_t] at hF
    replace hs1 := L2.Same.seq F.g.old hs1
    replace hs2 := L2.Same.seq F.g.old hs2
    replace hS0 := L2.Same.trans hS0 F.g.old
    replace F := F.anew
    refine b_cons ?_
    refine s_forLS (passes_of rfl) rfl (fun _ => rfl) ?_
    refine e_lst ?_
    refine a_cons rfl ?_
    refine e_calX C_parting takes_no ⟨rfl, rfl, rfl, rfl, rfl⟩ (by decide) hr (by walk_at "hh") hg rfl rfl rfl (by decide) ?_
    refine a_cons rfl ?_
    refine e_v n0 rfl (by walk_at "vis") ⟨_, rfl, ?_⟩
    refine a_cons rfl ?_
    refine e_tuplec M.tuple rfl rfl rfl ?_
    refine a_cons rfl ?_
    refine e_v n1 rfl (by walk_at "vis") ⟨_, rfl, ?_⟩
    refine a_nil ?_
    first | (refine c_tupL (by walk_at "seq") ?_; intro pL HL NL; replace F := F.make NL) | refine c_tupT (by walk_at "seq") ?_
    refine a_nil ?_
    refine ⟨_, _, _, _, rfl, by walk_at "dti", by walk_at "dti", by walk_at "itm", by walk_at "itm", fun z => ?_, fun _ z => ?_, fun _ _ v1 H3 S3 D1 => ?_⟩
    · exact absurd (z.symm.trans (by walk_at "flr")) Bool.false_ne_true
    · exact absurd (z.symm.trans (by walk_at "flr")) Bool.false_ne_true
    replace F := F.same S3
    simp only [rowOf_l, rowOf_t] at D1
    replace hs1 := L2.Same.seq F.g.old hs1
    replace hs2 := L2.Same.seq F.g.old hs2
    replace hF := Dt.same F.g.old hF
    replace hS0 := L2.Same.trans hS0 F.g.old
    replace F := F.anew
    refine a_cons rfl ?_
    refine e_calX C_parting takes_no ⟨rfl, rfl, rfl, rfl, rfl⟩ (by decide) hr (by walk_at "hh") hg rfl rfl rfl (by decide) ?_
    refine a_cons rfl ?_
    refine e_listc M.list rfl rfl rfl ?_
    refine a_cons rfl ?_
    refine e_v n0 rfl (by walk_at "vis") ⟨_, rfl, ?_⟩
    refine a_nil ?_
    refine c_listL (by walk_at "seq") ?_
    intro pL HL NL
    replace F := F.make NL
    refine a_cons rfl ?_
    refine e_listc M.list rfl rfl rfl ?_
    refine a_cons rfl ?_
    refine e_v n1 rfl (by walk_at "vis") ⟨_, rfl, ?_⟩
    refine a_nil ?_
    refine c_listL (by walk_at "seq") ?_
    intro pL HL NL
    replace F := F.make NL
    refine a_nil ?_
    refine ⟨_, _, _, _, rfl, by walk_at "dti", by walk_at "dti", by walk_at "itm", by walk_at "itm", fun z => ?_, fun _ z => ?_, fun _ _ v2 H4 S4 D2 => ?_⟩
    · exact absurd (z.symm.trans (by walk_at "flr")) Bool.false_ne_true
    · exact absurd (z.symm.trans (by walk_at "flr")) Bool.false_ne_true
    replace F := F.same S4
    simp only [rowOf_l, rowOf_t] at D2
    replace hs1 := L2.Same.seq F.g.old hs1
    replace hs2 := L2.Same.seq F.g.old hs2
    replace hF := Dt.same F.g.old hF
    replace D1 := Dt.same F.g.old D1
    replace hS0 := L2.Same.trans hS0 F.g.old
    replace F := F.anew
    refine a_cons rfl ?_
    refine e_calX C_parting takes_no ⟨rfl, rfl, rfl, rfl, rfl⟩ (by decide) hr (by walk_at "hh") hg rfl rfl rfl (by decide) ?_
    refine a_cons rfl ?_
    refine e_tuplec M.tuple rfl rfl rfl ?_
    refine a_cons rfl ?_
    refine e_v n0 rfl (by walk_at "vis") ⟨_, rfl, ?_⟩
    refine a_nil ?_
    first | (refine c_tupL (by walk_at "seq") ?_; intro pL HL NL; replace F := F.make NL) | refine c_tupT (by walk_at "seq") ?_
    refine a_cons rfl ?_
    refine e_tuplec M.tuple rfl rfl rfl ?_
    refine a_cons rfl ?_
    refine e_v n1 rfl (by walk_at "vis") ⟨_, rfl, ?_⟩
    refine a_nil ?_
    first | (refine c_tupL (by walk_at "seq") ?_; intro pL HL NL; replace F := F.make NL) | refine c_tupT (by walk_at "seq") ?_
    refine a_nil ?_
    refine ⟨_, _, _, _, rfl, by walk_at "dti", by walk_at "dti", by walk_at "itm", by walk_at "itm", fun z => ?_, fun _ z => ?_, fun _ _ v3 H5 S5 D3 => ?_⟩
    · exact absurd (z.symm.trans (by walk_at "flr")) Bool.false_ne_true
    · exact absurd (z.symm.trans (by walk_at "flr")) Bool.false_ne_true
    replace F := F.same S5
    simp only [rowOf_l, rowOf_t] at D3
    replace hs1 := L2.Same.seq F.g.old hs1
    replace hs2 := L2.Same.seq F.g.old hs2
    replace hF := Dt.same F.g.old hF
    replace D1 := Dt.same F.g.old D1
    replace D2 := Dt.same F.g.old D2
    replace hS0 := L2.Same.trans hS0 F.g.old
    replace F := F.anew
    refine a_nil ?_
    refine ⟨sz_ok rfl, ?_⟩
    intro p6 H6 N6
    replace F := F.make N6
    refine ⟨_, _, rfl, by walk_at "seq", fun i σ' => ∃ t : Option V, σ' = [some (.ref a), some (.ref b), some (.str s0), some vF, t, none, none, none, none, none], ⟨none, rfl⟩, ?_, ?_⟩
    · rintro i y σ' H' hi ⟨t, rfl⟩ hS
      have hv := (three D1 D2 D3 hi).same (F.same hS).g.old
      replace F := F.same hS
      replace hs1 := L2.Same.seq F.g.old hs1
      replace hs2 := L2.Same.seq F.g.old hs2
      replace hF := Dt.same F.g.old hF
      replace F := Fr.start (L2.Same.refl H')
      refine g_v n4 nd rfl (by walk_at "loc") (by walk_at "loc") ?_
      refine b_one ?_
      refine s_if ?_
      refine t_or ?_
      refine t_cmp (by walk_at "cm") ?_
      refine e_repr M.repr rfl rfl rfl ?_
      refine a_cons rfl ?_
      refine e_v n4 rfl (by walk_at "vis") ⟨_, rfl, ?_⟩
      refine a_nil ?_
      refine c_reprF hr hg (Dt.same F.g.old hv) (fine_part l1) (by decide) ?_
      refine e_repr M.repr rfl rfl rfl ?_
      refine a_cons rfl ?_
      refine e_v n3 rfl (by walk_at "vis") ⟨_, rfl, ?_⟩
      refine a_nil ?_
      refine c_reprF hr hg (Dt.same F.g.old hF) (fine_part l1) (by decide) ?_
      first | refine o_neI ?_ | refine o_neB ?_ | refine o_neS ?_ | refine o_neD (un64 hr) (by walk_at "dp") (by walk_at "dp") (by walk_at "sh") (by walk_at "sh") ?_
      refine ⟨_, rfl, ?_⟩
      first | refine if_d (fun hb7 => ?_) (fun hb7 => ?_) | refine if_nd (fun hb7 => ?_) (fun hb7 => ?_) | refine if_b (fun hb7 => ?_) (fun hb7 => ?_)
      · exact absurd rfl hb7
      · refine k_or1 ?_
        refine t_cmp (by walk_at "cm") ?_
        refine e_repr M.repr rfl rfl rfl ?_
        refine a_cons rfl ?_
        refine e_lst ?_
        refine a_cons rfl ?_
        refine e_v n0 rfl (by walk_at "vis") ⟨_, rfl, ?_⟩
        refine a_cons rfl ?_
        refine e_v n1 rfl (by walk_at "vis") ⟨_, rfl, ?_⟩
        refine a_nil ?_
        refine ⟨sz_ok rfl, ?_⟩
        intro p8 H8 N8
        replace F := F.make N8
        refine a_nil ?_
        refine c_reprF hr hg (d := .list [.list (ns.map PyData.int), .list (ms.map PyData.int)]) (.lst (by walk_at "seq") (.cons (Dt.ints (by walk_at "seq")) (.cons (Dt.ints (by walk_at "seq")) .nil))) (fine_rows sm1 sm2 l1 l2) (by decide) ?_
        rw [hs0]
        refine e_v n2 rfl (by walk_at "vis") ⟨_, rfl, ?_⟩
        first | refine o_neI ?_ | refine o_neB ?_ | refine o_neS ?_ | refine o_neD (un64 hr) (by walk_at "dp") (by walk_at "dp") (by walk_at "sh") (by walk_at "sh") ?_
        refine ⟨_, rfl, ?_⟩
        first | refine if_d (fun hb9 => ?_) (fun hb9 => ?_) | refine if_nd (fun hb9 => ?_) (fun hb9 => ?_) | refine if_b (fun hb9 => ?_) (fun hb9 => ?_)
        · exact absurd rfl hb9
        · refine b_nil ?_
          exact ⟨⟨_, rfl⟩, hS.trans F.g.old⟩
    · rintro σ' H' ⟨t, rfl⟩ hS
      replace F := F.same hS
      refine b_cons ?_
      refine s_if ?_
      refine t_cmp (by walk_at "cm") ?_
      refine e_v n0 rfl (by walk_at "vis") ⟨_, rfl, ?_⟩
      refine e_v n1 rfl (by walk_at "vis") ⟨_, rfl, ?_⟩
      refine o_eqLI hr (by walk_at "seq") (by walk_at "seq") ?_
      refine ⟨_, rfl, ?_⟩
      first | refine if_d (fun hb10 => ?_) (fun hb10 => ?_) | refine if_nd (fun hb10 => ?_) (fun hb10 => ?_) | refine if_b (fun hb10 => ?_) (fun hb10 => ?_)
      · obtain rfl : ns = ms := hb10
        refine b_one ?_
        refine s_ret ?_
        refine e_cmp (by walk_at "cm") ?_
        refine e_v n3 rfl (by walk_at "vis") ⟨_, rfl, ?_⟩
        refine e_non ?_
        refine o_isN ?_
        rw [part_same] at hF
        rw [hF.non_of, decide_eq_true rfl]
        exact q _ (hS0.trans F.g.old)
      · have hne : ns ≠ ms := hb10
        refine b_nil ?_
        refine b_cons ?_
        refine s_v n5 nd rfl (by walk_at "loc") rfl (by walk_at "loc") ?_
        refine e_int ?_
        refine b_cut (I := fun σ' H' => σ' = [some (.ref a), some (.ref b), some (.str s0), some vF, t, some (.int (cpl ns ms : Nat)), none, none, none, none] ∧ SqL K H' a (ns.map V.int) ∧ SqL K H' b (ms.map V.int) ∧ Dt K H' vF (partD ns ms) ∧ L2.Same H H') ?_ (fun σ' H' hI => ?_)
        · refine s_whileS (passes_of rfl) (fun m σ' => ∃ (p : Nat), σ' = [some (.ref a), some (.ref b), some (.str s0), some vF, t, some (.int p), none, none, none, none] ∧ p ≤ cpl ns ms ∧ m = cpl ns ms - p) (cpl ns ms) ⟨0, rfl, Nat.zero_le _, rfl⟩ ?_
          rintro m σ' H' ⟨p, rfl, hp, rfl⟩ hS
          replace F := F.same hS
          replace hs1 := L2.Same.seq F.g.old hs1
          replace hs2 := L2.Same.seq F.g.old hs2
          replace hF := Dt.same F.g.old hF
          replace hS0 := L2.Same.trans hS0 F.g.old
          replace F := F.anew
          refine t_cmp (by walk_at "cm") ?_
          refine e_slice ?_
          refine e_v n0 rfl (by walk_at "vis") ⟨_, rfl, ?_⟩
          refine p_some ?_
          refine e_v n5 rfl (by walk_at "vis") ⟨_, rfl, ?_⟩
          refine ⟨_, rfl, ?_⟩
          refine p_some ?_
          refine e_op ?_
          refine e_v n5 rfl (by walk_at "vis") ⟨_, rfl, ?_⟩
          refine e_int ?_
          first | refine o_add ?_ | refine o_addS (by walk_at "sz") ?_ | (refine o_catL (by walk_at "own") (by walk_at "own") (by walk_at "sz") ?_; intro pC HC NC; replace F := F.make NC)
          refine ⟨_, rfl, ?_⟩
          refine l_list (xs := ns.map V.int) (by walk_at "seq") ?_
          intro p11 H11 N11
          rw [cut_mid (by omega) (by omega), ← List.map_drop, ← List.map_take] at N11
          replace F := F.make N11
          refine e_slice ?_
          refine e_v n1 rfl (by walk_at "vis") ⟨_, rfl, ?_⟩
          refine p_some ?_
          refine e_v n5 rfl (by walk_at "vis") ⟨_, rfl, ?_⟩
          refine ⟨_, rfl, ?_⟩
          refine p_some ?_
          refine e_op ?_
          refine e_v n5 rfl (by walk_at "vis") ⟨_, rfl, ?_⟩
          refine e_int ?_
          first | refine o_add ?_ | refine o_addS (by walk_at "sz") ?_ | (refine o_catL (by walk_at "own") (by walk_at "own") (by walk_at "sz") ?_; intro pC HC NC; replace F := F.make NC)
          refine ⟨_, rfl, ?_⟩
          refine l_list (xs := ms.map V.int) (by walk_at "seq") ?_
          intro p12 H12 N12
          rw [cut_mid (by omega) (by omega), ← List.map_drop, ← List.map_take] at N12
          replace F := F.make N12
          refine o_eqLI hr (by walk_at "seq") (by walk_at "seq") ?_
          rw [one_step, one_step]
          refine ⟨_, rfl, ?_⟩
          first | refine if_d (fun hb13 => ?_) (fun hb13 => ?_) | refine if_nd (fun hb13 => ?_) (fun hb13 => ?_) | refine if_b (fun hb13 => ?_) (fun hb13 => ?_)
          · have hlt := cut_iff hne hp hb13
            refine b_one ?_
            refine s_v n5 nd rfl (by walk_at "loc") rfl (by walk_at "loc") ?_
            refine e_op ?_
            refine e_v n5 rfl (by walk_at "vis") ⟨_, rfl, ?_⟩
            refine e_int ?_
            first | refine o_add ?_ | refine o_addS (by walk_at "sz") ?_ | (refine o_catL (by walk_at "own") (by walk_at "own") (by walk_at "sz") ?_; intro pC HC NC; replace F := F.make NC)
            exact ⟨⟨_, by omega, p + 1, by rw [Int.natCast_add]; rfl, by omega, rfl⟩, hS.trans F.g.old⟩
          · have hpe := cut_end hp hb13
            rw [hpe]
            exact ⟨rfl, L2.Same.seq F.g.old hs1, L2.Same.seq F.g.old hs2, hF.same F.g.old, hS0.trans F.g.old⟩
        · clear hs1 hs2 hF hS0 F
          obtain ⟨rfl, hs1, hs2, hF, hS0⟩ := hI
          have F := Fr.start (L2.Same.refl H')
          refine b_cons ?_
          refine s_asg rfl rfl rfl ?_
          refine e_cal C_law_value ⟨rfl, rfl, rfl, rfl, rfl⟩ (by decide) hr (by walk_at "hh") hg rfl rfl rfl (by decide) ?_
          refine a_cons rfl ?_
          refine e_v n0 rfl (by walk_at "vis") ⟨_, rfl, ?_⟩
          refine a_nil ?_
          refine ⟨_, _, rfl, by walk_at "seq", floorOk_ne f1, sm1, l1, ?_⟩
          intro p14 H14 S14 T14
          replace F := F.same S14
          refine g_tup rfl rfl rfl ⟨_, _, rfl, by walk_at "seq", rfl, ?_⟩
          refine gs_cons rfl ?_
          refine g_v n6 nd rfl (by walk_at "loc") (by walk_at "loc") ?_
          refine gs_cons rfl ?_
          refine g_v n7 nd rfl (by walk_at "loc") (by walk_at "loc") ?_
          refine gs_nil ?_
          refine b_cons ?_
          refine s_asg rfl rfl rfl ?_
          refine e_cal C_law_value ⟨rfl, rfl, rfl, rfl, rfl⟩ (by decide) hr (by walk_at "hh") hg rfl rfl rfl (by decide) ?_
          refine a_cons rfl ?_
          refine e_v n1 rfl (by walk_at "vis") ⟨_, rfl, ?_⟩
          refine a_nil ?_
          refine ⟨_, _, rfl, by walk_at "seq", floorOk_ne f2, sm2, l2, ?_⟩
          intro p15 H15 S15 T15
          replace F := F.same S15
          refine g_tup rfl rfl rfl ⟨_, _, rfl, by walk_at "seq", rfl, ?_⟩
          refine gs_cons rfl ?_
          refine g_v n8 nd rfl (by walk_at "loc") (by walk_at "loc") ?_
          refine gs_cons rfl ?_
          refine g_v n9 nd rfl (by walk_at "loc") (by walk_at "loc") ?_
          refine gs_nil ?_
          refine b_one ?_
          refine s_ret ?_
          refine e_cmp (by walk_at "cm") ?_
          refine e_repr M.repr rfl rfl rfl ?_
          refine a_cons rfl ?_
          refine e_v n3 rfl (by walk_at "vis") ⟨_, rfl, ?_⟩
          refine a_nil ?_
          refine c_reprF hr hg (Dt.same F.g.old hF) (fine_part l1) (by decide) ?_
          refine e_repr M.repr rfl rfl rfl ?_
          refine a_cons rfl ?_
          refine e_tup ?_
          refine a_cons rfl ?_
          refine e_v n5 rfl (by walk_at "vis") ⟨_, rfl, ?_⟩
          refine a_cons rfl ?_
          refine e_ix (fun _ _ => rfl) ?_
          refine e_lst ?_
          refine a_cons rfl ?_
          refine e_int ?_
          refine a_cons rfl ?_
          refine e_un ?_
          refine e_int ?_
          refine u_neg ?_
          refine a_nil ?_
          refine ⟨sz_ok rfl, ?_⟩
          intro p16 H16 N16
          replace F := F.make N16
          refine e_intc M.int rfl rfl rfl ?_
          refine a_cons rfl ?_
          refine e_cmp (by walk_at "cm") ?_
          refine e_op ?_
          refine e_v n6 rfl (by walk_at "vis") ⟨_, rfl, ?_⟩
          refine e_v n9 rfl (by walk_at "vis") ⟨_, rfl, ?_⟩
          refine o_mul (val_mul sm1 sm2 l1 l2) ?_
          refine e_op ?_
          refine e_v n8 rfl (by walk_at "vis") ⟨_, rfl, ?_⟩
          refine e_v n7 rfl (by walk_at "vis") ⟨_, rfl, ?_⟩
          refine o_mul (val_mul sm2 sm1 l2 l1) ?_
          refine o_lt ?_
          refine a_nil ?_
          first | refine c_intI ?_ | refine c_intB ?_
          refine x_list (by walk_at "seq") (ix_pm _) ?_
          refine a_nil ?_
          refine ⟨sz_ok rfl, ?_⟩
          intro p17 H17 N17
          replace F := F.make N17
          refine a_nil ?_
          refine c_reprF hr hg (d := .tuple [.int (cpl ns ms : Nat), .int (if decide ((valF ns).1 * (valF ms).2 < (valF ms).1 * (valF ns).2) then -1 else 1)]) (.tup (by walk_at "seq") (.cons (.int _) (.cons (.int _) .nil))) (by rw [← part_law f1 f2 hne]; exact fine_part l1) (by decide) ?_
          first | refine o_eqI ?_ | refine o_eqB ?_ | refine o_eqS ?_ | refine o_eqD (un64 hr) (by walk_at "dp") (by walk_at "dp") (by walk_at "sh") (by walk_at "sh") ?_
          rw [part_law f1 f2 hne, decide_eq_true rfl]
          exact q _ (hS0.trans F.g.old)

def spVery (K : PySem.W.Frag) : Sp := fun vs H Q _ => ∃ x d H0 n, vs = [x, x] ∧ L2.Same H0 H ∧ Ow K H0 H x d ∧ Fine n d ∧ n ≤ 15000000 ∧ d.depth ≤ 40 ∧ lenD d ≤ 200 ∧
  ∀ H', (∀ b u, x ≠ .ref b → H b = some u → H' b = some u) → L2.Same H0 H' → Ow K H0 H' x (moreD d) → Q (.bl true) H'
theorem ref_ne {p b : Addr} (h : V.ref p ≠ .ref b) : b ≠ p := fun z => h (by rw [z])
set_option hygiene false in
local macro_rules | `(tactic| walk_at "blk") => `(tactic| (show blkC ["found", "thing"] (defScope st_law_very) _ _ = true; decide +kernel))
abbrev st_law_very : Stmt := top 14
theorem sc_law_very : FnScope ["found", "thing"] ["found", "thing"] (defScope st_law_very) := ⟨rfl, rfl, rfl, by decide +kernel, rfl, by decide +kernel, by decide +kernel⟩
theorem ok_law_very (M : Bn mg)   (DD : Dn K mg "_law_very" st_law_very) : Cal P w K mg base CX0 false 1 "_law_very" [] (spVery K) := by
  refine cal_g DD sc_law_very (fun _ _ _ _ _ _ us hl => by match us, hl with | [_, _], _ => rfl) (fun vs H Q E h => ?_) fun f cdv A outer s H vs Q E hr hh hg h => ?_
  · obtain ⟨x, d, H0, n, rfl, _⟩ := h; rfl
  · have nd := sc_law_very.nd
    have n0 : Nm ["found", "thing"] 0 "found" := ⟨rfl, by decide, by decide⟩
    have n1 : Nm ["found", "thing"] 1 "thing" := ⟨rfl, by decide, by decide⟩
    obtain ⟨x, d, H0, n, rfl, hS, hO, hfi, hn, hdep, hlen, q⟩ := h
    obtain ⟨hfin, _, _⟩ := fine_more hfi hdep hlen
    have hd := hO.dt hS
    have F := Fr.start hS
    refine b_cons ?_
    refine s_if ?_
    refine t_val (fun _ => rfl) ?_
    refine e_isi M.isinstance rfl rfl rfl ?_
    refine a_cons rfl ?_
    refine e_v n1 rfl (by walk_at "vis") ⟨_, rfl, ?_⟩
    refine a_cons rfl ?_
    refine e_tyList M.list rfl ?_
    refine a_nil ?_
    refine c_isList (by walk_at "dt") ?_
    first | refine ⟨_, rfl, ?_⟩ | refine tru_int ?_
    first | refine if_d (fun hb1 => ?_) (fun hb1 => ?_) | refine if_nd (fun hb1 => ?_) (fun hb1 => ?_) | refine if_b (fun hb1 => ?_) (fun hb1 => ?_)
    · obtain ⟨p, xs, ds, rfl, rfl, hn0, hp, hD⟩ := hO.l_of hb1
      have hxl := hD.length
      simp only [lenD] at hlen
      clear F
      have F := Fr.lent hS hn0 hp
      refine b_one ?_
      refine s_expr rfl ?_
      refine e_bm PySem.F.plainAttrs_list PySem.F.slot_list_append PySem.F.type_list_append rfl rfl rfl rfl rfl ?_
      refine e_v n1 rfl (by walk_at "vis") ⟨_, rfl, ?_⟩
      refine ⟨by walk_at "ty", ?_⟩
      refine a_cons rfl ?_
      refine e_str ?_
      refine a_nil ?_
      refine m_app (by walk_at "own") (by walk_at "sz") ?_
      intro HA hA hB
      walk_at "put"
      have hO : Ow K H0 HA (.ref p) (moreD (.list ds)) := Ow.list hn0 F.at0 (DtAll.app (.cons (.str _) .nil) hD)
      have hd := hO.dt F.g.sub
      have hk : ∀ b u, V.ref p ≠ .ref b → H b = some u → HA b = some u := fun b u z => F.old b u (ref_ne z)
      refine b_cons ?_
      refine s_if ?_
      refine t_val (fun _ => rfl) ?_
      refine e_isi M.isinstance rfl rfl rfl ?_
      refine a_cons rfl ?_
      refine e_v n1 rfl (by walk_at "vis") ⟨_, rfl, ?_⟩
      refine a_cons rfl ?_
      refine e_tyDict M.dict rfl ?_
      refine a_nil ?_
      refine c_isDict (by walk_at "dt") ?_
      first | refine ⟨_, rfl, ?_⟩ | refine tru_int ?_
      first | refine if_d (fun hb2 => ?_) (fun hb2 => ?_) | refine if_nd (fun hb2 => ?_) (fun hb2 => ?_) | refine if_b (fun hb2 => ?_) (fun hb2 => ?_)
      · exact Bool.noConfusion hb2
      · refine b_nil ?_
        refine b_one ?_
        refine s_ret ?_
        refine e_cmp (by walk_at "cm") ?_
        refine e_repr M.repr rfl rfl rfl ?_
        refine a_cons rfl ?_
        refine e_v n0 rfl (by walk_at "vis") ⟨_, rfl, ?_⟩
        refine a_nil ?_
        refine c_reprF hr hg (hO.dt F.g.sub) hfin (by omega) ?_
        refine e_repr M.repr rfl rfl rfl ?_
        refine a_cons rfl ?_
        refine e_v n1 rfl (by walk_at "vis") ⟨_, rfl, ?_⟩
        refine a_nil ?_
        refine c_reprF hr hg (hO.dt F.g.sub) hfin (by omega) ?_
        first | refine o_eqI ?_ | refine o_eqB ?_ | refine o_eqS ?_ | refine o_eqD (un64 hr) (by walk_at "dp") (by walk_at "dp") (by walk_at "sh") (by walk_at "sh") ?_
        rw [decide_eq_true rfl]
        exact q _ hk F.g.sub hO
    · have hk : ∀ b u, x ≠ .ref b → H b = some u → H b = some u := fun _ _ _ z => z
      refine b_nil ?_
      refine b_cons ?_
      refine s_if ?_
      refine t_val (fun _ => rfl) ?_
      refine e_isi M.isinstance rfl rfl rfl ?_
      refine a_cons rfl ?_
      refine e_v n1 rfl (by walk_at "vis") ⟨_, rfl, ?_⟩
      refine a_cons rfl ?_
      refine e_tyDict M.dict rfl ?_
      refine a_nil ?_
      refine c_isDict (by walk_at "dt") ?_
      first | refine ⟨_, rfl, ?_⟩ | refine tru_int ?_
      first | refine if_d (fun hb3 => ?_) (fun hb3 => ?_) | refine if_nd (fun hb3 => ?_) (fun hb3 => ?_) | refine if_b (fun hb3 => ?_) (fun hb3 => ?_)
      · obtain ⟨p, kvs, ds, rfl, rfl, hn0, hp, hD⟩ := hO.d_of hb3
        have hxl := kv_len hD
        simp only [lenD] at hlen
        clear F
        have F := Fr.lent hS hn0 hp
        refine b_one ?_
        refine s_asg rfl rfl rfl ?_
        refine e_int ?_
        refine g_sub (fun _ => rfl) ?_
        refine e_v n1 rfl (by walk_at "vis") ⟨_, rfl, ?_⟩
        refine e_str ?_
        refine st_d (kk := .inr "more") (un1 hr) (by walk_at "own") (by walk_at "sz") ?_
        intro HA hA hB
        walk_at "put"
        have hO : Ow K H0 HA (.ref p) (moreD (.dict ds)) := Ow.dict hn0 F.at0 (kv_put hD)
        have hd := hO.dt F.g.sub
        have hk : ∀ b u, V.ref p ≠ .ref b → H b = some u → HA b = some u := fun b u z => F.old b u (ref_ne z)
        refine b_one ?_
        refine s_ret ?_
        refine e_cmp (by walk_at "cm") ?_
        refine e_repr M.repr rfl rfl rfl ?_
        refine a_cons rfl ?_
        refine e_v n0 rfl (by walk_at "vis") ⟨_, rfl, ?_⟩
        refine a_nil ?_
        refine c_reprF hr hg (hO.dt F.g.sub) hfin (by omega) ?_
        refine e_repr M.repr rfl rfl rfl ?_
        refine a_cons rfl ?_
        refine e_v n1 rfl (by walk_at "vis") ⟨_, rfl, ?_⟩
        refine a_nil ?_
        refine c_reprF hr hg (hO.dt F.g.sub) hfin (by omega) ?_
        first | refine o_eqI ?_ | refine o_eqB ?_ | refine o_eqS ?_ | refine o_eqD (un64 hr) (by walk_at "dp") (by walk_at "dp") (by walk_at "sh") (by walk_at "sh") ?_
        rw [decide_eq_true rfl]
        exact q _ hk F.g.sub hO
      · replace hO := hO.els (by simpa using hb1) (by simpa using hb3)
        refine b_nil ?_
        refine b_one ?_
        refine s_ret ?_
        refine e_cmp (by walk_at "cm") ?_
        refine e_repr M.repr rfl rfl rfl ?_
        refine a_cons rfl ?_
        refine e_v n0 rfl (by walk_at "vis") ⟨_, rfl, ?_⟩
        refine a_nil ?_
        refine c_reprF hr hg (hO.dt F.g.sub) hfin (by omega) ?_
        refine e_repr M.repr rfl rfl rfl ?_
        refine a_cons rfl ?_
        refine e_v n1 rfl (by walk_at "vis") ⟨_, rfl, ?_⟩
        refine a_nil ?_
        refine c_reprF hr hg (hO.dt F.g.sub) hfin (by omega) ?_
        first | refine o_eqI ?_ | refine o_eqB ?_ | refine o_eqS ?_ | refine o_eqD (un64 hr) (by walk_at "dp") (by walk_at "dp") (by walk_at "sh") (by walk_at "sh") ?_
        rw [decide_eq_true rfl]
        exact q _ hk F.g.sub hO

def spOdd (K : PySem.W.Frag) : Sp := fun vs H Q _ => ∃ q H0 o n, vs = [.ref q] ∧ L2.Same H0 H ∧ H0 q = none ∧ H q = some o ∧ Pu o n ∧ n ≤ 900000 ∧
  ∀ v d H1 H' o', GrowP q H0 H H1 H' → H' q = some o' → Pu o' (n + 1) → Ow K H1 H' v d → (∀ p, v = .ref p → H' p ≠ none) → Fine 20000 d → d.depth ≤ 10 → lenD d ≤ 100 → Q v H'
set_option hygiene false in
local macro_rules | `(tactic| walk_at "blk") => `(tactic| (show blkC ["purse", "some"] (defScope st_law_odd) _ _ = true; decide +kernel))
abbrev st_law_odd : Stmt := top 13
theorem sc_law_odd : FnScope ["purse", "some"] ["purse"] (defScope st_law_odd) := ⟨rfl, rfl, rfl, by decide +kernel, rfl, by decide +kernel, by decide +kernel⟩
theorem ok_law_odd (M : Bn mg)  (C_law_take : Cal P w K mg base CX0 true 1 "_law_take" [] spTake) (DD : Dn K mg "_law_odd" st_law_odd) : Cal P w K mg base CX0 true 2 "_law_odd" [] (spOdd K) := by
  refine cal_g DD sc_law_odd (fun _ _ _ _ _ _ us hl => by match us, hl with | [_], _ => rfl) (fun vs H Q E h => ?_) fun f cdv A outer s H vs Q E hr hh hg h => ?_
  · obtain ⟨q, H0, o, n, rfl, _⟩ := h; rfl
  · have nd := sc_law_odd.nd
    have n0 : Nm ["purse", "some"] 0 "purse" := ⟨rfl, by decide, by decide⟩
    have n1 : Nm ["purse", "some"] 1 "some" := ⟨rfl, by decide, by decide⟩
    obtain ⟨qa, H0, o, n, rfl, hS, hn, hq, ho, hz, q⟩ := h
    have F := Fr.lent hS hn hq
    refine b_cons ?_
    refine s_v n1 nd rfl (by walk_at "loc") rfl (by walk_at "loc") ?_
    refine e_lst ?_
    refine a_cons rfl ?_
    refine e_non ?_
    refine a_cons rfl ?_
    refine e_bl ?_
    refine a_cons rfl ?_
    refine e_bl ?_
    refine a_cons rfl ?_
    refine e_int ?_
    refine a_cons rfl ?_
    refine e_un ?_
    refine e_int ?_
    refine u_neg ?_
    refine a_cons rfl ?_
    refine e_int ?_
    refine a_cons rfl ?_
    refine e_op ?_
    refine e_int ?_
    refine e_int ?_
    refine o_powZ (by walk_at "ar") (by walk_at "ar") (by walk_at "ar") ?_
    refine a_cons rfl ?_
    refine e_un ?_
    refine e_op ?_
    refine e_int ?_
    refine e_int ?_
    refine o_powZ (by walk_at "ar") (by walk_at "ar") (by walk_at "ar") ?_
    refine u_neg ?_
    refine a_cons rfl ?_
    refine e_str ?_
    refine a_cons rfl ?_
    refine e_str ?_
    refine a_cons rfl ?_
    refine e_str ?_
    refine a_cons rfl ?_
    refine e_str ?_
    refine a_cons rfl ?_
    refine e_str ?_
    refine a_cons rfl ?_
    refine e_str ?_
    refine a_cons rfl ?_
    refine e_lst ?_
    refine a_nil ?_
    refine ⟨sz_ok rfl, ?_⟩
    intro p1 H1 N1
    replace F := F.make N1
    refine a_cons rfl ?_
    refine e_lst ?_
    refine a_cons rfl ?_
    refine e_int ?_
    refine a_nil ?_
    refine ⟨sz_ok rfl, ?_⟩
    intro p2 H2 N2
    replace F := F.make N2
    refine a_cons rfl ?_
    refine e_lst ?_
    refine a_cons rfl ?_
    refine e_str ?_
    refine a_nil ?_
    refine ⟨sz_ok rfl, ?_⟩
    intro p3 H3 N3
    replace F := F.make N3
    refine a_nil ?_
    refine ⟨sz_ok rfl, ?_⟩
    intro p4 H4 N4
    replace F := F.make N4
    refine b_cons ?_
    refine s_v n1 nd rfl (by walk_at "loc") rfl (by walk_at "loc") ?_
    refine e_op ?_
    refine e_v n1 rfl (by walk_at "vis") ⟨_, rfl, ?_⟩
    refine e_lst ?_
    refine a_cons rfl ?_
    refine e_tup ?_
    refine a_nil ?_
    refine ⟨sz_ok rfl, ?_⟩
    intro p5 H5 N5
    replace F := F.make N5
    refine a_cons rfl ?_
    refine e_tup ?_
    refine a_cons rfl ?_
    refine e_int ?_
    refine a_nil ?_
    refine ⟨sz_ok rfl, ?_⟩
    intro p6 H6 N6
    replace F := F.make N6
    refine a_cons rfl ?_
    refine e_tup ?_
    refine a_cons rfl ?_
    refine e_int ?_
    refine a_cons rfl ?_
    refine e_int ?_
    refine a_nil ?_
    refine ⟨sz_ok rfl, ?_⟩
    intro p7 H7 N7
    replace F := F.make N7
    refine a_cons rfl ?_
    refine e_tup ?_
    refine a_cons rfl ?_
    refine e_int ?_
    refine a_cons rfl ?_
    refine e_int ?_
    refine a_nil ?_
    refine ⟨sz_ok rfl, ?_⟩
    intro p8 H8 N8
    replace F := F.make N8
    refine a_cons rfl ?_
    refine e_tup ?_
    refine a_cons rfl ?_
    refine e_int ?_
    refine a_cons rfl ?_
    refine e_int ?_
    refine a_nil ?_
    refine ⟨sz_ok rfl, ?_⟩
    intro p9 H9 N9
    replace F := F.make N9
    refine a_cons rfl ?_
    refine e_tup ?_
    refine a_cons rfl ?_
    refine e_int ?_
    refine a_cons rfl ?_
    refine e_un ?_
    refine e_int ?_
    refine u_neg ?_
    refine a_nil ?_
    refine ⟨sz_ok rfl, ?_⟩
    intro p10 H10 N10
    replace F := F.make N10
    refine a_cons rfl ?_
    refine e_tup ?_
    refine a_cons rfl ?_
    refine e_bl ?_
    refine a_cons rfl ?_
    refine e_int ?_
    refine a_nil ?_
    refine ⟨sz_ok rfl, ?_⟩
    intro p11 H11 N11
    replace F := F.make N11
    refine a_cons rfl ?_
    refine e_lst ?_
    refine a_cons rfl ?_
    refine e_int ?_
    refine a_cons rfl ?_
    refine e_int ?_
    refine a_nil ?_
    refine ⟨sz_ok rfl, ?_⟩
    intro p12 H12 N12
    replace F := F.make N12
    refine a_cons rfl ?_
    refine e_tup ?_
    refine a_cons rfl ?_
    refine e_int ?_
    refine a_cons rfl ?_
    refine e_int ?_
    refine a_cons rfl ?_
    refine e_int ?_
    refine a_nil ?_
    refine ⟨sz_ok rfl, ?_⟩
    intro p13 H13 N13
    replace F := F.make N13
    refine a_cons rfl ?_
    refine e_dict0 ?_
    intro p14 H14 N14
    replace F := F.make N14
    refine a_cons rfl ?_
    refine e_dict1 ?_
    intro p15 H15 N15
    replace F := F.make N15
    refine e_str ?_
    refine e_int ?_
    refine ⟨by walk_at "own", .inr "a", rfl, ?_⟩
    intro H15d hA hB
    walk_at "put"
    refine a_cons rfl ?_
    refine e_dict1 ?_
    intro p16 H16 N16
    replace F := F.make N16
    refine e_int ?_
    refine e_non ?_
    refine ⟨by walk_at "own", .inl 7, rfl, ?_⟩
    intro H16d hA hB
    walk_at "put"
    refine a_nil ?_
    refine ⟨sz_ok rfl, ?_⟩
    intro p17 H17 N17
    replace F := F.make N17
    first | refine o_add ?_ | refine o_addS (by walk_at "sz") ?_ | (refine o_catL (by walk_at "own") (by walk_at "own") (by walk_at "sz") ?_; intro pC HC NC; replace F := F.make NC)
    refine b_one ?_
    refine s_ret ?_
    refine e_ix (fun _ _ => rfl) ?_
    refine e_op ?_
    refine e_v n1 rfl (by walk_at "vis") ⟨_, rfl, ?_⟩
    refine e_lst ?_
    refine a_cons rfl ?_
    refine e_lst ?_
    refine a_cons rfl ?_
    refine e_lst ?_
    refine a_cons rfl ?_
    refine e_lst ?_
    refine a_cons rfl ?_
    refine e_lst ?_
    refine a_cons rfl ?_
    refine e_lst ?_
    refine a_cons rfl ?_
    refine e_str ?_
    refine a_nil ?_
    refine ⟨sz_ok rfl, ?_⟩
    intro p18 H18 N18
    replace F := F.make N18
    refine a_nil ?_
    refine ⟨sz_ok rfl, ?_⟩
    intro p19 H19 N19
    replace F := F.make N19
    refine a_nil ?_
    refine ⟨sz_ok rfl, ?_⟩
    intro p20 H20 N20
    replace F := F.make N20
    refine a_nil ?_
    refine ⟨sz_ok rfl, ?_⟩
    intro p21 H21 N21
    replace F := F.make N21
    refine a_nil ?_
    refine ⟨sz_ok rfl, ?_⟩
    intro p22 H22 N22
    replace F := F.make N22
    refine a_cons rfl ?_
    refine e_tup ?_
    refine a_cons rfl ?_
    refine e_tup ?_
    refine a_cons rfl ?_
    refine e_int ?_
    refine a_cons rfl ?_
    refine e_int ?_
    refine a_nil ?_
    refine ⟨sz_ok rfl, ?_⟩
    intro p23 H23 N23
    replace F := F.make N23
    refine a_cons rfl ?_
    refine e_tup ?_
    refine a_cons rfl ?_
    refine e_int ?_
    refine a_cons rfl ?_
    refine e_int ?_
    refine a_nil ?_
    refine ⟨sz_ok rfl, ?_⟩
    intro p24 H24 N24
    replace F := F.make N24
    refine a_nil ?_
    refine ⟨sz_ok rfl, ?_⟩
    intro p25 H25 N25
    replace F := F.make N25
    refine a_nil ?_
    refine ⟨sz_ok rfl, ?_⟩
    intro p26 H26 N26
    replace F := F.make N26
    first | refine o_add ?_ | refine o_addS (by walk_at "sz") ?_ | (refine o_catL (by walk_at "own") (by walk_at "own") (by walk_at "sz") ?_; intro pC HC NC; replace F := F.make NC)
    refine e_cal C_law_take ⟨rfl, rfl, rfl, rfl, rfl⟩ (by decide) hr (by walk_at "hh") hg rfl rfl rfl (by decide) ?_
    refine a_cons rfl ?_
    refine e_v n0 rfl (by walk_at "vis") ⟨_, rfl, ?_⟩
    refine a_cons rfl ?_
    refine e_int ?_
    refine a_nil ?_
    refine ⟨_, _, _, _, rfl, by walk_at "own", by assumption, by omega, by omega, by omega, ?_⟩
    intro r27 o27 H27 l27 u27 P27 hA hB
    walk_at "tk"
    refine x_any (by walk_at "seq") (by omega) (by walk_at "len") (fun v hv => ?_)
    simp only [List.cons_append, List.nil_append] at hv
    rcases List.mem_cons.mp hv with rfl | hv
    · skip
      walk_at "back"
      refine q _ _ _ _ _ hG hA (Pu.mono (by assumption) (by omega)) (Ow.of_dt (.non) rfl rfl) (fun _ z => nomatch z) ⟨?_, ?_, ?_⟩ ?_ ?_ <;> decide +kernel
    rcases List.mem_cons.mp hv with rfl | hv
    · skip
      walk_at "back"
      refine q _ _ _ _ _ hG hA (Pu.mono (by assumption) (by omega)) (Ow.of_dt (.bl _) rfl rfl) (fun _ z => nomatch z) ⟨?_, ?_, ?_⟩ ?_ ?_ <;> decide +kernel
    rcases List.mem_cons.mp hv with rfl | hv
    · skip
      walk_at "back"
      refine q _ _ _ _ _ hG hA (Pu.mono (by assumption) (by omega)) (Ow.of_dt (.bl _) rfl rfl) (fun _ z => nomatch z) ⟨?_, ?_, ?_⟩ ?_ ?_ <;> decide +kernel
    rcases List.mem_cons.mp hv with rfl | hv
    · skip
      walk_at "back"
      refine q _ _ _ _ _ hG hA (Pu.mono (by assumption) (by omega)) (Ow.of_dt (.int _) rfl rfl) (fun _ z => nomatch z) ⟨?_, ?_, ?_⟩ ?_ ?_ <;> decide +kernel
    rcases List.mem_cons.mp hv with rfl | hv
    · skip
      walk_at "back"
      refine q _ _ _ _ _ hG hA (Pu.mono (by assumption) (by omega)) (Ow.of_dt (.int _) rfl rfl) (fun _ z => nomatch z) ⟨?_, ?_, ?_⟩ ?_ ?_ <;> decide +kernel
    rcases List.mem_cons.mp hv with rfl | hv
    · skip
      walk_at "back"
      refine q _ _ _ _ _ hG hA (Pu.mono (by assumption) (by omega)) (Ow.of_dt (.int _) rfl rfl) (fun _ z => nomatch z) ⟨?_, ?_, ?_⟩ ?_ ?_ <;> decide +kernel
    rcases List.mem_cons.mp hv with rfl | hv
    · skip
      walk_at "back"
      refine q _ _ _ _ _ hG hA (Pu.mono (by assumption) (by omega)) (Ow.of_dt (.int _) rfl rfl) (fun _ z => nomatch z) ⟨?_, ?_, ?_⟩ ?_ ?_ <;> decide +kernel
    rcases List.mem_cons.mp hv with rfl | hv
    · skip
      walk_at "back"
      refine q _ _ _ _ _ hG hA (Pu.mono (by assumption) (by omega)) (Ow.of_dt (.int _) rfl rfl) (fun _ z => nomatch z) ⟨?_, ?_, ?_⟩ ?_ ?_ <;> decide +kernel
    rcases List.mem_cons.mp hv with rfl | hv
    · skip
      walk_at "back"
      refine q _ _ _ _ _ hG hA (Pu.mono (by assumption) (by omega)) (Ow.of_dt (.str _) rfl rfl) (fun _ z => nomatch z) ⟨?_, ?_, ?_⟩ ?_ ?_ <;> decide +kernel
    rcases List.mem_cons.mp hv with rfl | hv
    · skip
      walk_at "back"
      refine q _ _ _ _ _ hG hA (Pu.mono (by assumption) (by omega)) (Ow.of_dt (.str _) rfl rfl) (fun _ z => nomatch z) ⟨?_, ?_, ?_⟩ ?_ ?_ <;> decide +kernel
    rcases List.mem_cons.mp hv with rfl | hv
    · skip
      walk_at "back"
      refine q _ _ _ _ _ hG hA (Pu.mono (by assumption) (by omega)) (Ow.of_dt (.str _) rfl rfl) (fun _ z => nomatch z) ⟨?_, ?_, ?_⟩ ?_ ?_ <;> decide +kernel
    rcases List.mem_cons.mp hv with rfl | hv
    · skip
      walk_at "back"
      refine q _ _ _ _ _ hG hA (Pu.mono (by assumption) (by omega)) (Ow.of_dt (.str _) rfl rfl) (fun _ z => nomatch z) ⟨?_, ?_, ?_⟩ ?_ ?_ <;> decide +kernel
    rcases List.mem_cons.mp hv with rfl | hv
    · skip
      walk_at "back"
      refine q _ _ _ _ _ hG hA (Pu.mono (by assumption) (by omega)) (Ow.of_dt (.str _) rfl rfl) (fun _ z => nomatch z) ⟨?_, ?_, ?_⟩ ?_ ?_ <;> decide +kernel
    rcases List.mem_cons.mp hv with rfl | hv
    · skip
      walk_at "back"
      refine q _ _ _ _ _ hG hA (Pu.mono (by assumption) (by omega)) (Ow.of_dt (.str _) rfl rfl) (fun _ z => nomatch z) ⟨?_, ?_, ?_⟩ ?_ ?_ <;> decide +kernel
    rcases List.mem_cons.mp hv with rfl | hv
    · skip
      first | have hp := F.nn0 (q := p1) | have hp := F.nn1 (q := p1) | have hp := F.nn2 (q := p1) | have hp := F.nn3 (q := p1) | have hp := F.nn4 (q := p1) | have hp := F.nn5 (q := p1) | have hp := F.nn6 (q := p1) | have hp := F.nn7 (q := p1) | have hp := F.nn8 (q := p1) | have hp := F.nn9 (q := p1) | have hp := F.nn10 (q := p1) | have hp := F.nn11 (q := p1) | have hp := F.nn12 (q := p1) | have hp := F.nn13 (q := p1) | have hp := F.nn14 (q := p1) | have hp := F.nn15 (q := p1) | have hp := F.nn16 (q := p1) | have hp := F.nn17 (q := p1) | have hp := F.nn18 (q := p1) | have hp := F.nn19 (q := p1) | have hp := F.nn20 (q := p1) | have hp := F.nn21 (q := p1) | have hp := F.nn22 (q := p1) | have hp := F.nn23 (q := p1) | have hp := F.nn24 (q := p1) | have hp := F.nn25 (q := p1) | have hp := F.nn26 (q := p1) | have hp := F.nn27 (q := p1) | have hp := F.nn28 (q := p1) | have hp := F.nn29 (q := p1) | have hp := F.nn30 (q := p1) | have hp := F.nn31 (q := p1) | have hp := F.nn32 (q := p1) | have hp := F.nn33 (q := p1) | have hp := F.nn34 (q := p1) | have hp := F.nn35 (q := p1)
      walk_at "back"
      refine q _ _ _ _ _ hG hA (Pu.mono (by assumption) (by omega)) (Ow.list (by walk_at "n1") (by walk_at "own") .nil) (fun _ z => V.ref.inj z ▸ hp) ⟨?_, ?_, ?_⟩ ?_ ?_ <;> decide +kernel
    rcases List.mem_cons.mp hv with rfl | hv
    · skip
      first | have hp := F.nn0 (q := p2) | have hp := F.nn1 (q := p2) | have hp := F.nn2 (q := p2) | have hp := F.nn3 (q := p2) | have hp := F.nn4 (q := p2) | have hp := F.nn5 (q := p2) | have hp := F.nn6 (q := p2) | have hp := F.nn7 (q := p2) | have hp := F.nn8 (q := p2) | have hp := F.nn9 (q := p2) | have hp := F.nn10 (q := p2) | have hp := F.nn11 (q := p2) | have hp := F.nn12 (q := p2) | have hp := F.nn13 (q := p2) | have hp := F.nn14 (q := p2) | have hp := F.nn15 (q := p2) | have hp := F.nn16 (q := p2) | have hp := F.nn17 (q := p2) | have hp := F.nn18 (q := p2) | have hp := F.nn19 (q := p2) | have hp := F.nn20 (q := p2) | have hp := F.nn21 (q := p2) | have hp := F.nn22 (q := p2) | have hp := F.nn23 (q := p2) | have hp := F.nn24 (q := p2) | have hp := F.nn25 (q := p2) | have hp := F.nn26 (q := p2) | have hp := F.nn27 (q := p2) | have hp := F.nn28 (q := p2) | have hp := F.nn29 (q := p2) | have hp := F.nn30 (q := p2) | have hp := F.nn31 (q := p2) | have hp := F.nn32 (q := p2) | have hp := F.nn33 (q := p2) | have hp := F.nn34 (q := p2) | have hp := F.nn35 (q := p2)
      walk_at "back"
      refine q _ _ _ _ _ hG hA (Pu.mono (by assumption) (by omega)) (Ow.list (by walk_at "n1") (by walk_at "own") (.cons (.int _) .nil)) (fun _ z => V.ref.inj z ▸ hp) ⟨?_, ?_, ?_⟩ ?_ ?_ <;> decide +kernel
    rcases List.mem_cons.mp hv with rfl | hv
    · skip
      first | have hp := F.nn0 (q := p3) | have hp := F.nn1 (q := p3) | have hp := F.nn2 (q := p3) | have hp := F.nn3 (q := p3) | have hp := F.nn4 (q := p3) | have hp := F.nn5 (q := p3) | have hp := F.nn6 (q := p3) | have hp := F.nn7 (q := p3) | have hp := F.nn8 (q := p3) | have hp := F.nn9 (q := p3) | have hp := F.nn10 (q := p3) | have hp := F.nn11 (q := p3) | have hp := F.nn12 (q := p3) | have hp := F.nn13 (q := p3) | have hp := F.nn14 (q := p3) | have hp := F.nn15 (q := p3) | have hp := F.nn16 (q := p3) | have hp := F.nn17 (q := p3) | have hp := F.nn18 (q := p3) | have hp := F.nn19 (q := p3) | have hp := F.nn20 (q := p3) | have hp := F.nn21 (q := p3) | have hp := F.nn22 (q := p3) | have hp := F.nn23 (q := p3) | have hp := F.nn24 (q := p3) | have hp := F.nn25 (q := p3) | have hp := F.nn26 (q := p3) | have hp := F.nn27 (q := p3) | have hp := F.nn28 (q := p3) | have hp := F.nn29 (q := p3) | have hp := F.nn30 (q := p3) | have hp := F.nn31 (q := p3) | have hp := F.nn32 (q := p3) | have hp := F.nn33 (q := p3) | have hp := F.nn34 (q := p3) | have hp := F.nn35 (q := p3)
      walk_at "back"
      refine q _ _ _ _ _ hG hA (Pu.mono (by assumption) (by omega)) (Ow.list (by walk_at "n1") (by walk_at "own") (.cons (.str _) .nil)) (fun _ z => V.ref.inj z ▸ hp) ⟨?_, ?_, ?_⟩ ?_ ?_ <;> decide +kernel
    rcases List.mem_cons.mp hv with rfl | hv
    · skip
      first | have hp := F.nn0 (q := p5) | have hp := F.nn1 (q := p5) | have hp := F.nn2 (q := p5) | have hp := F.nn3 (q := p5) | have hp := F.nn4 (q := p5) | have hp := F.nn5 (q := p5) | have hp := F.nn6 (q := p5) | have hp := F.nn7 (q := p5) | have hp := F.nn8 (q := p5) | have hp := F.nn9 (q := p5) | have hp := F.nn10 (q := p5) | have hp := F.nn11 (q := p5) | have hp := F.nn12 (q := p5) | have hp := F.nn13 (q := p5) | have hp := F.nn14 (q := p5) | have hp := F.nn15 (q := p5) | have hp := F.nn16 (q := p5) | have hp := F.nn17 (q := p5) | have hp := F.nn18 (q := p5) | have hp := F.nn19 (q := p5) | have hp := F.nn20 (q := p5) | have hp := F.nn21 (q := p5) | have hp := F.nn22 (q := p5) | have hp := F.nn23 (q := p5) | have hp := F.nn24 (q := p5) | have hp := F.nn25 (q := p5) | have hp := F.nn26 (q := p5) | have hp := F.nn27 (q := p5) | have hp := F.nn28 (q := p5) | have hp := F.nn29 (q := p5) | have hp := F.nn30 (q := p5) | have hp := F.nn31 (q := p5) | have hp := F.nn32 (q := p5) | have hp := F.nn33 (q := p5) | have hp := F.nn34 (q := p5) | have hp := F.nn35 (q := p5)
      first | (obtain ⟨B, G, dp5, sB⟩ := F.gvt0 (q := p5) (K := K) .nil; replace F := G) | (obtain ⟨B, G, dp5, sB⟩ := F.gvt1 (q := p5) (K := K) .nil; replace F := G) | (obtain ⟨B, G, dp5, sB⟩ := F.gvt2 (q := p5) (K := K) .nil; replace F := G) | (obtain ⟨B, G, dp5, sB⟩ := F.gvt3 (q := p5) (K := K) .nil; replace F := G) | (obtain ⟨B, G, dp5, sB⟩ := F.gvt4 (q := p5) (K := K) .nil; replace F := G) | (obtain ⟨B, G, dp5, sB⟩ := F.gvt5 (q := p5) (K := K) .nil; replace F := G) | (obtain ⟨B, G, dp5, sB⟩ := F.gvt6 (q := p5) (K := K) .nil; replace F := G) | (obtain ⟨B, G, dp5, sB⟩ := F.gvt7 (q := p5) (K := K) .nil; replace F := G) | (obtain ⟨B, G, dp5, sB⟩ := F.gvt8 (q := p5) (K := K) .nil; replace F := G) | (obtain ⟨B, G, dp5, sB⟩ := F.gvt9 (q := p5) (K := K) .nil; replace F := G) | (obtain ⟨B, G, dp5, sB⟩ := F.gvt10 (q := p5) (K := K) .nil; replace F := G) | (obtain ⟨B, G, dp5, sB⟩ := F.gvt11 (q := p5) (K := K) .nil; replace F := G) | (obtain ⟨B, G, dp5, sB⟩ := F.gvt12 (q := p5) (K := K) .nil; replace F := G) | (obtain ⟨B, G, dp5, sB⟩ := F.gvt13 (q := p5) (K := K) .nil; replace F := G) | (obtain ⟨B, G, dp5, sB⟩ := F.gvt14 (q := p5) (K := K) .nil; replace F := G) | (obtain ⟨B, G, dp5, sB⟩ := F.gvt15 (q := p5) (K := K) .nil; replace F := G) | (obtain ⟨B, G, dp5, sB⟩ := F.gvt16 (q := p5) (K := K) .nil; replace F := G) | (obtain ⟨B, G, dp5, sB⟩ := F.gvt17 (q := p5) (K := K) .nil; replace F := G) | (obtain ⟨B, G, dp5, sB⟩ := F.gvt18 (q := p5) (K := K) .nil; replace F := G) | (obtain ⟨B, G, dp5, sB⟩ := F.gvt19 (q := p5) (K := K) .nil; replace F := G) | (obtain ⟨B, G, dp5, sB⟩ := F.gvt20 (q := p5) (K := K) .nil; replace F := G) | (obtain ⟨B, G, dp5, sB⟩ := F.gvt21 (q := p5) (K := K) .nil; replace F := G) | (obtain ⟨B, G, dp5, sB⟩ := F.gvt22 (q := p5) (K := K) .nil; replace F := G) | (obtain ⟨B, G, dp5, sB⟩ := F.gvt23 (q := p5) (K := K) .nil; replace F := G) | (obtain ⟨B, G, dp5, sB⟩ := F.gvt24 (q := p5) (K := K) .nil; replace F := G) | (obtain ⟨B, G, dp5, sB⟩ := F.gvt25 (q := p5) (K := K) .nil; replace F := G) | (obtain ⟨B, G, dp5, sB⟩ := F.gvt26 (q := p5) (K := K) .nil; replace F := G) | (obtain ⟨B, G, dp5, sB⟩ := F.gvt27 (q := p5) (K := K) .nil; replace F := G) | (obtain ⟨B, G, dp5, sB⟩ := F.gvt28 (q := p5) (K := K) .nil; replace F := G) | (obtain ⟨B, G, dp5, sB⟩ := F.gvt29 (q := p5) (K := K) .nil; replace F := G) | (obtain ⟨B, G, dp5, sB⟩ := F.gvt30 (q := p5) (K := K) .nil; replace F := G) | (obtain ⟨B, G, dp5, sB⟩ := F.gvt31 (q := p5) (K := K) .nil; replace F := G) | (obtain ⟨B, G, dp5, sB⟩ := F.gvt32 (q := p5) (K := K) .nil; replace F := G) | (obtain ⟨B, G, dp5, sB⟩ := F.gvt33 (q := p5) (K := K) .nil; replace F := G) | (obtain ⟨B, G, dp5, sB⟩ := F.gvt34 (q := p5) (K := K) .nil; replace F := G) | (obtain ⟨B, G, dp5, sB⟩ := F.gvt35 (q := p5) (K := K) .nil; replace F := G)
      walk_at "back"
      refine q _ _ _ _ _ hG hA (Pu.mono (by assumption) (by omega)) (Ow.of_dt dp5 rfl rfl) (fun _ z => V.ref.inj z ▸ hp) ⟨?_, ?_, ?_⟩ ?_ ?_ <;> decide +kernel
    rcases List.mem_cons.mp hv with rfl | hv
    · skip
      first | have hp := F.nn0 (q := p6) | have hp := F.nn1 (q := p6) | have hp := F.nn2 (q := p6) | have hp := F.nn3 (q := p6) | have hp := F.nn4 (q := p6) | have hp := F.nn5 (q := p6) | have hp := F.nn6 (q := p6) | have hp := F.nn7 (q := p6) | have hp := F.nn8 (q := p6) | have hp := F.nn9 (q := p6) | have hp := F.nn10 (q := p6) | have hp := F.nn11 (q := p6) | have hp := F.nn12 (q := p6) | have hp := F.nn13 (q := p6) | have hp := F.nn14 (q := p6) | have hp := F.nn15 (q := p6) | have hp := F.nn16 (q := p6) | have hp := F.nn17 (q := p6) | have hp := F.nn18 (q := p6) | have hp := F.nn19 (q := p6) | have hp := F.nn20 (q := p6) | have hp := F.nn21 (q := p6) | have hp := F.nn22 (q := p6) | have hp := F.nn23 (q := p6) | have hp := F.nn24 (q := p6) | have hp := F.nn25 (q := p6) | have hp := F.nn26 (q := p6) | have hp := F.nn27 (q := p6) | have hp := F.nn28 (q := p6) | have hp := F.nn29 (q := p6) | have hp := F.nn30 (q := p6) | have hp := F.nn31 (q := p6) | have hp := F.nn32 (q := p6) | have hp := F.nn33 (q := p6) | have hp := F.nn34 (q := p6) | have hp := F.nn35 (q := p6)
      first | (obtain ⟨B, G, dp6, sB⟩ := F.gvt0 (q := p6) (K := K) (.cons (.int _) .nil); replace F := G) | (obtain ⟨B, G, dp6, sB⟩ := F.gvt1 (q := p6) (K := K) (.cons (.int _) .nil); replace F := G) | (obtain ⟨B, G, dp6, sB⟩ := F.gvt2 (q := p6) (K := K) (.cons (.int _) .nil); replace F := G) | (obtain ⟨B, G, dp6, sB⟩ := F.gvt3 (q := p6) (K := K) (.cons (.int _) .nil); replace F := G) | (obtain ⟨B, G, dp6, sB⟩ := F.gvt4 (q := p6) (K := K) (.cons (.int _) .nil); replace F := G) | (obtain ⟨B, G, dp6, sB⟩ := F.gvt5 (q := p6) (K := K) (.cons (.int _) .nil); replace F := G) | (obtain ⟨B, G, dp6, sB⟩ := F.gvt6 (q := p6) (K := K) (.cons (.int _) .nil); replace F := G) | (obtain ⟨B, G, dp6, sB⟩ := F.gvt7 (q := p6) (K := K) (.cons (.int _) .nil); replace F := G) | (obtain ⟨B, G, dp6, sB⟩ := F.gvt8 (q := p6) (K := K) (.cons (.int _) .nil); replace F := G) | (obtain ⟨B, G, dp6, sB⟩ := F.gvt9 (q := p6) (K := K) (.cons (.int _) .nil); replace F := G) | (obtain ⟨B, G, dp6, sB⟩ := F.gvt10 (q := p6) (K := K) (.cons (.int _) .nil); replace F := G) | (obtain ⟨B, G, dp6, sB⟩ := F.gvt11 (q := p6) (K := K) (.cons (.int _) .nil); replace F := G) | (obtain ⟨B, G, dp6, sB⟩ := F.gvt12 (q := p6) (K := K) (.cons (.int _) .nil); replace F := G) | (obtain ⟨B, G, dp6, sB⟩ := F.gvt13 (q := p6) (K := K) (.cons (.int _) .nil); replace F := G) | (obtain ⟨B, G, dp6, sB⟩ := F.gvt14 (q := p6) (K := K) (.cons (.int _) .nil); replace F := G) | (obtain ⟨B, G, dp6, sB⟩ := F.gvt15 (q := p6) (K := K) (.cons (.int _) .nil); replace F := G) | (obtain ⟨B, G, dp6, sB⟩ := F.gvt16 (q := p6) (K := K) (.cons (.int _) .nil); replace F := G) | (obtain ⟨B, G, dp6, sB⟩ := F.gvt17 (q := p6) (K := K) (.cons (.int _) .nil); replace F := G) | (obtain ⟨B, G, dp6, sB⟩ := F.gvt18 (q := p6) (K := K) (.cons (.int _) .nil); replace F := G) | (obtain ⟨B, G, dp6, sB⟩ := F.gvt19 (q := p6) (K := K) (.cons (.int _) .nil); replace F := G) | (obtain ⟨B, G, dp6, sB⟩ := F.gvt20 (q := p6) (K := K) (.cons (.int _) .nil); replace F := G) | (obtain ⟨B, G, dp6, sB⟩ := F.gvt21 (q := p6) (K := K) (.cons (.int _) .nil); replace F := G) | (obtain ⟨B, G, dp6, sB⟩ := F.gvt22 (q := p6) (K := K) (.cons (.int _) .nil); replace F := G) | (obtain ⟨B, G, dp6, sB⟩ := F.gvt23 (q := p6) (K := K) (.cons (.int _) .nil); replace F := G) | (obtain ⟨B, G, dp6, sB⟩ := F.gvt24 (q := p6) (K := K) (.cons (.int _) .nil); replace F := G) | (obtain ⟨B, G, dp6, sB⟩ := F.gvt25 (q := p6) (K := K) (.cons (.int _) .nil); replace F := G) | (obtain ⟨B, G, dp6, sB⟩ := F.gvt26 (q := p6) (K := K) (.cons (.int _) .nil); replace F := G) | (obtain ⟨B, G, dp6, sB⟩ := F.gvt27 (q := p6) (K := K) (.cons (.int _) .nil); replace F := G) | (obtain ⟨B, G, dp6, sB⟩ := F.gvt28 (q := p6) (K := K) (.cons (.int _) .nil); replace F := G) | (obtain ⟨B, G, dp6, sB⟩ := F.gvt29 (q := p6) (K := K) (.cons (.int _) .nil); replace F := G) | (obtain ⟨B, G, dp6, sB⟩ := F.gvt30 (q := p6) (K := K) (.cons (.int _) .nil); replace F := G) | (obtain ⟨B, G, dp6, sB⟩ := F.gvt31 (q := p6) (K := K) (.cons (.int _) .nil); replace F := G) | (obtain ⟨B, G, dp6, sB⟩ := F.gvt32 (q := p6) (K := K) (.cons (.int _) .nil); replace F := G) | (obtain ⟨B, G, dp6, sB⟩ := F.gvt33 (q := p6) (K := K) (.cons (.int _) .nil); replace F := G) | (obtain ⟨B, G, dp6, sB⟩ := F.gvt34 (q := p6) (K := K) (.cons (.int _) .nil); replace F := G) | (obtain ⟨B, G, dp6, sB⟩ := F.gvt35 (q := p6) (K := K) (.cons (.int _) .nil); replace F := G)
      walk_at "back"
      refine q _ _ _ _ _ hG hA (Pu.mono (by assumption) (by omega)) (Ow.of_dt dp6 rfl rfl) (fun _ z => V.ref.inj z ▸ hp) ⟨?_, ?_, ?_⟩ ?_ ?_ <;> decide +kernel
    rcases List.mem_cons.mp hv with rfl | hv
    · skip
      first | have hp := F.nn0 (q := p7) | have hp := F.nn1 (q := p7) | have hp := F.nn2 (q := p7) | have hp := F.nn3 (q := p7) | have hp := F.nn4 (q := p7) | have hp := F.nn5 (q := p7) | have hp := F.nn6 (q := p7) | have hp := F.nn7 (q := p7) | have hp := F.nn8 (q := p7) | have hp := F.nn9 (q := p7) | have hp := F.nn10 (q := p7) | have hp := F.nn11 (q := p7) | have hp := F.nn12 (q := p7) | have hp := F.nn13 (q := p7) | have hp := F.nn14 (q := p7) | have hp := F.nn15 (q := p7) | have hp := F.nn16 (q := p7) | have hp := F.nn17 (q := p7) | have hp := F.nn18 (q := p7) | have hp := F.nn19 (q := p7) | have hp := F.nn20 (q := p7) | have hp := F.nn21 (q := p7) | have hp := F.nn22 (q := p7) | have hp := F.nn23 (q := p7) | have hp := F.nn24 (q := p7) | have hp := F.nn25 (q := p7) | have hp := F.nn26 (q := p7) | have hp := F.nn27 (q := p7) | have hp := F.nn28 (q := p7) | have hp := F.nn29 (q := p7) | have hp := F.nn30 (q := p7) | have hp := F.nn31 (q := p7) | have hp := F.nn32 (q := p7) | have hp := F.nn33 (q := p7) | have hp := F.nn34 (q := p7) | have hp := F.nn35 (q := p7)
      first | (obtain ⟨B, G, dp7, sB⟩ := F.gvt0 (q := p7) (K := K) (.cons (.int _) (.cons (.int _) .nil)); replace F := G) | (obtain ⟨B, G, dp7, sB⟩ := F.gvt1 (q := p7) (K := K) (.cons (.int _) (.cons (.int _) .nil)); replace F := G) | (obtain ⟨B, G, dp7, sB⟩ := F.gvt2 (q := p7) (K := K) (.cons (.int _) (.cons (.int _) .nil)); replace F := G) | (obtain ⟨B, G, dp7, sB⟩ := F.gvt3 (q := p7) (K := K) (.cons (.int _) (.cons (.int _) .nil)); replace F := G) | (obtain ⟨B, G, dp7, sB⟩ := F.gvt4 (q := p7) (K := K) (.cons (.int _) (.cons (.int _) .nil)); replace F := G) | (obtain ⟨B, G, dp7, sB⟩ := F.gvt5 (q := p7) (K := K) (.cons (.int _) (.cons (.int _) .nil)); replace F := G) | (obtain ⟨B, G, dp7, sB⟩ := F.gvt6 (q := p7) (K := K) (.cons (.int _) (.cons (.int _) .nil)); replace F := G) | (obtain ⟨B, G, dp7, sB⟩ := F.gvt7 (q := p7) (K := K) (.cons (.int _) (.cons (.int _) .nil)); replace F := G) | (obtain ⟨B, G, dp7, sB⟩ := F.gvt8 (q := p7) (K := K) (.cons (.int _) (.cons (.int _) .nil)); replace F := G) | (obtain ⟨B, G, dp7, sB⟩ := F.gvt9 (q := p7) (K := K) (.cons (.int _) (.cons (.int _) .nil)); replace F := G) | (obtain ⟨B, G, dp7, sB⟩ := F.gvt10 (q := p7) (K := K) (.cons (.int _) (.cons (.int _) .nil)); replace F := G) | (obtain ⟨B, G, dp7, sB⟩ := F.gvt11 (q := p7) (K := K) (.cons (.int _) (.cons (.int _) .nil)); replace F := G) | (obtain ⟨B, G, dp7, sB⟩ := F.gvt12 (q := p7) (K := K) (.cons (.int _) (.cons (.int _) .nil)); replace F := G) | (obtain ⟨B, G, dp7, sB⟩ := F.gvt13 (q := p7) (K := K) (.cons (.int _) (.cons (.int _) .nil)); replace F := G) | (obtain ⟨B, G, dp7, sB⟩ := F.gvt14 (q := p7) (K := K) (.cons (.int _) (.cons (.int _) .nil)); replace F := G) | (obtain ⟨B, G, dp7, sB⟩ := F.gvt15 (q := p7) (K := K) (.cons (.int _) (.cons (.int _) .nil)); replace F := G) | (obtain ⟨B, G, dp7, sB⟩ := F.gvt16 (q := p7) (K := K) (.cons (.int _) (.cons (.int _) .nil)); replace F := G) | (obtain ⟨B, G, dp7, sB⟩ := F.gvt17 (q := p7) (K := K) (.cons (.int _) (.cons (.int _) .nil)); replace F := G) | (obtain ⟨B, G, dp7, sB⟩ := F.gvt18 (q := p7) (K := K) (.cons (.int _) (.cons (.int _) .nil)); replace F := G) | (obtain ⟨B, G, dp7, sB⟩ := F.gvt19 (q := p7) (K := K) (.cons (.int _) (.cons (.int _) .nil)); replace F := G) | (obtain ⟨B, G, dp7, sB⟩ := F.gvt20 (q := p7) (K := K) (.cons (.int _) (.cons (.int _) .nil)); replace F := G) | (obtain ⟨B, G, dp7, sB⟩ := F.gvt21 (q := p7) (K := K) (.cons (.int _) (.cons (.int _) .nil)); replace F := G) | (obtain ⟨B, G, dp7, sB⟩ := F.gvt22 (q := p7) (K := K) (.cons (.int _) (.cons (.int _) .nil)); replace F := G) | (obtain ⟨B, G, dp7, sB⟩ := F.gvt23 (q := p7) (K := K) (.cons (.int _) (.cons (.int _) .nil)); replace F := G) | (obtain ⟨B, G, dp7, sB⟩ := F.gvt24 (q := p7) (K := K) (.cons (.int _) (.cons (.int _) .nil)); replace F := G) | (obtain ⟨B, G, dp7, sB⟩ := F.gvt25 (q := p7) (K := K) (.cons (.int _) (.cons (.int _) .nil)); replace F := G) | (obtain ⟨B, G, dp7, sB⟩ := F.gvt26 (q := p7) (K := K) (.cons (.int _) (.cons (.int _) .nil)); replace F := G) | (obtain ⟨B, G, dp7, sB⟩ := F.gvt27 (q := p7) (K := K) (.cons (.int _) (.cons (.int _) .nil)); replace F := G) | (obtain ⟨B, G, dp7, sB⟩ := F.gvt28 (q := p7) (K := K) (.cons (.int _) (.cons (.int _) .nil)); replace F := G) | (obtain ⟨B, G, dp7, sB⟩ := F.gvt29 (q := p7) (K := K) (.cons (.int _) (.cons (.int _) .nil)); replace F := G) | (obtain ⟨B, G, dp7, sB⟩ := F.gvt30 (q := p7) (K := K) (.cons (.int _) (.cons (.int _) .nil)); replace F := G) | (obtain ⟨B, G, dp7, sB⟩ := F.gvt31 (q := p7) (K := K) (.cons (.int _) (.cons (.int _) .nil)); replace F := G) | (obtain ⟨B, G, dp7, sB⟩ := F.gvt32 (q := p7) (K := K) (.cons (.int _) (.cons (.int _) .nil)); replace F := G) | (obtain ⟨B, G, dp7, sB⟩ := F.gvt33 (q := p7) (K := K) (.cons (.int _) (.cons (.int _) .nil)); replace F := G) | (obtain ⟨B, G, dp7, sB⟩ := F.gvt34 (q := p7) (K := K) (.cons (.int _) (.cons (.int _) .nil)); replace F := G) | (obtain ⟨B, G, dp7, sB⟩ := F.gvt35 (q := p7) (K := K) (.cons (.int _) (.cons (.int _) .nil)); replace F := G)
      walk_at "back"
      refine q _ _ _ _ _ hG hA (Pu.mono (by assumption) (by omega)) (Ow.of_dt dp7 rfl rfl) (fun _ z => V.ref.inj z ▸ hp) ⟨?_, ?_, ?_⟩ ?_ ?_ <;> decide +kernel
    rcases List.mem_cons.mp hv with rfl | hv
    · skip
      first | have hp := F.nn0 (q := p8) | have hp := F.nn1 (q := p8) | have hp := F.nn2 (q := p8) | have hp := F.nn3 (q := p8) | have hp := F.nn4 (q := p8) | have hp := F.nn5 (q := p8) | have hp := F.nn6 (q := p8) | have hp := F.nn7 (q := p8) | have hp := F.nn8 (q := p8) | have hp := F.nn9 (q := p8) | have hp := F.nn10 (q := p8) | have hp := F.nn11 (q := p8) | have hp := F.nn12 (q := p8) | have hp := F.nn13 (q := p8) | have hp := F.nn14 (q := p8) | have hp := F.nn15 (q := p8) | have hp := F.nn16 (q := p8) | have hp := F.nn17 (q := p8) | have hp := F.nn18 (q := p8) | have hp := F.nn19 (q := p8) | have hp := F.nn20 (q := p8) | have hp := F.nn21 (q := p8) | have hp := F.nn22 (q := p8) | have hp := F.nn23 (q := p8) | have hp := F.nn24 (q := p8) | have hp := F.nn25 (q := p8) | have hp := F.nn26 (q := p8) | have hp := F.nn27 (q := p8) | have hp := F.nn28 (q := p8) | have hp := F.nn29 (q := p8) | have hp := F.nn30 (q := p8) | have hp := F.nn31 (q := p8) | have hp := F.nn32 (q := p8) | have hp := F.nn33 (q := p8) | have hp := F.nn34 (q := p8) | have hp := F.nn35 (q := p8)
      first | (obtain ⟨B, G, dp8, sB⟩ := F.gvt0 (q := p8) (K := K) (.cons (.int _) (.cons (.int _) .nil)); replace F := G) | (obtain ⟨B, G, dp8, sB⟩ := F.gvt1 (q := p8) (K := K) (.cons (.int _) (.cons (.int _) .nil)); replace F := G) | (obtain ⟨B, G, dp8, sB⟩ := F.gvt2 (q := p8) (K := K) (.cons (.int _) (.cons (.int _) .nil)); replace F := G) | (obtain ⟨B, G, dp8, sB⟩ := F.gvt3 (q := p8) (K := K) (.cons (.int _) (.cons (.int _) .nil)); replace F := G) | (obtain ⟨B, G, dp8, sB⟩ := F.gvt4 (q := p8) (K := K) (.cons (.int _) (.cons (.int _) .nil)); replace F := G) | (obtain ⟨B, G, dp8, sB⟩ := F.gvt5 (q := p8) (K := K) (.cons (.int _) (.cons (.int _) .nil)); replace F := G) | (obtain ⟨B, G, dp8, sB⟩ := F.gvt6 (q := p8) (K := K) (.cons (.int _) (.cons (.int _) .nil)); replace F := G) | (obtain ⟨B, G, dp8, sB⟩ := F.gvt7 (q := p8) (K := K) (.cons (.int _) (.cons (.int _) .nil)); replace F := G) | (obtain ⟨B, G, dp8, sB⟩ := F.gvt8 (q := p8) (K := K) (.cons (.int _) (.cons (.int _) .nil)); replace F := G) | (obtain ⟨B, G, dp8, sB⟩ := F.gvt9 (q := p8) (K := K) (.cons (.int _) (.cons (.int _) .nil)); replace F := G) | (obtain ⟨B, G, dp8, sB⟩ := F.gvt10 (q := p8) (K := K) (.cons (.int _) (.cons (.int _) .nil)); replace F := G) | (obtain ⟨B, G, dp8, sB⟩ := F.gvt11 (q := p8) (K := K) (.cons (.int _) (.cons (.int _) .nil)); replace F := G) | (obtain ⟨B, G, dp8, sB⟩ := F.gvt12 (q := p8) (K := K) (.cons (.int _) (.cons (.int _) .nil)); replace F := G) | (obtain ⟨B, G, dp8, sB⟩ := F.gvt13 (q := p8) (K := K) (.cons (.int _) (.cons (.int _) .nil)); replace F := G) | (obtain ⟨B, G, dp8, sB⟩ := F.gvt14 (q := p8) (K := K) (.cons (.int _) (.cons (.int _) .nil)); replace F := G) | (obtain ⟨B, G, dp8, sB⟩ := F.gvt15 (q := p8) (K := K) (.cons (.int _) (.cons (.int _) .nil)); replace F := G) | (obtain ⟨B, G, dp8, sB⟩ := F.gvt16 (q := p8) (K := K) (.cons (.int _) (.cons (.int _) .nil)); replace F := G) | (obtain ⟨B, G, dp8, sB⟩ := F.gvt17 (q := p8) (K := K) (.cons (.int _) (.cons (.int _) .nil)); replace F := G) | (obtain ⟨B, G, dp8, sB⟩ := F.gvt18 (q := p8) (K := K) (.cons (.int _) (.cons (.int _) .nil)); replace F := G) | (obtain ⟨B, G, dp8, sB⟩ := F.gvt19 (q := p8) (K := K) (.cons (.int _) (.cons (.int _) .nil)); replace F := G) | (obtain ⟨B, G, dp8, sB⟩ := F.gvt20 (q := p8) (K := K) (.cons (.int _) (.cons (.int _) .nil)); replace F := G) | (obtain ⟨B, G, dp8, sB⟩ := F.gvt21 (q := p8) (K := K) (.cons (.int _) (.cons (.int _) .nil)); replace F := G) | (obtain ⟨B, G, dp8, sB⟩ := F.gvt22 (q := p8) (K := K) (.cons (.int _) (.cons (.int _) .nil)); replace F := G) | (obtain ⟨B, G, dp8, sB⟩ := F.gvt23 (q := p8) (K := K) (.cons (.int _) (.cons (.int _) .nil)); replace F := G) | (obtain ⟨B, G, dp8, sB⟩ := F.gvt24 (q := p8) (K := K) (.cons (.int _) (.cons (.int _) .nil)); replace F := G) | (obtain ⟨B, G, dp8, sB⟩ := F.gvt25 (q := p8) (K := K) (.cons (.int _) (.cons (.int _) .nil)); replace F := G) | (obtain ⟨B, G, dp8, sB⟩ := F.gvt26 (q := p8) (K := K) (.cons (.int _) (.cons (.int _) .nil)); replace F := G) | (obtain ⟨B, G, dp8, sB⟩ := F.gvt27 (q := p8) (K := K) (.cons (.int _) (.cons (.int _) .nil)); replace F := G) | (obtain ⟨B, G, dp8, sB⟩ := F.gvt28 (q := p8) (K := K) (.cons (.int _) (.cons (.int _) .nil)); replace F := G) | (obtain ⟨B, G, dp8, sB⟩ := F.gvt29 (q := p8) (K := K) (.cons (.int _) (.cons (.int _) .nil)); replace F := G) | (obtain ⟨B, G, dp8, sB⟩ := F.gvt30 (q := p8) (K := K) (.cons (.int _) (.cons (.int _) .nil)); replace F := G) | (obtain ⟨B, G, dp8, sB⟩ := F.gvt31 (q := p8) (K := K) (.cons (.int _) (.cons (.int _) .nil)); replace F := G) | (obtain ⟨B, G, dp8, sB⟩ := F.gvt32 (q := p8) (K := K) (.cons (.int _) (.cons (.int _) .nil)); replace F := G) | (obtain ⟨B, G, dp8, sB⟩ := F.gvt33 (q := p8) (K := K) (.cons (.int _) (.cons (.int _) .nil)); replace F := G) | (obtain ⟨B, G, dp8, sB⟩ := F.gvt34 (q := p8) (K := K) (.cons (.int _) (.cons (.int _) .nil)); replace F := G) | (obtain ⟨B, G, dp8, sB⟩ := F.gvt35 (q := p8) (K := K) (.cons (.int _) (.cons (.int _) .nil)); replace F := G)
      walk_at "back"
      refine q _ _ _ _ _ hG hA (Pu.mono (by assumption) (by omega)) (Ow.of_dt dp8 rfl rfl) (fun _ z => V.ref.inj z ▸ hp) ⟨?_, ?_, ?_⟩ ?_ ?_ <;> decide +kernel
    rcases List.mem_cons.mp hv with rfl | hv
    · skip
      first | have hp := F.nn0 (q := p9) | have hp := F.nn1 (q := p9) | have hp := F.nn2 (q := p9) | have hp := F.nn3 (q := p9) | have hp := F.nn4 (q := p9) | have hp := F.nn5 (q := p9) | have hp := F.nn6 (q := p9) | have hp := F.nn7 (q := p9) | have hp := F.nn8 (q := p9) | have hp := F.nn9 (q := p9) | have hp := F.nn10 (q := p9) | have hp := F.nn11 (q := p9) | have hp := F.nn12 (q := p9) | have hp := F.nn13 (q := p9) | have hp := F.nn14 (q := p9) | have hp := F.nn15 (q := p9) | have hp := F.nn16 (q := p9) | have hp := F.nn17 (q := p9) | have hp := F.nn18 (q := p9) | have hp := F.nn19 (q := p9) | have hp := F.nn20 (q := p9) | have hp := F.nn21 (q := p9) | have hp := F.nn22 (q := p9) | have hp := F.nn23 (q := p9) | have hp := F.nn24 (q := p9) | have hp := F.nn25 (q := p9) | have hp := F.nn26 (q := p9) | have hp := F.nn27 (q := p9) | have hp := F.nn28 (q := p9) | have hp := F.nn29 (q := p9) | have hp := F.nn30 (q := p9) | have hp := F.nn31 (q := p9) | have hp := F.nn32 (q := p9) | have hp := F.nn33 (q := p9) | have hp := F.nn34 (q := p9) | have hp := F.nn35 (q := p9)
      first | (obtain ⟨B, G, dp9, sB⟩ := F.gvt0 (q := p9) (K := K) (.cons (.int _) (.cons (.int _) .nil)); replace F := G) | (obtain ⟨B, G, dp9, sB⟩ := F.gvt1 (q := p9) (K := K) (.cons (.int _) (.cons (.int _) .nil)); replace F := G) | (obtain ⟨B, G, dp9, sB⟩ := F.gvt2 (q := p9) (K := K) (.cons (.int _) (.cons (.int _) .nil)); replace F := G) | (obtain ⟨B, G, dp9, sB⟩ := F.gvt3 (q := p9) (K := K) (.cons (.int _) (.cons (.int _) .nil)); replace F := G) | (obtain ⟨B, G, dp9, sB⟩ := F.gvt4 (q := p9) (K := K) (.cons (.int _) (.cons (.int _) .nil)); replace F := G) | (obtain ⟨B, G, dp9, sB⟩ := F.gvt5 (q := p9) (K := K) (.cons (.int _) (.cons (.int _) .nil)); replace F := G) | (obtain ⟨B, G, dp9, sB⟩ := F.gvt6 (q := p9) (K := K) (.cons (.int _) (.cons (.int _) .nil)); replace F := G) | (obtain ⟨B, G, dp9, sB⟩ := F.gvt7 (q := p9) (K := K) (.cons (.int _) (.cons (.int _) .nil)); replace F := G) | (obtain ⟨B, G, dp9, sB⟩ := F.gvt8 (q := p9) (K := K) (.cons (.int _) (.cons (.int _) .nil)); replace F := G) | (obtain ⟨B, G, dp9, sB⟩ := F.gvt9 (q := p9) (K := K) (.cons (.int _) (.cons (.int _) .nil)); replace F := G) | (obtain ⟨B, G, dp9, sB⟩ := F.gvt10 (q := p9) (K := K) (.cons (.int _) (.cons (.int _) .nil)); replace F := G) | (obtain ⟨B, G, dp9, sB⟩ := F.gvt11 (q := p9) (K := K) (.cons (.int _) (.cons (.int _) .nil)); replace F := G) | (obtain ⟨B, G, dp9, sB⟩ := F.gvt12 (q := p9) (K := K) (.cons (.int _) (.cons (.int _) .nil)); replace F := G) | (obtain ⟨B, G, dp9, sB⟩ := F.gvt13 (q := p9) (K := K) (.cons (.int _) (.cons (.int _) .nil)); replace F := G) | (obtain ⟨B, G, dp9, sB⟩ := F.gvt14 (q := p9) (K := K) (.cons (.int _) (.cons (.int _) .nil)); replace F := G) | (obtain ⟨B, G, dp9, sB⟩ := F.gvt15 (q := p9) (K := K) (.cons (.int _) (.cons (.int _) .nil)); replace F := G) | (obtain ⟨B, G, dp9, sB⟩ := F.gvt16 (q := p9) (K := K) (.cons (.int _) (.cons (.int _) .nil)); replace F := G) | (obtain ⟨B, G, dp9, sB⟩ := F.gvt17 (q := p9) (K := K) (.cons (.int _) (.cons (.int _) .nil)); replace F := G) | (obtain ⟨B, G, dp9, sB⟩ := F.gvt18 (q := p9) (K := K) (.cons (.int _) (.cons (.int _) .nil)); replace F := G) | (obtain ⟨B, G, dp9, sB⟩ := F.gvt19 (q := p9) (K := K) (.cons (.int _) (.cons (.int _) .nil)); replace F := G) | (obtain ⟨B, G, dp9, sB⟩ := F.gvt20 (q := p9) (K := K) (.cons (.int _) (.cons (.int _) .nil)); replace F := G) | (obtain ⟨B, G, dp9, sB⟩ := F.gvt21 (q := p9) (K := K) (.cons (.int _) (.cons (.int _) .nil)); replace F := G) | (obtain ⟨B, G, dp9, sB⟩ := F.gvt22 (q := p9) (K := K) (.cons (.int _) (.cons (.int _) .nil)); replace F := G) | (obtain ⟨B, G, dp9, sB⟩ := F.gvt23 (q := p9) (K := K) (.cons (.int _) (.cons (.int _) .nil)); replace F := G) | (obtain ⟨B, G, dp9, sB⟩ := F.gvt24 (q := p9) (K := K) (.cons (.int _) (.cons (.int _) .nil)); replace F := G) | (obtain ⟨B, G, dp9, sB⟩ := F.gvt25 (q := p9) (K := K) (.cons (.int _) (.cons (.int _) .nil)); replace F := G) | (obtain ⟨B, G, dp9, sB⟩ := F.gvt26 (q := p9) (K := K) (.cons (.int _) (.cons (.int _) .nil)); replace F := G) | (obtain ⟨B, G, dp9, sB⟩ := F.gvt27 (q := p9) (K := K) (.cons (.int _) (.cons (.int _) .nil)); replace F := G) | (obtain ⟨B, G, dp9, sB⟩ := F.gvt28 (q := p9) (K := K) (.cons (.int _) (.cons (.int _) .nil)); replace F := G) | (obtain ⟨B, G, dp9, sB⟩ := F.gvt29 (q := p9) (K := K) (.cons (.int _) (.cons (.int _) .nil)); replace F := G) | (obtain ⟨B, G, dp9, sB⟩ := F.gvt30 (q := p9) (K := K) (.cons (.int _) (.cons (.int _) .nil)); replace F := G) | (obtain ⟨B, G, dp9, sB⟩ := F.gvt31 (q := p9) (K := K) (.cons (.int _) (.cons (.int _) .nil)); replace F := G) | (obtain ⟨B, G, dp9, sB⟩ := F.gvt32 (q := p9) (K := K) (.cons (.int _) (.cons (.int _) .nil)); replace F := G) | (obtain ⟨B, G, dp9, sB⟩ := F.gvt33 (q := p9) (K := K) (.cons (.int _) (.cons (.int _) .nil)); replace F := G) | (obtain ⟨B, G, dp9, sB⟩ := F.gvt34 (q := p9) (K := K) (.cons (.int _) (.cons (.int _) .nil)); replace F := G) | (obtain ⟨B, G, dp9, sB⟩ := F.gvt35 (q := p9) (K := K) (.cons (.int _) (.cons (.int _) .nil)); replace F := G)
      walk_at "back"
      refine q _ _ _ _ _ hG hA (Pu.mono (by assumption) (by omega)) (Ow.of_dt dp9 rfl rfl) (fun _ z => V.ref.inj z ▸ hp) ⟨?_, ?_, ?_⟩ ?_ ?_ <;> decide +kernel
    rcases List.mem_cons.mp hv with rfl | hv
    · skip
      first | have hp := F.nn0 (q := p10) | have hp := F.nn1 (q := p10) | have hp := F.nn2 (q := p10) | have hp := F.nn3 (q := p10) | have hp := F.nn4 (q := p10) | have hp := F.nn5 (q := p10) | have hp := F.nn6 (q := p10) | have hp := F.nn7 (q := p10) | have hp := F.nn8 (q := p10) | have hp := F.nn9 (q := p10) | have hp := F.nn10 (q := p10) | have hp := F.nn11 (q := p10) | have hp := F.nn12 (q := p10) | have hp := F.nn13 (q := p10) | have hp := F.nn14 (q := p10) | have hp := F.nn15 (q := p10) | have hp := F.nn16 (q := p10) | have hp := F.nn17 (q := p10) | have hp := F.nn18 (q := p10) | have hp := F.nn19 (q := p10) | have hp := F.nn20 (q := p10) | have hp := F.nn21 (q := p10) | have hp := F.nn22 (q := p10) | have hp := F.nn23 (q := p10) | have hp := F.nn24 (q := p10) | have hp := F.nn25 (q := p10) | have hp := F.nn26 (q := p10) | have hp := F.nn27 (q := p10) | have hp := F.nn28 (q := p10) | have hp := F.nn29 (q := p10) | have hp := F.nn30 (q := p10) | have hp := F.nn31 (q := p10) | have hp := F.nn32 (q := p10) | have hp := F.nn33 (q := p10) | have hp := F.nn34 (q := p10) | have hp := F.nn35 (q := p10)
      first | (obtain ⟨B, G, dp10, sB⟩ := F.gvt0 (q := p10) (K := K) (.cons (.int _) (.cons (.int _) .nil)); replace F := G) | (obtain ⟨B, G, dp10, sB⟩ := F.gvt1 (q := p10) (K := K) (.cons (.int _) (.cons (.int _) .nil)); replace F := G) | (obtain ⟨B, G, dp10, sB⟩ := F.gvt2 (q := p10) (K := K) (.cons (.int _) (.cons (.int _) .nil)); replace F := G) | (obtain ⟨B, G, dp10, sB⟩ := F.gvt3 (q := p10) (K := K) (.cons (.int _) (.cons (.int _) .nil)); replace F := G) | (obtain ⟨B, G, dp10, sB⟩ := F.gvt4 (q := p10) (K := K) (.cons (.int _) (.cons (.int _) .nil)); replace F := G) | (obtain ⟨B, G, dp10, sB⟩ := F.gvt5 (q := p10) (K := K) (.cons (.int _) (.cons (.int _) .nil)); replace F := G) | (obtain ⟨B, G, dp10, sB⟩ := F.gvt6 (q := p10) (K := K) (.cons (.int _) (.cons (.int _) .nil)); replace F := G) | (obtain ⟨B, G, dp10, sB⟩ := F.gvt7 (q := p10) (K := K) (.cons (.int _) (.cons (.int _) .nil)); replace F := G) | (obtain ⟨B, G, dp10, sB⟩ := F.gvt8 (q := p10) (K := K) (.cons (.int _) (.cons (.int _) .nil)); replace F := G) | (obtain ⟨B, G, dp10, sB⟩ := F.gvt9 (q := p10) (K := K) (.cons (.int _) (.cons (.int _) .nil)); replace F := G) | (obtain ⟨B, G, dp10, sB⟩ := F.gvt10 (q := p10) (K := K) (.cons (.int _) (.cons (.int _) .nil)); replace F := G) | (obtain ⟨B, G, dp10, sB⟩ := F.gvt11 (q := p10) (K := K) (.cons (.int _) (.cons (.int _) .nil)); replace F := G) | (obtain ⟨B, G, dp10, sB⟩ := F.gvt12 (q := p10) (K := K) (.cons (.int _) (.cons (.int _) .nil)); replace F := G) | (obtain ⟨B, G, dp10, sB⟩ := F.gvt13 (q := p10) (K := K) (.cons (.int _) (.cons (.int _) .nil)); replace F := G) | (obtain ⟨B, G, dp10, sB⟩ := F.gvt14 (q := p10) (K := K) (.cons (.int _) (.cons (.int _) .nil)); replace F := G) | (obtain ⟨B, G, dp10, sB⟩ := F.gvt15 (q := p10) (K := K) (.cons (.int _) (.cons (.int _) .nil)); replace F := G) | (obtain ⟨B, G, dp10, sB⟩ := F.gvt16 (q := p10) (K := K) (.cons (.int _) (.cons (.int _) .nil)); replace F := G) | (obtain ⟨B, G, dp10, sB⟩ := F.gvt17 (q := p10) (K := K) (.cons (.int _) (.cons (.int _) .nil)); replace F := G) | (obtain ⟨B, G, dp10, sB⟩ := F.gvt18 (q := p10) (K := K) (.cons (.int _) (.cons (.int _) .nil)); replace F := G) | (obtain ⟨B, G, dp10, sB⟩ := F.gvt19 (q := p10) (K := K) (.cons (.int _) (.cons (.int _) .nil)); replace F := G) | (obtain ⟨B, G, dp10, sB⟩ := F.gvt20 (q := p10) (K := K) (.cons (.int _) (.cons (.int _) .nil)); replace F := G) | (obtain ⟨B, G, dp10, sB⟩ := F.gvt21 (q := p10) (K := K) (.cons (.int _) (.cons (.int _) .nil)); replace F := G) | (obtain ⟨B, G, dp10, sB⟩ := F.gvt22 (q := p10) (K := K) (.cons (.int _) (.cons (.int _) .nil)); replace F := G) | (obtain ⟨B, G, dp10, sB⟩ := F.gvt23 (q := p10) (K := K) (.cons (.int _) (.cons (.int _) .nil)); replace F := G) | (obtain ⟨B, G, dp10, sB⟩ := F.gvt24 (q := p10) (K := K) (.cons (.int _) (.cons (.int _) .nil)); replace F := G) | (obtain ⟨B, G, dp10, sB⟩ := F.gvt25 (q := p10) (K := K) (.cons (.int _) (.cons (.int _) .nil)); replace F := G) | (obtain ⟨B, G, dp10, sB⟩ := F.gvt26 (q := p10) (K := K) (.cons (.int _) (.cons (.int _) .nil)); replace F := G) | (obtain ⟨B, G, dp10, sB⟩ := F.gvt27 (q := p10) (K := K) (.cons (.int _) (.cons (.int _) .nil)); replace F := G) | (obtain ⟨B, G, dp10, sB⟩ := F.gvt28 (q := p10) (K := K) (.cons (.int _) (.cons (.int _) .nil)); replace F := G) | (obtain ⟨B, G, dp10, sB⟩ := F.gvt29 (q := p10) (K := K) (.cons (.int _) (.cons (.int _) .nil)); replace F := G) | (obtain ⟨B, G, dp10, sB⟩ := F.gvt30 (q := p10) (K := K) (.cons (.int _) (.cons (.int _) .nil)); replace F := G) | (obtain ⟨B, G, dp10, sB⟩ := F.gvt31 (q := p10) (K := K) (.cons (.int _) (.cons (.int _) .nil)); replace F := G) | (obtain ⟨B, G, dp10, sB⟩ := F.gvt32 (q := p10) (K := K) (.cons (.int _) (.cons (.int _) .nil)); replace F := G) | (obtain ⟨B, G, dp10, sB⟩ := F.gvt33 (q := p10) (K := K) (.cons (.int _) (.cons (.int _) .nil)); replace F := G) | (obtain ⟨B, G, dp10, sB⟩ := F.gvt34 (q := p10) (K := K) (.cons (.int _) (.cons (.int _) .nil)); replace F := G) | (obtain ⟨B, G, dp10, sB⟩ := F.gvt35 (q := p10) (K := K) (.cons (.int _) (.cons (.int _) .nil)); replace F := G)
      walk_at "back"
      refine q _ _ _ _ _ hG hA (Pu.mono (by assumption) (by omega)) (Ow.of_dt dp10 rfl rfl) (fun _ z => V.ref.inj z ▸ hp) ⟨?_, ?_, ?_⟩ ?_ ?_ <;> decide +kernel
    rcases List.mem_cons.mp hv with rfl | hv
    · skip
      first | have hp := F.nn0 (q := p11) | have hp := F.nn1 (q := p11) | have hp := F.nn2 (q := p11) | have hp := F.nn3 (q := p11) | have hp := F.nn4 (q := p11) | have hp := F.nn5 (q := p11) | have hp := F.nn6 (q := p11) | have hp := F.nn7 (q := p11) | have hp := F.nn8 (q := p11) | have hp := F.nn9 (q := p11) | have hp := F.nn10 (q := p11) | have hp := F.nn11 (q := p11) | have hp := F.nn12 (q := p11) | have hp := F.nn13 (q := p11) | have hp := F.nn14 (q := p11) | have hp := F.nn15 (q := p11) | have hp := F.nn16 (q := p11) | have hp := F.nn17 (q := p11) | have hp := F.nn18 (q := p11) | have hp := F.nn19 (q := p11) | have hp := F.nn20 (q := p11) | have hp := F.nn21 (q := p11) | have hp := F.nn22 (q := p11) | have hp := F.nn23 (q := p11) | have hp := F.nn24 (q := p11) | have hp := F.nn25 (q := p11) | have hp := F.nn26 (q := p11) | have hp := F.nn27 (q := p11) | have hp := F.nn28 (q := p11) | have hp := F.nn29 (q := p11) | have hp := F.nn30 (q := p11) | have hp := F.nn31 (q := p11) | have hp := F.nn32 (q := p11) | have hp := F.nn33 (q := p11) | have hp := F.nn34 (q := p11) | have hp := F.nn35 (q := p11)
      first | (obtain ⟨B, G, dp11, sB⟩ := F.gvt0 (q := p11) (K := K) (.cons (.bl _) (.cons (.int _) .nil)); replace F := G) | (obtain ⟨B, G, dp11, sB⟩ := F.gvt1 (q := p11) (K := K) (.cons (.bl _) (.cons (.int _) .nil)); replace F := G) | (obtain ⟨B, G, dp11, sB⟩ := F.gvt2 (q := p11) (K := K) (.cons (.bl _) (.cons (.int _) .nil)); replace F := G) | (obtain ⟨B, G, dp11, sB⟩ := F.gvt3 (q := p11) (K := K) (.cons (.bl _) (.cons (.int _) .nil)); replace F := G) | (obtain ⟨B, G, dp11, sB⟩ := F.gvt4 (q := p11) (K := K) (.cons (.bl _) (.cons (.int _) .nil)); replace F := G) | (obtain ⟨B, G, dp11, sB⟩ := F.gvt5 (q := p11) (K := K) (.cons (.bl _) (.cons (.int _) .nil)); replace F := G) | (obtain ⟨B, G, dp11, sB⟩ := F.gvt6 (q := p11) (K := K) (.cons (.bl _) (.cons (.int _) .nil)); replace F := G) | (obtain ⟨B, G, dp11, sB⟩ := F.gvt7 (q := p11) (K := K) (.cons (.bl _) (.cons (.int _) .nil)); replace F := G) | (obtain ⟨B, G, dp11, sB⟩ := F.gvt8 (q := p11) (K := K) (.cons (.bl _) (.cons (.int _) .nil)); replace F := G) | (obtain ⟨B, G, dp11, sB⟩ := F.gvt9 (q := p11) (K := K) (.cons (.bl _) (.cons (.int _) .nil)); replace F := G) | (obtain ⟨B, G, dp11, sB⟩ := F.gvt10 (q := p11) (K := K) (.cons (.bl _) (.cons (.int _) .nil)); replace F := G) | (obtain ⟨B, G, dp11, sB⟩ := F.gvt11 (q := p11) (K := K) (.cons (.bl _) (.cons (.int _) .nil)); replace F := G) | (obtain ⟨B, G, dp11, sB⟩ := F.gvt12 (q := p11) (K := K) (.cons (.bl _) (.cons (.int _) .nil)); replace F := G) | (obtain ⟨B, G, dp11, sB⟩ := F.gvt13 (q := p11) (K := K) (.cons (.bl _) (.cons (.int _) .nil)); replace F := G) | (obtain ⟨B, G, dp11, sB⟩ := F.gvt14 (q := p11) (K := K) (.cons (.bl _) (.cons (.int _) .nil)); replace F := G) | (obtain ⟨B, G, dp11, sB⟩ := F.gvt15 (q := p11) (K := K) (.cons (.bl _) (.cons (.int _) .nil)); replace F := G) | (obtain ⟨B, G, dp11, sB⟩ := F.gvt16 (q := p11) (K := K) (.cons (.bl _) (.cons (.int _) .nil)); replace F := G) | (obtain ⟨B, G, dp11, sB⟩ := F.gvt17 (q := p11) (K := K) (.cons (.bl _) (.cons (.int _) .nil)); replace F := G) | (obtain ⟨B, G, dp11, sB⟩ := F.gvt18 (q := p11) (K := K) (.cons (.bl _) (.cons (.int _) .nil)); replace F := G) | (obtain ⟨B, G, dp11, sB⟩ := F.gvt19 (q := p11) (K := K) (.cons (.bl _) (.cons (.int _) .nil)); replace F := G) | (obtain ⟨B, G, dp11, sB⟩ := F.gvt20 (q := p11) (K := K) (.cons (.bl _) (.cons (.int _) .nil)); replace F := G) | (obtain ⟨B, G, dp11, sB⟩ := F.gvt21 (q := p11) (K := K) (.cons (.bl _) (.cons (.int _) .nil)); replace F := G) | (obtain ⟨B, G, dp11, sB⟩ := F.gvt22 (q := p11) (K := K) (.cons (.bl _) (.cons (.int _) .nil)); replace F := G) | (obtain ⟨B, G, dp11, sB⟩ := F.gvt23 (q := p11) (K := K) (.cons (.bl _) (.cons (.int _) .nil)); replace F := G) | (obtain ⟨B, G, dp11, sB⟩ := F.gvt24 (q := p11) (K := K) (.cons (.bl _) (.cons (.int _) .nil)); replace F := G) | (obtain ⟨B, G, dp11, sB⟩ := F.gvt25 (q := p11) (K := K) (.cons (.bl _) (.cons (.int _) .nil)); replace F := G) | (obtain ⟨B, G, dp11, sB⟩ := F.gvt26 (q := p11) (K := K) (.cons (.bl _) (.cons (.int _) .nil)); replace F := G) | (obtain ⟨B, G, dp11, sB⟩ := F.gvt27 (q := p11) (K := K) (.cons (.bl _) (.cons (.int _) .nil)); replace F := G) | (obtain ⟨B, G, dp11, sB⟩ := F.gvt28 (q := p11) (K := K) (.cons (.bl _) (.cons (.int _) .nil)); replace F := G) | (obtain ⟨B, G, dp11, sB⟩ := F.gvt29 (q := p11) (K := K) (.cons (.bl _) (.cons (.int _) .nil)); replace F := G) | (obtain ⟨B, G, dp11, sB⟩ := F.gvt30 (q := p11) (K := K) (.cons (.bl _) (.cons (.int _) .nil)); replace F := G) | (obtain ⟨B, G, dp11, sB⟩ := F.gvt31 (q := p11) (K := K) (.cons (.bl _) (.cons (.int _) .nil)); replace F := G) | (obtain ⟨B, G, dp11, sB⟩ := F.gvt32 (q := p11) (K := K) (.cons (.bl _) (.cons (.int _) .nil)); replace F := G) | (obtain ⟨B, G, dp11, sB⟩ := F.gvt33 (q := p11) (K := K) (.cons (.bl _) (.cons (.int _) .nil)); replace F := G) | (obtain ⟨B, G, dp11, sB⟩ := F.gvt34 (q := p11) (K := K) (.cons (.bl _) (.cons (.int _) .nil)); replace F := G) | (obtain ⟨B, G, dp11, sB⟩ := F.gvt35 (q := p11) (K := K) (.cons (.bl _) (.cons (.int _) .nil)); replace F := G)
      walk_at "back"
      refine q _ _ _ _ _ hG hA (Pu.mono (by assumption) (by omega)) (Ow.of_dt dp11 rfl rfl) (fun _ z => V.ref.inj z ▸ hp) ⟨?_, ?_, ?_⟩ ?_ ?_ <;> decide +kernel
    rcases List.mem_cons.mp hv with rfl | hv
    · skip
      first | have hp := F.nn0 (q := p12) | have hp := F.nn1 (q := p12) | have hp := F.nn2 (q := p12) | have hp := F.nn3 (q := p12) | have hp := F.nn4 (q := p12) | have hp := F.nn5 (q := p12) | have hp := F.nn6 (q := p12) | have hp := F.nn7 (q := p12) | have hp := F.nn8 (q := p12) | have hp := F.nn9 (q := p12) | have hp := F.nn10 (q := p12) | have hp := F.nn11 (q := p12) | have hp := F.nn12 (q := p12) | have hp := F.nn13 (q := p12) | have hp := F.nn14 (q := p12) | have hp := F.nn15 (q := p12) | have hp := F.nn16 (q := p12) | have hp := F.nn17 (q := p12) | have hp := F.nn18 (q := p12) | have hp := F.nn19 (q := p12) | have hp := F.nn20 (q := p12) | have hp := F.nn21 (q := p12) | have hp := F.nn22 (q := p12) | have hp := F.nn23 (q := p12) | have hp := F.nn24 (q := p12) | have hp := F.nn25 (q := p12) | have hp := F.nn26 (q := p12) | have hp := F.nn27 (q := p12) | have hp := F.nn28 (q := p12) | have hp := F.nn29 (q := p12) | have hp := F.nn30 (q := p12) | have hp := F.nn31 (q := p12) | have hp := F.nn32 (q := p12) | have hp := F.nn33 (q := p12) | have hp := F.nn34 (q := p12) | have hp := F.nn35 (q := p12)
      walk_at "back"
      refine q _ _ _ _ _ hG hA (Pu.mono (by assumption) (by omega)) (Ow.list (by walk_at "n1") (by walk_at "own") (.cons (.int _) (.cons (.int _) .nil))) (fun _ z => V.ref.inj z ▸ hp) ⟨?_, ?_, ?_⟩ ?_ ?_ <;> decide +kernel
    rcases List.mem_cons.mp hv with rfl | hv
    · skip
      first | have hp := F.nn0 (q := p13) | have hp := F.nn1 (q := p13) | have hp := F.nn2 (q := p13) | have hp := F.nn3 (q := p13) | have hp := F.nn4 (q := p13) | have hp := F.nn5 (q := p13) | have hp := F.nn6 (q := p13) | have hp := F.nn7 (q := p13) | have hp := F.nn8 (q := p13) | have hp := F.nn9 (q := p13) | have hp := F.nn10 (q := p13) | have hp := F.nn11 (q := p13) | have hp := F.nn12 (q := p13) | have hp := F.nn13 (q := p13) | have hp := F.nn14 (q := p13) | have hp := F.nn15 (q := p13) | have hp := F.nn16 (q := p13) | have hp := F.nn17 (q := p13) | have hp := F.nn18 (q := p13) | have hp := F.nn19 (q := p13) | have hp := F.nn20 (q := p13) | have hp := F.nn21 (q := p13) | have hp := F.nn22 (q := p13) | have hp := F.nn23 (q := p13) | have hp := F.nn24 (q := p13) | have hp := F.nn25 (q := p13) | have hp := F.nn26 (q := p13) | have hp := F.nn27 (q := p13) | have hp := F.nn28 (q := p13) | have hp := F.nn29 (q := p13) | have hp := F.nn30 (q := p13) | have hp := F.nn31 (q := p13) | have hp := F.nn32 (q := p13) | have hp := F.nn33 (q := p13) | have hp := F.nn34 (q := p13) | have hp := F.nn35 (q := p13)
      first | (obtain ⟨B, G, dp13, sB⟩ := F.gvt0 (q := p13) (K := K) (.cons (.int _) (.cons (.int _) (.cons (.int _) .nil))); replace F := G) | (obtain ⟨B, G, dp13, sB⟩ := F.gvt1 (q := p13) (K := K) (.cons (.int _) (.cons (.int _) (.cons (.int _) .nil))); replace F := G) | (obtain ⟨B, G, dp13, sB⟩ := F.gvt2 (q := p13) (K := K) (.cons (.int _) (.cons (.int _) (.cons (.int _) .nil))); replace F := G) | (obtain ⟨B, G, dp13, sB⟩ := F.gvt3 (q := p13) (K := K) (.cons (.int _) (.cons (.int _) (.cons (.int _) .nil))); replace F := G) | (obtain ⟨B, G, dp13, sB⟩ := F.gvt4 (q := p13) (K := K) (.cons (.int _) (.cons (.int _) (.cons (.int _) .nil))); replace F := G) | (obtain ⟨B, G, dp13, sB⟩ := F.gvt5 (q := p13) (K := K) (.cons (.int _) (.cons (.int _) (.cons (.int _) .nil))); replace F := G) | (obtain ⟨B, G, dp13, sB⟩ := F.gvt6 (q := p13) (K := K) (.cons (.int _) (.cons (.int _) (.cons (.int _) .nil))); replace F := G) | (obtain ⟨B, G, dp13, sB⟩ := F.gvt7 (q := p13) (K := K) (.cons (.int _) (.cons (.int _) (.cons (.int _) .nil))); replace F := G) | (obtain ⟨B, G, dp13, sB⟩ := F.gvt8 (q := p13) (K := K) (.cons (.int _) (.cons (.int _) (.cons (.int _) .nil))); replace F := G) | (obtain ⟨B, G, dp13, sB⟩ := F.gvt9 (q := p13) (K := K) (.cons (.int _) (.cons (.int _) (.cons (.int _) .nil))); replace F := G) | (obtain ⟨B, G, dp13, sB⟩ := F.gvt10 (q := p13) (K := K) (.cons (.int _) (.cons (.int _) (.cons (.int _) .nil))); replace F := G) | (obtain ⟨B, G, dp13, sB⟩ := F.gvt11 (q := p13) (K := K) (.cons (.int _) (.cons (.int _) (.cons (.int _) .nil))); replace F := G) | (obtain ⟨B, G, dp13, sB⟩ := F.gvt12 (q := p13) (K := K) (.cons (.int _) (.cons (.int _) (.cons (.int _) .nil))); replace F := G) | (obtain ⟨B, G, dp13, sB⟩ := F.gvt13 (q := p13) (K := K) (.cons (.int _) (.cons (.int _) (.cons (.int _) .nil))); replace F := G) | (obtain ⟨B, G, dp13, sB⟩ := F.gvt14 (q := p13) (K := K) (.cons (.int _) (.cons (.int _) (.cons (.int _) .nil))); replace F := G) | (obtain ⟨B, G, dp13, sB⟩ := F.gvt15 (q := p13) (K := K) (.cons (.int _) (.cons (.int _) (.cons (.int _) .nil))); replace F := G) | (obtain ⟨B, G, dp13, sB⟩ := F.gvt16 (q := p13) (K := K) (.cons (.int _) (.cons (.int _) (.cons (.int _) .nil))); replace F := G) | (obtain ⟨B, G, dp13, sB⟩ := F.gvt17 (q := p13) (K := K) (.cons (.int _) (.cons (.int _) (.cons (.int _) .nil))); replace F := G) | (obtain ⟨B, G, dp13, sB⟩ := F.gvt18 (q := p13) (K := K) (.cons (.int _) (.cons (.int _) (.cons (.int _) .nil))); replace F := G) | (obtain ⟨B, G, dp13, sB⟩ := F.gvt19 (q := p13) (K := K) (.cons (.int _) (.cons (.int _) (.cons (.int _) .nil))); replace F := G) | (obtain ⟨B, G, dp13, sB⟩ := F.gvt20 (q := p13) (K := K) (.cons (.int _) (.cons (.int _) (.cons (.int _) .nil))); replace F := G) | (obtain ⟨B, G, dp13, sB⟩ := F.gvt21 (q := p13) (K := K) (.cons (.int _) (.cons (.int _) (.cons (.int _) .nil))); replace F := G) | (obtain ⟨B, G, dp13, sB⟩ := F.gvt22 (q := p13) (K := K) (.cons (.int _) (.cons (.int _) (.cons (.int _) .nil))); replace F := G) | (obtain ⟨B, G, dp13, sB⟩ := F.gvt23 (q := p13) (K := K) (.cons (.int _) (.cons (.int _) (.cons (.int _) .nil))); replace F := G) | (obtain ⟨B, G, dp13, sB⟩ := F.gvt24 (q := p13) (K := K) (.cons (.int _) (.cons (.int _) (.cons (.int _) .nil))); replace F := G) | (obtain ⟨B, G, dp13, sB⟩ := F.gvt25 (q := p13) (K := K) (.cons (.int _) (.cons (.int _) (.cons (.int _) .nil))); replace F := G) | (obtain ⟨B, G, dp13, sB⟩ := F.gvt26 (q := p13) (K := K) (.cons (.int _) (.cons (.int _) (.cons (.int _) .nil))); replace F := G) | (obtain ⟨B, G, dp13, sB⟩ := F.gvt27 (q := p13) (K := K) (.cons (.int _) (.cons (.int _) (.cons (.int _) .nil))); replace F := G) | (obtain ⟨B, G, dp13, sB⟩ := F.gvt28 (q := p13) (K := K) (.cons (.int _) (.cons (.int _) (.cons (.int _) .nil))); replace F := G) | (obtain ⟨B, G, dp13, sB⟩ := F.gvt29 (q := p13) (K := K) (.cons (.int _) (.cons (.int _) (.cons (.int _) .nil))); replace F := G) | (obtain ⟨B, G, dp13, sB⟩ := F.gvt30 (q := p13) (K := K) (.cons (.int _) (.cons (.int _) (.cons (.int _) .nil))); replace F := G) | (obtain ⟨B, G, dp13, sB⟩ := F.gvt31 (q := p13) (K := K) (.cons (.int _) (.cons (.int _) (.cons (.int _) .nil))); replace F := G) | (obtain ⟨B, G, dp13, sB⟩ := F.gvt32 (q := p13) (K := K) (.cons (.int _) (.cons (.int _) (.cons (.int _) .nil))); replace F := G) | (obtain ⟨B, G, dp13, sB⟩ := F.gvt33 (q := p13) (K := K) (.cons (.int _) (.cons (.int _) (.cons (.int _) .nil))); replace F := G) | (obtain ⟨B, G, dp13, sB⟩ := F.gvt34 (q := p13) (K := K) (.cons (.int _) (.cons (.int _) (.cons (.int _) .nil))); replace F := G) | (obtain ⟨B, G, dp13, sB⟩ := F.gvt35 (q := p13) (K := K) (.cons (.int _) (.cons (.int _) (.cons (.int _) .nil))); replace F := G)
      walk_at "back"
      refine q _ _ _ _ _ hG hA (Pu.mono (by assumption) (by omega)) (Ow.of_dt dp13 rfl rfl) (fun _ z => V.ref.inj z ▸ hp) ⟨?_, ?_, ?_⟩ ?_ ?_ <;> decide +kernel
    rcases List.mem_cons.mp hv with rfl | hv
    · skip
      first | have hp := F.nn0 (q := p14) | have hp := F.nn1 (q := p14) | have hp := F.nn2 (q := p14) | have hp := F.nn3 (q := p14) | have hp := F.nn4 (q := p14) | have hp := F.nn5 (q := p14) | have hp := F.nn6 (q := p14) | have hp := F.nn7 (q := p14) | have hp := F.nn8 (q := p14) | have hp := F.nn9 (q := p14) | have hp := F.nn10 (q := p14) | have hp := F.nn11 (q := p14) | have hp := F.nn12 (q := p14) | have hp := F.nn13 (q := p14) | have hp := F.nn14 (q := p14) | have hp := F.nn15 (q := p14) | have hp := F.nn16 (q := p14) | have hp := F.nn17 (q := p14) | have hp := F.nn18 (q := p14) | have hp := F.nn19 (q := p14) | have hp := F.nn20 (q := p14) | have hp := F.nn21 (q := p14) | have hp := F.nn22 (q := p14) | have hp := F.nn23 (q := p14) | have hp := F.nn24 (q := p14) | have hp := F.nn25 (q := p14) | have hp := F.nn26 (q := p14) | have hp := F.nn27 (q := p14) | have hp := F.nn28 (q := p14) | have hp := F.nn29 (q := p14) | have hp := F.nn30 (q := p14) | have hp := F.nn31 (q := p14) | have hp := F.nn32 (q := p14) | have hp := F.nn33 (q := p14) | have hp := F.nn34 (q := p14) | have hp := F.nn35 (q := p14)
      walk_at "back"
      refine q _ _ _ _ _ hG hA (Pu.mono (by assumption) (by omega)) (Ow.dict (by walk_at "n1") (by walk_at "own") .nil) (fun _ z => V.ref.inj z ▸ hp) ⟨?_, ?_, ?_⟩ ?_ ?_ <;> decide +kernel
    rcases List.mem_cons.mp hv with rfl | hv
    · skip
      first | have hp := F.nn0 (q := p15) | have hp := F.nn1 (q := p15) | have hp := F.nn2 (q := p15) | have hp := F.nn3 (q := p15) | have hp := F.nn4 (q := p15) | have hp := F.nn5 (q := p15) | have hp := F.nn6 (q := p15) | have hp := F.nn7 (q := p15) | have hp := F.nn8 (q := p15) | have hp := F.nn9 (q := p15) | have hp := F.nn10 (q := p15) | have hp := F.nn11 (q := p15) | have hp := F.nn12 (q := p15) | have hp := F.nn13 (q := p15) | have hp := F.nn14 (q := p15) | have hp := F.nn15 (q := p15) | have hp := F.nn16 (q := p15) | have hp := F.nn17 (q := p15) | have hp := F.nn18 (q := p15) | have hp := F.nn19 (q := p15) | have hp := F.nn20 (q := p15) | have hp := F.nn21 (q := p15) | have hp := F.nn22 (q := p15) | have hp := F.nn23 (q := p15) | have hp := F.nn24 (q := p15) | have hp := F.nn25 (q := p15) | have hp := F.nn26 (q := p15) | have hp := F.nn27 (q := p15) | have hp := F.nn28 (q := p15) | have hp := F.nn29 (q := p15) | have hp := F.nn30 (q := p15) | have hp := F.nn31 (q := p15) | have hp := F.nn32 (q := p15) | have hp := F.nn33 (q := p15) | have hp := F.nn34 (q := p15) | have hp := F.nn35 (q := p15)
      walk_at "back"
      refine q _ _ _ _ _ hG hA (Pu.mono (by assumption) (by omega)) (Ow.dict (by walk_at "n1") (by walk_at "own") (.cons (k := .inr "a") (.int _) .nil)) (fun _ z => V.ref.inj z ▸ hp) ⟨?_, ?_, ?_⟩ ?_ ?_ <;> decide +kernel
    rcases List.mem_cons.mp hv with rfl | hv
    · skip
      first | have hp := F.nn0 (q := p16) | have hp := F.nn1 (q := p16) | have hp := F.nn2 (q := p16) | have hp := F.nn3 (q := p16) | have hp := F.nn4 (q := p16) | have hp := F.nn5 (q := p16) | have hp := F.nn6 (q := p16) | have hp := F.nn7 (q := p16) | have hp := F.nn8 (q := p16) | have hp := F.nn9 (q := p16) | have hp := F.nn10 (q := p16) | have hp := F.nn11 (q := p16) | have hp := F.nn12 (q := p16) | have hp := F.nn13 (q := p16) | have hp := F.nn14 (q := p16) | have hp := F.nn15 (q := p16) | have hp := F.nn16 (q := p16) | have hp := F.nn17 (q := p16) | have hp := F.nn18 (q := p16) | have hp := F.nn19 (q := p16) | have hp := F.nn20 (q := p16) | have hp := F.nn21 (q := p16) | have hp := F.nn22 (q := p16) | have hp := F.nn23 (q := p16) | have hp := F.nn24 (q := p16) | have hp := F.nn25 (q := p16) | have hp := F.nn26 (q := p16) | have hp := F.nn27 (q := p16) | have hp := F.nn28 (q := p16) | have hp := F.nn29 (q := p16) | have hp := F.nn30 (q := p16) | have hp := F.nn31 (q := p16) | have hp := F.nn32 (q := p16) | have hp := F.nn33 (q := p16) | have hp := F.nn34 (q := p16) | have hp := F.nn35 (q := p16)
      walk_at "back"
      refine q _ _ _ _ _ hG hA (Pu.mono (by assumption) (by omega)) (Ow.dict (by walk_at "n1") (by walk_at "own") (.cons (k := .inl 7) (.non) .nil)) (fun _ z => V.ref.inj z ▸ hp) ⟨?_, ?_, ?_⟩ ?_ ?_ <;> decide +kernel
    rcases List.mem_cons.mp hv with rfl | hv
    · skip
      first | have hp := F.nn0 (q := p22) | have hp := F.nn1 (q := p22) | have hp := F.nn2 (q := p22) | have hp := F.nn3 (q := p22) | have hp := F.nn4 (q := p22) | have hp := F.nn5 (q := p22) | have hp := F.nn6 (q := p22) | have hp := F.nn7 (q := p22) | have hp := F.nn8 (q := p22) | have hp := F.nn9 (q := p22) | have hp := F.nn10 (q := p22) | have hp := F.nn11 (q := p22) | have hp := F.nn12 (q := p22) | have hp := F.nn13 (q := p22) | have hp := F.nn14 (q := p22) | have hp := F.nn15 (q := p22) | have hp := F.nn16 (q := p22) | have hp := F.nn17 (q := p22) | have hp := F.nn18 (q := p22) | have hp := F.nn19 (q := p22) | have hp := F.nn20 (q := p22) | have hp := F.nn21 (q := p22) | have hp := F.nn22 (q := p22) | have hp := F.nn23 (q := p22) | have hp := F.nn24 (q := p22) | have hp := F.nn25 (q := p22) | have hp := F.nn26 (q := p22) | have hp := F.nn27 (q := p22) | have hp := F.nn28 (q := p22) | have hp := F.nn29 (q := p22) | have hp := F.nn30 (q := p22) | have hp := F.nn31 (q := p22) | have hp := F.nn32 (q := p22) | have hp := F.nn33 (q := p22) | have hp := F.nn34 (q := p22) | have hp := F.nn35 (q := p22)
      first | (obtain ⟨B, G, dp18, sB⟩ := F.gvl0 (q := p18) (K := K) (.cons (.str _) .nil); replace F := G) | (obtain ⟨B, G, dp18, sB⟩ := F.gvl1 (q := p18) (K := K) (.cons (.str _) .nil); replace F := G) | (obtain ⟨B, G, dp18, sB⟩ := F.gvl2 (q := p18) (K := K) (.cons (.str _) .nil); replace F := G) | (obtain ⟨B, G, dp18, sB⟩ := F.gvl3 (q := p18) (K := K) (.cons (.str _) .nil); replace F := G) | (obtain ⟨B, G, dp18, sB⟩ := F.gvl4 (q := p18) (K := K) (.cons (.str _) .nil); replace F := G) | (obtain ⟨B, G, dp18, sB⟩ := F.gvl5 (q := p18) (K := K) (.cons (.str _) .nil); replace F := G) | (obtain ⟨B, G, dp18, sB⟩ := F.gvl6 (q := p18) (K := K) (.cons (.str _) .nil); replace F := G) | (obtain ⟨B, G, dp18, sB⟩ := F.gvl7 (q := p18) (K := K) (.cons (.str _) .nil); replace F := G) | (obtain ⟨B, G, dp18, sB⟩ := F.gvl8 (q := p18) (K := K) (.cons (.str _) .nil); replace F := G) | (obtain ⟨B, G, dp18, sB⟩ := F.gvl9 (q := p18) (K := K) (.cons (.str _) .nil); replace F := G) | (obtain ⟨B, G, dp18, sB⟩ := F.gvl10 (q := p18) (K := K) (.cons (.str _) .nil); replace F := G) | (obtain ⟨B, G, dp18, sB⟩ := F.gvl11 (q := p18) (K := K) (.cons (.str _) .nil); replace F := G) | (obtain ⟨B, G, dp18, sB⟩ := F.gvl12 (q := p18) (K := K) (.cons (.str _) .nil); replace F := G) | (obtain ⟨B, G, dp18, sB⟩ := F.gvl13 (q := p18) (K := K) (.cons (.str _) .nil); replace F := G) | (obtain ⟨B, G, dp18, sB⟩ := F.gvl14 (q := p18) (K := K) (.cons (.str _) .nil); replace F := G) | (obtain ⟨B, G, dp18, sB⟩ := F.gvl15 (q := p18) (K := K) (.cons (.str _) .nil); replace F := G) | (obtain ⟨B, G, dp18, sB⟩ := F.gvl16 (q := p18) (K := K) (.cons (.str _) .nil); replace F := G) | (obtain ⟨B, G, dp18, sB⟩ := F.gvl17 (q := p18) (K := K) (.cons (.str _) .nil); replace F := G) | (obtain ⟨B, G, dp18, sB⟩ := F.gvl18 (q := p18) (K := K) (.cons (.str _) .nil); replace F := G) | (obtain ⟨B, G, dp18, sB⟩ := F.gvl19 (q := p18) (K := K) (.cons (.str _) .nil); replace F := G) | (obtain ⟨B, G, dp18, sB⟩ := F.gvl20 (q := p18) (K := K) (.cons (.str _) .nil); replace F := G) | (obtain ⟨B, G, dp18, sB⟩ := F.gvl21 (q := p18) (K := K) (.cons (.str _) .nil); replace F := G) | (obtain ⟨B, G, dp18, sB⟩ := F.gvl22 (q := p18) (K := K) (.cons (.str _) .nil); replace F := G) | (obtain ⟨B, G, dp18, sB⟩ := F.gvl23 (q := p18) (K := K) (.cons (.str _) .nil); replace F := G) | (obtain ⟨B, G, dp18, sB⟩ := F.gvl24 (q := p18) (K := K) (.cons (.str _) .nil); replace F := G) | (obtain ⟨B, G, dp18, sB⟩ := F.gvl25 (q := p18) (K := K) (.cons (.str _) .nil); replace F := G) | (obtain ⟨B, G, dp18, sB⟩ := F.gvl26 (q := p18) (K := K) (.cons (.str _) .nil); replace F := G) | (obtain ⟨B, G, dp18, sB⟩ := F.gvl27 (q := p18) (K := K) (.cons (.str _) .nil); replace F := G) | (obtain ⟨B, G, dp18, sB⟩ := F.gvl28 (q := p18) (K := K) (.cons (.str _) .nil); replace F := G) | (obtain ⟨B, G, dp18, sB⟩ := F.gvl29 (q := p18) (K := K) (.cons (.str _) .nil); replace F := G) | (obtain ⟨B, G, dp18, sB⟩ := F.gvl30 (q := p18) (K := K) (.cons (.str _) .nil); replace F := G) | (obtain ⟨B, G, dp18, sB⟩ := F.gvl31 (q := p18) (K := K) (.cons (.str _) .nil); replace F := G) | (obtain ⟨B, G, dp18, sB⟩ := F.gvl32 (q := p18) (K := K) (.cons (.str _) .nil); replace F := G) | (obtain ⟨B, G, dp18, sB⟩ := F.gvl33 (q := p18) (K := K) (.cons (.str _) .nil); replace F := G) | (obtain ⟨B, G, dp18, sB⟩ := F.gvl34 (q := p18) (K := K) (.cons (.str _) .nil); replace F := G) | (obtain ⟨B, G, dp18, sB⟩ := F.gvl35 (q := p18) (K := K) (.cons (.str _) .nil); replace F := G)
      first | (obtain ⟨B, G, dp19, sB⟩ := F.gvl0 (q := p19) (K := K) (.cons dp18 .nil); replace F := G) | (obtain ⟨B, G, dp19, sB⟩ := F.gvl1 (q := p19) (K := K) (.cons dp18 .nil); replace F := G) | (obtain ⟨B, G, dp19, sB⟩ := F.gvl2 (q := p19) (K := K) (.cons dp18 .nil); replace F := G) | (obtain ⟨B, G, dp19, sB⟩ := F.gvl3 (q := p19) (K := K) (.cons dp18 .nil); replace F := G) | (obtain ⟨B, G, dp19, sB⟩ := F.gvl4 (q := p19) (K := K) (.cons dp18 .nil); replace F := G) | (obtain ⟨B, G, dp19, sB⟩ := F.gvl5 (q := p19) (K := K) (.cons dp18 .nil); replace F := G) | (obtain ⟨B, G, dp19, sB⟩ := F.gvl6 (q := p19) (K := K) (.cons dp18 .nil); replace F := G) | (obtain ⟨B, G, dp19, sB⟩ := F.gvl7 (q := p19) (K := K) (.cons dp18 .nil); replace F := G) | (obtain ⟨B, G, dp19, sB⟩ := F.gvl8 (q := p19) (K := K) (.cons dp18 .nil); replace F := G) | (obtain ⟨B, G, dp19, sB⟩ := F.gvl9 (q := p19) (K := K) (.cons dp18 .nil); replace F := G) | (obtain ⟨B, G, dp19, sB⟩ := F.gvl10 (q := p19) (K := K) (.cons dp18 .nil); replace F := G) | (obtain ⟨B, G, dp19, sB⟩ := F.gvl11 (q := p19) (K := K) (.cons dp18 .nil); replace F := G) | (obtain ⟨B, G, dp19, sB⟩ := F.gvl12 (q := p19) (K := K) (.cons dp18 .nil); replace F := G) | (obtain ⟨B, G, dp19, sB⟩ := F.gvl13 (q := p19) (K := K) (.cons dp18 .nil); replace F := G) | (obtain ⟨B, G, dp19, sB⟩ := F.gvl14 (q := p19) (K := K) (.cons dp18 .nil); replace F := G) | (obtain ⟨B, G, dp19, sB⟩ := F.gvl15 (q := p19) (K := K) (.cons dp18 .nil); replace F := G) | (obtain ⟨B, G, dp19, sB⟩ := F.gvl16 (q := p19) (K := K) (.cons dp18 .nil); replace F := G) | (obtain ⟨B, G, dp19, sB⟩ := F.gvl17 (q := p19) (K := K) (.cons dp18 .nil); replace F := G) | (obtain ⟨B, G, dp19, sB⟩ := F.gvl18 (q := p19) (K := K) (.cons dp18 .nil); replace F := G) | (obtain ⟨B, G, dp19, sB⟩ := F.gvl19 (q := p19) (K := K) (.cons dp18 .nil); replace F := G) | (obtain ⟨B, G, dp19, sB⟩ := F.gvl20 (q := p19) (K := K) (.cons dp18 .nil); replace F := G) | (obtain ⟨B, G, dp19, sB⟩ := F.gvl21 (q := p19) (K := K) (.cons dp18 .nil); replace F := G) | (obtain ⟨B, G, dp19, sB⟩ := F.gvl22 (q := p19) (K := K) (.cons dp18 .nil); replace F := G) | (obtain ⟨B, G, dp19, sB⟩ := F.gvl23 (q := p19) (K := K) (.cons dp18 .nil); replace F := G) | (obtain ⟨B, G, dp19, sB⟩ := F.gvl24 (q := p19) (K := K) (.cons dp18 .nil); replace F := G) | (obtain ⟨B, G, dp19, sB⟩ := F.gvl25 (q := p19) (K := K) (.cons dp18 .nil); replace F := G) | (obtain ⟨B, G, dp19, sB⟩ := F.gvl26 (q := p19) (K := K) (.cons dp18 .nil); replace F := G) | (obtain ⟨B, G, dp19, sB⟩ := F.gvl27 (q := p19) (K := K) (.cons dp18 .nil); replace F := G) | (obtain ⟨B, G, dp19, sB⟩ := F.gvl28 (q := p19) (K := K) (.cons dp18 .nil); replace F := G) | (obtain ⟨B, G, dp19, sB⟩ := F.gvl29 (q := p19) (K := K) (.cons dp18 .nil); replace F := G) | (obtain ⟨B, G, dp19, sB⟩ := F.gvl30 (q := p19) (K := K) (.cons dp18 .nil); replace F := G) | (obtain ⟨B, G, dp19, sB⟩ := F.gvl31 (q := p19) (K := K) (.cons dp18 .nil); replace F := G) | (obtain ⟨B, G, dp19, sB⟩ := F.gvl32 (q := p19) (K := K) (.cons dp18 .nil); replace F := G) | (obtain ⟨B, G, dp19, sB⟩ := F.gvl33 (q := p19) (K := K) (.cons dp18 .nil); replace F := G) | (obtain ⟨B, G, dp19, sB⟩ := F.gvl34 (q := p19) (K := K) (.cons dp18 .nil); replace F := G) | (obtain ⟨B, G, dp19, sB⟩ := F.gvl35 (q := p19) (K := K) (.cons dp18 .nil); replace F := G)
      replace dp18 := Dt.same sB dp18
      first | (obtain ⟨B, G, dp20, sB⟩ := F.gvl0 (q := p20) (K := K) (.cons dp19 .nil); replace F := G) | (obtain ⟨B, G, dp20, sB⟩ := F.gvl1 (q := p20) (K := K) (.cons dp19 .nil); replace F := G) | (obtain ⟨B, G, dp20, sB⟩ := F.gvl2 (q := p20) (K := K) (.cons dp19 .nil); replace F := G) | (obtain ⟨B, G, dp20, sB⟩ := F.gvl3 (q := p20) (K := K) (.cons dp19 .nil); replace F := G) | (obtain ⟨B, G, dp20, sB⟩ := F.gvl4 (q := p20) (K := K) (.cons dp19 .nil); replace F := G) | (obtain ⟨B, G, dp20, sB⟩ := F.gvl5 (q := p20) (K := K) (.cons dp19 .nil); replace F := G) | (obtain ⟨B, G, dp20, sB⟩ := F.gvl6 (q := p20) (K := K) (.cons dp19 .nil); replace F := G) | (obtain ⟨B, G, dp20, sB⟩ := F.gvl7 (q := p20) (K := K) (.cons dp19 .nil); replace F := G) | (obtain ⟨B, G, dp20, sB⟩ := F.gvl8 (q := p20) (K := K) (.cons dp19 .nil); replace F := G) | (obtain ⟨B, G, dp20, sB⟩ := F.gvl9 (q := p20) (K := K) (.cons dp19 .nil); replace F := G) | (obtain ⟨B, G, dp20, sB⟩ := F.gvl10 (q := p20) (K := K) (.cons dp19 .nil); replace F := G) | (obtain ⟨B, G, dp20, sB⟩ := F.gvl11 (q := p20) (K := K) (.cons dp19 .nil); replace F := G) | (obtain ⟨B, G, dp20, sB⟩ := F.gvl12 (q := p20) (K := K) (.cons dp19 .nil); replace F := G) | (obtain ⟨B, G, dp20, sB⟩ := F.gvl13 (q := p20) (K := K) (.cons dp19 .nil); replace F := G) | (obtain ⟨B, G, dp20, sB⟩ := F.gvl14 (q := p20) (K := K) (.cons dp19 .nil); replace F := G) | (obtain ⟨B, G, dp20, sB⟩ := F.gvl15 (q := p20) (K := K) (.cons dp19 .nil); replace F := G) | (obtain ⟨B, G, dp20, sB⟩ := F.gvl16 (q := p20) (K := K) (.cons dp19 .nil); replace F := G) | (obtain ⟨B, G, dp20, sB⟩ := F.gvl17 (q := p20) (K := K) (.cons dp19 .nil); replace F := G) | (obtain ⟨B, G, dp20, sB⟩ := F.gvl18 (q := p20) (K := K) (.cons dp19 .nil); replace F := G) | (obtain ⟨B, G, dp20, sB⟩ := F.gvl19 (q := p20) (K := K) (.cons dp19 .nil); replace F := G) | (obtain ⟨B, G, dp20, sB⟩ := F.gvl20 (q := p20) (K := K) (.cons dp19 .nil); replace F := G) | (obtain ⟨B, G, dp20, sB⟩ := F.gvl21 (q := p20) (K := K) (.cons dp19 .nil); replace F := G) | (obtain ⟨B, G, dp20, sB⟩ := F.gvl22 (q := p20) (K := K) (.cons dp19 .nil); replace F := G) | (obtain ⟨B, G, dp20, sB⟩ := F.gvl23 (q := p20) (K := K) (.cons dp19 .nil); replace F := G) | (obtain ⟨B, G, dp20, sB⟩ := F.gvl24 (q := p20) (K := K) (.cons dp19 .nil); replace F := G) | (obtain ⟨B, G, dp20, sB⟩ := F.gvl25 (q := p20) (K := K) (.cons dp19 .nil); replace F := G) | (obtain ⟨B, G, dp20, sB⟩ := F.gvl26 (q := p20) (K := K) (.cons dp19 .nil); replace F := G) | (obtain ⟨B, G, dp20, sB⟩ := F.gvl27 (q := p20) (K := K) (.cons dp19 .nil); replace F := G) | (obtain ⟨B, G, dp20, sB⟩ := F.gvl28 (q := p20) (K := K) (.cons dp19 .nil); replace F := G) | (obtain ⟨B, G, dp20, sB⟩ := F.gvl29 (q := p20) (K := K) (.cons dp19 .nil); replace F := G) | (obtain ⟨B, G, dp20, sB⟩ := F.gvl30 (q := p20) (K := K) (.cons dp19 .nil); replace F := G) | (obtain ⟨B, G, dp20, sB⟩ := F.gvl31 (q := p20) (K := K) (.cons dp19 .nil); replace F := G) | (obtain ⟨B, G, dp20, sB⟩ := F.gvl32 (q := p20) (K := K) (.cons dp19 .nil); replace F := G) | (obtain ⟨B, G, dp20, sB⟩ := F.gvl33 (q := p20) (K := K) (.cons dp19 .nil); replace F := G) | (obtain ⟨B, G, dp20, sB⟩ := F.gvl34 (q := p20) (K := K) (.cons dp19 .nil); replace F := G) | (obtain ⟨B, G, dp20, sB⟩ := F.gvl35 (q := p20) (K := K) (.cons dp19 .nil); replace F := G)
      replace dp18 := Dt.same sB dp18
      replace dp19 := Dt.same sB dp19
      first | (obtain ⟨B, G, dp21, sB⟩ := F.gvl0 (q := p21) (K := K) (.cons dp20 .nil); replace F := G) | (obtain ⟨B, G, dp21, sB⟩ := F.gvl1 (q := p21) (K := K) (.cons dp20 .nil); replace F := G) | (obtain ⟨B, G, dp21, sB⟩ := F.gvl2 (q := p21) (K := K) (.cons dp20 .nil); replace F := G) | (obtain ⟨B, G, dp21, sB⟩ := F.gvl3 (q := p21) (K := K) (.cons dp20 .nil); replace F := G) | (obtain ⟨B, G, dp21, sB⟩ := F.gvl4 (q := p21) (K := K) (.cons dp20 .nil); replace F := G) | (obtain ⟨B, G, dp21, sB⟩ := F.gvl5 (q := p21) (K := K) (.cons dp20 .nil); replace F := G) | (obtain ⟨B, G, dp21, sB⟩ := F.gvl6 (q := p21) (K := K) (.cons dp20 .nil); replace F := G) | (obtain ⟨B, G, dp21, sB⟩ := F.gvl7 (q := p21) (K := K) (.cons dp20 .nil); replace F := G) | (obtain ⟨B, G, dp21, sB⟩ := F.gvl8 (q := p21) (K := K) (.cons dp20 .nil); replace F := G) | (obtain ⟨B, G, dp21, sB⟩ := F.gvl9 (q := p21) (K := K) (.cons dp20 .nil); replace F := G) | (obtain ⟨B, G, dp21, sB⟩ := F.gvl10 (q := p21) (K := K) (.cons dp20 .nil); replace F := G) | (obtain ⟨B, G, dp21, sB⟩ := F.gvl11 (q := p21) (K := K) (.cons dp20 .nil); replace F := G) | (obtain ⟨B, G, dp21, sB⟩ := F.gvl12 (q := p21) (K := K) (.cons dp20 .nil); replace F := G) | (obtain ⟨B, G, dp21, sB⟩ := F.gvl13 (q := p21) (K := K) (.cons dp20 .nil); replace F := G) | (obtain ⟨B, G, dp21, sB⟩ := F.gvl14 (q := p21) (K := K) (.cons dp20 .nil); replace F := G) | (obtain ⟨B, G, dp21, sB⟩ := F.gvl15 (q := p21) (K := K) (.cons dp20 .nil); replace F := G) | (obtain ⟨B, G, dp21, sB⟩ := F.gvl16 (q := p21) (K := K) (.cons dp20 .nil); replace F := G) | (obtain ⟨B, G, dp21, sB⟩ := F.gvl17 (q := p21) (K := K) (.cons dp20 .nil); replace F := G) | (obtain ⟨B, G, dp21, sB⟩ := F.gvl18 (q := p21) (K := K) (.cons dp20 .nil); replace F := G) | (obtain ⟨B, G, dp21, sB⟩ := F.gvl19 (q := p21) (K := K) (.cons dp20 .nil); replace F := G) | (obtain ⟨B, G, dp21, sB⟩ := F.gvl20 (q := p21) (K := K) (.cons dp20 .nil); replace F := G) | (obtain ⟨B, G, dp21, sB⟩ := F.gvl21 (q := p21) (K := K) (.cons dp20 .nil); replace F := G) | (obtain ⟨B, G, dp21, sB⟩ := F.gvl22 (q := p21) (K := K) (.cons dp20 .nil); replace F := G) | (obtain ⟨B, G, dp21, sB⟩ := F.gvl23 (q := p21) (K := K) (.cons dp20 .nil); replace F := G) | (obtain ⟨B, G, dp21, sB⟩ := F.gvl24 (q := p21) (K := K) (.cons dp20 .nil); replace F := G) | (obtain ⟨B, G, dp21, sB⟩ := F.gvl25 (q := p21) (K := K) (.cons dp20 .nil); replace F := G) | (obtain ⟨B, G, dp21, sB⟩ := F.gvl26 (q := p21) (K := K) (.cons dp20 .nil); replace F := G) | (obtain ⟨B, G, dp21, sB⟩ := F.gvl27 (q := p21) (K := K) (.cons dp20 .nil); replace F := G) | (obtain ⟨B, G, dp21, sB⟩ := F.gvl28 (q := p21) (K := K) (.cons dp20 .nil); replace F := G) | (obtain ⟨B, G, dp21, sB⟩ := F.gvl29 (q := p21) (K := K) (.cons dp20 .nil); replace F := G) | (obtain ⟨B, G, dp21, sB⟩ := F.gvl30 (q := p21) (K := K) (.cons dp20 .nil); replace F := G) | (obtain ⟨B, G, dp21, sB⟩ := F.gvl31 (q := p21) (K := K) (.cons dp20 .nil); replace F := G) | (obtain ⟨B, G, dp21, sB⟩ := F.gvl32 (q := p21) (K := K) (.cons dp20 .nil); replace F := G) | (obtain ⟨B, G, dp21, sB⟩ := F.gvl33 (q := p21) (K := K) (.cons dp20 .nil); replace F := G) | (obtain ⟨B, G, dp21, sB⟩ := F.gvl34 (q := p21) (K := K) (.cons dp20 .nil); replace F := G) | (obtain ⟨B, G, dp21, sB⟩ := F.gvl35 (q := p21) (K := K) (.cons dp20 .nil); replace F := G)
      replace dp18 := Dt.same sB dp18
      replace dp19 := Dt.same sB dp19
      replace dp20 := Dt.same sB dp20
      walk_at "back"
      refine q _ _ _ _ _ hG hA (Pu.mono (by assumption) (by omega)) (Ow.list (by walk_at "n1") (by walk_at "own") (.cons dp21 .nil)) (fun _ z => V.ref.inj z ▸ hp) ⟨?_, ?_, ?_⟩ ?_ ?_ <;> decide +kernel
    rcases List.mem_cons.mp hv with rfl | hv
    · skip
      first | have hp := F.nn0 (q := p25) | have hp := F.nn1 (q := p25) | have hp := F.nn2 (q := p25) | have hp := F.nn3 (q := p25) | have hp := F.nn4 (q := p25) | have hp := F.nn5 (q := p25) | have hp := F.nn6 (q := p25) | have hp := F.nn7 (q := p25) | have hp := F.nn8 (q := p25) | have hp := F.nn9 (q := p25) | have hp := F.nn10 (q := p25) | have hp := F.nn11 (q := p25) | have hp := F.nn12 (q := p25) | have hp := F.nn13 (q := p25) | have hp := F.nn14 (q := p25) | have hp := F.nn15 (q := p25) | have hp := F.nn16 (q := p25) | have hp := F.nn17 (q := p25) | have hp := F.nn18 (q := p25) | have hp := F.nn19 (q := p25) | have hp := F.nn20 (q := p25) | have hp := F.nn21 (q := p25) | have hp := F.nn22 (q := p25) | have hp := F.nn23 (q := p25) | have hp := F.nn24 (q := p25) | have hp := F.nn25 (q := p25) | have hp := F.nn26 (q := p25) | have hp := F.nn27 (q := p25) | have hp := F.nn28 (q := p25) | have hp := F.nn29 (q := p25) | have hp := F.nn30 (q := p25) | have hp := F.nn31 (q := p25) | have hp := F.nn32 (q := p25) | have hp := F.nn33 (q := p25) | have hp := F.nn34 (q := p25) | have hp := F.nn35 (q := p25)
      first | (obtain ⟨B, G, dp23, sB⟩ := F.gvt0 (q := p23) (K := K) (.cons (.int _) (.cons (.int _) .nil)); replace F := G) | (obtain ⟨B, G, dp23, sB⟩ := F.gvt1 (q := p23) (K := K) (.cons (.int _) (.cons (.int _) .nil)); replace F := G) | (obtain ⟨B, G, dp23, sB⟩ := F.gvt2 (q := p23) (K := K) (.cons (.int _) (.cons (.int _) .nil)); replace F := G) | (obtain ⟨B, G, dp23, sB⟩ := F.gvt3 (q := p23) (K := K) (.cons (.int _) (.cons (.int _) .nil)); replace F := G) | (obtain ⟨B, G, dp23, sB⟩ := F.gvt4 (q := p23) (K := K) (.cons (.int _) (.cons (.int _) .nil)); replace F := G) | (obtain ⟨B, G, dp23, sB⟩ := F.gvt5 (q := p23) (K := K) (.cons (.int _) (.cons (.int _) .nil)); replace F := G) | (obtain ⟨B, G, dp23, sB⟩ := F.gvt6 (q := p23) (K := K) (.cons (.int _) (.cons (.int _) .nil)); replace F := G) | (obtain ⟨B, G, dp23, sB⟩ := F.gvt7 (q := p23) (K := K) (.cons (.int _) (.cons (.int _) .nil)); replace F := G) | (obtain ⟨B, G, dp23, sB⟩ := F.gvt8 (q := p23) (K := K) (.cons (.int _) (.cons (.int _) .nil)); replace F := G) | (obtain ⟨B, G, dp23, sB⟩ := F.gvt9 (q := p23) (K := K) (.cons (.int _) (.cons (.int _) .nil)); replace F := G) | (obtain ⟨B, G, dp23, sB⟩ := F.gvt10 (q := p23) (K := K) (.cons (.int _) (.cons (.int _) .nil)); replace F := G) | (obtain ⟨B, G, dp23, sB⟩ := F.gvt11 (q := p23) (K := K) (.cons (.int _) (.cons (.int _) .nil)); replace F := G) | (obtain ⟨B, G, dp23, sB⟩ := F.gvt12 (q := p23) (K := K) (.cons (.int _) (.cons (.int _) .nil)); replace F := G) | (obtain ⟨B, G, dp23, sB⟩ := F.gvt13 (q := p23) (K := K) (.cons (.int _) (.cons (.int _) .nil)); replace F := G) | (obtain ⟨B, G, dp23, sB⟩ := F.gvt14 (q := p23) (K := K) (.cons (.int _) (.cons (.int _) .nil)); replace F := G) | (obtain ⟨B, G, dp23, sB⟩ := F.gvt15 (q := p23) (K := K) (.cons (.int _) (.cons (.int _) .nil)); replace F := G) | (obtain ⟨B, G, dp23, sB⟩ := F.gvt16 (q := p23) (K := K) (.cons (.int _) (.cons (.int _) .nil)); replace F := G) | (obtain ⟨B, G, dp23, sB⟩ := F.gvt17 (q := p23) (K := K) (.cons (.int _) (.cons (.int _) .nil)); replace F := G) | (obtain ⟨B, G, dp23, sB⟩ := F.gvt18 (q := p23) (K := K) (.cons (.int _) (.cons (.int _) .nil)); replace F := G) | (obtain ⟨B, G, dp23, sB⟩ := F.gvt19 (q := p23) (K := K) (.cons (.int _) (.cons (.int _) .nil)); replace F := G) | (obtain ⟨B, G, dp23, sB⟩ := F.gvt20 (q := p23) (K := K) (.cons (.int _) (.cons (.int _) .nil)); replace F := G) | (obtain ⟨B, G, dp23, sB⟩ := F.gvt21 (q := p23) (K := K) (.cons (.int _) (.cons (.int _) .nil)); replace F := G) | (obtain ⟨B, G, dp23, sB⟩ := F.gvt22 (q := p23) (K := K) (.cons (.int _) (.cons (.int _) .nil)); replace F := G) | (obtain ⟨B, G, dp23, sB⟩ := F.gvt23 (q := p23) (K := K) (.cons (.int _) (.cons (.int _) .nil)); replace F := G) | (obtain ⟨B, G, dp23, sB⟩ := F.gvt24 (q := p23) (K := K) (.cons (.int _) (.cons (.int _) .nil)); replace F := G) | (obtain ⟨B, G, dp23, sB⟩ := F.gvt25 (q := p23) (K := K) (.cons (.int _) (.cons (.int _) .nil)); replace F := G) | (obtain ⟨B, G, dp23, sB⟩ := F.gvt26 (q := p23) (K := K) (.cons (.int _) (.cons (.int _) .nil)); replace F := G) | (obtain ⟨B, G, dp23, sB⟩ := F.gvt27 (q := p23) (K := K) (.cons (.int _) (.cons (.int _) .nil)); replace F := G) | (obtain ⟨B, G, dp23, sB⟩ := F.gvt28 (q := p23) (K := K) (.cons (.int _) (.cons (.int _) .nil)); replace F := G) | (obtain ⟨B, G, dp23, sB⟩ := F.gvt29 (q := p23) (K := K) (.cons (.int _) (.cons (.int _) .nil)); replace F := G) | (obtain ⟨B, G, dp23, sB⟩ := F.gvt30 (q := p23) (K := K) (.cons (.int _) (.cons (.int _) .nil)); replace F := G) | (obtain ⟨B, G, dp23, sB⟩ := F.gvt31 (q := p23) (K := K) (.cons (.int _) (.cons (.int _) .nil)); replace F := G) | (obtain ⟨B, G, dp23, sB⟩ := F.gvt32 (q := p23) (K := K) (.cons (.int _) (.cons (.int _) .nil)); replace F := G) | (obtain ⟨B, G, dp23, sB⟩ := F.gvt33 (q := p23) (K := K) (.cons (.int _) (.cons (.int _) .nil)); replace F := G) | (obtain ⟨B, G, dp23, sB⟩ := F.gvt34 (q := p23) (K := K) (.cons (.int _) (.cons (.int _) .nil)); replace F := G) | (obtain ⟨B, G, dp23, sB⟩ := F.gvt35 (q := p23) (K := K) (.cons (.int _) (.cons (.int _) .nil)); replace F := G)
      first | (obtain ⟨B, G, dp24, sB⟩ := F.gvt0 (q := p24) (K := K) (.cons (.int _) (.cons (.int _) .nil)); replace F := G) | (obtain ⟨B, G, dp24, sB⟩ := F.gvt1 (q := p24) (K := K) (.cons (.int _) (.cons (.int _) .nil)); replace F := G) | (obtain ⟨B, G, dp24, sB⟩ := F.gvt2 (q := p24) (K := K) (.cons (.int _) (.cons (.int _) .nil)); replace F := G) | (obtain ⟨B, G, dp24, sB⟩ := F.gvt3 (q := p24) (K := K) (.cons (.int _) (.cons (.int _) .nil)); replace F := G) | (obtain ⟨B, G, dp24, sB⟩ := F.gvt4 (q := p24) (K := K) (.cons (.int _) (.cons (.int _) .nil)); replace F := G) | (obtain ⟨B, G, dp24, sB⟩ := F.gvt5 (q := p24) (K := K) (.cons (.int _) (.cons (.int _) .nil)); replace F := G) | (obtain ⟨B, G, dp24, sB⟩ := F.gvt6 (q := p24) (K := K) (.cons (.int _) (.cons (.int _) .nil)); replace F := G) | (obtain ⟨B, G, dp24, sB⟩ := F.gvt7 (q := p24) (K := K) (.cons (.int _) (.cons (.int _) .nil)); replace F := G) | (obtain ⟨B, G, dp24, sB⟩ := F.gvt8 (q := p24) (K := K) (.cons (.int _) (.cons (.int _) .nil)); replace F := G) | (obtain ⟨B, G, dp24, sB⟩ := F.gvt9 (q := p24) (K := K) (.cons (.int _) (.cons (.int _) .nil)); replace F := G) | (obtain ⟨B, G, dp24, sB⟩ := F.gvt10 (q := p24) (K := K) (.cons (.int _) (.cons (.int _) .nil)); replace F := G) | (obtain ⟨B, G, dp24, sB⟩ := F.gvt11 (q := p24) (K := K) (.cons (.int _) (.cons (.int _) .nil)); replace F := G) | (obtain ⟨B, G, dp24, sB⟩ := F.gvt12 (q := p24) (K := K) (.cons (.int _) (.cons (.int _) .nil)); replace F := G) | (obtain ⟨B, G, dp24, sB⟩ := F.gvt13 (q := p24) (K := K) (.cons (.int _) (.cons (.int _) .nil)); replace F := G) | (obtain ⟨B, G, dp24, sB⟩ := F.gvt14 (q := p24) (K := K) (.cons (.int _) (.cons (.int _) .nil)); replace F := G) | (obtain ⟨B, G, dp24, sB⟩ := F.gvt15 (q := p24) (K := K) (.cons (.int _) (.cons (.int _) .nil)); replace F := G) | (obtain ⟨B, G, dp24, sB⟩ := F.gvt16 (q := p24) (K := K) (.cons (.int _) (.cons (.int _) .nil)); replace F := G) | (obtain ⟨B, G, dp24, sB⟩ := F.gvt17 (q := p24) (K := K) (.cons (.int _) (.cons (.int _) .nil)); replace F := G) | (obtain ⟨B, G, dp24, sB⟩ := F.gvt18 (q := p24) (K := K) (.cons (.int _) (.cons (.int _) .nil)); replace F := G) | (obtain ⟨B, G, dp24, sB⟩ := F.gvt19 (q := p24) (K := K) (.cons (.int _) (.cons (.int _) .nil)); replace F := G) | (obtain ⟨B, G, dp24, sB⟩ := F.gvt20 (q := p24) (K := K) (.cons (.int _) (.cons (.int _) .nil)); replace F := G) | (obtain ⟨B, G, dp24, sB⟩ := F.gvt21 (q := p24) (K := K) (.cons (.int _) (.cons (.int _) .nil)); replace F := G) | (obtain ⟨B, G, dp24, sB⟩ := F.gvt22 (q := p24) (K := K) (.cons (.int _) (.cons (.int _) .nil)); replace F := G) | (obtain ⟨B, G, dp24, sB⟩ := F.gvt23 (q := p24) (K := K) (.cons (.int _) (.cons (.int _) .nil)); replace F := G) | (obtain ⟨B, G, dp24, sB⟩ := F.gvt24 (q := p24) (K := K) (.cons (.int _) (.cons (.int _) .nil)); replace F := G) | (obtain ⟨B, G, dp24, sB⟩ := F.gvt25 (q := p24) (K := K) (.cons (.int _) (.cons (.int _) .nil)); replace F := G) | (obtain ⟨B, G, dp24, sB⟩ := F.gvt26 (q := p24) (K := K) (.cons (.int _) (.cons (.int _) .nil)); replace F := G) | (obtain ⟨B, G, dp24, sB⟩ := F.gvt27 (q := p24) (K := K) (.cons (.int _) (.cons (.int _) .nil)); replace F := G) | (obtain ⟨B, G, dp24, sB⟩ := F.gvt28 (q := p24) (K := K) (.cons (.int _) (.cons (.int _) .nil)); replace F := G) | (obtain ⟨B, G, dp24, sB⟩ := F.gvt29 (q := p24) (K := K) (.cons (.int _) (.cons (.int _) .nil)); replace F := G) | (obtain ⟨B, G, dp24, sB⟩ := F.gvt30 (q := p24) (K := K) (.cons (.int _) (.cons (.int _) .nil)); replace F := G) | (obtain ⟨B, G, dp24, sB⟩ := F.gvt31 (q := p24) (K := K) (.cons (.int _) (.cons (.int _) .nil)); replace F := G) | (obtain ⟨B, G, dp24, sB⟩ := F.gvt32 (q := p24) (K := K) (.cons (.int _) (.cons (.int _) .nil)); replace F := G) | (obtain ⟨B, G, dp24, sB⟩ := F.gvt33 (q := p24) (K := K) (.cons (.int _) (.cons (.int _) .nil)); replace F := G) | (obtain ⟨B, G, dp24, sB⟩ := F.gvt34 (q := p24) (K := K) (.cons (.int _) (.cons (.int _) .nil)); replace F := G) | (obtain ⟨B, G, dp24, sB⟩ := F.gvt35 (q := p24) (K := K) (.cons (.int _) (.cons (.int _) .nil)); replace F := G)
      replace dp23 := Dt.same sB dp23
      first | (obtain ⟨B, G, dp25, sB⟩ := F.gvt0 (q := p25) (K := K) (.cons dp23 (.cons dp24 .nil)); replace F := G) | (obtain ⟨B, G, dp25, sB⟩ := F.gvt1 (q := p25) (K := K) (.cons dp23 (.cons dp24 .nil)); replace F := G) | (obtain ⟨B, G, dp25, sB⟩ := F.gvt2 (q := p25) (K := K) (.cons dp23 (.cons dp24 .nil)); replace F := G) | (obtain ⟨B, G, dp25, sB⟩ := F.gvt3 (q := p25) (K := K) (.cons dp23 (.cons dp24 .nil)); replace F := G) | (obtain ⟨B, G, dp25, sB⟩ := F.gvt4 (q := p25) (K := K) (.cons dp23 (.cons dp24 .nil)); replace F := G) | (obtain ⟨B, G, dp25, sB⟩ := F.gvt5 (q := p25) (K := K) (.cons dp23 (.cons dp24 .nil)); replace F := G) | (obtain ⟨B, G, dp25, sB⟩ := F.gvt6 (q := p25) (K := K) (.cons dp23 (.cons dp24 .nil)); replace F := G) | (obtain ⟨B, G, dp25, sB⟩ := F.gvt7 (q := p25) (K := K) (.cons dp23 (.cons dp24 .nil)); replace F := G) | (obtain ⟨B, G, dp25, sB⟩ := F.gvt8 (q := p25) (K := K) (.cons dp23 (.cons dp24 .nil)); replace F := G) | (obtain ⟨B, G, dp25, sB⟩ := F.gvt9 (q := p25) (K := K) (.cons dp23 (.cons dp24 .nil)); replace F := G) | (obtain ⟨B, G, dp25, sB⟩ := F.gvt10 (q := p25) (K := K) (.cons dp23 (.cons dp24 .nil)); replace F := G) | (obtain ⟨B, G, dp25, sB⟩ := F.gvt11 (q := p25) (K := K) (.cons dp23 (.cons dp24 .nil)); replace F := G) | (obtain ⟨B, G, dp25, sB⟩ := F.gvt12 (q := p25) (K := K) (.cons dp23 (.cons dp24 .nil)); replace F := G) | (obtain ⟨B, G, dp25, sB⟩ := F.gvt13 (q := p25) (K := K) (.cons dp23 (.cons dp24 .nil)); replace F := G) | (obtain ⟨B, G, dp25, sB⟩ := F.gvt14 (q := p25) (K := K) (.cons dp23 (.cons dp24 .nil)); replace F := G) | (obtain ⟨B, G, dp25, sB⟩ := F.gvt15 (q := p25) (K := K) (.cons dp23 (.cons dp24 .nil)); replace F := G) | (obtain ⟨B, G, dp25, sB⟩ := F.gvt16 (q := p25) (K := K) (.cons dp23 (.cons dp24 .nil)); replace F := G) | (obtain ⟨B, G, dp25, sB⟩ := F.gvt17 (q := p25) (K := K) (.cons dp23 (.cons dp24 .nil)); replace F := G) | (obtain ⟨B, G, dp25, sB⟩ := F.gvt18 (q := p25) (K := K) (.cons dp23 (.cons dp24 .nil)); replace F := G) | (obtain ⟨B, G, dp25, sB⟩ := F.gvt19 (q := p25) (K := K) (.cons dp23 (.cons dp24 .nil)); replace F := G) | (obtain ⟨B, G, dp25, sB⟩ := F.gvt20 (q := p25) (K := K) (.cons dp23 (.cons dp24 .nil)); replace F := G) | (obtain ⟨B, G, dp25, sB⟩ := F.gvt21 (q := p25) (K := K) (.cons dp23 (.cons dp24 .nil)); replace F := G) | (obtain ⟨B, G, dp25, sB⟩ := F.gvt22 (q := p25) (K := K) (.cons dp23 (.cons dp24 .nil)); replace F := G) | (obtain ⟨B, G, dp25, sB⟩ := F.gvt23 (q := p25) (K := K) (.cons dp23 (.cons dp24 .nil)); replace F := G) | (obtain ⟨B, G, dp25, sB⟩ := F.gvt24 (q := p25) (K := K) (.cons dp23 (.cons dp24 .nil)); replace F := G) | (obtain ⟨B, G, dp25, sB⟩ := F.gvt25 (q := p25) (K := K) (.cons dp23 (.cons dp24 .nil)); replace F := G) | (obtain ⟨B, G, dp25, sB⟩ := F.gvt26 (q := p25) (K := K) (.cons dp23 (.cons dp24 .nil)); replace F := G) | (obtain ⟨B, G, dp25, sB⟩ := F.gvt27 (q := p25) (K := K) (.cons dp23 (.cons dp24 .nil)); replace F := G) | (obtain ⟨B, G, dp25, sB⟩ := F.gvt28 (q := p25) (K := K) (.cons dp23 (.cons dp24 .nil)); replace F := G) | (obtain ⟨B, G, dp25, sB⟩ := F.gvt29 (q := p25) (K := K) (.cons dp23 (.cons dp24 .nil)); replace F := G) | (obtain ⟨B, G, dp25, sB⟩ := F.gvt30 (q := p25) (K := K) (.cons dp23 (.cons dp24 .nil)); replace F := G) | (obtain ⟨B, G, dp25, sB⟩ := F.gvt31 (q := p25) (K := K) (.cons dp23 (.cons dp24 .nil)); replace F := G) | (obtain ⟨B, G, dp25, sB⟩ := F.gvt32 (q := p25) (K := K) (.cons dp23 (.cons dp24 .nil)); replace F := G) | (obtain ⟨B, G, dp25, sB⟩ := F.gvt33 (q := p25) (K := K) (.cons dp23 (.cons dp24 .nil)); replace F := G) | (obtain ⟨B, G, dp25, sB⟩ := F.gvt34 (q := p25) (K := K) (.cons dp23 (.cons dp24 .nil)); replace F := G) | (obtain ⟨B, G, dp25, sB⟩ := F.gvt35 (q := p25) (K := K) (.cons dp23 (.cons dp24 .nil)); replace F := G)
      replace dp23 := Dt.same sB dp23
      replace dp24 := Dt.same sB dp24
      walk_at "back"
      refine q _ _ _ _ _ hG hA (Pu.mono (by assumption) (by omega)) (Ow.of_dt dp25 rfl rfl) (fun _ z => V.ref.inj z ▸ hp) ⟨?_, ?_, ?_⟩ ?_ ?_ <;> decide +kernel
    exact absurd hv (List.not_mem_nil)

/-- all that is asked of a thing that stands for a row -/
structure Arg (d : PyData) (n : Nat) : Prop where
  fi : Fine n d
  dp : d.depth ≤ 40
  ln : (itemsD d).length ≤ 1000
def spRefused (K : PySem.W.Frag) : Sp := fun vs H Q _ => ∃ x1 d1 x2 d2 x d H0 n1 n2 n, vs = [x1, x2, x] ∧ L2.Same H0 H ∧ Dt K H x1 d1 ∧ Dt K H x2 d2 ∧ Ow K H0 H x d ∧ Arg d1 n1 ∧ Arg d2 n2 ∧ n1 + n2 ≤ 14000000 ∧ Fine n d ∧ n ≤ 15000000 ∧ d.depth ≤ 40 ∧ lenD d ≤ 200 ∧
  ((floorRow d1 = false ∧ x1 = x) ∨ (floorRow d1 = true ∧ floorRow d2 = false ∧ x2 = x)) ∧
  ∀ H', (∀ b u, x ≠ .ref b → H b = some u → H' b = some u) → L2.Same H0 H' → Ow K H0 H' x (moreD d) → Q (.bl true) H'

set_option hygiene false in
local macro_rules | `(tactic| walk_at "dt2") => `(tactic| first | exact Dt.same F.g.old hd1 | exact Dt.same F.g.old hd2 | exact Dt.same (L2.Same.trans hS2 F.g.old) hd1 | exact Dt.same (L2.Same.trans hS2 F.g.old) hd2)
set_option hygiene false in
local macro_rules | `(tactic| walk_at "blk") => `(tactic| (show blkC ["one", "other", "thing", "kept", "e"] (defScope st_law_refused) _ _ = true; decide +kernel))
abbrev st_law_refused : Stmt := top 19
theorem sc_law_refused : FnScope ["one", "other", "thing", "kept", "e"] ["one", "other", "thing"] (defScope st_law_refused) := ⟨rfl, rfl, rfl, by decide +kernel, rfl, by decide +kernel, by decide +kernel⟩
theorem ok_law_refused (M : Bn mg) {C : Addr} (T_NoRow : ExK P w K mg base "NoRow" "found" C) (X_NoRow : PySem.W.exmOne K (.ref C) (.ref C) = some true) (C_parting : Cal P w K mg base (L2.CX P w) true 4 "parting" [] (spPart K C)) (C_law_very : Cal P w K mg base CX0 false 1 "_law_very" [] (spVery K)) (DD : Dn K mg "_law_refused" st_law_refused) : Cal P w K mg base CX0 true 5 "_law_refused" [] (spRefused K) := by
  refine cal_g DD sc_law_refused (fun _ _ _ _ _ _ us hl => by match us, hl with | [_, _, _], _ => rfl) (fun vs H Q E h => ?_) fun f cdv A outer s H vs Q E hr hh hg h => ?_
  · obtain ⟨x1, d1, x2, d2, x, d, H0, n1, n2, n, rfl, _⟩ := h; rfl
  · have nd := sc_law_refused.nd
    have n0 : Nm ["one", "other", "thing", "kept", "e"] 0 "one" := ⟨rfl, by decide, by decide⟩
    have n1 : Nm ["one", "other", "thing", "kept", "e"] 1 "other" := ⟨rfl, by decide, by decide⟩
    have n2 : Nm ["one", "other", "thing", "kept", "e"] 2 "thing" := ⟨rfl, by decide, by decide⟩
    have n3 : Nm ["one", "other", "thing", "kept", "e"] 3 "kept" := ⟨rfl, by decide, by decide⟩
    have n4 : Nm ["one", "other", "thing", "kept", "e"] 4 "e" := ⟨rfl, by decide, by decide⟩
    obtain ⟨x1, d1, x2, d2, x, d, H0, k1, k2, k3, rfl, hS, hd1, hd2, hO, g1, g2, hn, hfi, hn3, hdep, hlen, hcase, q⟩ := h
    have F := Fr.start hS
    refine b_cons ?_
    refine s_v n3 nd rfl (by walk_at "loc") rfl (by walk_at "loc") ?_
    refine e_repr M.repr rfl rfl rfl ?_
    refine a_cons rfl ?_
    refine e_lst ?_
    refine a_cons rfl ?_
    refine e_v n0 rfl (by walk_at "vis") ⟨_, rfl, ?_⟩
    refine a_cons rfl ?_
    refine e_v n1 rfl (by walk_at "vis") ⟨_, rfl, ?_⟩
    refine a_nil ?_
    refine ⟨sz_ok rfl, ?_⟩
    intro p1 H1 N1
    replace F := F.make N1
    refine a_nil ?_
    refine c_reprF hr hg (d := .list [d1, d2]) (.lst (by walk_at "seq") (.cons (by walk_at "dt2") (.cons (by walk_at "dt2") .nil))) (fine_2 g1.fi g2.fi g1.dp g2.dp (Nat.le_refl _)) (by omega) ?_
    generalize hs0 : (PyData.list [d1, d2]).shown = s0
    refine b_cons ?_
    refine s_try_as (i := 4) (c := .ref C) rfl rfl nd n4.at_ rfl ⟨rfl, by decide, .inl T_NoRow.gC⟩ takes_no (fun W pn xe tk hp hW => ?_)
    have suite : ∀ dd H2, L2.Same H H2 → H2 dd = some (.xd [("found", x)]) → W (.ref C) (some dd) [some x1, some x2, some x, some (.str s0), none] H2 := by
      intro dd H2 hS2 hx
      refine hW _ _ _ _ ⟨true, X_NoRow, fun _ a ha oe pn' hz hf => ?_, fun z => nomatch z⟩
      have F := Fr.start (hS.trans hS2)
      have hr := room_mark (v := some (.ref a)) hr
      refine b_one ?_
      refine s_ret ?_
      refine e_and ?_
      refine e_cmp (by walk_at "cm") ?_
      refine e_repr M.repr rfl rfl rfl ?_
      refine a_cons rfl ?_
      refine e_lst ?_
      refine a_cons rfl ?_
      refine e_v n0 rfl (by walk_at "vis") ⟨_, rfl, ?_⟩
      refine a_cons rfl ?_
      refine e_v n1 rfl (by walk_at "vis") ⟨_, rfl, ?_⟩
      refine a_nil ?_
      refine ⟨sz_ok rfl, ?_⟩
      intro p2 H2 N2
      replace F := F.make N2
      refine a_nil ?_
      refine c_reprF hr hg (d := .list [d1, d2]) (.lst (by walk_at "seq") (.cons (by walk_at "dt2") (.cons (by walk_at "dt2") .nil))) (fine_2 g1.fi g2.fi g1.dp g2.dp (Nat.le_refl _)) (by omega) ?_
      rw [hs0]
      refine e_v n3 rfl (by walk_at "vis") ⟨_, rfl, ?_⟩
      first | refine o_eqI ?_ | refine o_eqB ?_ | refine o_eqS ?_ | refine o_eqD (un64 hr) (by walk_at "dp") (by walk_at "dp") (by walk_at "sh") (by walk_at "sh") ?_
      refine ⟨_, rfl, ?_⟩
      first | refine if_d (fun hb3 => ?_) (fun hb3 => ?_) | refine if_nd (fun hb3 => ?_) (fun hb3 => ?_) | refine if_b (fun hb3 => ?_) (fun hb3 => ?_)
      · refine e_one ?_
        refine e_cal C_law_very ⟨rfl, rfl, rfl, rfl, rfl⟩ (by decide) hr (by walk_at "hh") hg rfl rfl rfl (by decide) ?_
        refine a_cons rfl ?_
        refine e_xf T_NoRow.xf T_NoRow.no hz hf rfl ?_
        refine e_v n4 rfl (by walk_at "vis") ⟨_, rfl, ?_⟩
        refine ⟨rfl, rfl, dd, _, _, rfl, F.g.old _ _ hx, rfl, ?_⟩
        refine a_cons rfl ?_
        refine e_v n2 rfl (by walk_at "vis") ⟨_, rfl, ?_⟩
        refine a_nil ?_
        refine ⟨_, _, H0, _, rfl, F.g.sub, hO.same (L2.Same.trans hS2 F.g.old), hfi, hn3, hdep, hlen, fun H' hk hB hO' => ?_⟩
        exact q _ (fun b u h1 h2 => hk b u h1 (F.g.old _ _ (hS2 _ _ h2))) hB hO'
      · exact absurd rfl hb3
    refine b_one ?_
    refine s_expr rfl ?_
    refine e_calX C_parting tk ⟨rfl, rfl, rfl, rfl, rfl⟩ (by decide) hr (by walk_at "hh") hg rfl rfl rfl (by decide) ?_
    refine a_cons rfl ?_
    refine e_v n0 rfl (by walk_at "vis") ⟨_, rfl, ?_⟩
    refine a_cons rfl ?_
    refine e_v n1 rfl (by walk_at "vis") ⟨_, rfl, ?_⟩
    refine a_nil ?_
    refine ⟨_, _, _, _, rfl, by walk_at "dt2", by walk_at "dt2", Nat.le_trans g1.ln (by decide), Nat.le_trans g2.ln (by decide), fun r dd H4 S4 hx => ?_, fun r1 r2 dd H4 S4 hx => ?_, fun r1 r2 v H4 S4 _ => ?_⟩
    · rcases hcase with ⟨_, rfl⟩ | ⟨h, _⟩
      · exact suite dd _ (F.g.old.trans S4) hx
      · exact absurd (r.symm.trans h) Bool.false_ne_true
    · rcases hcase with ⟨h, _⟩ | ⟨_, _, rfl⟩
      · exact absurd (h.symm.trans r1) Bool.false_ne_true
      · exact suite dd _ (F.g.old.trans S4) hx
    · rcases hcase with ⟨h, _⟩ | ⟨_, h, _⟩
      · exact absurd (h.symm.trans r1) Bool.false_ne_true
      · exact absurd (h.symm.trans r2) Bool.false_ne_true

theorem floor_more {d : PyData} (h : floorRow d = false) : floorRow (moreD d) = false := by
  cases d with
  | list ds =>
    refine floorRow_num ?_
    show (ds ++ [PyData.str "more"]).all isNum = false
    rw [List.all_append]
    simp [isNum]
  | dict ds => rfl
  | _ => exact h
theorem arg_of {d : PyData} {n : Nat} (h : Fine n d) (h2 : d.depth ≤ 40) (h3 : lenD d ≤ 1000) : Arg d n := ⟨h, h2, Nat.le_trans (items_len d) h3⟩
theorem arg_row {ns : List Int} (h : Sml (2 ^ 42) ns) (hl : ns.length ≤ 100) : Arg (.list (ns.map PyData.int)) 200000 := ⟨fine_ints (h.lg (b := 0)) (by omega), by rw [PyData.depth, depthAll_ints]; decide, by show (ns.map PyData.int).length ≤ 1000; rw [List.length_map]; omega⟩
/-- what is known of each odd thing -/
def OddD (d : PyData) : Prop := Fine 200000 d ∧ d.depth ≤ 40 ∧ lenD d ≤ 150
theorem oddD_row {ns : List Int} (h : Sml (2 ^ 42) ns) (hl : ns.length ≤ 100) : OddD (.list (ns.map PyData.int)) := ⟨(arg_row h hl).fi, (arg_row h hl).dp, by show (ns.map PyData.int).length ≤ 150; rw [List.length_map]; omega⟩
theorem ne_ref {v : V} {p : Addr} {H : Hp} (h : ∀ p, v = .ref p → H p ≠ none) (n : H p = none) : v ≠ .ref p := fun z => h p z n
def spLaw (K : PySem.W.Frag) : Sp := fun vs H Q _ => ∃ (a : Addr) (ns : List Int), vs = [.ref a] ∧ SqL K H a (ns.map V.int) ∧ ns.length ≤ 63 ∧ ∀ H', Q (.bl true) H'
set_option hygiene false in
local macro_rules | `(tactic| walk_at "blk") => `(tactic| (show blkC ["script", "k", "purse", "row", "other", "odd"] (defScope st_law) _ _ = true; decide +kernel))
abbrev st_law : Stmt := top 20
theorem sc_law : FnScope ["script", "k", "purse", "row", "other", "odd"] ["script"] (defScope st_law) := ⟨rfl, rfl, rfl, by decide +kernel, rfl, by decide +kernel, by decide +kernel⟩
theorem ok_law (M : Bn mg)  (C_law_cell : Cal P w K mg base CX0 true 1 "_law_cell" [] (spCell K)) (C_law_purse : Cal P w K mg base CX0 true 1 "_law_purse" [] spPurse) (C_law_row : Cal P w K mg base CX0 true 2 "_law_row" [] (spRow K)) (C_law_other : Cal P w K mg base CX0 true 3 "_law_other" [] (spOther K)) (C_law_right : Cal P w K mg base CX0 true 5 "_law_right" [] (spRight K)) (C_law_odd : Cal P w K mg base CX0 true 2 "_law_odd" [] (spOdd K)) (C_law_refused : Cal P w K mg base CX0 true 5 "_law_refused" [] (spRefused K)) (C_is_floor_row : Cal P w K mg base CX0 true 2 "is_floor_row" [] (spFloor K)) {f : Addr} {fd : FuncData} (F0 : Fun K "law" "law" st_law f fd) : FnG P w K mg base CX0 true 7 f fd ["script"] (spLaw K) := by
  refine fn_g F0 sc_law (fun vs H Q E h => ?_) fun cdv A outer s H vs Q E hr hh hg h => ?_
  · obtain ⟨a, ns, rfl, _⟩ := h; rfl
  · have nd := sc_law.nd
    have n0 : Nm ["script", "k", "purse", "row", "other", "odd"] 0 "script" := ⟨rfl, by decide, by decide⟩
    have n1 : Nm ["script", "k", "purse", "row", "other", "odd"] 1 "k" := ⟨rfl, by decide, by decide⟩
    have n2 : Nm ["script", "k", "purse", "row", "other", "odd"] 2 "purse" := ⟨rfl, by decide, by decide⟩
    have n3 : Nm ["script", "k", "purse", "row", "other", "odd"] 3 "row" := ⟨rfl, by decide, by decide⟩
    have n4 : Nm ["script", "k", "purse", "row", "other", "odd"] 4 "other" := ⟨rfl, by decide, by decide⟩
    have n5 : Nm ["script", "k", "purse", "row", "other", "odd"] 5 "odd" := ⟨rfl, by decide, by decide⟩
    obtain ⟨a, ns, rfl, hq, hl, q⟩ := h
    have F := Fr.start (L2.Same.refl H)
    refine b_cons ?_
    refine s_forRS (passes_of rfl) rfl rfl M.range rfl (fun _ => rfl) ?_
    refine a_cons rfl ?_
    refine e_max M.max rfl rfl rfl ?_
    refine a_cons rfl ?_
    refine e_int ?_
    refine a_cons rfl ?_
    refine e_min M.min rfl rfl rfl ?_
    refine a_cons rfl ?_
    refine e_int ?_
    refine a_cons rfl ?_
    refine e_len M.len rfl rfl rfl ?_
    refine a_cons rfl ?_
    refine e_v n0 rfl (by walk_at "vis") ⟨_, rfl, ?_⟩
    refine a_nil ?_
    refine c_lenL (by walk_at "seq") ?_
    rw [List.length_map]
    refine a_nil ?_
    refine c_min rfl ?_
    refine a_nil ?_
    refine c_max rfl ?_
    refine a_nil ?_
    refine ⟨(max (2 : Int) (min 12 (ns.length : Int))).toNat, by rw [Int.toNat_of_nonneg (by omega)], by omega, fun i σ' => ∃ t1 t2 t3 t4 t5 : Option V, σ' = [some (.ref a), t1, t2, t3, t4, t5], ⟨none, none, none, none, none, rfl⟩, ?_, ?_⟩
    · rintro i0 σ' H' hi ⟨t1, t2, t3, t4, t5, rfl⟩ hS
      have hq1 := L2.Same.seq (F.same hS).g.old hq
      replace F := Fr.start (L2.Same.refl H')
      refine g_v n1 nd rfl (by walk_at "loc") (by walk_at "loc") ?_
      refine b_cons ?_
      refine s_v n2 nd rfl (by walk_at "loc") rfl (by walk_at "loc") ?_
      refine e_cal C_law_purse ⟨rfl, rfl, rfl, rfl, rfl⟩ (by decide) hr (by walk_at "hh") hg rfl rfl rfl (by decide) ?_
      refine a_cons rfl ?_
      refine e_cal C_law_cell ⟨rfl, rfl, rfl, rfl, rfl⟩ (by decide) hr (by walk_at "hh") hg rfl rfl rfl (by decide) ?_
      refine a_cons rfl ?_
      refine e_v n0 rfl (by walk_at "vis") ⟨_, rfl, ?_⟩
      refine a_cons rfl ?_
      refine e_v n1 rfl (by walk_at "vis") ⟨_, rfl, ?_⟩
      refine a_nil ?_
      refine ⟨_, _, _, rfl, by omega, by walk_at "seq", fun cv => ?_⟩
      refine a_nil ?_
      refine ⟨_, rfl, fun pq o1 H1 N1 P1 => ?_⟩
      replace F := F.make N1
      refine b_cons ?_
      refine s_v n3 nd rfl (by walk_at "loc") rfl (by walk_at "loc") ?_
      refine e_cal C_law_row ⟨rfl, rfl, rfl, rfl, rfl⟩ (by decide) hr (by walk_at "hh") hg rfl rfl rfl (by decide) ?_
      refine a_cons rfl ?_
      refine e_v n2 rfl (by walk_at "vis") ⟨_, rfl, ?_⟩
      refine a_nil ?_
      refine ⟨_, _, _, _, rfl, F.g.sub, by walk_at "n1", by walk_at "own", by assumption, by omega, ?_⟩
      intro pr Hr H2 o2 rs hG hA P2 hr1 fr lr sr
      walk_at "callP"
      refine b_cons ?_
      refine s_v n4 nd rfl (by walk_at "loc") rfl (by walk_at "loc") ?_
      refine e_cal C_law_other ⟨rfl, rfl, rfl, rfl, rfl⟩ (by decide) hr (by walk_at "hh") hg rfl rfl rfl (by decide) ?_
      refine a_cons rfl ?_
      refine e_v n2 rfl (by walk_at "vis") ⟨_, rfl, ?_⟩
      refine a_cons rfl ?_
      refine e_v n3 rfl (by walk_at "vis") ⟨_, rfl, ?_⟩
      refine a_nil ?_
      refine ⟨_, _, _, _, _, _, rfl, F.g.sub, by walk_at "n1", by walk_at "own", by assumption, by omega, hr1, fr, lr, sr, ?_⟩
      intro po Hb H3 o3 os hG hA P3 ho fo lo so
      walk_at "callP"
      have hr2 := hG.base _ _ hr1
      refine b_cons ?_
      refine s_if ?_
      refine t_or ?_
      refine t_not ?_
      refine t_val (fun _ => rfl) ?_
      refine e_cal C_law_right ⟨rfl, rfl, rfl, rfl, rfl⟩ (by decide) hr (by walk_at "hh") hg rfl rfl rfl (by decide) ?_
      refine a_cons rfl ?_
      refine e_v n3 rfl (by walk_at "vis") ⟨_, rfl, ?_⟩
      refine a_cons rfl ?_
      refine e_v n4 rfl (by walk_at "vis") ⟨_, rfl, ?_⟩
      refine a_nil ?_
      refine ⟨_, _, _, _, rfl, SqL.of (F.g.sub _ _ hr2), SqL.of (F.g.sub _ _ ho), fr, fo, by omega, by omega, sr.mono (by decide), so, fun H4 S4 => ?_⟩
      replace F := F.same S4
      first | refine ⟨_, rfl, ?_⟩ | refine tru_int ?_
      refine iteF ?_
      refine k_or ?_
      refine t_not ?_
      refine t_val (fun _ => rfl) ?_
      refine e_cal C_law_right ⟨rfl, rfl, rfl, rfl, rfl⟩ (by decide) hr (by walk_at "hh") hg rfl rfl rfl (by decide) ?_
      refine a_cons rfl ?_
      refine e_v n4 rfl (by walk_at "vis") ⟨_, rfl, ?_⟩
      refine a_cons rfl ?_
      refine e_v n3 rfl (by walk_at "vis") ⟨_, rfl, ?_⟩
      refine a_nil ?_
      refine ⟨_, _, _, _, rfl, SqL.of (F.g.sub _ _ ho), SqL.of (F.g.sub _ _ hr2), fo, fr, by omega, by omega, so, sr.mono (by decide), fun H5 S5 => ?_⟩
      replace F := F.same S5
      first | refine ⟨_, rfl, ?_⟩ | refine tru_int ?_
      refine iteF ?_
      refine k_or1 ?_
      refine t_not ?_
      refine t_val (fun _ => rfl) ?_
      refine e_cal C_law_right ⟨rfl, rfl, rfl, rfl, rfl⟩ (by decide) hr (by walk_at "hh") hg rfl rfl rfl (by decide) ?_
      refine a_cons rfl ?_
      refine e_v n3 rfl (by walk_at "vis") ⟨_, rfl, ?_⟩
      refine a_cons rfl ?_
      refine e_listc M.list rfl rfl rfl ?_
      refine a_cons rfl ?_
      refine e_v n3 rfl (by walk_at "vis") ⟨_, rfl, ?_⟩
      refine a_nil ?_
      refine c_listL (SqL.of (F.g.sub _ _ hr2)) ?_
      intro pL HL NL
      replace F := F.make NL
      refine a_nil ?_
      refine ⟨_, _, _, _, rfl, SqL.of (F.g.sub _ _ hr2), by walk_at "seq", fr, fr, by omega, by omega, sr.mono (by decide), sr.mono (by decide), fun H6 S6 => ?_⟩
      replace F := F.same S6
      first | refine ⟨_, rfl, ?_⟩ | refine tru_int ?_
      refine iteF ?_
      refine b_nil ?_
      refine b_one ?_
      refine s_forTh (passes_of rfl) rfl (fun _ => rfl) ?_
      refine e_lst ?_
      refine a_cons rfl ?_
      refine e_cal C_law_odd ⟨rfl, rfl, rfl, rfl, rfl⟩ (by decide) hr (by walk_at "hh") hg rfl rfl rfl (by decide) ?_
      refine a_cons rfl ?_
      refine e_v n2 rfl (by walk_at "vis") ⟨_, rfl, ?_⟩
      refine a_nil ?_
      refine ⟨_, _, _, _, rfl, F.g.sub, by walk_at "n1", by walk_at "own", by assumption, by omega, ?_⟩
      intro v0 d0 Hc H7 o7 hG hA P7 hO0 hv0 f0 e0 z0
      walk_at "callP"
      have hr3 := hG.base _ _ hr2
      have hBase := F.g.base
      replace F := Fr.start F.g.sub
      refine a_cons rfl ?_
      refine e_op ?_
      refine e_v n3 rfl (by walk_at "vis") ⟨_, rfl, ?_⟩
      refine e_lst ?_
      refine a_cons rfl ?_
      refine e_int ?_
      refine a_nil ?_
      refine ⟨sz_ok rfl, ?_⟩
      intro p8 H8 N8
      replace F := F.make N8
      refine o_catL (xs := rs.map V.int) (F.g.sub _ _ hr3) (by walk_at "own") (by walk_at "sz") ?_
      intro pA HA NA
      replace NA := NA.cast (o' := .lst ((rs ++ [1]).map V.int)) (by simp only [List.map_append, List.map_cons, List.map_nil])
      replace F := F.make NA
      refine a_cons rfl ?_
      refine e_lst ?_
      refine a_nil ?_
      refine ⟨sz_ok rfl, ?_⟩
      intro pE HE NE
      replace F := F.make NE
      refine a_cons rfl ?_
      refine e_op ?_
      refine e_slice ?_
      refine e_v n3 rfl (by walk_at "vis") ⟨_, rfl, ?_⟩
      refine p_none ?_
      refine p_some ?_
      refine e_int ?_
      refine ⟨_, rfl, ?_⟩
      refine l_list (xs := rs.map V.int) (SqL.of (F.g.sub _ _ hr3)) ?_
      intro p10 H10 N10
      rw [cut_to (by omega), ← List.map_take] at N10
      replace F := F.make N10
      refine e_lst ?_
      refine a_cons rfl ?_
      refine e_int ?_
      refine a_cons rfl ?_
      refine e_int ?_
      refine a_nil ?_
      refine ⟨sz_ok rfl, ?_⟩
      intro p11 H11 N11
      replace F := F.make N11
      refine o_catL (by walk_at "own") (by walk_at "own") (by walk_at "sz") ?_
      intro pB HB NB
      replace NB := NB.cast (o' := .lst ((rs.take 1 ++ [0, 2]).map V.int)) (by rw [List.map_append]; rfl)
      replace F := F.make NB
      refine a_nil ?_
      refine ⟨sz_ok rfl, ?_⟩
      intro pL HL NL
      replace F := F.make NL
      have nd4 := F.nd
      simp only [List.map_cons, List.map_nil, List.nodup_cons, List.mem_cons, List.not_mem_nil, or_false, not_or] at nd4
      obtain ⟨⟨m1, m2, m3, m4, m5, m6⟩, ⟨m7, m8, m9, m10, m11⟩, _, _, ⟨m12, _⟩, _⟩ := nd4
      have fr4 : ∀ p, p ∈ [pL, pB, pE, pA] → v0 ≠ .ref p := fun p hp => ne_ref hv0 (F.new p (by simp only [List.map_cons, List.map_nil, List.mem_cons, List.not_mem_nil, or_false] at hp ⊢; rcases hp with h | h | h | h <;> simp [h])).1
      have hfd : ∀ (i : Nat) (y : PyData) (z : Nat), [d0, .list ((rs ++ [1]).map PyData.int), .list (([] : List Int).map PyData.int), .list ((rs.take 1 ++ [0, 2]).map PyData.int)][i]? = some y → [0, 0, 0, 0][i]? = some z → OddD y := all4 (P := fun y _ => OddD y) ⟨f0.mono (by decide), by omega, by omega⟩
        (oddD_row ((sr.mono (by decide)).app (Sml.one (by decide) (by decide))) (by walk_at "len")) (oddD_row (fun _ h => nomatch h) (by decide)) (oddD_row (((sr.mono (by decide)).take 1).app (Sml.two (by decide) (by decide) (by decide) (by decide))) (by walk_at "len"))
      refine ⟨_, [v0, .ref pA, .ref pE, .ref pB], [d0, .list ((rs ++ [1]).map PyData.int), .list (([] : List Int).map PyData.int), .list ((rs.take 1 ++ [0, 2]).map PyData.int)], Hc, rfl, F.at0,
        not4 (fr4 _ (by simp)) (fun z => m5 (V.ref.inj z).symm) (fun z => m4 (V.ref.inj z).symm) (fun z => m1 (V.ref.inj z).symm), F.g.sub, rfl,
        all4 (P := fun y d => Ow K Hc _ y d) (hO0.same F.g.old) (Ow.list F.n15 F.at5 (DtAll.ints _)) (Ow.list F.n14 F.at4 (DtAll.ints [])) (Ow.list F.n11 F.at1 (DtAll.ints _)),
        dis4 (fr4 _ (by simp)) (fr4 _ (by simp)) (fr4 _ (by simp)) (fun z => m12 z.symm) (fun z => m10 z.symm) (fun z => m9 z.symm),
        fun i σ' => ∃ t : Option V, σ' = [some (.ref a), some (.int (i0 : Int)), some (.ref pq), some (.ref pr), some (.ref po), t], ⟨_, rfl⟩, ?_, ?_⟩
      · rintro i y d σ' H2 hi hd ⟨t, rfl⟩ hB hO
        have hf : Fine 200000 d ∧ d.depth ≤ 40 ∧ lenD d ≤ 150 := hfd i d 0 hd (by have := (List.getElem?_eq_some_iff.mp hd).1; match i, this with | 0, _ => rfl | 1, _ => rfl | 2, _ => rfl | 3, _ => rfl)
        have hK : ∀ b u, y ≠ .ref b → H2 b = some u → H2 b = some u := fun _ _ _ z => z
        clear F
        have F := Fr.start hB
        refine g_v n5 nd rfl (by walk_at "loc") (by walk_at "loc") ?_
        refine b_cons ?_
        refine s_if ?_
        refine t_val (fun _ => rfl) ?_
        refine e_cal C_is_floor_row ⟨rfl, rfl, rfl, rfl, rfl⟩ (by decide) hr (by walk_at "hh") hg rfl rfl rfl (by decide) ?_
        refine a_cons rfl ?_
        refine e_v n5 rfl (by walk_at "vis") ⟨_, rfl, ?_⟩
        refine a_nil ?_
        refine ⟨_, d, rfl, (hO.same F.g.old).dt F.g.sub, Nat.le_trans (items_len d) (by omega), fun H13 S13 => ?_⟩
        replace F := F.same S13
        first | refine ⟨_, rfl, ?_⟩ | refine tru_int ?_
        first | refine if_d (fun hb14 => ?_) (fun hb14 => ?_) | refine if_nd (fun hb14 => ?_) (fun hb14 => ?_) | refine if_b (fun hb14 => ?_) (fun hb14 => ?_)
        · refine b_one ?_
          refine s_cont ?_
          exact ⟨⟨_, rfl⟩, F.g.sub, fun b u h e => F.g.old b u e⟩
        · have hfl : floorRow d = false := hb14
          refine b_nil ?_
          refine b_one ?_
          refine s_if ?_
          refine t_or ?_
          refine t_not ?_
          refine t_val (fun _ => rfl) ?_
          refine e_cal C_law_refused ⟨rfl, rfl, rfl, rfl, rfl⟩ (by decide) hr (by walk_at "hh") hg rfl rfl rfl (by decide) ?_
          refine a_cons rfl ?_
          refine e_v n5 rfl (by walk_at "vis") ⟨_, rfl, ?_⟩
          refine a_cons rfl ?_
          refine e_v n3 rfl (by walk_at "vis") ⟨_, rfl, ?_⟩
          refine a_cons rfl ?_
          refine e_v n5 rfl (by walk_at "vis") ⟨_, rfl, ?_⟩
          refine a_nil ?_
          obtain ⟨fm, dm, lm⟩ := fine_more hf.1 hf.2.1 (by omega)
          refine ⟨_, _, _, _, _, _, Hc, _, _, _, rfl, F.g.sub, (hO.same F.g.old).dt F.g.sub, Dt.ints (SqL.of (F.g.sub _ _ hr3)), hO.same F.g.old, arg_of hf.1 hf.2.1 (by omega), arg_row (sr.mono (by decide)) (by omega), by omega, hf.1, by omega, hf.2.1, by omega, .inl ⟨hfl, rfl⟩, fun H15 hk hB15 hO15 => ?_⟩
          replace hK := fun b u (h : y ≠ .ref b) e => hk b u h (F.g.old b u (hK b u h e))
          replace hO := hO15
          replace hfl := floor_more hfl
          replace hf : Fine _ (moreD d) ∧ (moreD d).depth ≤ 40 ∧ lenD (moreD d) ≤ 160 := ⟨fm, dm, by omega⟩
          clear F hB fm dm lm
          have hB := hB15
          have F := Fr.start hB
          first | refine ⟨_, rfl, ?_⟩ | refine tru_int ?_
          refine iteF ?_
          refine k_or ?_
          refine t_not ?_
          refine t_val (fun _ => rfl) ?_
          refine e_cal C_law_refused ⟨rfl, rfl, rfl, rfl, rfl⟩ (by decide) hr (by walk_at "hh") hg rfl rfl rfl (by decide) ?_
          refine a_cons rfl ?_
          refine e_v n3 rfl (by walk_at "vis") ⟨_, rfl, ?_⟩
          refine a_cons rfl ?_
          refine e_v n5 rfl (by walk_at "vis") ⟨_, rfl, ?_⟩
          refine a_cons rfl ?_
          refine e_v n5 rfl (by walk_at "vis") ⟨_, rfl, ?_⟩
          refine a_nil ?_
          obtain ⟨fm, dm, lm⟩ := fine_more hf.1 hf.2.1 (by omega)
          refine ⟨_, _, _, _, _, _, Hc, _, _, _, rfl, F.g.sub, Dt.ints (SqL.of (F.g.sub _ _ hr3)), (hO.same F.g.old).dt F.g.sub, hO.same F.g.old, arg_row (sr.mono (by decide)) (by omega), arg_of hf.1 hf.2.1 (by omega), by omega, hf.1, by omega, hf.2.1, by omega, .inr ⟨by rw [floorRow_list]; exact fr, hfl, rfl⟩, fun H16 hk hB16 hO16 => ?_⟩
          replace hK := fun b u (h : y ≠ .ref b) e => hk b u h (F.g.old b u (hK b u h e))
          replace hO := hO16
          replace hfl := floor_more hfl
          replace hf : Fine _ (moreD (moreD d)) ∧ (moreD (moreD d)).depth ≤ 40 ∧ lenD (moreD (moreD d)) ≤ 161 := ⟨fm, dm, by omega⟩
          clear F hB fm dm lm
          have hB := hB16
          have F := Fr.start hB
          first | refine ⟨_, rfl, ?_⟩ | refine tru_int ?_
          refine iteF ?_
          refine k_or1 ?_
          refine t_not ?_
          refine t_val (fun _ => rfl) ?_
          refine e_cal C_law_refused ⟨rfl, rfl, rfl, rfl, rfl⟩ (by decide) hr (by walk_at "hh") hg rfl rfl rfl (by decide) ?_
          refine a_cons rfl ?_
          refine e_v n5 rfl (by walk_at "vis") ⟨_, rfl, ?_⟩
          refine a_cons rfl ?_
          refine e_lst ?_
          refine a_cons rfl ?_
          refine e_int ?_
          refine a_cons rfl ?_
          refine e_int ?_
          refine a_nil ?_
          refine ⟨sz_ok rfl, ?_⟩
          intro p17 H17 N17
          replace F := F.make N17
          refine a_cons rfl ?_
          refine e_v n5 rfl (by walk_at "vis") ⟨_, rfl, ?_⟩
          refine a_nil ?_
          obtain ⟨fm, dm, lm⟩ := fine_more hf.1 hf.2.1 (by omega)
          refine ⟨_, _, _, _, _, _, Hc, _, _, _, rfl, F.g.sub, (hO.same F.g.old).dt F.g.sub, Dt.ints (ns := [0, 0]) (by walk_at "seq"), hO.same F.g.old, arg_of hf.1 hf.2.1 (by omega), arg_row (ns := [0, 0]) (Sml.two (by decide) (by decide) (by decide) (by decide)) (by decide), by omega, hf.1, by omega, hf.2.1, by omega, .inl ⟨hfl, rfl⟩, fun H18 hk hB18 hO18 => ?_⟩
          replace hK := fun b u (h : y ≠ .ref b) e => hk b u h (F.g.old b u (hK b u h e))
          replace hO := hO18
          replace hfl := floor_more hfl
          replace hf : Fine _ (moreD (moreD (moreD d))) ∧ (moreD (moreD (moreD d))).depth ≤ 40 ∧ lenD (moreD (moreD (moreD d))) ≤ 162 := ⟨fm, dm, by omega⟩
          clear F hB fm dm lm
          have hB := hB18
          have F := Fr.start hB
          first | refine ⟨_, rfl, ?_⟩ | refine tru_int ?_
          refine iteF ?_
          refine b_nil ?_
          exact ⟨⟨_, rfl⟩, F.g.sub, fun b u h e => F.g.old b u (hK b u h e)⟩
      · rintro σ' H2 ⟨t, rfl⟩ hB
        exact ⟨⟨_, _, _, _, _, rfl⟩, hS.trans (hBase.trans hB)⟩
    · rintro σ' H' ⟨t1, t2, t3, t4, t5, rfl⟩ hS
      refine b_one ?_
      refine s_ret ?_
      refine e_bl ?_
      exact q _

abbrev st_NoRow : Stmt := top 2
theorem sc_NoRow : FnScope ["self", "found"] ["self", "found"] (defScope (iniOf st_NoRow)) := ⟨rfl, rfl, rfl, by decide +kernel, rfl, by decide +kernel, by decide +kernel⟩
theorem ini_NoRow {C B : Addr} (T : OexC K C) (no : PySem.W.findIn K (.ref C) "found" = some none) (hB : BinC K B) (gB : mg "TermError" = some (.ref B)) (f : Addr) (fd : FuncData) (F : Fun K "__init__" "NoRow.__init__" (iniOf st_NoRow) f fd) :
    FnOk P w K mg base CX0 1 f fd ["self", "found"] (spExc C "found") := by
  refine fn_k F sc_NoRow (fun vs H Q E h => ?_) fun cdv A outer s H vs Q E hr h => ?_
  · obtain ⟨a, v, rfl, _⟩ := h; rfl
  · obtain ⟨a, v, rfl, ha, q⟩ := h
    have n0 : Nm ["self", "found"] 0 "self" := ⟨rfl, by decide, by decide⟩
    have n1 : Nm ["self", "found"] 1 "found" := ⟨rfl, by decide, by decide⟩
    refine b_cons ?_
    refine s_expr rfl ?_
    refine e_binit hB rfl gB rfl rfl rfl ?_
    refine a_cons rfl ?_
    refine e_v n0 rfl (by walk_at "vis") ⟨_, rfl, ?_⟩
    refine a_cons rfl ?_
    refine e_str ?_
    refine a_nil ?_
    refine ⟨a, C, _, rfl, by show 1 ≤ 1000; decide, T, ha, ?_⟩
    refine b_one ?_
    refine s_ost rfl ?_
    refine e_v n1 rfl (by walk_at "vis") ⟨_, rfl, ?_⟩
    refine e_v n0 rfl (by walk_at "vis") ⟨_, rfl, ?_⟩
    exact ⟨a, C, rfl, T, no, .inl ⟨ha, fun dx h1 h2 => q dx h1 h2⟩⟩

theorem all_k50 {h : Heap} {C B : Addr} (X : K.In h) (G : h.Ns mainGlobals mg) (M : Bn mg)
    (d0 : HasDef K "is_number" st_is_number)
    (d1 : HasDef K "is_floor_row" st_is_floor_row)
    (d2 : HasDef K "_law_cell" st_law_cell)
    (d3 : HasDef K "_law_purse" st_law_purse)
    (d4 : HasDef K "_law_take" st_law_take)
    (d5 : HasDef K "need_row" st_need_row)
    (d6 : HasDef K "parting" st_parting)
    (d7 : HasDef K "_law_row" st_law_row)
    (d8 : HasDef K "_law_value" st_law_value)
    (d9 : HasDef K "_law_other" st_law_other)
    (d10 : HasDef K "_law_right" st_law_right)
    (d11 : HasDef K "_law_very" st_law_very)
    (d12 : HasDef K "_law_odd" st_law_odd)
    (d13 : HasDef K "_law_refused" st_law_refused)
    (xC : HasExc K "NoRow" "NoRow.__init__" "found" st_NoRow C) (xB : HasBase K "TermError" B)
    {f : Addr} {fd : FuncData} (F : Fun K "law" "law" st_law f fd) : FnG P w K mg base CX0 true 7 f fd ["script"] (spLaw K) := by
  have T : ExK P w K mg base "NoRow" "found" C := xC.ex X G (fun f fd F => ini_NoRow xC.oex xC.no xB.b (PySem.W.mg_of X G xB.g) f fd F) (fun _ _ _ _ _ _ us hl => by match us, hl with | [_, _], _ => rfl)
  have D0 := d0.dn X G
  have D1 := d1.dn X G
  have D2 := d2.dn X G
  have D3 := d3.dn X G
  have D4 := d4.dn X G
  have D5 := d5.dn X G
  have D6 := d6.dn X G
  have D7 := d7.dn X G
  have D8 := d8.dn X G
  have D9 := d9.dn X G
  have D10 := d10.dn X G
  have D11 := d11.dn X G
  have D12 := d12.dn X G
  have D13 := d13.dn X G
  have c_num := ok_is_number (P := P) (w := w) (base := base) (K := K) M D0
  have c_floor := ok_is_floor_row M c_num D1
  have c_need := ok_need_row M T c_floor D5
  have c_part := ok_parting M c_need D6
  have c_cell := ok_law_cell (P := P) (w := w) (base := base) (K := K) M D2
  have c_purse := ok_law_purse (P := P) (w := w) (base := base) (K := K) M D3
  have c_take := ok_law_take (P := P) (w := w) (base := base) (K := K) M D4
  have c_row := ok_law_row M c_take D7
  have c_val := ok_law_value (P := P) (w := w) (base := base) (K := K) M D8
  have c_other := ok_law_other M c_take c_row c_floor D9
  have c_right := ok_law_right M c_part c_val D10
  have c_very := ok_law_very (P := P) (w := w) (base := base) (K := K) M D11
  have c_odd := ok_law_odd M c_take D12
  have c_ref := ok_law_refused M T xC.te c_part c_very D13
  exact ok_law M c_cell c_purse c_row c_other c_right c_odd c_ref c_floor F

theorem fin_law {h : Heap} {fa : Addr} {CNoRow BTermError : Addr} (X : K.In h) (G : h.Ns mainGlobals mg) (hmg : mg "law" = some (.ref fa)) (b_len : PySem.W.nsIn K mainGlobals "len" = some none) (b_isinstance : PySem.W.nsIn K mainGlobals "isinstance" = some none) (b_int : PySem.W.nsIn K mainGlobals "int" = some none) (b_bool : PySem.W.nsIn K mainGlobals "bool" = some none) (b_list : PySem.W.nsIn K mainGlobals "list" = some none) (b_tuple : PySem.W.nsIn K mainGlobals "tuple" = some none) (b_dict : PySem.W.nsIn K mainGlobals "dict" = some none) (b_str : PySem.W.nsIn K mainGlobals "str" = some none) (b_all : PySem.W.nsIn K mainGlobals "all" = some none) (b_range : PySem.W.nsIn K mainGlobals "range" = some none) (b_repr : PySem.W.nsIn K mainGlobals "repr" = some none) (b_max : PySem.W.nsIn K mainGlobals "max" = some none) (b_min : PySem.W.nsIn K mainGlobals "min" = some none) (b_abs : PySem.W.nsIn K mainGlobals "abs" = some none)
    (d0 : HasDef K "is_number" st_is_number) (d1 : HasDef K "is_floor_row" st_is_floor_row) (d2 : HasDef K "_law_cell" st_law_cell) (d3 : HasDef K "_law_purse" st_law_purse) (d4 : HasDef K "_law_take" st_law_take) (d5 : HasDef K "need_row" st_need_row) (d6 : HasDef K "parting" st_parting) (d7 : HasDef K "_law_row" st_law_row) (d8 : HasDef K "_law_value" st_law_value) (d9 : HasDef K "_law_other" st_law_other) (d10 : HasDef K "_law_right" st_law_right) (d11 : HasDef K "_law_very" st_law_very) (d12 : HasDef K "_law_odd" st_law_odd) (d13 : HasDef K "_law_refused" st_law_refused) (d14 : HasDef K "law" st_law)
    (xNoRow : HasExc K "NoRow" "NoRow.__init__" "found" st_NoRow CNoRow) (yTermError : HasBase K "TermError" BTermError) :
    ∃ fd : FuncData, (∀ (s : Shared) (u : Value), BindsTo s fd ⟨[u], []⟩ [("script", u)]) ∧ ∀ base : Heap, K.In base → base.Ns mainGlobals mg → FnG P w K mg base CX0 true 7 fa fd ["script"] (spLaw K) := by
  obtain ⟨f, oc, od, an, osl, kV, dc, pm, cd, ct, a, l, c, k⟩ := d14.ex
  have e := hmg.symm.trans (PySem.W.mg_of X G a)
  cases e
  have M := Bn.of X G b_len b_isinstance b_int b_bool b_list b_tuple b_dict b_str b_all b_range b_repr b_max b_min b_abs
  exact ⟨_, fun s u => .of_eq rfl, fun base _ _ => all_k50 X G M d0 d1 d2 d3 d4 d5 d6 d7 d8 d9 d10 d11 d12 d13 xNoRow yTermError (fun_mk l c k)⟩
end
end Tw
open PySem PySem.W PyProof.Rows
set_option maxRecDepth 100000 in
set_option maxHeartbeats 8000000 in
theorem PySem.Challenge.cw_termwide_k50_whole_rows_part_holds : PySem.Challenge.rw_termwide_k50_whole_rows_part.Holds := by
  w_on; o_law; k_head; (case hw => w_witness2)
  k_fill
  refine Tw.walk_g (l := PySem.Challenge.rw_termwide_k50_whole_rows_part) (k := 7) (x := "script") (sp := Tw.spLaw) rfl (by decide +kernel) rfl ⟨rfl, by decide, by decide⟩ (fun w h Y => PySem.W.kIn_of Y) ?F ?S
  case F =>
    intro w mg fa h KX G hmg
    refine' Tw.fin_law KX G hmg ?b_len ?b_isinstance ?b_int ?b_bool ?b_list ?b_tuple ?b_dict ?b_str ?b_all ?b_range ?b_repr ?b_max ?b_min ?b_abs ?d0 ?d1 ?d2 ?d3 ?d4 ?d5 ?d6 ?d7 ?d8 ?d9 ?d10 ?d11 ?d12 ?d13 ?d14 ?xNoRow ?yTermError
    (case b_len => k_is)
    (case b_isinstance => k_is)
    (case b_int => k_is)
    (case b_bool => k_is)
    (case b_list => k_is)
    (case b_tuple => k_is)
    (case b_dict => k_is)
    (case b_str => k_is)
    (case b_all => k_is)
    (case b_range => k_is)
    (case b_repr => k_is)
    (case b_max => k_is)
    (case b_min => k_is)
    (case b_abs => k_is)
    case d0 =>
      refine' Tw.HasDef.mk' ?a ?l ?c ?k
      (case a => k_is)
      (case l => k_is)
      (case c => k_is)
      (case k => k_is)
    case d1 =>
      refine' Tw.HasDef.mk' ?a ?l ?c ?k
      (case a => k_is)
      (case l => k_is)
      (case c => k_is)
      (case k => k_is)
    case d2 =>
      refine' Tw.HasDef.mk' ?a ?l ?c ?k
      (case a => k_is)
      (case l => k_is)
      (case c => k_is)
      (case k => k_is)
    case d3 =>
      refine' Tw.HasDef.mk' ?a ?l ?c ?k
      (case a => k_is)
      (case l => k_is)
      (case c => k_is)
      (case k => k_is)
    case d4 =>
      refine' Tw.HasDef.mk' ?a ?l ?c ?k
      (case a => k_is)
      (case l => k_is)
      (case c => k_is)
      (case k => k_is)
    case d5 =>
      refine' Tw.HasDef.mk' ?a ?l ?c ?k
      (case a => k_is)
      (case l => k_is)
      (case c => k_is)
      (case k => k_is)
    case d6 =>
      refine' Tw.HasDef.mk' ?a ?l ?c ?k
      (case a => k_is)
      (case l => k_is)
      (case c => k_is)
      (case k => k_is)
    case d7 =>
      refine' Tw.HasDef.mk' ?a ?l ?c ?k
      (case a => k_is)
      (case l => k_is)
      (case c => k_is)
      (case k => k_is)
    case d8 =>
      refine' Tw.HasDef.mk' ?a ?l ?c ?k
      (case a => k_is)
      (case l => k_is)
      (case c => k_is)
      (case k => k_is)
    case d9 =>
      refine' Tw.HasDef.mk' ?a ?l ?c ?k
      (case a => k_is)
      (case l => k_is)
      (case c => k_is)
      (case k => k_is)
    case d10 =>
      refine' Tw.HasDef.mk' ?a ?l ?c ?k
      (case a => k_is)
      (case l => k_is)
      (case c => k_is)
      (case k => k_is)
    case d11 =>
      refine' Tw.HasDef.mk' ?a ?l ?c ?k
      (case a => k_is)
      (case l => k_is)
      (case c => k_is)
      (case k => k_is)
    case d12 =>
      refine' Tw.HasDef.mk' ?a ?l ?c ?k
      (case a => k_is)
      (case l => k_is)
      (case c => k_is)
      (case k => k_is)
    case d13 =>
      refine' Tw.HasDef.mk' ?a ?l ?c ?k
      (case a => k_is)
      (case l => k_is)
      (case c => k_is)
      (case k => k_is)
    case d14 =>
      refine' Tw.HasDef.mk' ?a ?l ?c ?k
      (case a => k_is)
      (case l => k_is)
      (case c => k_is)
      (case k => k_is)
    case xNoRow =>
      refine' Tw.HasExc.mk' ?g (Tw.oexC_mk ?xL ?hb ?sa ?ec ?tc ?kc) ?no ?ga ?gg ?hd ?sC ?i ?t ?l ?c ?k
      (case g => k_is)
      (case xL => k_is)
      (case hb => decide +kernel)
      (case sa => k_is)
      (case ec => k_is)
      (case tc => k_is)
      (case kc => k_is)
      (case no => k_is)
      (case ga => k_is)
      (case gg => k_is)
      (case hd => k_is)
      (case sC => first | rfl | k_is)
      (case i => k_is)
      (case t => k_is)
      (case l => k_is)
      (case c => k_is)
      (case k => k_is)
    case yTermError =>
      refine' Tw.HasBase.mk ?g (Tw.BinC.mk ?sp ?ty ?rd ?fi)
      (case g => k_is)
      (case sp => k_is)
      (case ty => k_is)
      (case rd => k_is)
      (case fi => k_is)
  case S =>
    intro K H a ns hl hq
    exact ⟨a, ns, rfl, hq, hl, fun _ => rfl⟩
