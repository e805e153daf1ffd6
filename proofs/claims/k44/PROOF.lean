import PyProof.Rows.All
import Wide.All
import OpenK.AllK
import Wide.FinOn
import OpenK.XHead
import PyProof.EqAt
import PyProof.NeKinds
import PyProof.CallFns
import HandS.ExcBuiltin
import HandS.ExcValue
import HandS.ForExc
import KE.KExcIs
import HandS.More
import HandS.DictTup
import HandS.SortRule
import KE.DataMinMax
import KE.KDictZip
import KE.KItemsList
import PyProof.ReprRoads
import PyProof.ReprLen
import HandS.RaiseMore
import HandS.ForMost
import HandS.IsInst
import HandS.SortInts
import HandS.Style
import HandS.Walk
import HandS.Conv
import HandS.Wide
import HandS.Flow
import HandS.Deep
import HandS.SetFor
import HandS.Strs
import PySem.Challenge.RW_stretchleast_k44_papers_of_anything
set_option Elab.async false
set_option linter.all false
set_option maxRecDepth 100000
set_option maxHeartbeats 2000000

/-! a calculus of weakest preconditions over the hand layer's judgements -/
namespace SL
open PySem PySem.Spec PyProof.Rows L2

section
variable {X : Cx}
structure We (X : Cx) (e : Expr) (σ : L2.St) (H : Hp) (Q : VK) : Prop where
  run : ∀ (pins : List (Addr × Obj)) (s : Shared), Inv X pins σ H s → wpAny (model X.prog X.w) X.A (eval e X.env) (EP X pins σ Q) X.xe s
structure Wt (X : Cx) (e : Expr) (σ : L2.St) (H : Hp) (Q : Bool → Hp → Prop) : Prop where
  run : ∀ (pins : List (Addr × Obj)) (s : Shared), Inv X pins σ H s → wpAny (model X.prog X.w) X.A (isTrue e X.env (eval e X.env)) (TP X pins σ Q) X.xe s
/-- a test that is part of an and, an or -/
structure Ww (X : Cx) (e : Expr) (σ : L2.St) (H : Hp) (Q : Bool → Hp → Prop) : Prop where
  run : ∀ (whole : Sem Value) (pins : List (Addr × Obj)) (s : Shared), Inv X pins σ H s → wpAny (model X.prog X.w) X.A (isTrue e X.env whole) (TP X pins σ Q) X.xe s
structure Wa (X : Cx) (es : List Expr) (σ : L2.St) (H : Hp) (Q : List V → Hp → Prop) : Prop where
  run : ∀ (pos : Pos) (pins : List (Addr × Obj)) (s : Shared), Inv X pins σ H s → wpAny (model X.prog X.w) X.A (spliced (backTo pos (starEach es X.env))) (AP X pins σ Q) X.xe s
structure Ws (X : Cx) (st : Stmt) (D : Ends) (σ : L2.St) (H : Hp) : Prop where
  run : ∀ (pins : List (Addr × Obj)) (s : Shared), Inv X pins σ H s → wpAny (model X.prog X.w) X.A (exec st X.env) (SP X pins D) X.xe s
structure Wss (X : Cx) (st : List Stmt) (D : Ends) (σ : L2.St) (H : Hp) : Prop where
  run : ∀ (pins : List (Addr × Obj)) (s : Shared), Inv X pins σ H s → wpAny (model X.prog X.w) X.A (execs st X.env) (SP X pins D) X.xe s
structure Wg (X : Cx) (tg : Expr) (v : V) (σ : L2.St) (H : Hp) (Q : L2.St → Hp → Prop) : Prop where
  run : ∀ (pins : List (Addr × Obj)) (s : Shared) (u : Value), Inv X pins σ H s → RelV v u →
    wpAny (model X.prog X.w) X.A (assign tg X.env u) (fun _ s' => ∃ σ' H', Inv X pins σ' H' s' ∧ Q σ' H') X.xe s
theorem We.pe {e : Expr} : PE X e (We X e) := ⟨fun pins s σ H Q I h => h.run pins s I⟩
theorem Wt.pt {e : Expr} : PT X e (Wt X e) := ⟨fun pins s σ H Q I h => h.run pins s I⟩
theorem Ww.pw {e : Expr} : PW X e (Ww X e) := ⟨fun wh pins s σ H Q I h => h.run wh pins s I⟩
theorem Wa.pa {es : List Expr} : PA X es (Wa X es) := ⟨fun pos pins s σ H Q I h => h.run pos pins s I⟩
theorem Ws.ps {st : Stmt} : PS X st (Ws X st) := ⟨fun pins s σ H D I h => h.run pins s I⟩
theorem Wss.pss {st : List Stmt} : PSs X st (Wss X st) := ⟨fun pins s σ H D I h => h.run pins s I⟩
theorem Wg.pg {tg : Expr} : PG X tg (Wg X tg) := ⟨fun pins s σ H v u Q I r h => h.run pins s u I r⟩
variable {σ : L2.St} {H : Hp} {Q : VK} {D : Ends}
theorem we_of {e : Expr} {t : TE} (h : PE X e t) (q : t σ H Q) : We X e σ H Q := ⟨fun pins s I => h.run pins s σ H Q I q⟩
theorem wt_of {e : Expr} {t : TT} {Q : Bool → Hp → Prop} (h : PT X e t) (q : t σ H Q) : Wt X e σ H Q := ⟨fun pins s I => h.run pins s σ H Q I q⟩
theorem wa_of {es : List Expr} {t : TA} {Q : List V → Hp → Prop} (h : PA X es t) (q : t σ H Q) : Wa X es σ H Q := ⟨fun pos pins s I => h.run pos pins s σ H Q I q⟩
theorem ws_of {st : Stmt} {t : TS} (h : PS X st t) (q : t D σ H) : Ws X st D σ H := ⟨fun pins s I => h.run pins s σ H D I q⟩
theorem wss_of {st : List Stmt} {t : TS} (h : PSs X st t) (q : t D σ H) : Wss X st D σ H := ⟨fun pins s I => h.run pins s σ H D I q⟩
theorem wg_of {tg : Expr} {g : TG} {v : V} {Q : L2.St → Hp → Prop} (h : PG X tg g) (q : g v σ H Q) : Wg X tg v σ H Q := ⟨fun pins s u I r => h.run pins s σ H v u Q I r q⟩

/-! ### operators by values -/
structure Bin (X : Cx) (op : Operator) (x y : V) (H : Hp) (Q : VK) : Prop where
  ex : ∃ r : R2, OpR X (binaryOp op) r ∧ r x y H Q
structure Cmp (X : Cx) (op : CmpOp) (x y : V) (H : Hp) (Q : VK) : Prop where
  ex : ∃ r : R2, OpR X (compareOp op) r ∧ r x y H Q
structure Una (X : Cx) (op : UnaryOp) (x : V) (H : Hp) (Q : VK) : Prop where
  ex : ∃ r, UnR X (unaryOp op) r ∧ r x H Q
structure Cal (X : Cx) (f : Value) (xs : List V) (H : Hp) (Q : VK) : Prop where
  ex : ∃ r, CallR X f r ∧ r xs H Q
structure Mth (X : Cx) (id : String) (x : V) (xs : List V) (H : Hp) (Q : VK) : Prop where
  ex : ∃ r, MtR X id r ∧ r x xs H Q
structure Ixw (X : Cx) (x y : V) (H : Hp) (Q : VK) : Prop where
  ex : ∃ r, IxR X r ∧ r x y H Q
structure Slw (X : Cx) (x : V) (lo hi : Option Int) (H : Hp) (Q : VK) : Prop where
  ex : ∃ r, SlR X r ∧ r x lo hi H Q
structure Setw (X : Cx) (o i v : V) (H : Hp) (Q : Hp → Prop) : Prop where
  ex : ∃ t, PSet X t ∧ t o i v H Q
structure Ipw (X : Cx) (op : Operator) (x y : V) (H : Hp) (Q : VK) : Prop where
  ex : ∃ t, PIp X op t ∧ t x y H Q
theorem Bin.ok {op : Operator} : OpR X (binaryOp op) (Bin X op) := by
  intro pins s σ H x y v u Q I rx ry h
  obtain ⟨r, h1, h2⟩ := h.ex
  exact h1 pins s σ H x y v u Q I rx ry h2
theorem Cmp.ok {op : CmpOp} : OpR X (compareOp op) (Cmp X op) := by
  intro pins s σ H x y v u Q I rx ry h
  obtain ⟨r, h1, h2⟩ := h.ex
  exact h1 pins s σ H x y v u Q I rx ry h2
theorem Una.ok {op : UnaryOp} : UnR X (unaryOp op) (Una X op) := by
  intro pins s σ H x v Q I rx h
  obtain ⟨r, h1, h2⟩ := h.ex
  exact h1 pins s σ H x v Q I rx h2
theorem Cal.ok {f : Value} : CallR X f (Cal X f) := by
  intro pins s σ H xs us Q I r h
  obtain ⟨q, h1, h2⟩ := h.ex
  exact h1 pins s σ H xs us Q I r h2
theorem Mth.ok {id : String} : MtR X id (Mth X id) := by
  intro pins s σ H x xs u us Q I r1 r2 h
  obtain ⟨q, h1, h2⟩ := h.ex
  exact h1 pins s σ H x xs u us Q I r1 r2 h2
theorem Ixw.ok : IxR X (Ixw X) := by
  intro value slice pins s σ H x y v u Q I r1 r2 h
  obtain ⟨q, h1, h2⟩ := h.ex
  exact h1 value slice pins s σ H x y v u Q I r1 r2 h2
theorem Slw.ok : SlR X (Slw X) := by
  intro pins s σ H x v vl vu lo hi sl Q I rx hs pl pu h
  obtain ⟨r, h1, h2⟩ := h.ex
  exact h1 pins s σ H x v vl vu lo hi sl Q I rx hs pl pu h2
theorem Setw.ok : PSet X (Setw X) := by
  intro pins s σ H o i v ov iv u Q I r1 r2 r3 h
  obtain ⟨q, h1, h2⟩ := h.ex
  exact h1 pins s σ H o i v ov iv u Q I r1 r2 r3 h2
theorem Ipw.ok {op : Operator} : PIp X op (Ipw X op) := by
  intro pins s σ H x y v u Q I r1 r2 h
  obtain ⟨q, h1, h2⟩ := h.ex
  exact h1 pins s σ H x y v u Q I r1 r2 h2
end

/-- a value that is a truth, and what is wanted of it -/
structure TB (Q : Bool → Hp → Prop) (z : V) (H : Hp) : Prop where
  ex : ∃ k, z = .bl k ∧ Q k H
theorem tb {Q : Bool → Hp → Prop} {k : Bool} {H : Hp} (h : Q k H) : TB Q (.bl k) H := ⟨k, rfl, h⟩
theorem we_tb {X : Cx} {e : Expr} {σ : L2.St} {H : Hp} {Q : Bool → Hp → Prop} (h : We X e σ H (TB Q)) : We X e σ H fun z H1 => ∃ k, z = .bl k ∧ Q k H1 := ⟨fun pins s I => thn (h.run pins s I) fun _ _ ⟨v, H1, I1, r1, q⟩ => ⟨v, H1, I1, r1, q.ex⟩⟩
theorem we_mono {X : Cx} {e : Expr} {σ : L2.St} {H : Hp} {Q Q' : VK} (h : We X e σ H Q) (hq : ∀ v H1, Q v H1 → Q' v H1) : We X e σ H Q' := ⟨fun pins s I => thn (h.run pins s I) fun _ _ ⟨v, H1, I1, r1, q⟩ => ⟨v, H1, I1, r1, hq v H1 q⟩⟩
theorem cmp_tb {X : Cx} {op : CmpOp} {x y : V} {H : Hp} {Q Q' : VK} (h : Cmp X op x y H Q) (hq : ∀ v H1, Q v H1 → Q' v H1) : Cmp X op x y H Q' := by
  obtain ⟨r, h1, h2⟩ := h.ex
  refine ⟨fun x' y' H' Q'' => ∃ Q0 : VK, r x' y' H' Q0 ∧ ∀ v H1, Q0 v H1 → Q'' v H1, ?_, Q, h2, hq⟩
  intro pins s σ H x y v u Q I rx ry hh
  obtain ⟨Q0, g1, g2⟩ := hh
  exact thn (h1 pins s σ H x y v u Q0 I rx ry g1) fun _ _ ⟨z, H1, I1, r1, q⟩ => ⟨z, H1, I1, r1, g2 z H1 q⟩

section
variable {X : Cx} {σ : L2.St} {H : Hp} {Q : VK} {D : Ends} {a b c e o : Expr} {es rest : List Expr} {pos p p2 : Pos} {v : V}
/-! ### expressions -/
theorem we_int {i : Int} {j : Nat} (h : Q (.int i) H) : We X (.Constant (.int i) j pos) σ H Q := we_of pe_int h
theorem we_bl {i : Bool} {j : Nat} (h : Q (.bl i) H) : We X (.Constant (.bool i) j pos) σ H Q := we_of pe_bl h
theorem we_non {j : Nat} (h : Q .non H) : We X (.Constant .none j pos) σ H Q := we_of pe_non h
theorem we_str {x : Str} {j : Nat} (h : Q (.str x) H) : We X (.Constant (.str x) j pos) σ H Q := we_of pe_str h
theorem we_var (i : Nat) {x : Str} (hN : X.N[i]? = some x) (hv : Vis X.env.scope x) (hs : σ[i]? = some (some v)) (h : Q v H) (hd : (x == ("__debug__" : Str)) = false := by decide) (hcd : (x == ("__classdict__" : Str)) = false := by decide) :
    We X (.Name x pos) σ H Q := we_of (pe_var hN hv hd hcd) ⟨v, hs, h⟩
theorem we_bin {op : Operator} (h : We X a σ H fun x H1 => We X b σ H1 fun y H2 => Bin X op x y H2 Q) : We X (.BinOp a op b pos) σ H Q := we_of (pe_op Bin.ok We.pe We.pe) h
theorem we_un {op : UnaryOp} (h : We X a σ H fun x H1 => Una X op x H1 Q) : We X (.UnaryOp op a pos) σ H Q := we_of (pe_un Una.ok We.pe) h
theorem we_not (h : We X a σ H (TB fun k H1 => Q (.bl (!k)) H1)) : We X (.UnaryOp .Not a pos) σ H Q := we_of (pe_not We.pe) (we_tb h)
theorem we_cmp {op : CmpOp} (hm : behindInMarks op b = false) (h : We X a σ H fun x H1 => We X b σ H1 fun y H2 => Cmp X op x y H2 Q) : We X (.Compare a [op] [b] pos) σ H Q := we_of (pe_cmpR Cmp.ok We.pe We.pe hm) h
theorem we_and (h : We X a σ H (TB fun k H1 => if k = true then We X (.BoolOp .And (b :: rest) pos) σ H1 Q else Q (.bl false) H1)) : We X (.BoolOp .And (a :: b :: rest) pos) σ H Q := we_of (pe_and We.pe We.pe) (we_tb h)
theorem we_or (h : We X a σ H (TB fun k H1 => if k = true then Q (.bl true) H1 else We X (.BoolOp .Or (b :: rest) pos) σ H1 Q)) : We X (.BoolOp .Or (a :: b :: rest) pos) σ H Q := we_of (pe_or We.pe We.pe) (we_tb h)
theorem we_one {op : BoolOp} (h : We X a σ H Q) : We X (.BoolOp op [a] pos) σ H Q := we_of (pe_one We.pe) h
theorem we_ifExp (h : Wt X c σ H fun k H1 => if k = true then We X a σ H1 Q else We X b σ H1 Q) : We X (.IfExp c a b pos) σ H Q := we_of (pe_ifExp Wt.pt We.pe We.pe) h
theorem we_tup {x1 : Nat} (h : Wa X es σ H fun xs H1 => xs.length ≤ sizeLine ∧ ∀ p, H1 p = none → Q (.ref p) (upd H1 p (.tup xs))) : We X (.Tuple es x1 pos) σ H Q := we_of (pe_tup Wa.pa) h
theorem we_lst (h : Wa X es σ H fun xs H1 => xs.length ≤ sizeLine ∧ ∀ p, H1 p = none → Q (.ref p) (upd H1 p (.lst xs))) : We X (.List es pos) σ H Q := we_of (pe_lst Wa.pa) h
theorem we_ix (h : We X a σ H fun x H1 => We X b σ H1 fun y H2 => Ixw X x y H2 Q) (hs : PlainIx b := by exact fun _ _ => rfl) : We X (.Subscript a b pos) σ H Q := we_of (pe_ix Ixw.ok We.pe We.pe hs) h
def Wp (X : Cx) : Option Expr → TO
  | none => tNoPart
  | some e => tPart (We X e)
theorem Wp.po : ∀ {o : Option Expr}, PO X o (Wp X o)
  | none => po_none
  | some _ => po_some We.pe
theorem we_sl {lo hi : Option Expr} (h : We X e σ H fun x H1 => Wp X lo σ H1 fun l H2 => Wp X hi σ H2 fun u H3 => Slw X x l u H3 Q) : We X (.Subscript e (.Slice lo hi none p2) pos) σ H Q := we_of (pe_slice Slw.ok We.pe Wp.po Wp.po) h
theorem wp_none {Q : Option Int → Hp → Prop} (h : Q none H) : Wp X none σ H Q := h
theorem wp_some {Q : Option Int → Hp → Prop} (h : We X e σ H fun x H1 => ∃ i, x = .int i ∧ Q (some i) H1) : Wp X (some e) σ H Q := h
theorem we_rev {k : Nat} {p1 p3 : Pos} (h : We X e σ H fun x H1 => ∃ a xs, x = .ref a ∧ SqL X.K H1 a xs ∧ ∀ p, H1 p = none → Q (.ref p) (upd H1 p (.lst xs.reverse))) :
    We X (.Subscript e (.Slice none none (some (.UnaryOp .USub (.Constant (.int 1) k p1) p2)) p3) pos) σ H Q := we_of (pe_revL We.pe) h
theorem we_glob {x : Str} {u : Value} (hg : Gl X x) (hm : X.mg x = some u) (r : RelV v u) (h : Q v H) (hd : (x == ("__debug__" : Str)) = false := by decide) : We X (.Name x pos) σ H Q := we_of (pe_glob hg hm r hd) h
theorem we_bltn {x : Str} {u : Value} (hg : Gl X x) (hm : X.mg x = none) (hv : bootBuiltins x = some u) (r : RelV v u) (h : Q v H) (hn : x ≠ "__name__" := by decide) (hd : (x == ("__debug__" : Str)) = false := by decide) : We X (.Name x pos) σ H Q := we_of (pe_bltn hg hm hv r hn hd) h
/-! ### arguments -/
theorem wa_nil {Q : List V → Hp → Prop} (h : Q [] H) : Wa X [] σ H Q := wa_of pa_nil h
theorem wa_cons {Q : List V → Hp → Prop} (h : We X e σ H fun x H1 => Wa X es σ H1 fun xs H2 => Q (x :: xs) H2) (he : starEach (e :: es) X.env = (false, eval e X.env) :: starEach es X.env := by rfl) : Wa X (e :: es) σ H Q := wa_of (pa_cons We.pe Wa.pa he) h
/-! ### chains of comparisons -/
structure Wch (X : Cx) (σ : L2.St) (x : V) (ops : List CmpOp) (es : List Expr) (H : Hp) (Q : VK) : Prop where
  run : ∀ (pos : Pos) (pins : List (Addr × Obj)) (s : Shared) (v : Value), Inv X pins σ H s → RelV x v → wpAny (model X.prog X.w) X.A (compareChain pos v ops (evalEach es X.env)) (EP X pins σ Q) X.xe s
theorem wch_last {x : V} {op : CmpOp} (h : We X e σ H fun y H1 => Cmp X op x y H1 Q) : Wch X σ x [op] [e] H Q := ⟨fun pos pins s v I r =>
  chain_last (thn (h.run pins s I) fun u s1 ⟨y, H1, I1, r1, q1⟩ => Cmp.ok pins s1 σ H1 x y v u Q I1 r r1 q1)⟩
theorem wch_link {x : V} {op op' : CmpOp} {ops : List CmpOp} {e' : Expr} (h : We X e σ H fun y H1 => Cmp X op x y H1 (TB fun k H2 => if k = true then Wch X σ y (op' :: ops) (e' :: es) H2 Q else Q (.bl false) H2)) : Wch X σ x (op :: op' :: ops) (e :: e' :: es) H Q := ⟨fun pos pins s v I r => by
  refine chain_link (thn (h.run pins s I) fun u s1 ⟨y, H1, I1, r1, q1⟩ => thn (Cmp.ok pins s1 σ H1 x y v u _ I1 r r1 q1) fun d s2 ⟨z, H2, I2, r2, q3⟩ => ?_)
  obtain ⟨k, e2, q2⟩ := q3.ex
  subst e2
  cases r2
  refine wpAny_truthy_bool ?_
  cases k with
  | false => exact ite_ff ⟨.bl false, H2, I2, rfl, q2⟩
  | true => exact ite_tt (Wch.run q2 pos pins s2 u I2 r1)⟩
theorem we_chain {op op' : CmpOp} {ops : List CmpOp} {b' : Expr} (hm : lastMarks (op :: op' :: ops) (b :: b' :: es) = false) (h : We X a σ H fun x H1 => Wch X σ x (op :: op' :: ops) (b :: b' :: es) H1 Q) : We X (.Compare a (op :: op' :: ops) (b :: b' :: es) pos) σ H Q := ⟨fun pins s I =>
  Compare_chain (thn (h.run pins s I) fun v s1 ⟨x, H1, I1, r1, q1⟩ => q1.run pos pins s1 v I1 r1) hm⟩
structure Wct (X : Cx) (σ : L2.St) (x : V) (ops : List CmpOp) (es : List Expr) (H : Hp) (Q : Bool → Hp → Prop) : Prop where
  run : ∀ (pos : Pos) (pins : List (Addr × Obj)) (s : Shared) (v : Value), Inv X pins σ H s → RelV x v → wpAny (model X.prog X.w) X.A (testChain pos v ops (evalEach es X.env)) (TP X pins σ Q) X.xe s
theorem wct_last {x : V} {op : CmpOp} {Q : Bool → Hp → Prop} (h : We X e σ H fun y H1 => Cmp X op x y H1 (TB Q)) : Wct X σ x [op] [e] H Q := ⟨fun pos pins s v I r => by
  refine test_last (thn (h.run pins s I) fun u s1 ⟨y, H1, I1, r1, q1⟩ => thn (Cmp.ok pins s1 σ H1 x y v u _ I1 r r1 q1) fun d s2 ⟨z, H2, I2, r2, q3⟩ => ?_)
  obtain ⟨k, e2, q2⟩ := q3.ex
  subst e2
  cases r2
  exact wpAny_truthy_bool ⟨H2, I2, q2⟩⟩
theorem wct_link {x : V} {op op' : CmpOp} {ops : List CmpOp} {e' : Expr} {Q : Bool → Hp → Prop} (h : We X e σ H fun y H1 => Cmp X op x y H1 (TB fun k H2 => if k = true then Wct X σ y (op' :: ops) (e' :: es) H2 Q else Q false H2)) : Wct X σ x (op :: op' :: ops) (e :: e' :: es) H Q := ⟨fun pos pins s v I r => by
  refine test_link (thn (h.run pins s I) fun u s1 ⟨y, H1, I1, r1, q1⟩ => thn (Cmp.ok pins s1 σ H1 x y v u _ I1 r r1 q1) fun d s2 ⟨z, H2, I2, r2, q3⟩ => ?_)
  obtain ⟨k, e2, q2⟩ := q3.ex
  subst e2
  cases r2
  refine wpAny_truthy_bool ?_
  cases k with
  | false => exact ite_ff ⟨H2, I2, q2⟩
  | true => exact ite_tt (Wct.run q2 pos pins s2 u I2 r1)⟩
/-! ### tests -/
variable {R : Bool → Hp → Prop}
theorem wt_cmp {op : CmpOp} (hm : behindInMarks op b = false) (h : We X a σ H fun x H1 => We X b σ H1 fun y H2 => Cmp X op x y H2 (TB R)) : Wt X (.Compare a [op] [b] pos) σ H R := wt_of (pt_cmpR Cmp.ok We.pe We.pe hm) (we_mono h fun _ _ h1 => we_mono h1 fun _ _ h2 => cmp_tb h2 fun _ _ q => q.ex)
theorem wt_chain {op op' : CmpOp} {ops : List CmpOp} {b' : Expr} (hm : lastMarks (op :: op' :: ops) (b :: b' :: es) = false) (h : We X a σ H fun x H1 => Wct X σ x (op :: op' :: ops) (b :: b' :: es) H1 R) : Wt X (.Compare a (op :: op' :: ops) (b :: b' :: es) pos) σ H R := ⟨fun pins s I =>
  isTrue_chain (thn (h.run pins s I) fun v s1 ⟨x, H1, I1, r1, q1⟩ => q1.run pos pins s1 v I1 r1) hm⟩
theorem wt_val (h : We X e σ H (TB R)) (he : ∀ whole, isTrue e X.env whole = (do let v ← whole; standAt e.pos; holding [v] (truthy v)) := by intro _; rfl) : Wt X e σ H R := wt_of (pt_val We.pe he) (we_tb h)
theorem wt_not (h : Wt X a σ H fun k H1 => R (!k) H1) : Wt X (.UnaryOp .Not a pos) σ H R := wt_of (pt_not Wt.pt) h
theorem ww_and1 (h : Wt X a σ H R) : Ww X (.BoolOp .And [a] pos) σ H R := ⟨fun wh pins s I => (pw_and1 Wt.pt).run wh pins s σ H R I h⟩
theorem ww_or1 (h : Wt X a σ H R) : Ww X (.BoolOp .Or [a] pos) σ H R := ⟨fun wh pins s I => (pw_or1 Wt.pt).run wh pins s σ H R I h⟩
theorem ww_and (h : Wt X a σ H fun k H1 => if k = true then Ww X (.BoolOp .And (b :: rest) pos) σ H1 R else R false H1) : Ww X (.BoolOp .And (a :: b :: rest) pos) σ H R := ⟨fun wh pins s I => (pw_and Wt.pt Ww.pw).run wh pins s σ H R I h⟩
theorem ww_or (h : Wt X a σ H fun k H1 => if k = true then R true H1 else Ww X (.BoolOp .Or (b :: rest) pos) σ H1 R) : Ww X (.BoolOp .Or (a :: b :: rest) pos) σ H R := ⟨fun wh pins s I => (pw_or Wt.pt Ww.pw).run wh pins s σ H R I h⟩
theorem wt_ww (h : Ww X e σ H R) : Wt X e σ H R := ⟨fun pins s I => h.run _ pins s I⟩
theorem wt_truth (h : We X e σ H fun x H1 => ∃ k, TruV X.K x H1 k ∧ R k H1) (he : ∀ whole, isTrue e X.env whole = (do let v ← whole; standAt e.pos; holding [v] (truthy v)) := by intro _; rfl) : Wt X e σ H R := wt_of (pt_truth We.pe he) h

/-! ### statements -/
variable {st : Stmt} {sts body orelse : List Stmt}
theorem wss_nil (h : D.nx σ H) : Wss X [] D σ H := wss_of pss_nil h
theorem wss_cons (h : Ws X st { D with nx := fun σ' H' => Wss X sts D σ' H' } σ H) : Wss X (st :: sts) D σ H := wss_of (pss_cons Ws.ps Wss.pss) h
theorem wss_one (h : Ws X st D σ H) : Wss X [st] D σ H := wss_of (pss_one Ws.ps) h
theorem ws_expr (h : We X e σ H fun _ H1 => D.nx σ H1) (hs : swapsWith e none pos.line X.env = pure false := by rfl) : Ws X (.Expr e pos) D σ H := ws_of (ps_expr We.pe hs) h
theorem ws_ret (h : We X e σ H D.rt) : Ws X (.Return (some e) pos) D σ H := ws_of (ps_ret We.pe) h
theorem ws_if (h : Wt X c σ H fun k H1 => if k = true then Wss X body D σ H1 else Wss X orelse D σ H1) : Ws X (.If c body orelse pos) D σ H := ws_of (ps_if Wt.pt Wss.pss Wss.pss) h
theorem ws_pass (h : D.nx σ H) : Ws X (.Pass pos) D σ H := ws_of ps_pass h
theorem ws_break (h : D.bk σ H) : Ws X (.Break pos) D σ H := ws_of ps_break h
theorem ws_cont (h : D.ct σ H) : Ws X (.Continue pos) D σ H := ws_of ps_continue h
theorem ws_name (i : Nat) {x : Str} {pos' : Pos} (hN : X.N.Nodup) (hi : X.N[i]? = some x) (hx : Loc X.env.scope x) (h : We X e σ H fun v H1 => D.nx (σ.set i (some v)) H1)
    (hs : swapsWith e (some (.Name x pos')) pos.line X.env = pure false := by rfl) (hf : X.fn x = true ∨ X.env.scope.names.lookup x = some .local := by first | exact .inl rfl | exact .inr rfl | assumption) : Ws X (.Assign [.Name x pos'] e pos) D σ H := ws_of (ps_set hN hi hx We.pe hs hf) h
theorem ws_asg {tg : Expr} (h : We X e σ H fun v H1 => Wg X tg v σ H1 D.nx) (hs : swapsWithSole [tg] e pos.line X.env = pure false := by rfl) (hw : swappedStores [tg] e X.env = pure none := by rfl)
    (h1 : (assignEach [tg] X.env).map (·.2) = [assign tg X.env] := by rfl) : Ws X (.Assign [tg] e pos) D σ H := ws_of (ps_asg We.pe Wg.pg hs hw h1) h
theorem ws_aug (i : Nat) {x : Str} {pos' : Pos} {op : Operator} {y : V} (hN : X.N.Nodup) (hi : X.N[i]? = some x) (hx : Loc X.env.scope x) (hs : σ[i]? = some (some y)) (h : We X e σ H fun z H1 => Ipw X op y z H1 fun w H2 => D.nx (σ.set i (some w)) H2)
    (hf : X.fn x = true ∨ X.env.scope.names.lookup x = some .local := by first | exact .inl rfl | exact .inr rfl | assumption) : Ws X (.AugAssign (.Name x pos') op e pos) D σ H := ws_of (ps_aug hN hi hx We.pe Ipw.ok hf) ⟨y, hs, h⟩
/-! targets -/
variable {G : L2.St → Hp → Prop}
theorem wg_name (i : Nat) {x : Str} (hN : X.N.Nodup) (hi : X.N[i]? = some x) (hx : Loc X.env.scope x) (h : G (σ.set i (some v)) H) (hf : X.fn x = true ∨ X.env.scope.names.lookup x = some .local := by first | exact .inl rfl | exact .inr rfl | assumption) : Wg X (.Name x pos) v σ H G := wg_of (pg_name hN hi hx hf) h
theorem wg_sub (h : We X a σ H fun o H1 => We X b σ H1 fun i H2 => Setw X o i v H2 fun H3 => G σ H3)
    (ha : ∀ v, assign (.Subscript a b pos) X.env v = (do
      let ov ← holding [v] (eval a X.env)
      let iv ← holding [v, ov] (eval b X.env)
      standAt pos
      holding [v, ov, iv] (setItem ov iv v)
      release [v, ov, iv] []) := by intro _; rfl) : Wg X (.Subscript a b pos) v σ H G := wg_of (pg_sub We.pe We.pe Setw.ok ha) h
/-- two, three names -/
theorem wg_tup2 (i j : Nat) {x y : Str} {k : Nat} {px py : Pos} {q : Addr} {v w : V} (hN : X.N.Nodup) (hi : X.N[i]? = some x) (hj : X.N[j]? = some y) (hx : Loc X.env.scope x) (hy : Loc X.env.scope y) (hc : X.calm = true) (ht : SqT X.K H q [v, w])
    (h : G ((σ.set i (some v)).set j (some w)) H) (fx : X.fn x = true ∨ X.env.scope.names.lookup x = some .local := by first | exact .inl rfl | exact .inr rfl | assumption) (fy : X.fn y = true ∨ X.env.scope.names.lookup y = some .local := by first | exact .inl rfl | exact .inr rfl | assumption)
    (s1 : (assignEach [.Name x px, .Name y py] X.env).map (·.2) = assign (.Name x px) X.env :: (assignEach [.Name y py] X.env).map (·.2) := by rfl) (s2 : (assignEach [.Name y py] X.env).map (·.2) = assign (.Name y py) X.env :: (assignEach [] X.env).map (·.2) := by rfl)
    (hn : (assignEach [.Name x px, .Name y py] X.env).length = 2 := by rfl) (hst : (assignEach [.Name x px, .Name y py] X.env).findIdx? (·.1) = none := by rfl) :
    Wg X (.Tuple [.Name x px, .Name y py] k pos) (.ref q) σ H G :=
  wg_of (pg_tup hc (pgs_cons (pg_name hN hi hx fx) (pgs_cons (pg_name hN hj hy fy) pgs_nil s2) s1) hn hst) ⟨q, _, rfl, ht, rfl, v, _, rfl, w, _, rfl, rfl, h⟩
theorem wg_tup3 (i j l : Nat) {x y z : Str} {k : Nat} {px py pz : Pos} {q : Addr} {v w u : V} (hN : X.N.Nodup) (hi : X.N[i]? = some x) (hj : X.N[j]? = some y) (hl : X.N[l]? = some z) (hx : Loc X.env.scope x) (hy : Loc X.env.scope y) (hz : Loc X.env.scope z) (hc : X.calm = true) (ht : SqT X.K H q [v, w, u])
    (h : G (((σ.set i (some v)).set j (some w)).set l (some u)) H) (fx : X.fn x = true ∨ X.env.scope.names.lookup x = some .local := by first | exact .inl rfl | exact .inr rfl | assumption) (fy : X.fn y = true ∨ X.env.scope.names.lookup y = some .local := by first | exact .inl rfl | exact .inr rfl | assumption) (fz : X.fn z = true ∨ X.env.scope.names.lookup z = some .local := by first | exact .inl rfl | exact .inr rfl | assumption)
    (s1 : (assignEach [.Name x px, .Name y py, .Name z pz] X.env).map (·.2) = assign (.Name x px) X.env :: (assignEach [.Name y py, .Name z pz] X.env).map (·.2) := by rfl) (s2 : (assignEach [.Name y py, .Name z pz] X.env).map (·.2) = assign (.Name y py) X.env :: (assignEach [.Name z pz] X.env).map (·.2) := by rfl) (s3 : (assignEach [.Name z pz] X.env).map (·.2) = assign (.Name z pz) X.env :: (assignEach [] X.env).map (·.2) := by rfl)
    (hn : (assignEach [.Name x px, .Name y py, .Name z pz] X.env).length = 3 := by rfl) (hst : (assignEach [.Name x px, .Name y py, .Name z pz] X.env).findIdx? (·.1) = none := by rfl) :
    Wg X (.Tuple [.Name x px, .Name y py, .Name z pz] k pos) (.ref q) σ H G :=
  wg_of (pg_tup hc (pgs_cons (pg_name hN hi hx fx) (pgs_cons (pg_name hN hj hy fy) (pgs_cons (pg_name hN hl hz fz) pgs_nil s3) s2) s1) hn hst) ⟨q, _, rfl, ht, rfl, v, _, rfl, w, _, rfl, u, _, rfl, rfl, h⟩
end

/-! ### loops -/
section
variable {X : Cx} {σ : L2.St} {H : Hp} {Q : VK} {D : Ends} {a b c e it tg elt : Expr} {es rest ifs : List Expr} {pos p p2 : Pos} {v : V} {body : List Stmt} {R : It → Hp → Prop}
structure Wit (X : Cx) (tg it : Expr) (σ : L2.St) (H : Hp) (R : It → Hp → Prop) : Prop where
  run : ∀ (pins : List (Addr × Obj)) (s : Shared), Inv X pins σ H s → wpAny (model X.prog X.w) X.A (eval it X.env) (fun v s1 => wpAny (model X.prog X.w) X.A (pyIter v) (PIE X pins σ tg R) X.xe s1) X.xe s
theorem Wit.pi : PI X tg it (Wit X tg it) := ⟨fun pins s σ H R I h => h.run pins s I⟩
theorem wit_of {w : TI} (h : PI X tg it w) (q : w σ H R) : Wit X tg it σ H R := ⟨fun pins s I => h.run pins s σ H R I q⟩
theorem wit_list (h : We X it σ H fun v H1 => ∃ a, v = .ref a ∧ (∃ xs, SqL X.K H1 a xs) ∧ R (Itl X.K a) H1) : Wit X tg it σ H R := wit_of (pi_list We.pe) h
theorem wit_tup (h : We X it σ H fun v H1 => ∃ a, v = .ref a ∧ (∃ xs, SqT X.K H1 a xs) ∧ R (Itt X.K a) H1) : Wit X tg it σ H R := wit_of (pi_tup We.pe) h
theorem wit_range1 (hg : Gl X "range") (hm : X.mg "range" = none) (h : We X a σ H fun v H1 => ∃ j : Int, v = .int j ∧ -(2 ^ 62) ≤ j ∧ j < 2 ^ 62 ∧ R (Itr 0 j.toNat) H1) (he : starEach [a] X.env = (false, eval a X.env) :: starEach [] X.env := by rfl) : Wit X tg (.Call (.Name "range" p) [a] [] pos) σ H R :=
  wit_of (pi_range1 hg hm (pa_cons We.pe pa_nil he) he) (by
    refine ⟨fun pins s I => thn (h.run pins s I) fun u s1 ⟨v, H1, I1, r1, j, e, h1, h2, h3⟩ => ⟨v, H1, I1, r1, j, ?_, h1, h2, h3⟩⟩
    rw [e])
theorem wit_range2 (hg : Gl X "range") (hm : X.mg "range" = none) (h : We X a σ H fun v H1 => We X b σ H1 fun w H2 => ∃ i j : Int, v = .int i ∧ w = .int j ∧ (-(2 ^ 62) ≤ i ∧ i < 2 ^ 62 ∧ -(2 ^ 62) ≤ j ∧ j < 2 ^ 62) ∧ R (Itr i (j - i).toNat) H2) (he : starEach [a, b] X.env = (false, eval a X.env) :: starEach [b] X.env := by rfl) (hb : starEach [b] X.env = (false, eval b X.env) :: starEach [] X.env := by rfl) : Wit X tg (.Call (.Name "range" p) [a, b] [] pos) σ H R :=
  wit_of (pi_range2 hg hm (pa_cons We.pe (pa_cons We.pe pa_nil hb) he) (he.trans (by rw [hb]; rfl)) hb) (by
    refine ⟨fun pins s I => thn (h.run pins s I) fun u s1 ⟨v, H1, I1, r1, h2⟩ => ⟨v, H1, I1, r1, ⟨fun pins s I => thn (h2.run pins s I) fun u s1 ⟨w, H2, I2, r2, i, j, e1, e2, h3, h4⟩ => ⟨w, H2, I2, r2, i, j, ?_, h3, h4⟩⟩⟩⟩
    rw [e1, e2])
theorem wit_enum {elts : List Expr} {kk : Nat} {tpos : Pos} (hg : Gl X "enumerate") (hm : X.mg "enumerate" = none) (h : We X e σ H fun v H1 => ∃ a xs, v = .ref a ∧ SqL X.K H1 a xs ∧ R (Ite X.K a) H1) (he : starEach [e] X.env = (false, eval e X.env) :: starEach [] X.env := by rfl) : Wit X (.Tuple elts kk tpos) (.Call (.Name "enumerate" p) [e] [] pos) σ H R :=
  wit_of (pi_enum hg hm (pa_cons We.pe pa_nil he) he) (by
    refine ⟨fun pins s I => thn (h.run pins s I) fun u s1 ⟨v, H1, I1, r1, a, xs, e, h1, h2⟩ => ⟨v, H1, I1, r1, a, xs, ?_, h1, h2⟩⟩
    rw [e])
theorem wit_zip {elts : List Expr} {kk : Nat} {tpos : Pos} (hg : Gl X "zip") (hm : X.mg "zip" = none) (h : We X a σ H fun v H1 => We X b σ H1 fun w H2 => ∃ a b xs ys, v = .ref a ∧ w = .ref b ∧ SqL X.K H2 a xs ∧ SqL X.K H2 b ys ∧ R (Itz X.K a b) H2) (he : starEach [a, b] X.env = (false, eval a X.env) :: starEach [b] X.env := by rfl) (hb : starEach [b] X.env = (false, eval b X.env) :: starEach [] X.env := by rfl) : Wit X (.Tuple elts kk tpos) (.Call (.Name "zip" p) [a, b] [] pos) σ H R :=
  wit_of (pi_zip hg hm (pa_cons We.pe (pa_cons We.pe pa_nil hb) he) he (by rw [hb]; rfl)) (by
    refine ⟨fun pins s I => thn (h.run pins s I) fun u s1 ⟨v, H1, I1, r1, h2⟩ => ⟨v, H1, I1, r1, ⟨fun pins s I => thn (h2.run pins s I) fun u s1 ⟨w, H2, I2, r2, a, b, xs, ys, e1, e2, h3⟩ => ⟨w, H2, I2, r2, a, b, xs, ys, ?_, h3⟩⟩⟩⟩
    rw [e1, e2])
/-- what a for asks once its iterator is there -/
def ForW (X : Cx) (tg : Expr) (body : List Stmt) (D : Ends) (σ : L2.St) (J : It) (H : Hp) : Prop := ∃ (n : Nat) (G : Hp → Prop) (Y : Nat → Hp → V → Hp → Prop), Walk J n G Y ∧ ∃ Pv : Nat → L2.St → Hp → Prop, Pv 0 σ H ∧ (∀ i σ' H', i ≤ n → Pv i σ' H' → G H') ∧
  (∀ i x σ' H' H'', i < n → Pv i σ' H' → Y i H' x H'' → Wg X tg x σ' H'' fun σ2 H2 => Wss X body { D with nx := Pv (i + 1), ct := Pv (i + 1), bk := D.nx } σ2 H2) ∧ ∀ σ' H', Pv n σ' H' → D.nx σ' H'
theorem ws_for (h : Wit X tg it σ H (ForW X tg body D σ)) (hp : PassesOwn (model X.prog X.w) X.A X.env X.xe) (hc : X.calm = true) (hs : ∀ x, foldedSetIterable it X.env x = pure x := by intro _; rfl) : Ws X (.For tg it body [] pos) D σ H :=
  ws_of (ps_for hp hc Wit.pi Wg.pg Wss.pss hs) (by
    refine ⟨fun pins s I => thn (h.run pins s I) fun v s1 hv => thn hv fun itv s2 ⟨it, fp, tn, J, H', e1, I', T, t0, f0, n, G, Y, wk, Pv, h0, hG, hs, hd⟩ => ⟨it, fp, tn, J, H', e1, I', T, t0, f0, ?_⟩⟩
    exact for_it wk Pv h0 hG hs hd)
theorem ws_while (W : Nat → L2.St → Hp → Prop) (h0 : ∃ m, W m σ H) (hs : ∀ m σ H, W m σ H → Wt X c σ H fun k H1 => if k = true then Wss X body { D with nx := fun σ' H' => ∃ m', m' < m ∧ W m' σ' H', ct := fun σ' H' => ∃ m', m' < m ∧ W m' σ' H', bk := D.nx } σ H1 else D.nx σ H1)
    (hp : PassesOwn (model X.prog X.w) X.A X.env X.xe) : Ws X (.While c body [] pos) D σ H :=
  ws_of (ps_while hp Wt.pt Wss.pss) ⟨W, h0, fun m σ H w => by
    refine ⟨fun pins s I => thn ((hs m σ H w).run pins s I) fun k s1 ⟨H1, I1, q⟩ => ⟨H1, I1, ?_⟩⟩
    cases k with
    | true => exact iteT ⟨_, fun σ' H' z => z, q⟩
    | false => exact q⟩
/-- a comprehension: what is asked within its block -/
def Bl (X : Cx) (scope : Scope) (F : Cx → Prop) : Prop := ∀ (s : Shared) (H : Hp) (C : Addr) (cl : List (Str × Addr)) (fp : List Addr), F (X.blk s H scope (compEnvC scope cl C X.env) fp)
def Wts (X : Cx) : List Expr → TT
  | [] => tYes
  | [c] => Wt X c
  | _ => fun _ _ _ => False
theorem Wts.pts : ∀ {ifs : List Expr}, PTs X ifs (Wts X ifs)
  | [] => pts_nil
  | [_] => pts_one Wt.pt
  | _ :: _ :: _ => ⟨fun _ _ _ _ _ _ h => h.elim⟩
def LcW (X : Cx) (elt tg : Expr) (ifs : List Expr) (scope : Scope) (vs : List Nat) (σ : L2.St) (Q : VK) (J : It) (H1 : Hp) : Prop := ∀ Dl, H1 Dl = none → ∃ (n : Nat) (G : Hp → Prop) (Y : Nat → Hp → V → Hp → Prop), Walk J n G Y ∧ ∃ Pv : Nat → Hp → Prop, Pv 0 (upd H1 Dl (.lst [])) ∧ (∀ i H', i ≤ n → Pv i H' → G H') ∧
  (∀ i x H' H'', i < n → Pv i H' → Y i H' x H'' → Bl X scope fun Z => Wg Z tg x (wipe σ vs) H'' fun σ2 H2 => wipe σ2 vs = wipe σ vs ∧ Bl X scope fun Z => Wts Z ifs σ2 H2 fun k H3 =>
    if k = true then Bl X scope fun Z => We Z elt σ2 H3 fun y H4 => ∃ acc, H4 Dl = some (.lst acc) ∧ acc.length < sizeLine ∧ Pv (i + 1) (upd H4 Dl (.lst (acc ++ [y]))) else Pv (i + 1) H3) ∧ ∀ H', Pv n H' → Q (.ref Dl) H'
theorem lcw {scope : Scope} {vs : List Nat} {J : It} (h : LcW X elt tg ifs scope vs σ Q J H) : ∀ Dl, H Dl = none → ∃ W : Nat → Nat → Hp → Prop, (∃ m, W 0 m (upd H Dl (.lst []))) ∧ ∀ i m H, W i m H →
  (J.stop i H ∧ Q (.ref Dl) H) ∨ (J.go i H ∧ ∃ Nx : Hp → Prop, (∀ H', Nx H' → ∃ m', m' < m ∧ W (i + 1) m' H') ∧ ∀ x H', J.yld i H x H' → (fun v σ H Q => Bl X scope fun Z => Wg Z tg v σ H Q : TG) x (wipe σ vs) H' fun σ2 H2 => wipe σ2 vs = wipe σ vs ∧ (fun σ H Q => Bl X scope fun Z => Wts Z ifs σ H Q : TT) σ2 H2 fun b H3 =>
    if b = true then (fun σ H Q => Bl X scope fun Z => We Z elt σ H Q : TE) σ2 H3 fun y H4 => ∃ acc, H4 Dl = some (.lst acc) ∧ acc.length < sizeLine ∧ Nx (upd H4 Dl (.lst (acc ++ [y]))) else Nx H3) := fun Dl nD => by
  obtain ⟨n, G, Y, wk, Pv, h0, hG, hs, hd⟩ := h Dl nD
  exact lc_it (g := fun v σ H Q => Bl X scope fun Z => Wg Z tg v σ H Q) (tt := fun σ H Q => Bl X scope fun Z => Wts Z ifs σ H Q) (te := fun σ H Q => Bl X scope fun Z => We Z elt σ H Q) wk Pv h0 hG hs hd
theorem we_lc {scope : Scope} {own : List (Str × Nat)} (hc : X.calm = true) (hN : X.N.Nodup) (ok : BlkOk X.N X.env.scope scope own) (h : Wit X tg it σ H (LcW X elt tg ifs scope (own.map (·.2)) σ Q)) (hs : ∀ x, foldedSetIterable it X.env x = pure x := by intro _; rfl) :
    We X (.ListComp elt [⟨tg, it, ifs, 0⟩] scope pos) σ H Q := by
  refine we_of (pe_lc (g := fun v σ H Q => Bl X scope fun Z => Wg Z tg v σ H Q) (tt := fun σ H Q => Bl X scope fun Z => Wts Z ifs σ H Q) (te := fun σ H Q => Bl X scope fun Z => We Z elt σ H Q) hc hN Wit.pi ok ?_ ?_ ?_ hs) ?_
  · exact fun s H C cl fp => ⟨fun pins s' σ H' v u Q I r h => (h s H C cl fp).run pins s' u I r⟩
  · exact fun s H C cl fp => ⟨fun pins s' σ H' Q I h => Wts.pts.run pins s' σ H' Q I (h s H C cl fp)⟩
  · exact fun s H C cl fp => ⟨fun pins s' σ H' Q I h => (h s H C cl fp).run pins s' I⟩
  · exact ⟨fun pins s I => thn (h.run pins s I) fun v s1 hv => thn hv fun itv s2 ⟨it, fp, tn, J, H', e1, I', T, t0, f0, q⟩ => ⟨it, fp, tn, J, H', e1, I', T, t0, f0, lcw q⟩⟩
/-- name = [..] -/
theorem ws_setLc (i : Nat) {y : Str} {py spos : Pos} {scope : Scope} {own : List (Str × Nat)} (hc : X.calm = true) (hN : X.N.Nodup) (hy : X.N[i]? = some y) (hyl : X.env.scope.names.lookup y = some .local) (hsw : swapsWith (.ListComp elt [⟨tg, it, ifs, 0⟩] scope pos) (some (.Name y py)) spos.line X.env = pure true)
    (ok : BlkOk X.N X.env.scope scope own) (h : Wit X tg it σ H (LcW X elt tg ifs scope (own.map (·.2)) σ fun v H1 => D.nx (σ.set i (some v)) H1)) (hs : ∀ x, foldedSetIterable it X.env x = pure x := by intro _; rfl) :
    Ws X (.Assign [.Name y py] (.ListComp elt [⟨tg, it, ifs, 0⟩] scope pos) spos) D σ H := by
  refine ws_of (ps_setLc (i := i) (g := fun v σ H Q => Bl X scope fun Z => Wg Z tg v σ H Q) (tt := fun σ H Q => Bl X scope fun Z => Wts Z ifs σ H Q) (te := fun σ H Q => Bl X scope fun Z => We Z elt σ H Q) hc hN hy hyl hsw Wit.pi ok ?_ ?_ ?_ hs) ?_
  · exact fun s H C cl fp => ⟨fun pins s' σ H' v u Q I r h => (h s H C cl fp).run pins s' u I r⟩
  · exact fun s H C cl fp => ⟨fun pins s' σ H' Q I h => Wts.pts.run pins s' σ H' Q I (h s H C cl fp)⟩
  · exact fun s H C cl fp => ⟨fun pins s' σ H' Q I h => (h s H C cl fp).run pins s' I⟩
  · exact ⟨fun pins s I => thn (h.run pins s I) fun v s1 hv => thn hv fun itv s2 ⟨it, fp, tn, J, H', e1, I', T, t0, f0, q⟩ => ⟨it, fp, tn, J, H', e1, I', T, t0, f0, lcw q⟩⟩
end
end SL

/-! list(enumerate(xs)), list(zip(xs, ys)) -/
namespace SL
open PySem PySem.Spec PyProof.Rows L2

theorem adn {a b : Addr} (h : @LT.lt Nat _ a b ∨ @LT.lt Nat _ b a) : a ≠ b := fun e => by
  subst e
  rcases h with h | h <;> exact absurd h (Nat.lt_irrefl _)
/-- an iterator whose n items are new pairs, while at S a list is being filled -/
structure Src (prog : Program) (w : World) (A : Around) (I S : Addr) (wr : List Addr) (n : Nat) (Rel : Nat → Value → Value → Prop) (St : Nat → Heap → Prop) : Prop where
  off : S ∉ wr
  lt : ∀ i h, St i h → ∀ b ∈ wr, b < h.objs.size
  frame : ∀ i h h', St i h → (∀ b o, b ≠ S → h.get? b = some o → h'.get? b = some o) → St i h'
  item : ∀ i (s : Shared) (Q : Option Value → Shared → Prop) (E : Value → Shared → Prop), i < n → St i s.heap → S < s.heap.objs.size →
    (∀ k v h' tk, Rel i k v → h'.get? s.heap.objs.size = some { cls := .type "tuple", data := .seq #[k, v] } → St (i + 1) h' → (∀ b o, b ∉ wr → s.heap.get? b = some o → h'.get? b = some o) → Q (some (.ref s.heap.objs.size)) { s with heap := h', toks := tk }) →
    wpAny (model prog w) A (pyNext (.ref I)) Q E s
  done : ∀ (s : Shared) (Q : Option Value → Shared → Prop) (E : Value → Shared → Prop), St n s.heap → (∀ h' tk, (∀ b o, b ∉ wr → s.heap.get? b = some o → h'.get? b = some o) → Q none { s with heap := h', toks := tk }) → wpAny (model prog w) A (pyNext (.ref I)) Q E s

/-- the pairs made so far -/
structure Got (Rel : Nat → Value → Value → Prop) (lo : Nat) (h : Heap) (as : List Addr) : Prop where
  rise : as.Pairwise (· < ·)
  above : ∀ a ∈ as, lo ≤ a
  pairs : ∀ j a, as[j]? = some a → ∃ k v, Rel j k v ∧ h.get? a = some { cls := .type "tuple", data := .seq #[k, v] }
theorem Got.there {Rel : Nat → Value → Value → Prop} {lo : Nat} {h : Heap} {as : List Addr} (g : Got Rel lo h as) {a : Addr} (ha : a ∈ as) : a < h.objs.size := by
  obtain ⟨j, hj⟩ := List.mem_iff_getElem?.mp ha
  obtain ⟨_, _, _, e⟩ := g.pairs j a hj
  exact Heap.lt_size e

section
variable {prog : Program} {w : World} {A : Around} {s : Shared} {R : Result → Shared → Prop} {I S : Addr} {wr : List Addr} {n : Nat} {Rel : Nat → Value → Value → Prop} {St : Nat → Heap → Prop}
theorem ext_loop (W : Src prog w A.in1 I S wr n Rel St) (hn : n ≤ sizeLine) (res : Value) {h₁ : Heap} (lo : Nat) (hwl : ∀ b ∈ wr, b < lo) (hSl : S < lo)
    (hR : ∀ h' tk acc c as, (∀ b o, b ≠ S → b ∉ wr → h₁.get? b = some o → h'.get? b = some o) → h'.get? S = some { cls := .type "list", dict := none, data := .seq acc c, slots := #[] } → as.length = n → Got Rel lo h' as →
      acc.toList = as.map Value.ref → R (.ok (.ret res)) { s with heap := h', toks := tk }) :
    ∀ (k i : Nat) (h : Heap) (tk c : Nat) (acc : Array Value) (as : List Addr), n - i = k → i ≤ n → St i h → (∀ b o, b ≠ S → b ∉ wr → h₁.get? b = some o → h.get? b = some o) →
      h.get? S = some { cls := .type "list", dict := none, data := .seq acc c, slots := #[] } → acc.toList = as.map Value.ref → as.length = i → Got Rel lo h as → lo ≤ h.objs.size →
      codeAny (model prog w) A (.builtin "list.extend.loop" ⟨[.ref S, .ref I, res], []⟩) R { s with heap := h, toks := tk } := by
  intro k
  induction k with
  | zero =>
    intro i h tk c acc as hk hi hst hkeep hS hacc hal hG hlo
    have hin : i = n := by omega
    subst hin
    refine codeAny_builtin PySem.F.entry_extend_loop ?_
    rw [Around.under_plainId PySem.F.plain_extend_loop _]
    show wpAny _ A.in1 (pyNext (.ref I) >>= _) _ _ _
    refine wpAny_bind (W.done { s with heap := h, toks := tk } _ _ hst fun h' tk' he => ?_)
    refine wpAny_pure (hR h' tk' acc c as (fun b o h1 h2 e => he b o h2 (hkeep b o h1 h2 e)) (he S _ W.off hS) hal ⟨hG.rise, hG.above, fun j a hj => ?_⟩ hacc)
    obtain ⟨kk, x, e1, e3⟩ := hG.pairs j a hj
    exact ⟨kk, x, e1, he a _ (fun z => absurd (hwl a z) (Nat.not_lt.mpr (hG.above a (List.mem_of_getElem? hj)))) e3⟩
  | succ k ih =>
    intro i h tk c acc as hk hi hst hkeep hS hacc hal hG hlo
    have hlt : i < n := by omega
    have hsz : acc.size = i := by rw [← Array.length_toList, hacc, List.length_map, hal]
    refine codeAny_builtin PySem.F.entry_extend_loop ?_
    rw [Around.under_plainId PySem.F.plain_extend_loop _]
    show wpAny _ A.in1 (pyNext (.ref I) >>= _) _ _ _
    refine wpAny_bind (W.item i { s with heap := h, toks := tk } _ _ hlt hst (Heap.lt_size hS) fun kk x h' tk' hrel ht hst' hkp => ?_)
    dsimp only at ht hkp ⊢
    have hS' := hkp S _ W.off hS
    have up : ∀ b o, b ≠ S → h'.get? b = some o → (h'.update S (Obj.mapSeq (·.push (Value.ref h.objs.size)))).get? b = some o := fun b o hb e => (Heap.get?_update_other _ _ (Ne.symm hb)).trans e
    have hSl' : S < h.objs.size := Heap.lt_size hS
    show wpAny _ A.in1 (updateSeq S (·.push (Value.ref h.objs.size)) >>= _) _ _ _
    refine wpAny_bind ?_
    refine wpAny_updateSeq hS' rfl (wpAny_pure ⟨plainId_quiet PySem.F.plain_extend_loop _, ih (i + 1) _ tk' _ (acc.push (Value.ref h.objs.size)) (as ++ [h.objs.size]) (by omega) hlt (W.frame _ _ _ hst' up)
      (fun b o h1 h2 e => up b o h1 (hkp b o h2 (hkeep b o h1 h2 e))) (Heap.get?_update_self _ hS' rfl) (by rw [Array.toList_push, hacc, List.map_append]; rfl) (by rw [List.length_append, hal]; rfl) ⟨?_, ?_, ?_⟩ ?_⟩) (by rw [hsz]; omega) (by show (acc.push (Value.ref h.objs.size)).size ≤ sizeLine + 1; rw [Array.size_push, hsz]; omega)
    · refine List.pairwise_append.mpr ⟨hG.rise, List.pairwise_singleton _ _, fun a ha b hb => ?_⟩
      rw [List.mem_singleton.mp hb]
      exact hG.there ha
    · intro a ha
      rcases List.mem_append.mp ha with ha | ha
      · exact hG.above a ha
      · rw [List.mem_singleton.mp ha]; exact hlo
    · intro j b hj
      rcases Nat.lt_trichotomy j as.length with h1 | h1 | h1
      · rw [List.getElem?_append_left h1] at hj
        obtain ⟨k', x', e1, e3⟩ := hG.pairs j b hj
        have hb := hG.above b (List.mem_of_getElem? hj)
        exact ⟨k', x', e1, up b _ (Nat.ne_of_gt (Nat.lt_of_lt_of_le hSl hb)) (hkp b _ (fun z => absurd (hwl b z) (Nat.not_lt.mpr hb)) e3)⟩
      · subst h1
        have hb : h.objs.size = b := by simpa using hj
        subst hb
        exact ⟨kk, x, by rw [hal]; exact hrel, up _ _ (Nat.ne_of_gt hSl') ht⟩
      · have hnone : (as ++ [h.objs.size])[j]? = none := List.getElem?_eq_none (by rw [List.length_append, List.length_singleton]; omega)
        rw [hnone] at hj; cases hj
    · have e : (h'.update S (Obj.mapSeq (·.push (Value.ref h.objs.size)))).get? h.objs.size = _ := up _ _ (Nat.ne_of_gt hSl') ht
      exact Nat.le_of_lt (Nat.lt_of_le_of_lt hlo (Heap.lt_size e))
end

theorem zip_no_len : typeLookup (.type "zip") "__len__" = pure none := by rw [typeLookup_type, builtinLookup_eq_fast]; kernel_rfl
theorem zip_no_hint : typeLookup (.type "zip") "__length_hint__" = pure none := by rw [typeLookup_type, builtinLookup_eq_fast]; kernel_rfl
theorem enum_no_len : typeLookup (.type "enumerate") "__len__" = pure none := by rw [typeLookup_type, builtinLookup_eq_fast]; kernel_rfl
theorem enum_no_hint : typeLookup (.type "enumerate") "__length_hint__" = pure none := by rw [typeLookup_type, builtinLookup_eq_fast]; kernel_rfl

section
variable {prog : Program} {w : World} {A : Around} {s : Shared} {E : Value → Shared → Prop} {I : Addr} {wr : List Addr} {n : Nat} {Rel : Nat → Value → Value → Prop} {T : String}
theorem ext_with {R : Result → Shared → Prop} {S : Addr} {St : Nat → Heap → Prop} (W : Src prog w A.in1 I S wr n Rel St) (hT : ∀ s : Shared, St 0 s.heap → s.TypeIs (.ref I) T) (hself : ∀ (A : Around) (s : Shared) (Q : Value → Shared → Prop) (E : Value → Shared → Prop), St 0 s.heap → Q (.ref I) s → wpAny (model prog w) A (pyIter (.ref I)) Q E s)
    (n1 : (Value.type T == Value.type "list") = false) (n2 : (Value.type T == Value.type "tuple") = false) (n3 : typeLookup (.type T) "__len__" = pure none) (n4 : typeLookup (.type T) "__length_hint__" = pure none)
    (hIS : S ≠ I) (res : Value) (c₀ : Nat) (hst : St 0 s.heap) (hS : s.heap.get? S = some { cls := .type "list", data := .seq #[] c₀ })
    (hR : ∀ h' tk acc c as, (∀ b o, b ≠ S → b ∉ wr → s.heap.get? b = some o → h'.get? b = some o) → h'.get? S = some { cls := .type "list", dict := none, data := .seq acc c, slots := #[] } → as.length = n → Got Rel s.heap.objs.size h' as →
      acc.toList = as.map Value.ref → R (.ok (.ret res)) { s with heap := h', toks := tk }) (hn : n ≤ sizeLine) :
    wpAny (model prog w) A.in1 (Builtin.List.listExtendWith (.ref S) (.ref I) res)
      (fun fin s' => match fin with | .done f => R (.ok f) s' | .again c' => c'.quiet = true ∧ codeAny (model prog w) A c' R s') (fun e s' => R (.error e) s') s := by
  unfold Builtin.List.listExtendWith
  refine wpAny_bind (wpAny_typeOf (hT _ hst) ?_)
  have h1 : Builtin.List.listSameRef (.ref S) (.ref I) = false := by simp [Builtin.List.listSameRef, hIS]
  simp only [h1, n1, n2, Bool.or_false, Bool.false_eq_true, if_false]
  refine wpAny_bind (hself _ _ _ _ hst ?_)
  refine wpAny_bind (wpAny_holding ?_)
  unfold Builtin.List.listLengthHint
  refine wpAny_bind (wpAny_specialOf (hT _ hst) n3 ?_)
  show wpAny _ A.in1 (specialOf (Value.ref I) (Str.ofString "__length_hint__") >>= _) _ _ _
  refine wpAny_bind (wpAny_specialOf (hT _ hst) n4 ?_)
  refine wpAny_pure ?_
  show wpAny _ A.in1 (rule "list.extend.makes-room" >>= fun _ => Builtin.List.listTouch (.ref S) >>= fun _ =>
    again (.builtin "list.extend.loop" ⟨[.ref S, .ref I, res], []⟩)) _ _ _
  refine wpAny_bind (wpAny_rule ?_)
  refine wpAny_bind ?_
  show wpAny _ A.in1 (updateSeq S (·.push .none) >>= fun _ => updateSeq S (·.pop)) _ _ _
  refine wpAny_bind (wpAny_updateSeq hS rfl ?_)
  have hS₂ := Heap.get?_update_self (Obj.mapSeq (·.push Value.none)) hS rfl
  refine wpAny_updateSeq (hz := by seq_fits) hS₂ rfl ?_
  have hS₃ := Heap.get?_update_self (Obj.mapSeq (·.pop)) hS₂ rfl
  have oth : ∀ b o, b ≠ S → s.heap.get? b = some o → ((s.heap.update S (Obj.mapSeq (·.push Value.none))).update S (Obj.mapSeq (·.pop))).get? b = some o :=
    fun b o hb e => (Heap.get?_update_other _ _ (Ne.symm hb)).trans ((Heap.get?_update_other _ _ (Ne.symm hb)).trans e)
  have hsz : ((s.heap.update S (Obj.mapSeq (·.push Value.none))).update S (Obj.mapSeq (·.pop))).objs.size = s.heap.objs.size := by
    simp [Heap.update]
  refine wpAny_pure ⟨plainId_quiet F.plain_extend_loop _, ?_⟩
  refine ext_loop (s := s) (h₁ := s.heap) W hn res s.heap.objs.size (W.lt 0 _ hst) (Heap.lt_size hS) hR n 0 _ _ _ #[] [] rfl (Nat.zero_le _) (W.frame 0 _ _ hst oth) (fun b o hb _ e => oth b o hb e) hS₃ rfl rfl ⟨List.Pairwise.nil, (fun _ ha => nomatch ha), (fun j a hj => by simp at hj)⟩ (Nat.le_of_eq hsz.symm)
/-- list(I), I an iterator of new pairs -/
theorem call_list_src {Q : Value → Shared → Prop} {St : Nat → Heap → Prop} (W : Src prog w A.in1.in1 I s.heap.objs.size wr n Rel St) (hT : ∀ s : Shared, St 0 s.heap → s.TypeIs (.ref I) T) (hself : ∀ (A : Around) (s : Shared) (Q : Value → Shared → Prop) (E : Value → Shared → Prop), St 0 s.heap → Q (.ref I) s → wpAny (model prog w) A (pyIter (.ref I)) Q E s)
    (n1 : (Value.type T == Value.type "list") = false) (n2 : (Value.type T == Value.type "tuple") = false) (n3 : typeLookup (.type T) "__len__" = pure none) (n4 : typeLookup (.type T) "__length_hint__" = pure none)
    (hI : I < s.heap.objs.size) (hst : St 0 s.heap)
    (hQ : ∀ h' tk acc c as, (∀ b o, b ∉ wr → s.heap.get? b = some o → h'.get? b = some o) → h'.get? s.heap.objs.size = some { cls := .type "list", dict := none, data := .seq acc c, slots := #[] } → as.length = n → Got Rel (s.heap.objs.size + 1) h' as →
      acc.toList = as.map Value.ref → Q (.ref s.heap.objs.size) { s with heap := h', toks := tk }) (hn : n ≤ sizeLine) :
    wpAny (model prog w) A (call (.type "list") [.ref I]) Q E s := by
  refine callType_codes (Q₁ := fun obj s₁ => obj = .ref s.heap.objs.size ∧ s₁ = { s with heap := s.heap.push { cls := .type "list", data := .seq #[] } }) F.called_list (F.typeCall_list_1 _) F.entry_list_init
    (code_list_new _ ⟨rfl, rfl⟩) fun obj s₁ h₁ => ?_
  obtain ⟨rfl, rfl⟩ := h₁
  have hS : (s.heap.push { cls := .type "list", data := .seq #[] }).get? s.heap.objs.size = some { cls := .type "list", data := .seq #[] } := Heap.get?_push_size _ rfl
  refine ⟨⟨_, hS, rfl⟩, F.args_list_init_2 _ _, ?_⟩
  show wpAny _ A.in1.in1 (do let old ← Builtin.List.listItems (.ref s.heap.objs.size); Builtin.List.listUpdate (.ref s.heap.objs.size) (fun _ => #[]); letGo old.toList.reverse; Builtin.List.listExtendWith (.ref s.heap.objs.size) (.ref I) .none) _ _ _
  refine wpAny_bind ?_
  unfold Builtin.List.listItems
  refine wpAny_bind (wpAny_seqItems hS rfl (wpAny_pure ?_))
  show wpAny _ A.in1.in1 (updateSeq s.heap.objs.size (fun _ => #[]) >>= fun _ => letGo (#[] : Array Value).toList.reverse >>= fun _ => Builtin.List.listExtendWith (.ref s.heap.objs.size) (.ref I) .none) _ _ _
  refine wpAny_bind (wpAny_updateSeq hS rfl ?_)
  have hS₂ := Heap.get?_update_self (Obj.mapSeq (fun _ => (#[] : Array Value))) hS rfl
  have oth : ∀ b o, s.heap.get? b = some o → ((s.heap.push { cls := .type "list", data := .seq #[] }).update s.heap.objs.size (Obj.mapSeq (fun _ => (#[] : Array Value)))).get? b = some o :=
    fun b o e => (Heap.get?_update_other _ _ (Nat.ne_of_gt (Heap.lt_size e))).trans (Heap.get?_push_of_some _ e)
  have hsz : ((s.heap.push { cls := .type "list", data := .seq #[] }).update s.heap.objs.size (Obj.mapSeq (fun _ => (#[] : Array Value)))).objs.size = s.heap.objs.size + 1 := by
    rw [← Heap.size_push (h := s.heap) { cls := .type "list", data := .seq #[] }]
    simp [Heap.update]
  refine wpAny_bind (wpAny_letGo ?_)
  refine ext_with W hT hself n1 n2 n3 n4 (Nat.ne_of_gt hI) .none _ (W.frame 0 _ _ hst fun b o _ e => oth b o e) hS₂ (fun h' tk acc c as hk hS' hl hG hacc => ?_) hn
  have hG : Got Rel (s.heap.objs.size + 1) h' as := hsz ▸ hG
  exact ⟨rfl, hQ h' tk acc c as (fun b o hb e => hk b o (Nat.ne_of_lt (Heap.lt_size e)) hb (oth b o e)) hS' hl hG hacc⟩
end

section
variable {prog : Program} {w : World} {A : Around}
theorem src_zip (hA : A.handled = none) (z TI TO i1 i2 l1 l2 S : Addr) (D : ZipApart z TI TO i1 i2 l1 l2) (xs ys : Array Value) (dz : S ≠ z) (dTI : S ≠ TI) (dTO : S ≠ TO) (di1 : S ≠ i1) (di2 : S ≠ i2) (dl1 : S ≠ l1) (dl2 : S ≠ l2) :
    Src prog w A z S [z, TO, i1, i2] (min xs.size ys.size) (fun i k v => xs[i]? = some k ∧ ys[i]? = some v)
      (fun i h => IsPair h TI (.ref i1) (.ref i2) ∧ h.IsListIter i1 l1 i ∧ h.IsListIter i2 l2 i ∧ h.IsList l1 xs ∧ h.IsList l2 ys ∧ (∃ o, h.get? z = some o ∧ o.cls = .type "zip") ∧ (∃ o, h.get? TO = some o) ∧
        ((IsZip h z TI TO .none ∧ ∃ a b, IsPair h TO a b) ∨ (0 < i ∧ ∃ T f oT, IsZipHeld h z TI TO T f ∧ h.get? T = some oT ∧ T ≠ z ∧ T ≠ i1 ∧ T ≠ i2 ∧ T ≠ S))) where
  off := fun hm => by
    simp only [List.mem_cons, List.not_mem_nil, or_false] at hm
    rcases hm with e | e | e | e
    · exact dz e
    · exact dTO e
    · exact di1 e
    · exact di2 e
  lt := fun i h st b hb => by
    obtain ⟨_, ⟨o1, h1, _⟩, ⟨o2, h2, _⟩, _, _, ⟨oz, hz, _⟩, ⟨ot, hTO⟩, _⟩ := st
    simp only [List.mem_cons, List.not_mem_nil, or_false] at hb
    rcases hb with rfl | rfl | rfl | rfl
    · exact Heap.lt_size hz
    · exact Heap.lt_size hTO
    · exact Heap.lt_size h1
    · exact Heap.lt_size h2
  frame := fun i h₁ h₂ st hk => by
    obtain ⟨hTI, h1, h2, hl1, hl2, ⟨oz, hz0, hz1⟩, ⟨ot, ht0⟩, hz⟩ := st
    refine ⟨hk _ _ (Ne.symm dTI) hTI, h1.at fun o e => hk _ o (Ne.symm di1) e, h2.at fun o e => hk _ o (Ne.symm di2) e, hl1.at fun o e => hk _ o (Ne.symm dl1) e, hl2.at fun o e => hk _ o (Ne.symm dl2) e, ⟨oz, hk _ _ (Ne.symm dz) hz0, hz1⟩, ⟨ot, hk _ _ (Ne.symm dTO) ht0⟩, ?_⟩
    rcases hz with ⟨hz, a, b, hTO⟩ | ⟨hi, T, f, oT, hz, hT, r1, r2, r3, r4⟩
    · exact .inl ⟨hk _ _ (Ne.symm dz) hz, a, b, hk _ _ (Ne.symm dTO) hTO⟩
    · exact .inr ⟨hi, T, f, oT, hk _ _ (Ne.symm dz) hz, hk _ _ r4 hT, r1, r2, r3, r4⟩
  item := fun i s₁ Q₁ E₁ hi st hds hQ => by
    obtain ⟨hTI, h1, h2, hl1, hl2, ⟨oz, hz0, hz1⟩, ⟨ot, ht0⟩, hz⟩ := st
    have hix : i < xs.size := Nat.lt_of_lt_of_le hi (Nat.min_le_left ..)
    have hiy : i < ys.size := Nat.lt_of_lt_of_le hi (Nat.min_le_right ..)
    have ex := Array.getElem?_eq_getElem hix
    have ey := Array.getElem?_eq_getElem hiy
    have lt : ∀ {c o}, s₁.heap.get? c = some o → s₁.heap.objs.size ≠ c := fun e => Nat.ne_of_gt (Heap.lt_size e)
    have n1 : s₁.heap.objs.size ≠ i1 := let ⟨_, e, _⟩ := h1; lt e
    have n2 : s₁.heap.objs.size ≠ i2 := let ⟨_, e, _⟩ := h2; lt e
    rcases hz with ⟨hz, a, b, hTO⟩ | ⟨_, T, f, oT, hz, hT, r1, r2, r3, r4⟩
    · refine wpAny_pyNext_zip_item D hz hTI hTO h1 h2 hl1 hl2 ex ey fun h' a1 a2 a3 a4 a5 a6 hk => ?_
      exact hQ _ _ h' s₁.toks ⟨ex, ey⟩ a5
        ⟨hk _ _ D.TIz D.TITO D.TIi1 D.TIi2 hTI, a3, a4, hl1.at fun o e => hk _ o D.l1z D.l1TO D.l1i1 D.l1i2 e, hl2.at fun o e => hk _ o D.l2z D.l2TO D.l2i1 D.l2i2 e, ⟨_, a1, rfl⟩, ⟨_, a2⟩,
          .inr ⟨Nat.succ_pos i, s₁.heap.objs.size, false, _, a1, a5, lt hz, n1, n2, Nat.ne_of_gt hds⟩⟩
        fun c o hc e => hk c o (fun x => hc (by simp [x])) (fun x => hc (by simp [x])) (fun x => hc (by simp [x])) (fun x => hc (by simp [x])) e
    · refine wpAny_pyNext_zip_item_held D hz hT hTI h1 h2 hl1 hl2 ex ey fun h' a1 a3 a4 a5 a6 hk => ?_
      exact hQ _ _ h' s₁.toks ⟨ex, ey⟩ a5
        ⟨hk _ _ D.TIz D.TIi1 D.TIi2 hTI, a3, a4, hl1.at fun o e => hk _ o D.l1z D.l1i1 D.l1i2 e, hl2.at fun o e => hk _ o D.l2z D.l2i1 D.l2i2 e, ⟨_, a1, rfl⟩, ⟨ot, hk _ _ D.TOz D.TOi1 D.TOi2 ht0⟩,
          .inr ⟨Nat.succ_pos i, T, true, oT, a1, hk _ _ r1 r2 r3 hT, r1, r2, r3, r4⟩⟩
        fun c o hc e => hk c o (fun x => hc (by simp [x])) (fun x => hc (by simp [x])) (fun x => hc (by simp [x])) e
  done := fun s₁ Q₁ E₁ st hQ => by
    obtain ⟨hTI, h1, h2, hl1, hl2, _, _, hz⟩ := st
    have hend : xs[min xs.size ys.size]? = none ∨ ys[min xs.size ys.size]? = none := by
      rcases Nat.le_total xs.size ys.size with h | h
      · exact .inl (Array.getElem?_eq_none (by rw [Nat.min_eq_left h]; exact Nat.le_refl _))
      · exact .inr (Array.getElem?_eq_none (by rw [Nat.min_eq_right h]; exact Nat.le_refl _))
    rcases hz with ⟨hz, a, b, hTO⟩ | ⟨_, T, f, oT, hz, hT, r1, r2, r3, r4⟩
    · exact wpAny_pyNext_zip_end hA D hz hTI hTO h1 h2 hl1 hl2 hend fun h' hk => hQ h' s₁.toks fun c o hc e => hk c o (fun x => hc (by simp [x])) (fun x => hc (by simp [x])) (fun x => hc (by simp [x])) (fun x => hc (by simp [x])) e
    · exact wpAny_pyNext_zip_end_held hA D hz hT hTI h1 h2 hl1 hl2 hend fun h' hk => hQ h' s₁.toks fun c o hc e => hk c o (fun x => hc (by simp [x])) (fun x => hc (by simp [x])) (fun x => hc (by simp [x])) e
theorem src_enum (hA : A.handled = none) (e it l S : Addr) (hei : e ≠ it) (hle : l ≠ e) (hli : l ≠ it) (items : Array Value) (de : S ≠ e) (dit : S ≠ it) (dl : S ≠ l) :
    Src prog w A e S [e, it] items.size (fun i k v => (∃ t, k = .int i t) ∧ items[i]? = some v)
      (fun i h => h.IsListIter it l i ∧ h.IsList l items ∧ (∃ o, h.get? e = some o ∧ o.cls = .type "enumerate") ∧ ((∃ old, IsEnum h e it i old) ∨ (0 < i ∧ ∃ old T f oT, IsEnumHeld h e it i old T f ∧ h.get? T = some oT ∧ T ≠ e ∧ T ≠ it ∧ T ≠ S))) where
  off := fun hm => by
    simp only [List.mem_cons, List.not_mem_nil, or_false] at hm
    rcases hm with x | x
    · exact de x
    · exact dit x
  lt := fun i h st b hb => by
    obtain ⟨⟨o1, h1, _⟩, _, ⟨oe, he, _⟩, _⟩ := st
    simp only [List.mem_cons, List.not_mem_nil, or_false] at hb
    rcases hb with rfl | rfl
    · exact Heap.lt_size he
    · exact Heap.lt_size h1
  frame := fun i h₁ h₂ st hk => by
    obtain ⟨hit, hl, ⟨oe, he0, he1⟩, he⟩ := st
    refine ⟨hit.at fun o x => hk _ o (Ne.symm dit) x, hl.at fun o x => hk _ o (Ne.symm dl) x, ⟨oe, hk _ _ (Ne.symm de) he0, he1⟩, ?_⟩
    rcases he with ⟨old, he⟩ | ⟨hi, old, T, f, oT, he, hT, r1, r2, r3⟩
    · exact .inl ⟨old, hk _ _ (Ne.symm de) he⟩
    · exact .inr ⟨hi, old, T, f, oT, hk _ _ (Ne.symm de) he, hk _ _ r3 hT, r1, r2, r3⟩
  item := fun i s₁ Q₁ E₁ hi st hds hQ => by
    obtain ⟨hit, hl, ⟨oe, he0, he1⟩, he⟩ := st
    have ex := Array.getElem?_eq_getElem hi
    have ec : ((i + 1 : Nat) : Int) = (i : Int) + 1 := by omega
    have nit : s₁.heap.objs.size ≠ it := let ⟨_, x, _⟩ := hit; Nat.ne_of_gt (Heap.lt_size x)
    rcases he with ⟨old, he⟩ | ⟨_, old, T, f, oT, he, hT, r1, r2, r3⟩
    · refine wpAny_pyNext_enum_item he hit hl ex hei fun h' ho hit' hT hsz hk => ?_
      exact hQ _ _ h' (s₁.toks + 1) ⟨⟨_, rfl⟩, ex⟩ hT
        ⟨hit', hl.at fun o x => hk l o hle hli x, ⟨_, ho, rfl⟩, .inr ⟨Nat.succ_pos i, _, s₁.heap.objs.size, false, _, (by rw [ec]; exact ho), hT, Nat.ne_of_gt (Heap.lt_size he), nit, Nat.ne_of_gt hds⟩⟩
        fun b o hb x => hk b o (fun y => hb (by simp [y])) (fun y => hb (by simp [y])) x
    · refine wpAny_pyNext_enum_item_held he hT r1 r2 hit hl ex hei fun h' ho hit' hT' hsz hk => ?_
      exact hQ _ _ h' (s₁.toks + 1) ⟨⟨_, rfl⟩, ex⟩ hT'
        ⟨hit', hl.at fun o x => hk l o hle hli x, ⟨_, ho, rfl⟩, .inr ⟨Nat.succ_pos i, old, T, true, oT, (by rw [ec]; exact ho), hk _ _ r1 r2 hT, r1, r2, r3⟩⟩
        fun b o hb x => hk b o (fun y => hb (by simp [y])) (fun y => hb (by simp [y])) x
  done := fun s₁ Q₁ E₁ st hQ => by
    obtain ⟨hit, hl, _, he⟩ := st
    have hx : items[items.size]? = none := Array.getElem?_eq_none (Nat.le_refl _)
    rcases he with ⟨old, he⟩ | ⟨_, old, T, f, oT, he, hT, r1, r2, r3⟩
    · exact wpAny_pyNext_enum_end hA he hit hl hx fun h' hk => hQ h' s₁.toks fun b o hb x => hk b o (fun y => hb (by simp [y])) x
    · exact wpAny_pyNext_enum_end_held hA he hit hl hx fun h' hk => hQ h' s₁.toks fun b o hb x => hk b o (fun y => hb (by simp [y])) x
end

/-! ### the same over the abstract heap -/
/-- pairs tracked at their addresses -/
def putP : Hp → List Addr → List (V × V) → Hp
  | H, a :: as, p :: ps => putP (upd H a (.tup [p.1, p.2])) as ps
  | H, _, _ => H
theorem putP_off {b : Addr} : ∀ (as : List Addr) (ps : List (V × V)) (H : Hp), b ∉ as → putP H as ps b = H b
  | [], _, _, _ => rfl
  | _ :: _, [], _, _ => rfl
  | a :: as, p :: ps, H, h => by
    show putP (upd H a (.tup [p.1, p.2])) as ps b = H b
    rw [putP_off as ps _ (fun z => h (List.mem_cons_of_mem _ z)), upd_ne (fun z => h (by rw [z]; exact List.mem_cons_self))]
theorem putP_at : ∀ (as : List Addr) (ps : List (V × V)) (H : Hp), as.length = ps.length → as.Nodup → ∀ (j : Nat) (a : Addr) (p : V × V), as[j]? = some a → ps[j]? = some p → putP H as ps a = some (.tup [p.1, p.2])
  | [], _, _, _, _, _, _, _, e, _ => by simp at e
  | _ :: _, [], _, h, _, _, _, _, _, _ => by cases h
  | a :: as, p :: ps, H, h, hn, 0, b, q, e1, e2 => by
    have e1 := Option.some.inj e1
    have e2 := Option.some.inj e2
    subst e1 e2
    show putP (upd H a (.tup [p.1, p.2])) as ps a = _
    rw [putP_off as ps _ (List.nodup_cons.mp hn).1, upd_same]
  | a :: as, p :: ps, H, h, hn, j + 1, b, q, e1, e2 => putP_at as ps _ (Nat.succ.inj h) (List.nodup_cons.mp hn).2 j b q e1 e2
theorem vals_refs : ∀ as : List Addr, Vals (as.map V.ref) (as.map Value.ref)
  | [] => .nil
  | _ :: as => .cons rfl (vals_refs as)
/-- new pairs and a new list of them are laid and tracked -/
theorem pairs_laid {X : Cx} {pins : List (Addr × Obj)} {σ : L2.St} {H : Hp} {s : Shared} {h' : Heap} {tk : Nat} {S : Addr} {ps : List (V × V)} {acc : Array Value} {c : Nat} {as : List Addr} {Rel : Nat → Value → Value → Prop} (I : Inv X pins σ H s) (hz : ps.length ≤ sizeLine) (hSs : s.heap.objs.size ≤ S)
    (hk : ∀ b o, s.heap.get? b = some o → h'.get? b = some o) (hS : h'.get? S = some { cls := .type "list", dict := none, data := .seq acc c, slots := #[] }) (hl : as.length = ps.length) (hG : Got Rel (S + 1) h' as) (hacc : acc.toList = as.map Value.ref)
    (hrel : ∀ (j : Nat) (p : V × V) (k v : Value), ps[j]? = some p → Rel j k v → RelV p.1 k ∧ RelV p.2 v) :
    ∃ H' : Hp, (∀ b o, H b = some o → H' b = some o) ∧ H S = none ∧ (∀ t ∈ as, H t = none) ∧ H' S = some (.lst (as.map V.ref)) ∧ (∀ (j : Nat) (a : Addr) (p : V × V), as[j]? = some a → ps[j]? = some p → H' a = some (.tup [p.1, p.2])) ∧ Inv X pins σ H' { s with heap := h', toks := tk } := by
  have hSn : S ∉ as := fun z => absurd (hG.above _ z) (by omega)
  have nd : as.Nodup := List.Pairwise.imp (fun {a b} (h : a < b) => Nat.ne_of_lt h) hG.rise
  have new : ∀ t ∈ as, H t = none := fun t ht => I.hok.fresh (by have := hG.above t ht; omega)
  have newS : H S = none := I.hok.fresh hSs
  have atP := putP_at as ps (upd H S (.lst (as.map V.ref))) hl nd
  have off : ∀ b, b ∉ as → b ≠ S → putP (upd H S (.lst (as.map V.ref))) as ps b = H b := fun b h1 h2 => by rw [putP_off as ps _ h1, upd_ne h2]
  have low : ∀ b o, s.heap.get? b = some o → b ∉ as ∧ b ≠ S := fun b o e => ⟨fun z => Nat.lt_irrefl b (Nat.lt_of_lt_of_le (Heap.lt_size e) (Nat.le_trans hSs (Nat.le_of_succ_le (hG.above b z)))), adn (.inl (Nat.lt_of_lt_of_le (Heap.lt_size e) hSs))⟩
  have kp : ∀ b u, H b = some u → (putP (upd H S (.lst (as.map V.ref))) as ps) b = some u := fun b u e => by
    rw [off b (fun z => by rw [new b z] at e; cases e) (fun z => by rw [z, newS] at e; cases e)]
    exact e
  have eS : putP (upd H S (.lst (as.map V.ref))) as ps S = some (.lst (as.map V.ref)) := by rw [putP_off as ps _ hSn, upd_same]
  refine ⟨putP (upd H S (.lst (as.map V.ref))) as ps, kp, newS, new, eS, atP, ?_⟩
  refine I.call' (ch := []) rfl ⟨fun b o q _ _ _ => hk b o q, fun b o q _ _ _ => ⟨o.slots, hk b o q⟩, fun b o q n _ => ?_, fun b o q _ => ⟨o, hk b o q⟩, fun b xs q => kp b _ q, fun b o u q => kp b _ q, fun b ps q => ⟨#[], by rw [kp b _ q]; simp⟩⟩ (fun b u q => ?_) I.bare fun b z => by simp at z
  · obtain ⟨z1, z2⟩ := low b o q
    rw [off b z1 z2]
    exact n
  · by_cases hb : b ∈ as
    · obtain ⟨j, hj⟩ := List.mem_iff_getElem?.mp hb
      have hjl : j < ps.length := by rw [← hl]; exact (List.getElem?_eq_some_iff.mp hj).1
      have e3 := atP j b _ hj (List.getElem?_eq_getElem hjl)
      rw [e3] at q
      cases q
      obtain ⟨k, v, f1, f3⟩ := hG.pairs j b hj
      obtain ⟨r1, r2⟩ := hrel j _ k v (List.getElem?_eq_getElem hjl) f1
      exact ⟨by show 2 ≤ sizeLine; decide, [k, v], .cons r1 (.cons r2 .nil), ⟨_, f3, rfl, _, rfl⟩⟩
    · by_cases hb2 : b = S
      · rw [hb2] at q ⊢
        rw [eS] at q
        cases q
        refine ⟨by rw [List.length_map]; omega, acc.toList, c, by rw [hacc]; exact vals_refs as, ?_⟩
        rw [Array.toArray_toList]
        exact hS
      · rw [off b hb hb2] at q
        exact (I.hok b u q).stay (fun d v _ y => hk d v y) (fun d y => kp d _ y) fun d xs y => kp d _ y
/-- what a new list of new pairs is -/
def NewPairs (H : Hp) (ps : List (V × V)) (Q : VK) : Prop := ∀ (H' : Hp) (p : Addr) (ts : List Addr), (∀ b o, H b = some o → H' b = some o) → H p = none → (∀ t ∈ ts, H t = none) → H' p = some (.lst (ts.map V.ref)) → ts.length = ps.length →
  (∀ (j : Nat) (t : Addr) (q : V × V), ts[j]? = some t → ps[j]? = some q → H' t = some (.tup [q.1, q.2])) → Q (.ref p) H'
section
variable {X : Cx} {σ : L2.St} {H : Hp} {Q : VK} {e e2 : Expr} {p p2 q pos : Pos}
def enumV (xs : List V) : List (V × V) := xs.zipIdx.map fun x => (.int (x.2 : Int), x.1)
theorem we_listEnum (hc : X.calm = true) (hg : Gl X "list") (hm : X.mg "list" = none) (hg2 : Gl X "enumerate") (hm2 : X.mg "enumerate" = none) (h : We X e σ H fun v H1 => ∃ a xs, v = .ref a ∧ SqL X.K H1 a xs ∧ NewPairs H1 (enumV xs) Q)
    (hs : starEach [e] X.env = [(false, eval e X.env)] := by rfl)
    (hs1 : starEach [.Call (.Name "enumerate" p2) [e] [] q] X.env = (false, eval (.Call (.Name "enumerate" p2) [e] [] q) X.env) :: starEach [] X.env := by rfl) :
    We X (.Call (.Name "list" p) [.Call (.Name "enumerate" p2) [e] [] q] [] pos) σ H Q := by
  refine ⟨fun pins s I => ?_⟩
  refine wpAny_Call_Name_kw (ld_blt I hg hm boot_list ?_)
  refine PyProof.Rows.callWith_type1 ?_ hs1 rfl
  rw [hs1]
  show wpAny _ _ (spliced ((false, eval (.Call (.Name "enumerate" p2) [e] [] q) X.env) :: backTo pos (starEach [] X.env))) _ _ s
  refine Calls.spliced_cons ?_
  refine Call_ (ld_blt I hg2 hm2 boot_enumerate (PyProof.Rows.callWith_type1 (thn ((pa_cons We.pe pa_nil hs).run q pins s σ H (fun vs H1 => ∃ a xs, vs = [.ref a] ∧ SqL X.K H1 a xs ∧ NewPairs H1 (enumV xs) Q) I ?_) fun us s1 ⟨vs, H1, I1, r1, a, xs, ex, hq, qq⟩ => ?_) hs rfl))
  · refine ⟨fun pins s I => thn (h.run pins s I) fun u s1 ⟨v, H1, I1, r1, a, xs, e, h1, h2⟩ => ⟨v, H1, I1, r1, a, xs, ?_, h1, h2⟩⟩
    rw [e]
  subst ex
  cases r1 with
  | cons r rr =>
    cases rr
    cases r
    obtain ⟨its, rv, pl, hz⟩ := I1.list hq
    have la : @LT.lt Nat _ a s1.heap.objs.size := pl.lt
    have hlen := rv.length
    refine call_enumerate_list pl.isList fun h' hE hI hsz hk => ?_
    refine Calls.spliced_nil ?_
    have hA : X.A.handled = none := I1.ok.hd hc
    refine call_list_src (s := { s1 with heap := h' }) (T := "enumerate") (src_enum (A := X.A.in1.in1) hA (s1.heap.objs.size + 1) s1.heap.objs.size a h'.objs.size (adn (by omega)) (adn (by omega)) (adn (by omega)) its.toArray (adn (by omega)) (adn (by omega)) (adn (by omega)))
      (fun s st => ⟨_, st.2.2.1.choose_spec.1, st.2.2.1.choose_spec.2⟩) (fun A s Q E st hq => ?_) (by decide) (by decide) enum_no_len enum_no_hint (by show _ < h'.objs.size; omega) ⟨hI, pl.isList.at fun o e => hk _ o e, ⟨_, hE, rfl⟩, .inl ⟨_, hE⟩⟩ (fun h'' tk acc c as hk2 hS hl hG hacc => ?_) (by simp only [List.size_toArray]; omega)
    · rcases st.2.2.2 with ⟨old, he⟩ | ⟨hi, _⟩
      · exact wpAny_pyIter_enum he hq
      · exact absurd hi (Nat.lt_irrefl 0)
    · have hlE : (enumV xs).length = xs.length := by simp [enumV]
      have hrel : ∀ (j : Nat) (p : V × V) (k v : Value), (enumV xs)[j]? = some p → ((∃ t, k = .int j t) ∧ its.toArray[j]? = some v) → RelV p.1 k ∧ RelV p.2 v := fun j p k v hp hr => by
        obtain ⟨⟨t, rfl⟩, hv⟩ := hr
        have hx : xs[j]?.map (fun x => (V.int (j : Int), x)) = some p := by
          rw [← hp]
          simp [enumV]
          rfl
        cases hxj : xs[j]? with
        | none => rw [hxj] at hx; cases hx
        | some x =>
          rw [hxj] at hx
          cases hx
          obtain ⟨u, hu, ru⟩ := rv.get hxj
          rw [List.getElem?_toArray, hu] at hv
          cases hv
          exact ⟨⟨t, rfl⟩, ru⟩
      obtain ⟨H', k1, k2, k3, k4, k5, J⟩ := pairs_laid (tk := tk) (ps := enumV xs) I1 (by rw [hlE]; exact hz) (S := h'.objs.size) (by omega) (fun b o e => hk2 b o (by
        have hb : @LT.lt Nat _ b s1.heap.objs.size := Heap.lt_size e
        simp only [List.mem_cons, List.not_mem_nil, or_false, not_or]
        repeat' apply And.intro
        all_goals exact adn (by omega)) (hk b o e)) hS (by rw [hl, hlE, List.size_toArray]; omega) hG hacc hrel
      exact ⟨.ref _, H', J, rfl, qq H' _ as k1 k2 k3 k4 (by rw [hl, hlE, List.size_toArray]; omega) k5⟩
theorem we_listZip (hc : X.calm = true) (hg : Gl X "list") (hm : X.mg "list" = none) (hg2 : Gl X "zip") (hm2 : X.mg "zip" = none) (h : We X e σ H fun v H0 => We X e2 σ H0 fun v2 H1 => ∃ a b xs ys, v = .ref a ∧ v2 = .ref b ∧ SqL X.K H1 a xs ∧ SqL X.K H1 b ys ∧ NewPairs H1 (xs.zip ys) Q)
    (he : starEach [e, e2] X.env = (false, eval e X.env) :: starEach [e2] X.env := by rfl) (hb : starEach [e2] X.env = (false, eval e2 X.env) :: starEach [] X.env := by rfl)
    (hs1 : starEach [.Call (.Name "zip" p2) [e, e2] [] q] X.env = (false, eval (.Call (.Name "zip" p2) [e, e2] [] q) X.env) :: starEach [] X.env := by rfl) :
    We X (.Call (.Name "list" p) [.Call (.Name "zip" p2) [e, e2] [] q] [] pos) σ H Q := by
  refine ⟨fun pins s I => ?_⟩
  refine wpAny_Call_Name_kw (ld_blt I hg hm boot_list ?_)
  refine PyProof.Rows.callWith_type1 ?_ hs1 rfl
  rw [hs1]
  show wpAny _ _ (spliced ((false, eval (.Call (.Name "zip" p2) [e, e2] [] q) X.env) :: backTo pos (starEach [] X.env))) _ _ s
  refine Calls.spliced_cons ?_
  refine Call_ (ld_blt I hg2 hm2 PyProof.Rows.boot_zip (PyProof.Rows.callWith_type1 (thn ((pa_cons We.pe (pa_cons We.pe pa_nil hb) he).run q pins s σ H (fun vs H1 => ∃ a b xs ys, vs = [.ref a, .ref b] ∧ SqL X.K H1 a xs ∧ SqL X.K H1 b ys ∧ NewPairs H1 (xs.zip ys) Q) I ?_) fun us s1 ⟨vs, H1, I1, r1, a, b, xs, ys, ex, hq, hq2, qq⟩ => ?_) he (by rw [hb]; rfl)))
  · refine ⟨fun pins s I => thn (h.run pins s I) fun u s1 ⟨v, H1, I1, r1, h2⟩ => ⟨v, H1, I1, r1, ⟨fun pins s I => thn (h2.run pins s I) fun u s1 ⟨w, H2, I2, r2, a, b, xs, ys, e1, e2, h3⟩ => ⟨w, H2, I2, r2, a, b, xs, ys, ?_, h3⟩⟩⟩⟩
    rw [e1, e2]
  subst ex
  cases r1 with
  | cons r rr =>
    cases rr with
    | cons r' rr =>
    cases rr
    cases r
    cases r'
    obtain ⟨its, rv, pl, hz⟩ := I1.list hq
    obtain ⟨its2, rv2, pl2, hz2⟩ := I1.list hq2
    have la : @LT.lt Nat _ a s1.heap.objs.size := pl.lt
    have lb : @LT.lt Nat _ b s1.heap.objs.size := pl2.lt
    have hlen := rv.length
    have hlen2 := rv2.length
    refine call_zip_2 pl.isList pl2.isList fun h' hZ hTI hTO h1 h2 hsz hk => ?_
    refine Calls.spliced_nil ?_
    have hA : X.A.handled = none := I1.ok.hd hc
    refine call_list_src (s := { s1 with heap := h' }) (T := "zip") (src_zip (A := X.A.in1.in1) hA (s1.heap.objs.size + 4) (s1.heap.objs.size + 2) (s1.heap.objs.size + 3) s1.heap.objs.size (s1.heap.objs.size + 1) a b h'.objs.size (PySem.W.ktu_apart s1.heap.objs.size a b la lb) its.toArray its2.toArray (adn (by omega)) (adn (by omega)) (adn (by omega)) (adn (by omega)) (adn (by omega)) (adn (by omega)) (adn (by omega)))
      (fun s st => ⟨_, st.2.2.2.2.2.1.choose_spec.1, st.2.2.2.2.2.1.choose_spec.2⟩) (fun A s Q E st hq => ?_) (by decide) (by decide) zip_no_len zip_no_hint (by show _ < h'.objs.size; omega) ⟨hTI, h1, h2, pl.isList.at fun o e => hk _ o e, pl2.isList.at fun o e => hk _ o e, ⟨_, hZ, rfl⟩, ⟨_, hTO⟩, .inl ⟨hZ, _, _, hTO⟩⟩ (fun h'' tk acc c as hk2 hS hl hG hacc => ?_) (by simp only [List.size_toArray]; omega)
    · rcases st.2.2.2.2.2.2.2 with ⟨hz, _⟩ | ⟨hi, _⟩
      · exact wpAny_pyIter_zip hz hq
      · exact absurd hi (Nat.lt_irrefl 0)
    · have hlE : (xs.zip ys).length = min xs.length ys.length := List.length_zip
      have hl' : as.length = (xs.zip ys).length := by rw [hl, hlE, List.size_toArray, List.size_toArray]; omega
      have hrel : ∀ (j : Nat) (p : V × V) (k v : Value), (xs.zip ys)[j]? = some p → (its.toArray[j]? = some k ∧ its2.toArray[j]? = some v) → RelV p.1 k ∧ RelV p.2 v := fun j p k v hp hr => by
        obtain ⟨hk', hv⟩ := hr
        rw [List.getElem?_zip_eq_some] at hp
        obtain ⟨u, hu, ru⟩ := rv.get hp.1
        obtain ⟨u2, hu2, ru2⟩ := rv2.get hp.2
        rw [List.getElem?_toArray, hu] at hk'
        rw [List.getElem?_toArray, hu2] at hv
        cases hk'
        cases hv
        exact ⟨ru, ru2⟩
      obtain ⟨H', k1, k2, k3, k4, k5, J⟩ := pairs_laid (tk := tk) (ps := xs.zip ys) I1 (by rw [hlE]; omega) (S := h'.objs.size) (by omega) (fun b o e => hk2 b o (by
        have hb : @LT.lt Nat _ b s1.heap.objs.size := Heap.lt_size e
        simp only [List.mem_cons, List.not_mem_nil, or_false, not_or]
        repeat' apply And.intro
        all_goals exact adn (by omega)) (hk b o e)) hS hl' hG hacc hrel
      exact ⟨.ref _, H', J, rfl, qq H' _ as k1 k2 k3 k4 hl' k5⟩
end
end SL

/-! heaps, operators and calls by values, own defs, repr -/
namespace SL
open PySem PySem.Spec PyProof.Rows L2

/-! ### heaps -/
/-- what never changes once it is laid -/
def Imm : HO → Prop
  | .tup _ => True
  | .frz _ _ => True
  | _ => False
/-- all is as it was but at M -/
structure Kp (M : List Addr) (H H' : Hp) : Prop where
  get : ∀ b o, H b = some o → (b ∉ M ∨ Imm o) → H' b = some o
  dom : ∀ b, H' b = none → H b = none
theorem Kp.refl {M : List Addr} {H : Hp} : Kp M H H := ⟨fun _ _ h _ => h, fun _ h => h⟩
theorem Kp.ext {H H' : Hp} (h : ∀ b o, H b = some o → H' b = some o) : Kp [] H H' := ⟨fun b o e _ => h b o e, fun b e => by
  cases q : H b with
  | none => rfl
  | some o => rw [h b o q] at e; cases e⟩
theorem Kp.new {H : Hp} {p : Addr} {o : HO} (n : H p = none) : Kp [] H (upd H p o) := .ext fun b u e => by rw [upd_ne (ne_of_none e n)]; exact e
theorem Kp.put {H : Hp} {p : Addr} {o : HO} {xs : List V} (n : H p = some (.lst xs)) : Kp [p] H (upd H p o) := ⟨fun b u e h => by
  by_cases z : b = p
  · subst z
    rcases h with h | h
    · exact absurd (List.mem_singleton.mpr rfl) h
    · rw [n] at e; cases e; exact h.elim
  · rw [upd_ne z]; exact e, fun b e => by
  by_cases z : b = p
  · subst z; rw [upd_same] at e; cases e
  · rw [upd_ne z] at e; exact e⟩
theorem Kp.trans {M M' : List Addr} {H H1 H2 : Hp} (a : Kp M H H1) (b : Kp M' H1 H2) (h : ∀ x ∈ M', x ∈ M ∨ H x = none) : Kp M H H2 := ⟨fun c o e z => b.get c o (a.get c o e z) (by
  rcases z with z | z
  · refine .inl fun q => ?_
    rcases h c q with q | q
    · exact z q
    · rw [q] at e; cases e
  · exact .inr z), fun c e => a.dom c (b.dom c e)⟩
theorem Kp.tr0 {M : List Addr} {H H1 H2 : Hp} (a : Kp M H H1) (b : Kp [] H1 H2) : Kp M H H2 := a.trans b fun _ h => by cases h
theorem Kp.trN {M : List Addr} {p : Addr} {H H1 H2 : Hp} (a : Kp M H H1) (b : Kp [p] H1 H2) (h : H p = none) : Kp M H H2 := a.trans b fun x hx => .inr (by rw [List.mem_singleton.mp hx]; exact h)
theorem Kp.trM {M : List Addr} {p : Addr} {H H1 H2 : Hp} (a : Kp M H H1) (b : Kp [p] H1 H2) (h : p ∈ M) : Kp M H H2 := a.trans b fun x hx => .inl (by rw [List.mem_singleton.mp hx]; exact h)
theorem Kp.trS {M : List Addr} {H H1 H2 : Hp} (a : Kp M H H1) (b : Kp M H1 H2) : Kp M H H2 := a.trans b fun x hx => .inl hx
theorem Kp.mono {M M' : List Addr} {H H1 : Hp} (a : Kp M H H1) (h : ∀ x ∈ M, x ∈ M') : Kp M' H H1 := ⟨fun c o e z => a.get c o e (by
  rcases z with z | z
  · exact .inl fun q => z (h c q)
  · exact .inr z), a.dom⟩
theorem Kp.g0 {H H' : Hp} {b : Addr} {o : HO} (k : Kp [] H H') (h : H b = some o) : H' b = some o := k.get b o h (.inl (by simp))
theorem Kp.g1 {H H' : Hp} {b p : Addr} {o : HO} (k : Kp [p] H H') (n : b ≠ p) (h : H b = some o) : H' b = some o := k.get b o h (.inl (by simp [n]))
theorem Kp.gM {M : List Addr} {H H' : Hp} {b : Addr} {o : HO} (k : Kp M H H') (n : b ∉ M) (h : H b = some o) : H' b = some o := k.get b o h (.inl n)
theorem Kp.gT {M : List Addr} {H H' : Hp} {b : Addr} {xs : List V} (k : Kp M H H') (h : H b = some (.tup xs)) : H' b = some (.tup xs) := k.get b _ h (.inr trivial)
theorem Kp.nn {M : List Addr} {H H' : Hp} {b : Addr} (k : Kp M H H') (h : H' b = none) : H b = none := k.dom b h
theorem Kp.ex {H H' : Hp} (k : Kp [] H H') : ∀ b o, H b = some o → H' b = some o := fun b o h => k.g0 h
theorem sqL {K : PySem.W.Frag} {H : Hp} {a : Addr} {xs : List V} (h : H a = some (.lst xs)) : SqL K H a xs := .inl (.inl h)
theorem sqT {K : PySem.W.Frag} {H : Hp} {a : Addr} {xs : List V} (h : H a = some (.tup xs)) : SqT K H a xs := .inl (.inl h)
/-- the script: locked or written -/
def Scr (K : PySem.W.Frag) (H : Hp) (a : Addr) (ns : List Int) : Prop := SqL K H a (ns.map V.int) ∧ ∀ o, H a = some o → Imm o
theorem Scr.kp {K : PySem.W.Frag} {M : List Addr} {H H' : Hp} {a : Addr} {ns : List Int} (s : Scr K H a ns) (k : Kp M H H') (hn : H a = none → H' a = none) : Scr K H' a ns := by
  obtain ⟨h, i⟩ := s
  cases q : H a with
  | none =>
    refine ⟨?_, fun o e => by rw [hn q] at e; cases e⟩
    rcases h with (h | ⟨o, h⟩) | h
    · rw [q] at h; cases h
    · rw [q] at h; cases h
    · exact .inr h
  | some o =>
    have e' := k.get a o q (.inr (i o q))
    refine ⟨?_, fun u e => by rw [e'] at e; cases e; exact i o q⟩
    rcases h with (h | ⟨u, h⟩) | h
    · rw [q] at h; cases h; exact .inl (.inl e')
    · rw [q] at h; cases h; exact .inl (.inr ⟨u, e'⟩)
    · exact .inr h

/-! ### operators -/
section
variable {X : Cx} {σ : L2.St} {H : Hp} {Q : VK} {i j : Int}
theorem b_add (h : Q (.int (i + j)) H) : Bin X .Add (.int i) (.int j) H Q := ⟨_, op_add, i, j, rfl, rfl, h⟩
theorem b_sub (h : Q (.int (i - j)) H) : Bin X .Sub (.int i) (.int j) H Q := ⟨_, op_sub, i, j, rfl, rfl, h⟩
theorem b_mul (c : CMul i j) (h : Q (.int (i * j)) H) : Bin X .Mult (.int i) (.int j) H Q := ⟨_, op_mul, i, j, rfl, rfl, c, h⟩
theorem b_mulL (c : -(2 ^ 64) < i ∧ i < 2 ^ 64) (h : Q (.int (i * j)) H) : Bin X .Mult (.int i) (.int j) H Q := b_mul (.inl c) h
theorem b_mulR (c : -(2 ^ 64) < j ∧ j < 2 ^ 64) (h : Q (.int (i * j)) H) : Bin X .Mult (.int i) (.int j) H Q := b_mul (.inr c) h
theorem b_fdiv (c : 0 < j ∧ j < 1073741824) (h : Q (.int (i / j)) H) : Bin X .FloorDiv (.int i) (.int j) H Q := ⟨_, op_fdiv, i, j, rfl, rfl, c, h⟩
theorem b_fdivW (c : 0 < j ∧ j.natAbs.log2 < 9000) (h : Q (.int (i / j)) H) : Bin X .FloorDiv (.int i) (.int j) H Q := ⟨_, op_fdivW, i, j, rfl, rfl, c, h⟩
theorem b_mod (c : 0 < j) (h : Q (.int (i % j)) H) : Bin X .Mod (.int i) (.int j) H Q := ⟨_, op_mod, i, j, rfl, rfl, c, h⟩
theorem b_pow (c : 0 ≤ j ∧ j ≤ 1000000 ∧ i.natAbs < 2 ^ 64) (h : Q (.int (i ^ j.toNat)) H) : Bin X .Pow (.int i) (.int j) H Q := ⟨_, op_pow, i, j, rfl, rfl, c, h⟩
theorem b_cat {l b : Addr} {xs zs : List V} (h1 : H l = some (.lst xs)) (h2 : H b = some (.lst zs)) (hz : xs.length + zs.length ≤ 100000) (h : ∀ p H', H p = none → Kp [] H H' → H' p = some (.lst (xs ++ zs)) → Q (.ref p) H') : Bin X .Add (.ref l) (.ref b) H Q :=
  ⟨_, op_cat, l, b, xs, zs, rfl, rfl, h1, h2, Nat.le_trans hz (by decide), fun p n => h p _ n (.new n) upd_same⟩
theorem b_rep {l : Addr} {xs : List V} {k : Int} (h1 : H l = some (.lst xs)) (hk : -(2 ^ 63) ≤ k ∧ k < 2 ^ 63) (hz : xs.length * k.toNat ≤ 100000) (h : ∀ p H', H p = none → Kp [] H H' → H' p = some (.lst (List.replicate k.toNat xs).flatten) → Q (.ref p) H') : Bin X .Mult (.ref l) (.int k) H Q :=
  ⟨_, op_rep, l, k, xs, rfl, rfl, h1, hk.1, hk.2, Nat.le_trans hz (by decide), fun p n => h p _ n (.new n) upd_same⟩
theorem u_neg (h : Q (.int (-i)) H) : Una X .USub (.int i) H Q := ⟨_, un_neg, i, rfl, h⟩
theorem c_lt (h : Q (.bl (decide (i < j))) H) : Cmp X .Lt (.int i) (.int j) H Q := ⟨_, op_lt, i, j, rfl, rfl, h⟩
theorem c_le (h : Q (.bl (decide (i ≤ j))) H) : Cmp X .LtE (.int i) (.int j) H Q := ⟨_, op_le, i, j, rfl, rfl, h⟩
theorem c_gt (h : Q (.bl (decide (j < i))) H) : Cmp X .Gt (.int i) (.int j) H Q := ⟨_, op_gt, i, j, rfl, rfl, h⟩
theorem c_ge (h : Q (.bl (decide (j ≤ i))) H) : Cmp X .GtE (.int i) (.int j) H Q := ⟨_, op_ge, i, j, rfl, rfl, h⟩
theorem c_eqI (h : Q (.bl (decide (i = j))) H) : Cmp X .Eq (.int i) (.int j) H Q := ⟨_, op_eq, rfl, by
  rw [dec_int]
  exact h⟩
theorem c_neI (h : Q (.bl (!decide (i = j))) H) : Cmp X .NotEq (.int i) (.int j) H Q := ⟨_, op_ne, rfl, by
  rw [dec_int]
  exact h⟩
theorem c_eqS {x y : Str} (h : Q (.bl (decide (x = y))) H) : Cmp X .Eq (.str x) (.str y) H Q := ⟨_, op_eq, rfl, by
  rw [show decide (V.str x = V.str y) = decide (x = y) by simp]
  exact h⟩
theorem c_neS {x y : Str} (h : Q (.bl (!decide (x = y))) H) : Cmp X .NotEq (.str x) (.str y) H Q := ⟨_, op_ne, rfl, by
  rw [show decide (V.str x = V.str y) = decide (x = y) by simp]
  exact h⟩
theorem c_eqB {x y : Bool} (h : Q (.bl (decide (x = y))) H) : Cmp X .Eq (.bl x) (.bl y) H Q := ⟨_, op_eq, rfl, by
  rw [show decide (V.bl x = V.bl y) = decide (x = y) by simp]
  exact h⟩
theorem c_neB {x y : Bool} (h : Q (.bl (!decide (x = y))) H) : Cmp X .NotEq (.bl x) (.bl y) H Q := ⟨_, op_ne, rfl, by
  rw [show decide (V.bl x = V.bl y) = decide (x = y) by simp]
  exact h⟩
theorem c_isN {x : V} (h : Q (.bl (decide (x = .non))) H) : Cmp X .Is x .non H Q := ⟨_, op_isN, rfl, h⟩
theorem c_notN {x : V} (h : Q (.bl (!decide (x = .non))) H) : Cmp X .IsNot x .non H Q := ⟨_, op_notN, rfl, h⟩
theorem c_isB {x y : Bool} (h : Q (.bl (decide (x = y))) H) : Cmp X .Is (.bl x) (.bl y) H Q := ⟨_, op_isBl, x, y, rfl, rfl, h⟩
theorem c_notB {x y : Bool} (h : Q (.bl (!decide (x = y))) H) : Cmp X .IsNot (.bl x) (.bl y) H Q := ⟨_, op_notBl, x, y, rfl, rfl, h⟩
theorem p_add (h : Q (.int (i + j)) H) : Ipw X .Add (.int i) (.int j) H Q := ⟨_, ip_add, i, j, rfl, rfl, h⟩
theorem p_sub (h : Q (.int (i - j)) H) : Ipw X .Sub (.int i) (.int j) H Q := ⟨_, ip_sub, i, j, rfl, rfl, h⟩
/-- xs[i], t[i] -/
theorem x_lst {p : Addr} {xs : List V} {v : V} (h1 : SqL X.K H p xs) (h2 : atI xs i = some v) (h : Q v H) : Ixw X (.ref p) (.int i) H Q := ⟨_, ix_list, p, xs, i, v, rfl, rfl, h1, h2, h⟩
theorem x_tup {p : Addr} {xs : List V} {v : V} (h1 : SqT X.K H p xs) (h2 : atI xs i = some v) (h : Q v H) : Ixw X (.ref p) (.int i) H Q := ⟨_, ix_tup, p, xs, i, v, rfl, rfl, h1, h2, h⟩
theorem x_sl {p : Addr} {xs : List V} {lo hi : Option Int} (h1 : SqL X.K H p xs) (h : ∀ q H', H q = none → Kp [] H H' → H' q = some (.lst (cutV xs lo hi)) → Q (.ref q) H') : Slw X (.ref p) lo hi H Q :=
  ⟨_, sl_list, p, xs, rfl, h1, fun q n => h q _ n (.new n) upd_same⟩
/-- xs[i] = v -/
theorem x_set {G : Hp → Prop} {p : Addr} {xs : List V} {v : V} {k : Nat} (h1 : H p = some (.lst xs)) (h2 : ixN xs.length i = some k) (h : ∀ H', Kp [p] H H' → H' p = some (.lst (xs.set k v)) → G H') : Setw X (.ref p) (.int i) v H G :=
  ⟨_, set_list, p, xs, i, k, rfl, rfl, h1, h2, h _ (.put h1) upd_same⟩
theorem ixN_of {n : Nat} {k : Int} (h0 : 0 ≤ k) (h1 : k < n) : ixN n k = some k.toNat := by
  unfold ixN
  rw [if_pos h0, if_pos h1]
theorem atI_of {α : Type} {xs : List α} {k : Int} {v : α} (h0 : 0 ≤ k) (h : xs[k.toNat]? = some v) : atI xs k = some v := by
  have e : ((k.toNat : Nat) : Int) = k := Int.toNat_of_nonneg h0
  rw [← e]
  exact atI_nat h
theorem atI_m1 {α : Type} {xs : List α} {v : α} (h : xs.getLast? = some v) : atI xs (-1) = some v := by
  obtain ⟨ys, rfl⟩ := List.getLast?_eq_some_iff.mp h
  exact atI_last ys v
end

/-! ### data -/
def dI (ns : List Int) : PyData := .list (ns.map PyData.int)
def dP (ps : List (Int × Int)) : PyData := .list (ps.map fun p => .tuple [.int p.1, .int p.2])
section
variable {K : PySem.W.Frag} {H H' : Hp}
theorem sqL_ext {a : Addr} {xs : List V} (e : ∀ b o, H b = some o → H' b = some o) (h : SqL K H a xs) : SqL K H' a xs := by
  rcases h with (h | ⟨o, h⟩) | h
  · exact .inl (.inl (e _ _ h))
  · exact .inl (.inr ⟨o, e _ _ h⟩)
  · exact .inr h
theorem sqT_ext {a : Addr} {xs : List V} (e : ∀ b o, H b = some o → H' b = some o) (h : SqT K H a xs) : SqT K H' a xs := by
  rcases h with (h | ⟨o, h⟩) | h
  · exact .inl (.inl (e _ _ h))
  · exact .inl (.inr ⟨o, e _ _ h⟩)
  · exact .inr h
mutual
theorem dp_ext (e : ∀ b o, H b = some o → H' b = some o) : ∀ {v : V} {d : PyData}, Dp K H v d → Dp K H' v d
  | _, _, .non => .non
  | _, _, .bl b => .bl b
  | _, _, .int i => .int i
  | _, _, .str x => .str x
  | _, _, .lst h a => .lst (sqL_ext e h) (dpAll_ext e a)
  | _, _, .tup h a => .tup (sqT_ext e h) (dpAll_ext e a)
theorem dpAll_ext (e : ∀ b o, H b = some o → H' b = some o) : ∀ {vs : List V} {ds : List PyData}, DpAll K H vs ds → DpAll K H' vs ds
  | _, _, .nil => .nil
  | _, _, .cons h a => .cons (dp_ext e h) (dpAll_ext e a)
end
theorem dpAll_ints : ∀ ns : List Int, DpAll K H (ns.map V.int) (ns.map PyData.int)
  | [] => .nil
  | n :: ns => .cons (.int n) (dpAll_ints ns)
theorem dp_ints {a : Addr} {ns : List Int} (h : SqL K H a (ns.map V.int)) : Dp K H (.ref a) (dI ns) := .lst h (dpAll_ints ns)
theorem eqvAll_ints : ∀ ns ms : List Int, PyData.eqvAll (ns.map PyData.int) (ms.map PyData.int) = decide (ns = ms)
  | [], [] => by simp [PyData.eqvAll]
  | [], _ :: _ => by simp [PyData.eqvAll]
  | _ :: _, [] => by simp [PyData.eqvAll]
  | n :: ns, m :: ms => by
    show (PyData.eqv (.int n) (.int m) && PyData.eqvAll (ns.map PyData.int) (ms.map PyData.int)) = _
    rw [eqvAll_ints ns ms]
    simp only [PyData.eqv]
    by_cases h1 : n = m
    · by_cases h2 : ns = ms
      · simp [h1, h2]
      · simp [h1, h2]
    · simp [h1]
theorem shaped_ints (ns : List Int) : SeqAt.shaped (dI ns) = true := by
  have h1 : ∀ ns : List Int, PyData.canLayAll0 (ns.map PyData.int) = true := fun ns => by
    induction ns with
    | nil => rfl
    | cons n ns ih => show (PyData.canLay0 (.int n) && PyData.canLayAll0 (ns.map PyData.int)) = true; rw [ih]; rfl
  have h2 : ∀ ns : List Int, PyData.depthAll (ns.map PyData.int) = 0 := fun ns => by
    induction ns with
    | nil => rfl
    | cons n ns ih => show max (PyData.depth (.int n)) (PyData.depthAll (ns.map PyData.int)) = 0; rw [ih]; rfl
  unfold SeqAt.shaped dI
  have e1 : PyData.canLay0 (.list (ns.map PyData.int)) = true := by
    show PyData.canLayAll0 (ns.map PyData.int) = true
    exact h1 ns
  have e2 : PyData.depth (.list (ns.map PyData.int)) = 1 := by
    show PyData.depthAll (ns.map PyData.int) + 1 = 1
    rw [h2 ns]
  rw [e1, e2]
  rfl
end
section
variable {X : Cx} {σ : L2.St} {H : Hp} {Q : VK} {p q : Addr} {ns ms : List Int} {k : Nat}
theorem c_eqD {x y : V} {d e : PyData} (hr : Room k X.A) (h1 : Dp X.K H x d) (h2 : Dp X.K H y e) (s1 : SeqAt.shaped d = true) (s2 : SeqAt.shaped e = true) (h : Q (.bl (PyData.eqv d e)) H) : Cmp X .Eq x y H Q := ⟨_, op_eqD hr.units, d, e, h1, h2, s1, s2, h⟩
theorem c_neD {x y : V} {d e : PyData} (hr : Room k X.A) (h1 : Dp X.K H x d) (h2 : Dp X.K H y e) (s1 : SeqAt.shaped d = true) (s2 : SeqAt.shaped e = true) (h : Q (.bl (!PyData.eqv d e)) H) : Cmp X .NotEq x y H Q := ⟨_, op_neD hr.units, d, e, h1, h2, s1, s2, h⟩
theorem c_eqL (hr : Room k X.A) (h1 : SqL X.K H p (ns.map V.int)) (h2 : SqL X.K H q (ms.map V.int)) (h : Q (.bl (decide (ns = ms))) H) : Cmp X .Eq (.ref p) (.ref q) H Q := c_eqD hr (dp_ints h1) (dp_ints h2) (shaped_ints _) (shaped_ints _) (by
  rw [show PyData.eqv (dI ns) (dI ms) = decide (ns = ms) from by unfold dI; rw [PyData.eqv]; exact eqvAll_ints ns ms]
  exact h)
theorem c_neL (hr : Room k X.A) (h1 : SqL X.K H p (ns.map V.int)) (h2 : SqL X.K H q (ms.map V.int)) (h : Q (.bl (!decide (ns = ms))) H) : Cmp X .NotEq (.ref p) (.ref q) H Q := c_neD hr (dp_ints h1) (dp_ints h2) (shaped_ints _) (shaped_ints _) (by
  rw [show PyData.eqv (dI ns) (dI ms) = decide (ns = ms) from by unfold dI; rw [PyData.eqv]; exact eqvAll_ints ns ms]
  exact h)
end

/-! ### built-in functions -/
section
variable {X : Cx} {σ : L2.St} {H : Hp} {Q : VK} {e o : Expr} {es : List Expr} {p pos apos : Pos} {x : Str} {id T : String}
theorem we_callB (hg : Gl X x) (hm : X.mg x = none) (hv : bootBuiltins x = some (.builtin id)) (h : Wa X (e :: es) σ H fun vs H1 => Cal X (.builtin id) vs H1 Q) (hn : x ≠ "__name__" := by decide) (hdb : (x == ("__debug__" : Str)) = false := by decide)
    (he : starEach (e :: es) X.env = (false, eval e X.env) :: starEach es X.env := by rfl) (hpl : (backTo pos (starEach es X.env)).any (·.1) = false := by rfl) : We X (.Call (.Name x p) (e :: es) [] pos) σ H Q := we_of (pe_callB Cal.ok hg hm hv Wa.pa hn hdb he hpl) h
theorem we_callT (hg : Gl X x) (hm : X.mg x = none) (hv : bootBuiltins x = some (.type T)) (h : Wa X (e :: es) σ H fun vs H1 => Cal X (.type T) vs H1 Q) (hn : x ≠ "__name__" := by decide) (hdb : (x == ("__debug__" : Str)) = false := by decide)
    (he : starEach (e :: es) X.env = (false, eval e X.env) :: starEach es X.env := by rfl) (hpl : (backTo pos (starEach es X.env)).any (·.1) = false := by rfl) : We X (.Call (.Name x p) (e :: es) [] pos) σ H Q := we_of (pe_callTy Cal.ok hg hm hv Wa.pa hn hdb he hpl) h
variable {a : Addr} {xs : List V} {ns : List Int} {i j : Int}
theorem k_len (h1 : SqL X.K H a xs) (h : Q (.int (xs.length : Int)) H) : Cal X (.builtin "len") [.ref a] H Q := ⟨_, call_len_seq, a, xs, rfl, .inl h1, h⟩
theorem k_lenT (h1 : SqT X.K H a xs) (h : Q (.int (xs.length : Int)) H) : Cal X (.builtin "len") [.ref a] H Q := ⟨_, call_len_seq, a, xs, rfl, .inr h1, h⟩
theorem k_max2 (hc : X.calm = true) (h : Q (.int (if j > i then j else i)) H) : Cal X (.builtin "max") [.int i, .int j] H Q := ⟨_, call_max2 hc, i, j, rfl, h⟩
theorem k_min2 (hc : X.calm = true) (h : Q (.int (if j < i then j else i)) H) : Cal X (.builtin "min") [.int i, .int j] H Q := ⟨_, call_min2 hc, i, j, rfl, h⟩
theorem k_min (hc : X.calm = true) (h1 : SqL X.K H a (ns.map V.int)) (h0 : 0 < ns.length) (h : ∀ m, m ∈ ns → (∀ y ∈ ns, m ≤ y) → Q (.int m) H) : Cal X (.builtin "min") [.ref a] H Q := ⟨_, cr_min hc, a, ns, rfl, h1, h0, h⟩
theorem k_max (hc : X.calm = true) (h1 : SqL X.K H a (ns.map V.int)) (h0 : 0 < ns.length) (h : ∀ m, m ∈ ns → (∀ y ∈ ns, y ≤ m) → Q (.int m) H) : Cal X (.builtin "max") [.ref a] H Q := ⟨_, cr_max hc, a, ns, rfl, h1, h0, h⟩
theorem k_sum (hc : X.calm = true) (h1 : SqL X.K H a (ns.map V.int)) (h : Q (.int ns.sum) H) : Cal X (.builtin "sum") [.ref a] H Q := ⟨_, cr_sum hc, a, ns, rfl, h1, h⟩
theorem k_abs (h : Q (.int (if i < 0 then -i else i)) H) : Cal X (.builtin "abs") [.int i] H Q := ⟨_, call_abs, i, rfl, h⟩
theorem k_intI (h : Q (.int i) H) : Cal X (.type "int") [.int i] H Q := ⟨_, call_int1, .inl ⟨i, rfl, h⟩⟩
theorem k_intB {b : Bool} (h : Q (.int (if b then 1 else 0)) H) : Cal X (.type "int") [.bl b] H Q := ⟨_, call_int1, .inr ⟨b, rfl, h⟩⟩
theorem k_sorted (h1 : SqL X.K H a (ns.map V.int)) (h : ∀ (ms : List Int) p H', ms.Perm ns → ms.Pairwise (· ≤ ·) → H p = none → Kp [] H H' → H' p = some (.lst (ms.map V.int)) → Q (.ref p) H') : Cal X (.builtin "sorted") [.ref a] H Q :=
  ⟨_, cr_sortedI, a, ns, rfl, h1, fun ms p h2 h3 n => h ms p _ h2 h3 n (.new n) upd_same⟩
theorem k_list (h1 : SqL X.K H a xs ∨ SqT X.K H a xs) (h : ∀ p H', H p = none → Kp [] H H' → H' p = some (.lst xs) → Q (.ref p) H') : Cal X (.type "list") [.ref a] H Q := ⟨_, call_list_of, a, xs, rfl, h1, fun p n => h p _ n (.new n) upd_same⟩
theorem k_isi {x : V} {t : Value} {n : String} {b : Bool} (ht : TyX X.K H x t) (hk : PySem.W.kitOne X.K t (.type n) = some b) (h : Q (.bl b) H) : Cal X (.builtin "isinstance") [x, .ty n] H Q := ⟨_, call_isi, x, .ty n, t, .type n, b, rfl, .ty n, ht, hk, h⟩
theorem k_isiI {n : String} {b : Bool} (hk : kitB "int" n = some b) (h : Q (.bl b) H) : Cal X (.builtin "isinstance") [.int i, .ty n] H Q := k_isi (.base (.int i)) (kit_ty hk) h
theorem k_isiB {n : String} {b c : Bool} (hk : kitB "bool" n = some b) (h : Q (.bl b) H) : Cal X (.builtin "isinstance") [.bl c, .ty n] H Q := k_isi (.base (.bl c)) (kit_ty hk) h
theorem k_isiL {n : String} {b : Bool} (h1 : H a = some (.lst xs)) (hk : kitB "list" n = some b) (h : Q (.bl b) H) : Cal X (.builtin "isinstance") [.ref a, .ty n] H Q := k_isi (.base (.lst h1)) (kit_ty hk) h
theorem k_isiT {n : String} {b : Bool} (h1 : H a = some (.tup xs)) (hk : kitB "tuple" n = some b) (h : Q (.bl b) H) : Cal X (.builtin "isinstance") [.ref a, .ty n] H Q := k_isi (.base (.tup h1)) (kit_ty hk) h
theorem ii_int : kitB "int" "int" = some true := by decide +kernel
theorem ii_bool : kitB "int" "bool" = some false := by decide +kernel
theorem il_list : kitB "list" "list" = some true := by decide +kernel
theorem k_strI (hz : i.natAbs.log2 < 1920) (h : Q (.str (toString i)) H) : Cal X (.type "str") [.int i] H Q := ⟨_, call_str_int, i, rfl, hz, h⟩
/-- repr of a list, of a tuple -/
theorem k_repr {k : Nat} {d : PyData} (hr : Room k X.A) (hgd : X.A.guards = some []) (hd : Dp X.K H (.ref a) d) (hs : d.showable = true) (hn : d.hasDict = false) (hp : d.depth ≤ 100) (hz : d.shown.length ≤ sizeLine) (h : Q (.str d.shown) H) : Cal X (.builtin "repr") [.ref a] H Q := by
  refine ⟨fun xs H Q => xs = [.ref a] ∧ Dp X.K H (.ref a) d ∧ Q (.str d.shown) H, ?_, rfl, hd, h⟩
  intro pins s σ H xs us Q I r h
  obtain ⟨rfl, hd, q⟩ := h
  obtain ⟨u, rfl, rx⟩ := vals1 r
  obtain ⟨as, rd⟩ := Dp.reads I d _ _ hd rx
  cases rx
  have hu : X.A.units + (d.depth + 1) < cLine := by have := hr.un; omega
  exact repr_of_reads' (hsz := hz) rd hs (PyData.noDict_hsm hn) hgd hu (fun _ _ e => e) fun h' u tk hk => ⟨.str d.shown, H, I.kept (t' := tk) hk, ⟨_, rfl⟩, q⟩

/-! ### methods of lists -/
theorem we_append {cpos : Pos} (h : We X o σ H fun x H1 => ∃ l, x = .ref l ∧ (∃ xs, H1 l = some (.lst xs)) ∧ We X e σ H1 fun y H2 => ∃ xs, H2 l = some (.lst xs) ∧ xs.length < 100000 ∧ ∀ H', Kp [l] H2 H' → H' l = some (.lst (xs ++ [y])) → Q .non H')
    (hbase : attributeBase o "append" X.env (eval o X.env) = eval o X.env := by rfl)
    (hfew : ((backTo cpos (starEach [e] X.env)).all (fun x => !x.1) && (backToKw cpos (keywordEach [] X.env)).all (fun x => x.1.isSome) && decide ([e].length + ([] : List Keyword).length + (if ([] : List Keyword).isEmpty then 0 else 1) < 30)) = true := by rfl)
    (hline : (apos.endLine == cpos.line) = true := by rfl) (hs : starEach [e] X.env = (false, eval e X.env) :: starEach [] X.env := by rfl) (hplain : (backTo cpos (starEach [] X.env)).any (·.1) = false := by rfl) :
    We X (.Call (.Attribute o "append" apos) [e] [] cpos) σ H Q :=
  we_of (pe_bm PySem.F.plainAttrs_list PySem.F.slot_list_append PySem.F.type_list_append mt_append We.pe (pa_cons We.pe pa_nil hs) hbase hfew hline hs hplain) (by
    refine ⟨fun pins s I => thn (h.run pins s I) fun u s1 ⟨v, H1, I1, r1, l, ev, ⟨xs, hl⟩, h2⟩ => ⟨v, H1, I1, r1, ?_, ?_⟩⟩
    · rw [ev]
      exact .inl ⟨rfl, xs, sqL hl⟩
    · refine ⟨fun pins s I => thn (h2.run pins s I) fun u s1 ⟨w, H2, I2, r2, ys, hy, hz, h3⟩ => ⟨w, H2, I2, r2, ?_⟩⟩
      exact ⟨l, ys, w, ev, rfl, hy, Nat.lt_of_lt_of_le hz (by decide), h3 _ (.put hy) upd_same⟩)
theorem we_pop {cpos : Pos} (h : We X o σ H fun x H1 => ∃ l xs y, x = .ref l ∧ H1 l = some (.lst xs) ∧ xs.getLast? = some y ∧ ∀ H', Kp [l] H1 H' → H' l = some (.lst xs.dropLast) → Q y H')
    (hbase : attributeBase o "pop" X.env (eval o X.env) = eval o X.env := by rfl) (hline : (apos.endLine == cpos.line) = true := by rfl) : We X (.Call (.Attribute o "pop" apos) [] [] cpos) σ H Q :=
  we_of (pe_bm0 PySem.F.plainAttrs_list PySem.F.slot_list_pop PySem.F.type_list_pop mt_pop We.pe hbase hline) (by
    refine ⟨fun pins s I => thn (h.run pins s I) fun u s1 ⟨v, H1, I1, r1, l, xs, y, ev, hl, hy, h2⟩ => ⟨v, H1, I1, r1, ?_, ?_⟩⟩
    · rw [ev]
      exact .inl ⟨rfl, xs, sqL hl⟩
    · exact ⟨l, xs, y, ev, rfl, hl, by rw [← List.getLast?_eq_getElem?]; exact hy, h2 _ (.put hl) upd_same⟩)
/-- xs.index(y), whole numbers -/
theorem we_index {cpos : Pos} (h : We X o σ H fun x H1 => ∃ (l : Addr) (ns : List Int), x = .ref l ∧ SqL X.K H1 l (ns.map V.int) ∧ We X e σ H1 fun y H2 => ∃ (m : Int) (j : Nat), y = .int m ∧ SqL X.K H2 l (ns.map V.int) ∧ ns[j]? = some m ∧ (∀ k, k < j → ns[k]? ≠ some m) ∧ Q (.int (j : Int)) H2)
    (hbase : attributeBase o "index" X.env (eval o X.env) = eval o X.env := by rfl)
    (hfew : ((backTo cpos (starEach [e] X.env)).all (fun x => !x.1) && (backToKw cpos (keywordEach [] X.env)).all (fun x => x.1.isSome) && decide ([e].length + ([] : List Keyword).length + (if ([] : List Keyword).isEmpty then 0 else 1) < 30)) = true := by rfl)
    (hline : (apos.endLine == cpos.line) = true := by rfl) (hs : starEach [e] X.env = (false, eval e X.env) :: starEach [] X.env := by rfl) (hplain : (backTo cpos (starEach [] X.env)).any (·.1) = false := by rfl) :
    We X (.Call (.Attribute o "index" apos) [e] [] cpos) σ H Q :=
  we_of (pe_bm PySem.F.plainAttrs_list PySem.F.slot_list_index PySem.F.type_list_index mt_index We.pe (pa_cons We.pe pa_nil hs) hbase hfew hline hs hplain) (by
    refine ⟨fun pins s I => thn (h.run pins s I) fun u s1 ⟨v, H1, I1, r1, l, ns, ev, hl, h2⟩ => ⟨v, H1, I1, r1, ?_, ?_⟩⟩
    · rw [ev]
      exact .inl ⟨rfl, _, hl⟩
    · refine ⟨fun pins s I => thn (h2.run pins s I) fun u s1 ⟨w, H2, I2, r2, m, j, ew, hl2, hj, hf, h3⟩ => ⟨w, H2, I2, r2, ?_⟩⟩
      refine ⟨l, _, w, j, .int m, ev, rfl, hl2, by rw [ew]; rfl, ?_, by rw [List.getElem?_map, hj]; rfl, by rw [ew]; simp [eqV], fun k z hk hz => ?_, h3⟩
      · rw [List.all_eq_true]
        intro y hy
        obtain ⟨n, _, rfl⟩ := List.mem_map.mp hy
        rfl
      · rw [List.getElem?_map] at hz
        cases q : ns[k]? with
        | none => rw [q] at hz; cases hz
        | some n =>
          rw [q] at hz
          cases hz
          rw [ew]
          have hne : n ≠ m := fun z => hf k hk (by rw [q, z])
          simp [eqV, hne])
end

/-! ### own defs -/
/-- a def that keeps its promise where no repr is under way -/
structure FnG (P : Program) (w : World) (K : PySem.W.Frag) (mg : Str → Option Value) (base : Heap) (CX : CXT) (k : Nat) (f : Addr) (fd : FuncData) (ps : List Str) (sp : Sp) : Prop where
  len : ∀ vs H Q E, sp vs H Q E → vs.length = ps.length
  run : ∀ (A : Around) (outer : List Env) (s : Shared) (H : Hp) (args : Args) (us : List Value) (vs : List V) (Q : VK) (E : XK), Room k A → A.guards = some [] → Env0 P w K mg base A outer s H → BindsTo s fd args (ps.zip us) → Vals vs us → sp vs H Q E →
    codeAny (model P w) A (.call (.ref f) args) (CR CX outer P w H s Q E) s
section
variable {P : Program} {w : World} {K : PySem.W.Frag} {mg : Str → Option Value} {base : Heap}
theorem FnG.of {CX : CXT} {k : Nat} {f : Addr} {fd : FuncData} {ps : List Str} {sp : Sp} (F : FnOk P w K mg base CX k f fd ps sp) : FnG P w K mg base CX k f fd ps sp := ⟨F.len, fun A outer s H args us vs Q E hr _ => F.run A outer s H args us vs Q E hr⟩
/-- a def by its name, with its promise; nothing is raised -/
structure Df (P : Program) (w : World) (K : PySem.W.Frag) (mg : Str → Option Value) (base : Heap) (k : Nat) (x : Str) (sp : Sp) : Prop where
  ex : ∃ f fd ps, FnG P w K mg base CX0 k f fd ps sp ∧ mg x = some (.ref f) ∧ PySem.W.keepIn K (.ref f) = true ∧ Binds K fd ps []
/-- THE RULE for a def -/
theorem okG {x qual : Str} {st : Stmt} {f : Addr} {fd : FuncData} {N ps : List Str} {k : Nat} {sp : Sp} (F : Fun K x qual st f fd) (S : FnScope N ps (defScope st)) (len : ∀ vs H Q E, sp vs H Q E → vs.length = ps.length)
    (hb : ∀ (cdv : Value) (A : Around) (outer : List Env) (s : Shared) (H : Hp) (vs : List V) (Q : VK) (E : XK), Room k (A.deeper (envOfC qual (defScope st) s.heap.objs.size f cdv)) → (A.deeper (envOfC qual (defScope st) s.heap.objs.size f cdv)).guards = some [] → sp vs H Q E →
      Wss (cxOf CX0 P w K mg base N qual (defScope st) f cdv A outer s H E).nox (defBody st) { nx := fun _ H' => Q .non H', rt := Q } (start N vs) H) : FnG P w K mg base CX0 (k + 1) f fd ps sp := by
  obtain ⟨oc, od, kV, doc, pm, an, cdv, ct, osl, rfl, lk, hcd⟩ := F.ex
  refine ⟨len, fun A outer s H args us vs Q E hr hgd e0 hbind r hsp => ?_⟩
  have KX : K.In s.heap := e0.mod.kin.keeps fun b o e => (e0.bs b o e).1
  have lim : s.heap.NoLimit := e0.mod.nolimit.keeps fun b o e => (e0.bs b o e).1
  refine codeAny_call_function hr.depth (KX _ _ lk) rfl S.co S.gen rfl (PySem.W.codeRec_of KX hcd) (hbind _ _ _ _ (wpAny_newFunctionEnv_cells S.kind (fun y hy => ?_) fun env he s1 x => ?_))
  · rcases S.par y.1 (List.of_mem_zip hy).1 with q | q
    · exact .inl q
    · exact .inr ⟨q, PySem.W.cellsFrom_some _ _ _ (.inl q)⟩
  · subst he
    refine ⟨lim.keeps x.toInCall.keep, codeAny_func (wpAny_mono ((PSs.nox Wss.pss).run [] s1 (start N vs) H _ (inv_start S hr.hd e0 (len _ _ _ _ hsp) r x) (hb cdv A outer s H vs Q E (hr.deeper _) hgd hsp)) (fun fl s' hs => ?_) fun e s' hs => hs)⟩
    cases fl with
    | ret u => exact let ⟨v, _, H', J, rv, q⟩ := hs; ⟨v, H', J.os, J.bare, J.base, J.hok, rv, q⟩
    | next => exact let ⟨_, H', J, q⟩ := hs; ⟨.non, H', J.os, J.bare, J.base, J.hok, rfl, q⟩
    | brk => exact let ⟨_, _, _, q⟩ := hs; q.elim
    | cont => exact let ⟨_, _, _, q⟩ := hs; q.elim
/-- a def that was shown, by its name -/
theorem df_mk {x : Str} {k : Nat} {f : Addr} {fd : FuncData} {ps : List Str} {sp : Sp} (F : FnG P w K mg base CX0 k f fd ps sp) (g : mg x = some (.ref f)) (kp : PySem.W.keepIn K (.ref f) = true) (b : Binds K fd ps []) : Df P w K mg base k x sp := ⟨f, fd, ps, F, g, kp, b⟩
theorem Df.imp {x : Str} {k : Nat} {sp sp' : Sp} (D : Df P w K mg base k x sp) (h : ∀ vs H Q E, sp' vs H Q E → sp vs H Q E) : Df P w K mg base k x sp' := by
  obtain ⟨f, fd, ps, F, g, kp, b⟩ := D.ex
  exact ⟨f, fd, ps, ⟨fun vs H Q E q => F.len vs H Q E (h _ _ _ _ q), fun A outer s H args us vs Q E hr hg he hb hv hs => F.run A outer s H args us vs Q E hr hg he hb hv (h _ _ _ _ hs)⟩, g, kp, b⟩
end
section
variable {X : Cx} {σ : L2.St} {H : Hp} {Q : VK} {e : Expr} {es : List Expr} {p pos : Pos} {x : Str} {k j : Nat} {sp : Sp}
/-- f(e, ..) -/
theorem we_call (D : Df X.prog X.w X.K X.mg X.base k x sp) (hr : Room j X.A) (hk : k ≤ j) (hgd : X.A.guards = some []) (hg : Gl X x) (h : Wa X (e :: es) σ H fun vs H1 => sp vs H1 Q E0) (hdb : (x == ("__debug__" : Str)) = false := by decide)
    (he : starEach (e :: es) X.env = (false, eval e X.env) :: starEach es X.env := by rfl) (hpl : (backTo pos (starEach es X.env)).any (·.1) = false := by rfl) : We X (.Call (.Name x p) (e :: es) [] pos) σ H Q := by
  obtain ⟨f, fd, ps, F, g, kp, b⟩ := D.ex
  refine ⟨fun pins s I => ?_⟩
  refine wpAny_Call_Name_kw (ld_glob I hg g (PySem.W.callWith_K (h₀ := X.base) I.ok.mod.kin kp (thn (h.run pos pins s I) fun us s1 ⟨vs, H1, I1, r, q⟩ => ⟨I1.kIn, ?_⟩) he hpl) hdb)
  have hl : us.length = ps.length := r.length.symm.trans (F.len _ _ _ _ q)
  have hb := b s1 us I1.kIn (by rw [List.append_nil]; exact hl)
  rw [List.append_nil] at hb
  refine wpAny_call (codeAny_mono (F.run X.A X.stack s1 H1 ⟨us, []⟩ us vs Q E0 (hr.mono hk) hgd I1.env0 hb r q) fun r s' hq => ?_)
  cases r with
  | error e => exact hq.elim
  | ok fl => cases fl with
    | ret u => exact I1.after hq
    | next => exact hq.elim
    | brk => exact hq.elim
    | cont => exact hq.elim
end

/-! ### the law's own call -/
section
open PySem.W
theorem law_callG {P : Program} {w : World} {K : Frag} {mg mb : Str → Option Value} {k : Nat} {fa a : Addr} {fd : FuncData} {x : Str} {sp : Sp} {s₁ : Shared} {vs : List Value} {ns : List Int}
    (KX : K.In s₁.heap) (hns : s₁.heap.Ns mainGlobals mg) (hb : s₁.heap.Ns builtinsNs mb) (hbb : ∀ x : Str, x ≠ "__name__" → mb x = bootBuiltins x) (hlim : s₁.heap.NoLimit) (hg : s₁.gens = #[])
    (ha : s₁.heap.get? a = some { cls := .type "list", data := .seq vs.toArray }) (hi : IntsAre vs ns) (hl : ns.length ≤ sizeLine) (hr : Room k callerA)
    (F : ∀ base : Heap, K.In base → base.Ns mainGlobals mg → FnG P w K mg base CX0 k fa fd [x] sp) (hbind : ∀ (s : Shared) (u : Value), BindsTo s fd ⟨[u], []⟩ [(x, u)])
    (hsp : ∀ H : Hp, Scr K H a ns → sp [.ref a] H (fun v _ => v = .bl true) E0) :
    codeAny (model P w) callerA (.call (.ref fa) ⟨[.ref a], []⟩) (fun r s' => r = .ok (.ret (.bool true)) ∧ OldK s₁.heap s'.heap ∧ s'.os = s₁.os ∧ AllBare s'.gens) s₁ := by
  have rv := vals_ints hi
  have lenV := hi.length
  -- one way for both places of the script: T tells whether it is tracked
  have way : ∀ T : Bool, (T = true → K.lookup a = none) → (T = false → SqL K (fun _ => none) a (ns.map V.int)) →
      codeAny (model P w) callerA (.call (.ref fa) ⟨[.ref a], []⟩) (fun r s' => r = .ok (.ret (.bool true)) ∧ OldK s₁.heap s'.heap ∧ s'.os = s₁.os ∧ AllBare s'.gens) s₁ := by
    intro T hT hF
    let o₀ : Obj := { cls := .type "list", data := .seq vs.toArray }
    let H : Hp := fun b => if b = a ∧ T = true then some (.frz o₀ (.lst (ns.map V.int))) else none
    have at1 : ∀ b u, H b = some u → b = a ∧ T = true ∧ u = .frz o₀ (.lst (ns.map V.int)) := fun b u e => by
      by_cases h : b = a ∧ T = true
      · have e' := (if_pos h).symm.trans e
        cases e'
        exact ⟨h.1, h.2, rfl⟩
      · have e' := (if_neg h).symm.trans e
        cases e'
    have off : ∀ b, b ≠ a → H b = none := fun b h => if_neg fun z => h z.1
    have scr : Scr K H a ns := by
      cases T with
      | true => exact ⟨.inl (.inr ⟨o₀, if_pos ⟨rfl, rfl⟩⟩), fun o e => by rw [(at1 a o e).2.2]; trivial⟩
      | false =>
        have e : H = fun _ => none := funext fun b => if_neg fun z => by cases z.2
        rw [e]
        exact ⟨hF rfl, fun o z => by cases z⟩
    have hok : HOk P w H s₁.heap := fun b u e => by
      obtain ⟨rfl, _, rfl⟩ := at1 b u e
      exact ⟨ha, by rw [List.length_map]; exact hl, vs, _, rv, ha⟩
    have keepNs : ∀ {b : Addr} {m : Str → Option Value}, s₁.heap.Ns b m → (hidT s₁.heap H).Ns b m := fun {b m} ⟨o, es, ep, e, d, r⟩ => ⟨o, es, ep, hidT_get e (off b fun z => by
      subst z
      rw [ha] at e
      cases e
      cases d), d, r⟩
    have hKb : K.In (hidT s₁.heap H) := fun b o e => hidT_get (KX b o e) (by
      cases q : H b with
      | none => rfl
      | some u =>
        obtain ⟨rfl, t, _⟩ := at1 b u q
        rw [hT t] at e
        cases e)
    have hM : Mod K mg (hidT s₁.heap H) := ⟨hKb, keepNs hns, ⟨mb, keepNs hb, hbb⟩, let ⟨mc, h1, h2⟩ := hlim; ⟨mc, keepNs h1, h2⟩⟩
    have e0 : Env0 P w K mg (hidT s₁.heap H) callerA [] s₁ H := ⟨rfl, hM, fun b o e => of_hidT e, Nat.le_of_eq (hidT_size _ _), trivial, fun b hb => (by cases (show b ∈ ([] : List Addr) from hb)), hok, .of_eq hg⟩
    refine codeAny_mono ((F _ hKb (keepNs hns)).run callerA [] s₁ H ⟨[.ref a], []⟩ [.ref a] [.ref a] _ _ hr rfl e0 (hbind s₁ (.ref a)) (.cons rfl .nil) (hsp H scr)) fun r s' h => ?_
    cases r with
    | error e => exact h.elim
    | ok fl => cases fl with
      | next => exact h.elim
      | brk => exact h.elim
      | cont => exact h.elim
      | ret u =>
        obtain ⟨v, H', os, bare, un, hok', r', q⟩ := h
        have q' : v = .bl true := q
        subst q'
        obtain rfl : u = Value.bool true := r'
        refine ⟨rfl, OldK.of_keep fun b o e => ?_, os, bare⟩
        cases q : H b with
        | none => exact un.keep b o e q (fun z => by cases (show b ∈ ([] : List Addr) from z)) (by simp)
        | some u =>
          obtain ⟨rfl, _, rfl⟩ := at1 b u q
          have e1 := (hok b _ q).1
          rw [e] at e1
          cases e1
          exact (hok' b _ (un.frzs b _ _ q)).1
  cases hk : K.lookup a with
  | none => exact way true (fun _ => hk) fun z => by cases z
  | some o =>
    have e := KX a o hk
    rw [ha] at e
    cases e
    refine way false (fun z => by cases z) fun _ => .inr ⟨_, vs.toArray, _, hk, rfl, rfl, rfl, ?_, by simpa using rv⟩
    rw [List.size_toArray, lenV]
    exact hl
theorem walk_ofG {l : OpenLaw} {n k : Nat} {q : Program} {loose : List Str} {XP : (Str → Option Value) → Heap → Prop} {YP : World → Heap → Prop} {d : DefRec} {K : Params → Frag} {sp : World → Sp} {x : Str}
    (hn : l.most = some n) (hn2 : n ≤ sizeLine) (hdf : d.params.defaults = []) (hr : Room k callerA) (hY : ∀ (w : World) (h : Heap), YP w h → (K w.params).In h)
    (F : ∀ (w : World) (mg : Str → Option Value) (fa : Addr) (h : Heap), (K w.params).In h → h.Ns mainGlobals mg → mg d.name = some (.ref fa) →
      ∃ fd : FuncData, (∀ (s : Shared) (u : Value), BindsTo s fd ⟨[u], []⟩ [(x, u)]) ∧ ∀ base : Heap, (K w.params).In base → base.Ns mainGlobals mg → FnG l.prog w (K w.params) mg base CX0 k fa fd [x] (sp w))
    (hsp : ∀ (w : World) (H : Hp) (a : Addr) (ns : List Int), ns.length ≤ n → Scr (K w.params) H a ns → sp w [.ref a] H (fun v _ => v = .bl true) E0) :
    WalkO q loose XP YP l.row.toRowW d [] (fun f vs => PySem.call f vs) := by
  refine Att.attach_call hn hdf fun w s₀ s₁ mg mb fa o pm cd doc a vs ns G Y ho hd hcd hmg hobj hints hlen hg => ?_
  have KX := hY w _ Y
  obtain ⟨fd, hb, hF⟩ := F w mg fa _ KX G.T.g hmg
  exact law_callG KX G.T.g G.T.b G.T.builtins G.T.nolimit hg hobj hints (Nat.le_trans hlen hn2) hr hF hb fun H hS => hsp w H a ns hlen hS
end

/-! ### tests, numbers, items -/
theorem iteD {p : Prop} [Decidable p] {A B : Prop} (h1 : p → A) (h2 : ¬ p → B) : if decide p = true then A else B := by
  by_cases h : p
  · rw [if_pos (decide_eq_true h)]; exact h1 h
  · rw [if_neg (by rw [decide_eq_false h]; decide)]; exact h2 h
theorem iteDn {p : Prop} [Decidable p] {A B : Prop} (h1 : ¬ p → A) (h2 : p → B) : if (!decide p) = true then A else B := by
  by_cases h : p
  · rw [if_neg (by rw [decide_eq_true h]; decide)]; exact h2 h
  · rw [if_pos (by rw [decide_eq_false h]; decide)]; exact h1 h
theorem iteP {p : Prop} [Decidable p] {A B : Prop} (h : p) (h1 : A) : if decide p = true then A else B := iteD (fun _ => h1) fun n => absurd h n
theorem iteN {p : Prop} [Decidable p] {A B : Prop} (h : ¬ p) (h1 : B) : if decide p = true then A else B := iteD (fun n => absurd n h) fun _ => h1
theorem itePn {p : Prop} [Decidable p] {A B : Prop} (h : p) (h1 : B) : if (!decide p) = true then A else B := iteDn (fun n => absurd h n) fun _ => h1
theorem iteNn {p : Prop} [Decidable p] {A B : Prop} (h : ¬ p) (h1 : A) : if (!decide p) = true then A else B := iteDn (fun _ => h1) fun n => absurd n h
section
variable {X : Cx} {H : Hp} {Q : VK} {i j n : Int} {p : Addr} {ns : List Int}
theorem b_pow' (n : Int) (c : 0 ≤ j ∧ j ≤ 1000000 ∧ i.natAbs < 2 ^ 64) (e : i ^ j.toNat = n) (h : Q (.int n) H) : Bin X .Pow (.int i) (.int j) H Q := b_pow c (by rw [e]; exact h)
theorem x_ints (h1 : SqL X.K H p (ns.map V.int)) (h0 : 0 ≤ i) (h2 : i < ns.length) (h : Q (.int (ns.getD i.toNat 0)) H) : Ixw X (.ref p) (.int i) H Q := x_lst h1 (atI_of h0 (by
  have hl : i.toNat < ns.length := by omega
  rw [List.getElem?_map, List.getElem?_eq_getElem hl, List.getD_eq_getElem?_getD, List.getElem?_eq_getElem hl]
  rfl)) h
end

/-! ### new objects, lists of whole numbers -/
section
variable {X : Cx} {σ : L2.St} {H : Hp} {Q : VK} {e : Expr} {es : List Expr} {pos p1 p2 p3 : Pos} {x1 k : Nat}
theorem we_tupK (h : Wa X es σ H fun xs H1 => xs.length ≤ 1000 ∧ ∀ p H', H1 p = none → Kp [] H1 H' → H' p = some (.tup xs) → Q (.ref p) H') : We X (.Tuple es x1 pos) σ H Q :=
  we_tup ⟨fun ps pins s I => thn (h.run ps pins s I) fun _ _ ⟨vs, H1, I1, r, h1, h2⟩ => ⟨vs, H1, I1, r, Nat.le_trans h1 (by decide), fun p n => h2 p _ n (.new n) upd_same⟩⟩
theorem we_lstK (h : Wa X es σ H fun xs H1 => xs.length ≤ 1000 ∧ ∀ p H', H1 p = none → Kp [] H1 H' → H' p = some (.lst xs) → Q (.ref p) H') : We X (.List es pos) σ H Q :=
  we_lst ⟨fun ps pins s I => thn (h.run ps pins s I) fun _ _ ⟨vs, H1, I1, r, h1, h2⟩ => ⟨vs, H1, I1, r, Nat.le_trans h1 (by decide), fun p n => h2 p _ n (.new n) upd_same⟩⟩
theorem we_revK (h : We X e σ H fun x H1 => ∃ a xs, x = .ref a ∧ SqL X.K H1 a xs ∧ ∀ p H', H1 p = none → Kp [] H1 H' → H' p = some (.lst xs.reverse) → Q (.ref p) H') :
    We X (.Subscript e (.Slice none none (some (.UnaryOp .USub (.Constant (.int 1) k p1) p2)) p3) pos) σ H Q :=
  we_rev (we_mono h fun _ _ ⟨a, xs, e1, h1, h2⟩ => ⟨a, xs, e1, h1, fun p n => h2 p _ n (.new n) upd_same⟩)
theorem we_var_at (i : Nat) (x : Str) {v : V} (hN : X.N[i]? = some x) (hv : Vis X.env.scope x) (hs : σ[i]? = some (some v)) (hd : (x == ("__debug__" : Str)) = false) (hcd : (x == ("__classdict__" : Str)) = false) (h : Q v H) : We X (.Name x pos) σ H Q := we_var i hN hv hs h hd hcd
variable {p l b : Addr} {ns ms : List Int} {lo hi : Option Int} {i : Int}
theorem ints0 {o : Hp} (h : o p = some (.lst [])) : o p = some (.lst (([] : List Int).map V.int)) := h
theorem ints1 {o : Hp} {a : Int} (h : o p = some (.lst [.int a])) : o p = some (.lst ([a].map V.int)) := h
theorem ints2 {o : Hp} {a b : Int} (h : o p = some (.lst [.int a, .int b])) : o p = some (.lst ([a, b].map V.int)) := h
theorem ints3 {o : Hp} {a b c : Int} (h : o p = some (.lst [.int a, .int b, .int c])) : o p = some (.lst ([a, b, c].map V.int)) := h
theorem ints4 {o : Hp} {a b c d : Int} (h : o p = some (.lst [.int a, .int b, .int c, .int d])) : o p = some (.lst ([a, b, c, d].map V.int)) := h
theorem ints5 {o : Hp} {a b c d e : Int} (h : o p = some (.lst [.int a, .int b, .int c, .int d, .int e])) : o p = some (.lst ([a, b, c, d, e].map V.int)) := h
theorem ints6 {o : Hp} {a b c d e g : Int} (h : o p = some (.lst [.int a, .int b, .int c, .int d, .int e, .int g])) : o p = some (.lst ([a, b, c, d, e, g].map V.int)) := h
/-- xs[lo:hi] of whole numbers -/
def cutI (ns : List Int) (lo hi : Option Int) : List Int := (ns.drop (HT.sIx ns.length 0 lo)).take (HT.sIx ns.length ns.length hi - HT.sIx ns.length 0 lo)
theorem cutV_ints : cutV (ns.map V.int) lo hi = (cutI ns lo hi).map V.int := by
  unfold cutV cutI
  rw [List.length_map, List.map_take, List.map_drop]
theorem x_slI (h1 : SqL X.K H p (ns.map V.int)) (h : ∀ q H', H q = none → Kp [] H H' → H' q = some (.lst ((cutI ns lo hi).map V.int)) → Q (.ref q) H') : Slw X (.ref p) lo hi H Q := x_sl h1 fun q H' n k e => h q H' n k (by rw [e, cutV_ints])
theorem we_revI (h : We X e σ H fun x H1 => ∃ a, x = .ref a ∧ ∃ ns : List Int, SqL X.K H1 a (ns.map V.int) ∧ ∀ p H', H1 p = none → Kp [] H1 H' → H' p = some (.lst (ns.reverse.map V.int)) → Q (.ref p) H') :
    We X (.Subscript e (.Slice none none (some (.UnaryOp .USub (.Constant (.int 1) k p1) p2)) p3) pos) σ H Q :=
  we_revK (we_mono h fun _ _ ⟨a, e1, ns, h1, h2⟩ => ⟨a, _, e1, h1, fun p H' n kk q => h2 p H' n kk (by rw [q, List.map_reverse])⟩)
theorem b_catI (h1 : H l = some (.lst (ns.map V.int))) (h2 : H b = some (.lst (ms.map V.int))) (hz : ns.length + ms.length ≤ 100000) (h : ∀ p H', H p = none → Kp [] H H' → H' p = some (.lst ((ns ++ ms).map V.int)) → Q (.ref p) H') : Bin X .Add (.ref l) (.ref b) H Q :=
  b_cat h1 h2 (by rw [List.length_map, List.length_map]; exact hz) fun p H' n k e => h p H' n k (by rw [e, List.map_append])
theorem b_repI (h1 : H l = some (.lst (ns.map V.int))) (hk : 0 ≤ i ∧ i ≤ 1000) (hz : ns.length ≤ 100) (h : ∀ p H', H p = none → Kp [] H H' → H' p = some (.lst ((List.replicate i.toNat ns).flatten.map V.int)) → Q (.ref p) H') : Bin X .Mult (.ref l) (.int i) H Q :=
  b_rep h1 (by omega) (by
    rw [List.length_map]
    have h3 : ns.length * i.toNat ≤ 100 * 1000 := Nat.mul_le_mul hz (by omega)
    omega) fun p H' n k e => h p H' n k (by
    rw [e, List.map_flatten, List.map_replicate])
/-- some item of a list of whole numbers -/
theorem x_mem (h1 : SqL X.K H p (ns.map V.int)) (h0 : 0 ≤ i) (h2 : i < ns.length) (h : ∀ x, x ∈ ns → Q (.int x) H) : Ixw X (.ref p) (.int i) H Q := x_ints h1 h0 h2 (h _ (by
  have hl : i.toNat < ns.length := by omega
  rw [List.getD_eq_getElem?_getD, List.getElem?_eq_getElem hl]
  exact List.getElem_mem hl))
/-- xs[i] = v of whole numbers -/
theorem x_setI {G : Hp → Prop} {v : Int} (h1 : H p = some (.lst (ns.map V.int))) (h0 : 0 ≤ i) (h2 : i < ns.length) (h : ∀ H', Kp [p] H H' → H' p = some (.lst ((ns.set i.toNat v).map V.int)) → G H') : Setw X (.ref p) (.int i) (.int v) H G :=
  x_set h1 (ixN_of h0 (by rw [List.length_map]; exact h2)) fun H' k e => h H' k (by rw [e, List.map_set])
/-- int(test) -/
theorem k_intD {q : Prop} [Decidable q] (h : ∀ n : Int, (q → n = 1) → (¬ q → n = 0) → (0 ≤ n ∧ n ≤ 1) → Q (.int n) H) : Cal X (.type "int") [.bl (decide q)] H Q := k_intB (by
  by_cases hq : q
  · rw [decide_eq_true hq]
    exact h 1 (fun _ => rfl) (fun z => absurd hq z) (by omega)
  · rw [decide_eq_false hq]
    exact h 0 (fun z => absurd z hq) (fun _ => rfl) (by omega))
theorem k_intN {q : Prop} [Decidable q] (h : ∀ n : Int, (q → n = 0) → (¬ q → n = 1) → (0 ≤ n ∧ n ≤ 1) → Q (.int n) H) : Cal X (.type "int") [.bl (!decide q)] H Q := k_intB (by
  by_cases hq : q
  · rw [decide_eq_true hq]
    exact h 0 (fun _ => rfl) (fun z => absurd hq z) (by omega)
  · rw [decide_eq_false hq]
    exact h 1 (fun z => absurd z hq) (fun _ => rfl) (by omega))
end
/-- what is no name of the module -/
structure Blt (mg : Str → Option Value) : Prop where
  len : mg "len" = none
  range : mg "range" = none
  list : mg "list" = none
  enumerate : mg "enumerate" = none
  zip : mg "zip" = none
  min : mg "min" = none
  max : mg "max" = none
  sum : mg "sum" = none
  sorted : mg "sorted" = none
  isinstance : mg "isinstance" = none
  int : mg "int" = none
  bool : mg "bool" = none
  repr : mg "repr" = none
  abs : mg "abs" = none
  str : mg "str" = none
  tuple : mg "tuple" = none
  dict : mg "dict" = none
  set : mg "set" = none
  ValueError : mg "ValueError" = none
theorem mapI_len (ns : List Int) : (ns.map V.int).length = ns.length := List.length_map _

/-! ### targets, names by their letters -/
section
variable {X : Cx} {σ : L2.St} {H : Hp} {Q : VK} {D : Ends} {e : Expr} {es : List Expr} {pos pos' : Pos} {v : V} {vs : List V} {G : L2.St → Hp → Prop}
structure Wgs (X : Cx) (ts : List Expr) (vs : List V) (σ : L2.St) (H : Hp) (G : L2.St → Hp → Prop) : Prop where
  run : ∀ (pins : List (Addr × Obj)) (s : Shared) (us : List Value), Inv X pins σ H s → Vals vs us → wpAny (model X.prog X.w) X.A (assignInOrder ((assignEach ts X.env).map (·.2)) us) (fun _ s' => ∃ σ' H', Inv X pins σ' H' s' ∧ G σ' H') X.xe s
theorem Wgs.pgs {ts : List Expr} : PGs X ts (fun vs σ H G => Wgs X ts vs σ H G) := ⟨fun pins s σ H vs us Q I r h => h.run pins s us I r⟩
theorem wgs_of {ts : List Expr} {t : TGs} (h : PGs X ts t) (q : t vs σ H G) : Wgs X ts vs σ H G := ⟨fun pins s us I r => h.run pins s σ H vs us G I r q⟩
theorem wgs_nil (h : G σ H) : Wgs X [] [] σ H G := wgs_of pgs_nil ⟨rfl, h⟩
theorem wgs_cons (h : Wg X e v σ H fun σ' H' => Wgs X es vs σ' H' G) (hs : (assignEach (e :: es) X.env).map (·.2) = assign e X.env :: (assignEach es X.env).map (·.2) := by rfl) : Wgs X (e :: es) (v :: vs) σ H G := wgs_of (pgs_cons Wg.pg Wgs.pgs hs) ⟨v, vs, rfl, h⟩
theorem wg_tup {k n : Nat} {q : Addr} (hc : X.calm = true) (ht : SqT X.K H q vs) (hl : vs.length = n) (h : Wgs X es vs σ H G) (hn : (assignEach es X.env).length = n := by rfl) (hst : (assignEach es X.env).findIdx? (·.1) = none := by rfl) : Wg X (.Tuple es k pos) (.ref q) σ H G :=
  wg_of (pg_tup hc Wgs.pgs hn hst) ⟨q, vs, rfl, ht, hl, h⟩
theorem wg_name_at (i : Nat) (x : Str) (hN : X.N.Nodup) (hi : X.N[i]? = some x) (hx : Loc X.env.scope x) (hf : X.fn x = true ∨ X.env.scope.names.lookup x = some .local) (h : G (σ.set i (some v)) H) : Wg X (.Name x pos) v σ H G := wg_name i hN hi hx h hf
theorem ws_name_at (i : Nat) (x : Str) (hN : X.N.Nodup) (hi : X.N[i]? = some x) (hx : Loc X.env.scope x) (hs : swapsWith e (some (.Name x pos')) pos.line X.env = pure false) (hf : X.fn x = true ∨ X.env.scope.names.lookup x = some .local) (h : We X e σ H fun v H1 => D.nx (σ.set i (some v)) H1) :
    Ws X (.Assign [.Name x pos'] e pos) D σ H := ws_name i hN hi hx h hs hf
theorem ws_aug_at (i : Nat) (x : Str) {op : Operator} {y : V} (hN : X.N.Nodup) (hi : X.N[i]? = some x) (hx : Loc X.env.scope x) (hf : X.fn x = true ∨ X.env.scope.names.lookup x = some .local) (hs : σ[i]? = some (some y)) (h : We X e σ H fun z H1 => Ipw X op y z H1 fun w H2 => D.nx (σ.set i (some w)) H2) :
    Ws X (.AugAssign (.Name x pos') op e pos) D σ H := ws_aug i hN hi hx hs h hf
end
/-! ### loops, one by one -/
section
variable {X : Cx} {σ : L2.St} {H : Hp} {Q : VK} {D : Ends} {a b c e it tg elt : Expr} {ifs : List Expr} {pos p : Pos} {body : List Stmt}
def Body (X : Cx) (body : List Stmt) (D : Ends) (Pv : Nat → L2.St → Hp → Prop) (i : Nat) (σ : L2.St) (H : Hp) : Prop := Wss X body { D with nx := Pv (i + 1), ct := Pv (i + 1), bk := D.nx } σ H
/-- a for over a list -/
theorem ws_forL (h : We X it σ H fun v H1 => ∃ q xs, v = .ref q ∧ SqL X.K H1 q xs ∧ ∃ Pv : Nat → L2.St → Hp → Prop, Pv 0 σ H1 ∧ (∀ i σ' H', i ≤ xs.length → Pv i σ' H' → SqL X.K H' q xs) ∧
      (∀ i x σ' H', xs[i]? = some x → Pv i σ' H' → Wg X tg x σ' H' (Body X body D Pv i)) ∧ ∀ σ' H', Pv xs.length σ' H' → D.nx σ' H')
    (hp : PassesOwn (model X.prog X.w) X.A X.env X.xe) (hc : X.calm = true) (hs : ∀ x, foldedSetIterable it X.env x = pure x := by intro _; rfl) : Ws X (.For tg it body [] pos) D σ H :=
  ws_for (wit_list (we_mono h fun _ _ ⟨q, xs, e1, h1, Pv, h0, hl, ht, hd⟩ => ⟨q, e1, ⟨xs, h1⟩, xs.length, _, _, walk_list (xs := xs), Pv, h0, hl, fun i x σ' H' H'' hi hP hY => by
    obtain ⟨rfl, hx⟩ := hY
    exact ht i x σ' _ hx hP, hd⟩)) hp hc hs
/-- .. over range(n) -/
theorem ws_forR (hg : Gl X "range") (hm : X.mg "range" = none) (h : We X a σ H fun v H1 => ∃ j : Int, v = .int j ∧ -100000 ≤ j ∧ j ≤ 100000 ∧ ∃ Pv : Nat → L2.St → Hp → Prop, Pv 0 σ H1 ∧
      (∀ (i : Nat) σ' H', (i : Int) < j → Pv i σ' H' → Wg X tg (.int (i : Int)) σ' H' (Body X body D Pv i)) ∧ ∀ σ' H', Pv j.toNat σ' H' → D.nx σ' H')
    (hp : PassesOwn (model X.prog X.w) X.A X.env X.xe) (hc : X.calm = true) (he : starEach [a] X.env = (false, eval a X.env) :: starEach [] X.env := by rfl) (hs : ∀ x, foldedSetIterable (.Call (.Name "range" p) [a] [] pos) X.env x = pure x := by intro _; rfl) {pos2 : Pos} : Ws X (.For tg (.Call (.Name "range" p) [a] [] pos) body [] pos2) D σ H :=
  ws_for (wit_range1 hg hm (we_mono h fun _ _ ⟨j, e1, h1, h2, Pv, h0, ht, hd⟩ => ⟨j, e1, by omega, by omega, j.toNat, _, _, walk_range, Pv, h0, fun _ _ _ _ _ => trivial, fun i x σ' H' H'' hi hP hY => by
    obtain ⟨rfl, rfl⟩ := hY
    show Wg X tg (.int ((0 : Int) + (i : Int))) σ' _ _
    rw [Int.zero_add]
    exact ht i σ' _ (by omega) hP, hd⟩) he) hp hc hs
/-- .. over range(a, b) -/
theorem ws_forR2 (hg : Gl X "range") (hm : X.mg "range" = none) (h : We X a σ H fun v H1 => We X b σ H1 fun w H2 => ∃ lo hi : Int, v = .int lo ∧ w = .int hi ∧ (-100000 ≤ lo ∧ lo ≤ 100000 ∧ -100000 ≤ hi ∧ hi ≤ 100000) ∧ ∃ Pv : Nat → L2.St → Hp → Prop, Pv 0 σ H2 ∧
      (∀ (i : Nat) σ' H', lo + (i : Int) < hi → Pv i σ' H' → Wg X tg (.int (lo + (i : Int))) σ' H' (Body X body D Pv i)) ∧ ∀ σ' H', Pv (hi - lo).toNat σ' H' → D.nx σ' H')
    (hp : PassesOwn (model X.prog X.w) X.A X.env X.xe) (hc : X.calm = true) (he : starEach [a, b] X.env = (false, eval a X.env) :: starEach [b] X.env := by rfl) (hb : starEach [b] X.env = (false, eval b X.env) :: starEach [] X.env := by rfl) (hs : ∀ x, foldedSetIterable (.Call (.Name "range" p) [a, b] [] pos) X.env x = pure x := by intro _; rfl) {pos2 : Pos} : Ws X (.For tg (.Call (.Name "range" p) [a, b] [] pos) body [] pos2) D σ H :=
  ws_for (wit_range2 hg hm (we_mono h fun _ _ h' => we_mono h' fun _ _ ⟨lo, hi, e1, e2, h1, Pv, h0, ht, hd⟩ => ⟨lo, hi, e1, e2, by omega, (hi - lo).toNat, _, _, walk_range, Pv, h0, fun _ _ _ _ _ => trivial, fun i x σ' H' H'' hi hP hY => by
    obtain ⟨rfl, rfl⟩ := hY
    exact ht i σ' _ (by omega) hP, hd⟩) he hb) hp hc hs
/-- .. over enumerate(xs): the pair is a new tuple -/
theorem ws_forE {elts : List Expr} {kk : Nat} {tpos : Pos} (hg : Gl X "enumerate") (hm : X.mg "enumerate" = none) (h : We X e σ H fun v H1 => ∃ q xs, v = .ref q ∧ SqL X.K H1 q xs ∧ ∃ Pv : Nat → L2.St → Hp → Prop, Pv 0 σ H1 ∧ (∀ i σ' H', i ≤ xs.length → Pv i σ' H' → SqL X.K H' q xs) ∧
      (∀ (i : Nat) x σ' H' t H'', xs[i]? = some x → Pv i σ' H' → H' t = none → Kp [] H' H'' → H'' t = some (.tup [.int (i : Int), x]) → Wg X (.Tuple elts kk tpos) (.ref t) σ' H'' (Body X body D Pv i)) ∧ ∀ σ' H', Pv xs.length σ' H' → D.nx σ' H')
    (hp : PassesOwn (model X.prog X.w) X.A X.env X.xe) (hc : X.calm = true) (he : starEach [e] X.env = (false, eval e X.env) :: starEach [] X.env := by rfl) (hs : ∀ x, foldedSetIterable (.Call (.Name "enumerate" p) [e] [] pos) X.env x = pure x := by intro _; rfl) {pos2 : Pos} :
    Ws X (.For (.Tuple elts kk tpos) (.Call (.Name "enumerate" p) [e] [] pos) body [] pos2) D σ H :=
  ws_for (wit_enum hg hm (we_mono h fun _ _ ⟨q, xs, e1, h1, Pv, h0, hl, ht, hd⟩ => ⟨q, xs, e1, h1, xs.length, _, _, walk_enum (xs := xs), Pv, h0, hl, fun i x σ' H' H'' hi hP hY => by
    obtain ⟨t, y, z, rfl, nt, rfl, ey, ez⟩ := hY
    cases ey
    exact ht i z σ' H' t _ ez hP nt (.new nt) upd_same, hd⟩) he) hp hc hs
/-- .. over zip(xs, ys) -/
theorem ws_forZ {elts : List Expr} {kk : Nat} {tpos : Pos} (hg : Gl X "zip") (hm : X.mg "zip" = none) (h : We X a σ H fun v H0 => We X b σ H0 fun w H1 => ∃ q r xs ys, v = .ref q ∧ w = .ref r ∧ SqL X.K H1 q xs ∧ SqL X.K H1 r ys ∧ ∃ Pv : Nat → L2.St → Hp → Prop, Pv 0 σ H1 ∧ (∀ i σ' H', i ≤ min xs.length ys.length → Pv i σ' H' → SqL X.K H' q xs ∧ SqL X.K H' r ys) ∧
      (∀ (i : Nat) x y σ' H' t H'', xs[i]? = some x → ys[i]? = some y → Pv i σ' H' → H' t = none → Kp [] H' H'' → H'' t = some (.tup [x, y]) → Wg X (.Tuple elts kk tpos) (.ref t) σ' H'' (Body X body D Pv i)) ∧ ∀ σ' H', Pv (min xs.length ys.length) σ' H' → D.nx σ' H')
    (hp : PassesOwn (model X.prog X.w) X.A X.env X.xe) (hc : X.calm = true) (he : starEach [a, b] X.env = (false, eval a X.env) :: starEach [b] X.env := by rfl) (hb : starEach [b] X.env = (false, eval b X.env) :: starEach [] X.env := by rfl) (hs : ∀ x, foldedSetIterable (.Call (.Name "zip" p) [a, b] [] pos) X.env x = pure x := by intro _; rfl) {pos2 : Pos} :
    Ws X (.For (.Tuple elts kk tpos) (.Call (.Name "zip" p) [a, b] [] pos) body [] pos2) D σ H :=
  ws_for (wit_zip hg hm (we_mono h fun _ _ h' => we_mono h' fun _ _ ⟨q, r, xs, ys, e1, e2, h1, h2, Pv, h0, hl, ht, hd⟩ => ⟨q, r, xs, ys, e1, e2, h1, h2, min xs.length ys.length, _, _, walk_zip (xs := xs) (ys := ys) rfl, Pv, h0, hl, fun i x σ' H' H'' hi hP hY => by
    obtain ⟨t, y, z, rfl, nt, rfl, ey, ez⟩ := hY
    exact ht i y z σ' H' t _ ey ez hP nt (.new nt) upd_same, hd⟩) he hb) hp hc hs
/-- a comprehension's turn: its element goes to the new list -/
def Elt (X : Cx) (elt tg : Expr) (ifs : List Expr) (scope : Scope) (vs : List Nat) (σ : L2.St) (x : V) (H : Hp) (Dl : Addr) (N : Hp → Prop) : Prop :=
  Bl X scope fun Z => Wg Z tg x (wipe σ vs) H fun σ2 H2 => wipe σ2 vs = wipe σ vs ∧ Bl X scope fun Z => Wts Z ifs σ2 H2 fun k H3 =>
    if k = true then Bl X scope fun Z => We Z elt σ2 H3 fun y H4 => ∃ acc, H4 Dl = some (.lst acc) ∧ acc.length < 100000 ∧ ∀ H5, Kp [Dl] H4 H5 → H5 Dl = some (.lst (acc ++ [y])) → N H5 else N H3
theorem elt_of {scope : Scope} {vs : List Nat} {x : V} {Dl : Addr} {N : Hp → Prop} (h : Elt X elt tg ifs scope vs σ x H Dl N) : Bl X scope fun Z => Wg Z tg x (wipe σ vs) H fun σ2 H2 => wipe σ2 vs = wipe σ vs ∧ Bl X scope fun Z => Wts Z ifs σ2 H2 fun k H3 =>
    if k = true then Bl X scope fun Z => We Z elt σ2 H3 fun y H4 => ∃ acc, H4 Dl = some (.lst acc) ∧ acc.length < sizeLine ∧ N (upd H4 Dl (.lst (acc ++ [y]))) else N H3 := by
  intro s H0 C cl fp
  refine ⟨fun pins s1 u I r => thn ((h s H0 C cl fp).run pins s1 u I r) fun _ s2 ⟨σ2, H2, I2, e2, q⟩ => ⟨σ2, H2, I2, e2, fun s H0 C cl fp => ?_⟩⟩
  have q1 := q s H0 C cl fp
  have conv : ∀ (k : Bool) H3, (if k = true then Bl X scope fun Z => We Z elt σ2 H3 fun y H4 => ∃ acc, H4 Dl = some (.lst acc) ∧ acc.length < 100000 ∧ ∀ H5, Kp [Dl] H4 H5 → H5 Dl = some (.lst (acc ++ [y])) → N H5 else N H3) →
      (if k = true then Bl X scope fun Z => We Z elt σ2 H3 fun y H4 => ∃ acc, H4 Dl = some (.lst acc) ∧ acc.length < sizeLine ∧ N (upd H4 Dl (.lst (acc ++ [y]))) else N H3) := fun k H3 g => by
    cases k with
    | false => exact g
    | true => exact iteT fun s H0 C cl fp => we_mono (g s H0 C cl fp) fun y H4 ⟨acc, g1, g2, g3⟩ => ⟨acc, g1, Nat.lt_of_lt_of_le g2 (by decide), g3 _ (.put g1) upd_same⟩
  match ifs, q1 with
  | [], q1 => exact conv true H2 q1
  | [c], q1 => exact ⟨fun pins s I => thn (q1.run pins s I) fun k s1 ⟨H3, I3, g⟩ => ⟨H3, I3, conv k H3 g⟩⟩
  | _ :: _ :: _, q1 => exact q1.elim
def LcD (X : Cx) (elt tg : Expr) (ifs : List Expr) (scope : Scope) (vs : List Nat) (σ : L2.St) (Q : VK) (n : Nat) (G : Hp → Prop) (Y : Nat → Hp → V → Hp → Prop) (H : Hp) : Prop := ∀ Dl H1, H Dl = none → Kp [] H H1 → H1 Dl = some (.lst []) → ∃ Pv : Nat → Hp → Prop, Pv 0 H1 ∧ (∀ i H', i ≤ n → Pv i H' → G H') ∧
  (∀ i x H' H'', i < n → Pv i H' → Y i H' x H'' → Elt X elt tg ifs scope vs σ x H'' Dl (Pv (i + 1))) ∧ ∀ H', Pv n H' → Q (.ref Dl) H'
theorem lcd {scope : Scope} {vs : List Nat} {J : It} {n : Nat} {G : Hp → Prop} {Y : Nat → Hp → V → Hp → Prop} (wk : Walk J n G Y) (h : LcD X elt tg ifs scope vs σ Q n G Y H) : LcW X elt tg ifs scope vs σ Q J H := fun Dl nD => by
  obtain ⟨Pv, h0, hG, ht, hd⟩ := h Dl _ nD (.new nD) upd_same
  exact ⟨n, G, Y, wk, Pv, h0, hG, fun i x H' H'' hi hP hY => elt_of (ht i x H' H'' hi hP hY), hd⟩
/-- the walked things of a comprehension -/
theorem lc_R {scope : Scope} {vs : List Nat} {R : VK} (hg : Gl X "range") (hm : X.mg "range" = none) (h : We X a σ H fun v H1 => ∃ j : Int, v = .int j ∧ -100000 ≤ j ∧ j ≤ 100000 ∧ LcD X elt tg ifs scope vs σ R j.toNat (fun _ => True) (YFn fun i => .int ((0 : Int) + (i : Int))) H1) (he : starEach [a] X.env = (false, eval a X.env) :: starEach [] X.env := by rfl) :
    Wit X tg (.Call (.Name "range" p) [a] [] pos) σ H (LcW X elt tg ifs scope vs σ R) := wit_range1 hg hm (we_mono h fun _ _ ⟨j, e1, h1, h2, h3⟩ => ⟨j, e1, by omega, by omega, lcd walk_range h3⟩) he
theorem lc_R2 {scope : Scope} {vs : List Nat} {R : VK} (hg : Gl X "range") (hm : X.mg "range" = none) (h : We X a σ H fun v H1 => We X b σ H1 fun w H2 => ∃ lo hi : Int, v = .int lo ∧ w = .int hi ∧ (-100000 ≤ lo ∧ lo ≤ 100000 ∧ -100000 ≤ hi ∧ hi ≤ 100000) ∧ LcD X elt tg ifs scope vs σ R (hi - lo).toNat (fun _ => True) (YFn fun i => .int (lo + (i : Int))) H2)
    (he : starEach [a, b] X.env = (false, eval a X.env) :: starEach [b] X.env := by rfl) (hb : starEach [b] X.env = (false, eval b X.env) :: starEach [] X.env := by rfl) : Wit X tg (.Call (.Name "range" p) [a, b] [] pos) σ H (LcW X elt tg ifs scope vs σ R) :=
  wit_range2 hg hm (we_mono h fun _ _ h' => we_mono h' fun _ _ ⟨lo, hi, e1, e2, h1, h3⟩ => ⟨lo, hi, e1, e2, by omega, lcd walk_range h3⟩) he hb
theorem lc_L {scope : Scope} {vs : List Nat} {R : VK} (h : We X it σ H fun v H1 => ∃ q xs, v = .ref q ∧ SqL X.K H1 q xs ∧ LcD X elt tg ifs scope vs σ R xs.length (fun H => SqL X.K H q xs) (YAt xs) H1) : Wit X tg it σ H (LcW X elt tg ifs scope vs σ R) :=
  wit_list (we_mono h fun _ _ ⟨q, xs, e1, h1, h3⟩ => ⟨q, e1, ⟨xs, h1⟩, lcd walk_list h3⟩)
theorem lc_E {scope : Scope} {vs : List Nat} {R : VK} {elts : List Expr} {kk : Nat} {tpos : Pos} (hg : Gl X "enumerate") (hm : X.mg "enumerate" = none) (h : We X e σ H fun v H1 => ∃ q xs, v = .ref q ∧ SqL X.K H1 q xs ∧ LcD X elt (.Tuple elts kk tpos) ifs scope vs σ R xs.length (fun H => SqL X.K H q xs) (YPair (fun i => some (.int (i : Nat))) (fun i => xs[i]?)) H1) (he : starEach [e] X.env = (false, eval e X.env) :: starEach [] X.env := by rfl) :
    Wit X (.Tuple elts kk tpos) (.Call (.Name "enumerate" p) [e] [] pos) σ H (LcW X elt (.Tuple elts kk tpos) ifs scope vs σ R) := wit_enum hg hm (we_mono h fun _ _ ⟨q, xs, e1, h1, h3⟩ => ⟨q, xs, e1, h1, lcd walk_enum h3⟩) he
end

/-! ### powers of ten -/
section
variable {X : Cx} {H : Hp} {Q : VK}
theorem b_p6 (h : Q (.int 1000000) H) : Bin X .Pow (.int 10) (.int 6) H Q := b_pow (by decide) (by rw [show (10 : Int) ^ (6 : Int).toNat = 1000000 from by decide +kernel]; exact h)
theorem b_p8 (h : Q (.int 100000000) H) : Bin X .Pow (.int 10) (.int 8) H Q := b_pow (by decide) (by rw [show (10 : Int) ^ (8 : Int).toNat = 100000000 from by decide +kernel]; exact h)
theorem b_p9 (h : Q (.int 1000000000) H) : Bin X .Pow (.int 10) (.int 9) H Q := b_pow (by decide) (by rw [show (10 : Int) ^ (9 : Int).toNat = 1000000000 from by decide +kernel]; exact h)
theorem b_p11 (h : Q (.int 100000000000) H) : Bin X .Pow (.int 10) (.int 11) H Q := b_pow (by decide) (by rw [show (10 : Int) ^ (11 : Int).toNat = 100000000000 from by decide +kernel]; exact h)
theorem b_p12 (h : Q (.int 1000000000000) H) : Bin X .Pow (.int 10) (.int 12) H Q := b_pow (by decide) (by rw [show (10 : Int) ^ (12 : Int).toNat = 1000000000000 from by decide +kernel]; exact h)
theorem b_p18 (h : Q (.int 1000000000000000000) H) : Bin X .Pow (.int 10) (.int 18) H Q := b_pow (by decide) (by rw [show (10 : Int) ^ (18 : Int).toNat = 1000000000000000000 from by decide +kernel]; exact h)
theorem b_p27 (h : Q (.int 1000000000000000000000000000) H) : Bin X .Pow (.int 10) (.int 27) H Q := b_pow (by decide) (by rw [show (10 : Int) ^ (27 : Int).toNat = 1000000000000000000000000000 from by decide +kernel]; exact h)
theorem b_p30 (h : Q (.int 1000000000000000000000000000000) H) : Bin X .Pow (.int 10) (.int 30) H Q := b_pow (by decide) (by rw [show (10 : Int) ^ (30 : Int).toNat = 1000000000000000000000000000000 from by decide +kernel]; exact h)
theorem b_p39 (h : Q (.int 1000000000000000000000000000000000000000) H) : Bin X .Pow (.int 10) (.int 39) H Q := b_pow (by decide) (by rw [show (10 : Int) ^ (39 : Int).toNat = 1000000000000000000000000000000000000000 from by decide +kernel]; exact h)
end

section
variable {X : Cx} {H : Hp} {Q : VK} {p : Addr} {i : Int}
theorem Kp.sq0 {K : PySem.W.Frag} {H H' : Hp} {a : Addr} {xs : List V} (k : Kp [] H H') (h : SqL K H a xs) : SqL K H' a xs := sqL_ext k.ex h
theorem Kp.st0 {K : PySem.W.Frag} {H H' : Hp} {a : Addr} {xs : List V} (k : Kp [] H H') (h : SqT K H a xs) : SqT K H' a xs := sqT_ext k.ex h
theorem iteB {b : Bool} {A B : Prop} (h1 : b = true → A) (h2 : b = false → B) : if b = true then A else B := by
  cases b with
  | true => exact iteT (h1 rfl)
  | false => exact iteF (h2 rfl)
theorem x_m2 {a b : Int} (h1 : H p = some (.lst [.int a, .int b])) (h0 : 0 ≤ i ∧ i < 2) (h : ∀ x, (x = a ∨ x = b) → Q (.int x) H) : Ixw X (.ref p) (.int i) H Q := x_mem (sqL (ints2 h1)) h0.1 h0.2 fun x hx => h x (by simpa using hx)
theorem x_m3 {a b c : Int} (h1 : H p = some (.lst [.int a, .int b, .int c])) (h0 : 0 ≤ i ∧ i < 3) (h : ∀ x, (x = a ∨ x = b ∨ x = c) → Q (.int x) H) : Ixw X (.ref p) (.int i) H Q := x_mem (sqL (ints3 h1)) h0.1 h0.2 fun x hx => h x (by simpa using hx)
theorem x_m4 {a b c d : Int} (h1 : H p = some (.lst [.int a, .int b, .int c, .int d])) (h0 : 0 ≤ i ∧ i < 4) (h : ∀ x, (x = a ∨ x = b ∨ x = c ∨ x = d) → Q (.int x) H) : Ixw X (.ref p) (.int i) H Q := x_mem (sqL (ints4 h1)) h0.1 h0.2 fun x hx => h x (by simpa using hx)
theorem x_m5 {a b c d e : Int} (h1 : H p = some (.lst [.int a, .int b, .int c, .int d, .int e])) (h0 : 0 ≤ i ∧ i < 5) (h : ∀ x, (x = a ∨ x = b ∨ x = c ∨ x = d ∨ x = e) → Q (.int x) H) : Ixw X (.ref p) (.int i) H Q := x_mem (sqL (ints5 h1)) h0.1 h0.2 fun x hx => h x (by simpa using hx)
theorem x_m6 {a b c d e g : Int} (h1 : H p = some (.lst [.int a, .int b, .int c, .int d, .int e, .int g])) (h0 : 0 ≤ i ∧ i < 6) (h : ∀ x, (x = a ∨ x = b ∨ x = c ∨ x = d ∨ x = e ∨ x = g) → Q (.int x) H) : Ixw X (.ref p) (.int i) H Q := x_mem (sqL (ints6 h1)) h0.1 h0.2 fun x hx => h x (by simpa using hx)
end

theorem ne_nn {H : Hp} {a b : Addr} {o : HO} (n : H b = none) (h : H a = some o) : a ≠ b := ne_of_none h n

theorem wss_cut {X : Cx} {σ : L2.St} {H : Hp} {D : Ends} {st : Stmt} {sts : List Stmt} (Mid : L2.St → Hp → Prop) (h1 : Ws X st { D with nx := Mid } σ H) (h2 : ∀ σ' H', Mid σ' H' → Wss X sts D σ' H') : Wss X (st :: sts) D σ H :=
  wss_cons ⟨fun pins s I => thn (h1.run pins s I) fun f s1 q => by
    cases f with
    | next => exact let ⟨σ', H', I', q'⟩ := q; ⟨σ', H', I', h2 σ' H' q'⟩
    | ret v => exact q
    | brk => exact q
    | cont => exact q⟩
theorem cutI_mem {ns : List Int} {lo hi : Option Int} {x : Int} (h : x ∈ cutI ns lo hi) : x ∈ ns := List.mem_of_mem_drop (List.mem_of_mem_take h)
theorem cutI_len (ns : List Int) (lo hi : Option Int) : (cutI ns lo hi).length ≤ ns.length := by
  unfold cutI
  rw [List.length_take, List.length_drop]
  omega
theorem cutI_to (ns : List Int) (n : Int) (h : 0 ≤ n) : cutI ns none (some n) = ns.take n.toNat := by
  unfold cutI
  have e : HT.sIx ns.length ns.length (some n) = min n.toNat ns.length := by
    have := HT.sIx_nat ns.length ns.length n.toNat
    rwa [Int.toNat_of_nonneg h] at this
  rw [e, HT.sIx_none, List.drop_zero, Nat.sub_zero]
  rcases Nat.le_total n.toNat ns.length with hl | hl
  · rw [Nat.min_eq_left hl]
  · rw [Nat.min_eq_right hl, List.take_length, List.take_of_length_le hl]
theorem cutI_all (ns : List Int) : cutI ns none none = ns := by
  unfold cutI
  rw [HT.sIx_none, HT.sIx_none, List.drop_zero, Nat.sub_zero, List.take_length]
theorem cutI_from (ns : List Int) (n : Int) (h : 0 ≤ n) : cutI ns (some n) none = ns.drop n.toNat := by
  unfold cutI
  have e : HT.sIx ns.length 0 (some n) = min n.toNat ns.length := by
    have := HT.sIx_nat ns.length 0 n.toNat
    rwa [Int.toNat_of_nonneg h] at this
  rw [e, HT.sIx_none]
  rcases Nat.le_total n.toNat ns.length with hl | hl
  · rw [Nat.min_eq_left hl]
    exact List.take_of_length_le (by rw [List.length_drop]; exact Nat.le_refl _)
  · rw [Nat.min_eq_right hl, List.drop_length, List.take_nil, List.drop_of_length_le hl]
theorem cutI_both (ns : List Int) (a b : Int) (h : 0 ≤ a) (h2 : a ≤ b) (h3 : b ≤ ns.length) : cutI ns (some a) (some b) = (ns.drop a.toNat).take (b.toNat - a.toNat) := by
  unfold cutI
  have e : HT.sIx ns.length 0 (some a) = min a.toNat ns.length := by
    have := HT.sIx_nat ns.length 0 a.toNat
    rwa [Int.toNat_of_nonneg h] at this
  have e2 : HT.sIx ns.length ns.length (some b) = min b.toNat ns.length := by
    have := HT.sIx_nat ns.length ns.length b.toNat
    rwa [Int.toNat_of_nonneg (by omega)] at this
  rw [e, e2, Nat.min_eq_left (by omega), Nat.min_eq_left (by omega)]
theorem wt_loc {sc : Scope} {x : Str} (h : sc.names.lookup x = some .local) : Loc sc x := .inl h

theorem wts_nil {X : Cx} {σ : L2.St} {H : Hp} {R : Bool → Hp → Prop} (h : R true H) : Wts X [] σ H R := h
theorem wts_one {X : Cx} {σ : L2.St} {H : Hp} {c : Expr} {R : Bool → Hp → Prop} (h : Wt X c σ H R) : Wts X [c] σ H R := h
end SL

/-! more rules by values -/
namespace SL
open PySem PySem.Spec PyProof.Rows L2

/-- a number whose text is short -/
def Szd (x : Int) : Prop := x.natAbs.log2 < 1900
theorem szd_of {x : Int} (h : -1000000000000000000000000000000000000000000000000 ≤ x ∧ x ≤ 1000000000000000000000000000000000000000000000000) : Szd x := by
  unfold Szd
  by_cases e : x.natAbs = 0
  · rw [e]; decide
  · rw [Nat.log2_lt e]
    exact Nat.lt_of_lt_of_le (show x.natAbs < 2 ^ 200 from by
      have : (2 : Nat) ^ 200 = 1606938044258990275541962092341162602522202993782792835301376 := by decide +kernel
      omega) (Nat.pow_le_pow_right (by decide) (by decide))
section
variable {X : Cx} {σ : L2.St} {H : Hp} {Q : VK} {a p : Addr} {ns : List Int} {v : Int}
theorem x_lastI (h1 : SqL X.K H p (ns.map V.int)) (h2 : ns.getLast? = some v) (h : Q (.int v) H) : Ixw X (.ref p) (.int (-1)) H Q := x_lst h1 (atI_m1 (by rw [List.getLast?_map, h2]; rfl)) h
theorem shownAll_ints : ∀ ns : List Int, PyData.shownAll (ns.map PyData.int) = ns.map fun i => PySem.Str.ofString (toString i)
  | [] => rfl
  | n :: ns => by
    show PyData.shown (.int n) :: PyData.shownAll (ns.map PyData.int) = _
    rw [shownAll_ints ns]; rfl
theorem showable_ints : ∀ {ns : List Int}, (∀ x ∈ ns, Szd x) → PyData.showableAll (ns.map PyData.int) = true
  | [], _ => rfl
  | n :: ns, h => by
    show (PyData.showable (.int n) && PyData.showableAll (ns.map PyData.int)) = true
    rw [showable_ints (fun x hx => h x (List.mem_cons_of_mem _ hx)), Bool.and_true]
    show decide (n.natAbs.log2 < 1920) = true
    have := h n List.mem_cons_self
    unfold Szd at this
    exact decide_eq_true (by omega)
theorem sum_le_const {α : Type} (g : α → Nat) (c : Nat) : ∀ {xs : List α}, (∀ x ∈ xs, g x ≤ c) → (xs.map g).sum ≤ c * xs.length
  | [], _ => Nat.zero_le _
  | x :: xs, h => by
    rw [List.map_cons, List.sum_cons, List.length_cons, Nat.mul_succ]
    have h1 := sum_le_const g c (xs := xs) fun y hy => h y (List.mem_cons_of_mem _ hy)
    have h2 := h x List.mem_cons_self
    omega
theorem shown_ints_len {ns : List Int} (h : ∀ x ∈ ns, Szd x) (hl : ns.length ≤ 1000) : (dI ns).shown.length ≤ sizeLine := by
  have e : (dI ns).shown = listText (PyData.shownAll (ns.map PyData.int)) := by unfold dI; rw [PyData.shown]
  rw [e, shownAll_ints]
  refine Nat.le_trans (listText_len_le _) ?_
  rw [List.map_map, List.length_map]
  have h1 := sum_le_const (fun i : Int => (PySem.Str.ofString (toString i)).length) 1921 (xs := ns) fun x hx => int_text_len_1921 (by have := h x hx; unfold Szd at this; omega)
  have h2 : (ns.map ((fun x : Str => x.length) ∘ fun i : Int => PySem.Str.ofString (toString i))).sum ≤ 1921 * ns.length := h1
  have : sizeLine = 16777216 := rfl
  omega
theorem hasDict_ints : ∀ ns : List Int, PyData.hasDictAll (ns.map PyData.int) = false
  | [] => rfl
  | n :: ns => by
    show (PyData.hasDict (.int n) || PyData.hasDictAll (ns.map PyData.int)) = false
    rw [hasDict_ints ns]; rfl
theorem depth_ints : ∀ ns : List Int, PyData.depthAll (ns.map PyData.int) = 0
  | [] => rfl
  | n :: ns => by
    show max (PyData.depth (.int n)) (PyData.depthAll (ns.map PyData.int)) = 0
    rw [depth_ints ns]; rfl
/-- repr of a list of whole numbers -/
theorem k_reprI {k : Nat} (hr : Room k X.A) (hgd : X.A.guards = some []) (h1 : SqL X.K H a (ns.map V.int)) (hb : ∀ x ∈ ns, Szd x) (hl : ns.length ≤ 1000) (h : Q (.str (dI ns).shown) H) : Cal X (.builtin "repr") [.ref a] H Q :=
  k_repr hr hgd (dp_ints h1) (by unfold dI; rw [PyData.showable]; exact showable_ints hb) (by unfold dI; rw [PyData.hasDict]; exact hasDict_ints ns) (by unfold dI; rw [PyData.depth, depth_ints]; decide) (shown_ints_len hb hl) h
end
theorem Kp.sqK {K : PySem.W.Frag} {H H' : Hp} {a : Addr} {xs : List V} (h : SqL K H a xs) (k : Kp [] H H') : SqL K H' a xs := k.sq0 h
theorem Kp.stK {K : PySem.W.Frag} {H H' : Hp} {a : Addr} {xs : List V} (h : SqT K H a xs) (k : Kp [] H H') : SqT K H' a xs := k.st0 h
def Th (H : Hp) (a : Addr) : Prop := ∃ o, H a = some o
theorem Kp.th {M : List Addr} {H H' : Hp} {a : Addr} (k : Kp M H H') (h : Th H a) : Th H' a := by
  obtain ⟨o, e⟩ := h
  cases q : H' a with
  | none => rw [k.dom a q] at e; cases e
  | some u => exact ⟨u, q⟩
theorem ne_th {H : Hp} {a b : Addr} (n : H b = none) (h : Th H a) : a ≠ b := fun z => by
  obtain ⟨o, e⟩ := h
  rw [z, n] at e; cases e
theorem mapI_get {ns : List Int} {i : Nat} {x : V} (h : (ns.map V.int)[i]? = some x) : ∃ n : Int, ns[i]? = some n ∧ x = .int n := by
  rw [List.getElem?_map] at h
  cases q : ns[i]? with
  | none => rw [q] at h; cases h
  | some n => rw [q] at h; cases h; exact ⟨n, rfl, rfl⟩
theorem mapI_app (ns : List Int) (v : Int) : ns.map V.int ++ [V.int v] = (ns ++ [v]).map V.int := by rw [List.map_append]; rfl
section
variable {H : Hp} {l p : Addr} {ns : List Int} {xs : List V} {y : V} {v : Int}
theorem appI {R : Hp → Prop} (h1 : H l = some (.lst (ns.map V.int))) (hl : ns.length < 100000) (h : ∀ H', Kp [l] H H' → H' l = some (.lst ((ns ++ [v]).map V.int)) → R H') : ∃ xs, H l = some (.lst xs) ∧ xs.length < 100000 ∧ ∀ H', Kp [l] H H' → H' l = some (.lst (xs ++ [.int v])) → R H' :=
  ⟨_, h1, by rw [List.length_map]; exact hl, fun H' k e => h H' k (by rw [e, mapI_app])⟩
theorem appV {R : Hp → Prop} (h1 : H l = some (.lst xs)) (hl : xs.length < 100000) (h : ∀ H', Kp [l] H H' → H' l = some (.lst (xs ++ [y])) → R H') : ∃ xs, H l = some (.lst xs) ∧ xs.length < 100000 ∧ ∀ H', Kp [l] H H' → H' l = some (.lst (xs ++ [y])) → R H' :=
  ⟨_, h1, hl, h⟩
theorem popI {R : V → Hp → Prop} (h1 : H p = some (.lst (ns.map V.int))) (h2 : ns.getLast? = some v) (h : ∀ H', Kp [p] H H' → H' p = some (.lst (ns.dropLast.map V.int)) → R (.int v) H') :
    ∃ l xs y, V.ref p = .ref l ∧ H l = some (.lst xs) ∧ xs.getLast? = some y ∧ ∀ H', Kp [l] H H' → H' l = some (.lst xs.dropLast) → R y H' :=
  ⟨p, _, _, rfl, h1, by rw [List.getLast?_map, h2]; rfl, fun H' k e => h H' k (by rw [e, List.map_dropLast])⟩
end
theorem nin1 {a p : Addr} (h : a ≠ p) : a ∉ [p] := by simp [h]
theorem Kp.gX {M : List Addr} {H H' : Hp} {b : Addr} {o : HO} (k : Kp M H H') (h : H b = some o) (n : b ∉ M ∨ Imm o) : H' b = some o := k.get b o h n
theorem sub0 {M : List Addr} {H : Hp} : ∀ x ∈ ([] : List Addr), x ∈ M ∨ H x = none := fun x hx => by cases hx
theorem sub1 {M : List Addr} {H : Hp} {p : Addr} (h : p ∈ M ∨ H p = none) : ∀ x ∈ [p], x ∈ M ∨ H x = none := fun x hx => by rw [List.mem_singleton.mp hx]; exact h
theorem subS {M : List Addr} {H : Hp} : ∀ x ∈ M, x ∈ M ∨ H x = none := fun x hx => .inl hx
theorem subC {M M' : List Addr} {H : Hp} {p : Addr} (h : p ∈ M ∨ H p = none) (h' : ∀ x ∈ M', x ∈ M ∨ H x = none) : ∀ x ∈ p :: M', x ∈ M ∨ H x = none := fun x hx => by
  rcases List.mem_cons.mp hx with e | e
  · rw [e]; exact h
  · exact h' x e
theorem Kp.trX {M M' : List Addr} {H H1 H2 : Hp} (b : Kp M' H1 H2) (a : Kp M H H1) (h : ∀ x ∈ M', x ∈ M ∨ H x = none) : Kp M H H2 := a.trans b h
end SL

/-! lists of pairs, slices stored -/
namespace SL
open PySem PySem.Spec PyProof.Rows L2

/-- at p a list of pairs of whole numbers -/
structure PL (H : Hp) (p : Addr) (ps : List (Int × Int)) : Prop where
  ex : ∃ ts : List Addr, H p = some (.lst (ts.map V.ref)) ∧ ts.length = ps.length ∧ ∀ (j : Nat) t, ts[j]? = some t → ∃ q, ps[j]? = some q ∧ H t = some (.tup [.int q.1, .int q.2])
theorem PL.kp {M : List Addr} {H H' : Hp} {p : Addr} {ps : List (Int × Int)} (h : PL H p ps) (k : Kp M H H') (n : p ∉ M) : PL H' p ps := by
  obtain ⟨ts, h1, h2, h3⟩ := h.ex
  refine ⟨ts, k.gM n h1, h2, fun j t hj => ?_⟩
  obtain ⟨q, e1, e2⟩ := h3 j t hj
  exact ⟨q, e1, k.gT e2⟩
theorem PL.kp0 {H H' : Hp} {p : Addr} {ps : List (Int × Int)} (h : PL H p ps) (k : Kp [] H H') : PL H' p ps := h.kp k (by simp)
theorem PL.k0 {H H' : Hp} {p : Addr} {ps : List (Int × Int)} (k : Kp [] H H') (h : PL H p ps) : PL H' p ps := h.kp k (by simp)
theorem PL.kM {M : List Addr} {H H' : Hp} {p : Addr} {ps : List (Int × Int)} (k : Kp M H H') (n : p ∉ M) (h : PL H p ps) : PL H' p ps := h.kp k n
theorem PL.kX {M : List Addr} {H H' : Hp} {p : Addr} {ps : List (Int × Int)} (k : Kp M H H') (h : PL H p ps) (n : p ∉ M) : PL H' p ps := h.kp k n
theorem PL.at {H : Hp} {p : Addr} {ps : List (Int × Int)} (h : PL H p ps) : ∃ ts : List Addr, H p = some (.lst (ts.map V.ref)) := let ⟨ts, h1, _⟩ := h.ex; ⟨ts, h1⟩
theorem PL.th {H : Hp} {p : Addr} {ps : List (Int × Int)} (h : PL H p ps) : Th H p := let ⟨ts, h1, _⟩ := h.ex; ⟨_, h1⟩
theorem PL.nil {H : Hp} {p : Addr} (h : H p = some (.lst [])) : PL H p [] := ⟨[], h, rfl, fun j t hj => by simp at hj⟩
theorem PL.app {H H' : Hp} {p t : Addr} {ts : List Addr} {ps : List (Int × Int)} {q : Int × Int} (h : PL H p ps) (hp : H p = some (.lst (ts.map V.ref))) (ht : H t = some (.tup [.int q.1, .int q.2])) (k : Kp [p] H H') (e : H' p = some (.lst (ts.map V.ref ++ [.ref t]))) : PL H' p (ps ++ [q]) := by
  obtain ⟨us, h1, h2, h3⟩ := h.ex
  have eu : us.map V.ref = ts.map V.ref := HO.lst.inj (Option.some.inj (h1.symm.trans hp))
  refine ⟨us ++ [t], by rw [e, List.map_append, eu]; rfl, by rw [List.length_append, List.length_append, h2]; rfl, fun j u hj => ?_⟩
  by_cases hlt : j < us.length
  · rw [List.getElem?_append_left hlt] at hj
    obtain ⟨q', e1, e2⟩ := h3 j u hj
    exact ⟨q', by rw [List.getElem?_append_left (by omega)]; exact e1, k.gT e2⟩
  · have hj' := (List.getElem?_eq_some_iff.mp hj).1
    rw [List.length_append] at hj'
    have ej : j = us.length := by
      have : [t].length = 1 := rfl
      omega
    subst ej
    rw [List.getElem?_concat_length] at hj
    cases hj
    exact ⟨q, by rw [h2, List.getElem?_concat_length], k.gT ht⟩
theorem PL.l3 {H : Hp} {p a b c : Addr} {x1 y1 x2 y2 x3 y3 : Int} (h : H p = some (.lst [.ref a, .ref b, .ref c])) (h1 : H a = some (.tup [.int x1, .int y1])) (h2 : H b = some (.tup [.int x2, .int y2])) (h3 : H c = some (.tup [.int x3, .int y3])) : PL H p [(x1, y1), (x2, y2), (x3, y3)] :=
  ⟨[a, b, c], h, rfl, fun j t hj => match j, hj with
    | 0, hj => ⟨_, rfl, by cases hj; exact h1⟩
    | 1, hj => ⟨_, rfl, by cases hj; exact h2⟩
    | 2, hj => ⟨_, rfl, by cases hj; exact h3⟩
    | n + 3, hj => by simp at hj⟩
section
variable {K : PySem.W.Frag} {H : Hp}
theorem dpAll_pairs : ∀ {ts : List Addr} {ps : List (Int × Int)}, ts.length = ps.length → (∀ (j : Nat) t, ts[j]? = some t → ∃ q, ps[j]? = some q ∧ H t = some (.tup [.int q.1, .int q.2])) → DpAll K H (ts.map V.ref) (ps.map fun p => .tuple [.int p.1, .int p.2])
  | [], [], _, _ => .nil
  | t :: ts, p :: ps, hl, h => by
    obtain ⟨q, e1, e2⟩ := h 0 t rfl
    have e1' : p = q := by simpa using e1
    subst e1'
    exact .cons (.tup (sqT e2) (.cons (.int _) (.cons (.int _) .nil))) (dpAll_pairs (Nat.succ.inj hl) fun j u hj => h (j + 1) u hj)
  | [], _ :: _, hl, _ => by cases hl
  | _ :: _, [], hl, _ => by cases hl
theorem PL.dp {p : Addr} {ps : List (Int × Int)} (h : PL H p ps) : Dp K H (.ref p) (dP ps) := by
  obtain ⟨ts, h1, h2, h3⟩ := h.ex
  exact .lst (sqL h1) (dpAll_pairs h2 h3)
theorem eqvAll_pairs : ∀ ps qs : List (Int × Int), PyData.eqvAll (ps.map fun p => .tuple [.int p.1, .int p.2]) (qs.map fun p => .tuple [.int p.1, .int p.2]) = decide (ps = qs)
  | [], [] => by simp [PyData.eqvAll]
  | [], _ :: _ => by simp [PyData.eqvAll]
  | _ :: _, [] => by simp [PyData.eqvAll]
  | (a, b) :: ps, (c, d) :: qs => by
    show (PyData.eqv (.tuple [.int a, .int b]) (.tuple [.int c, .int d]) && PyData.eqvAll (ps.map fun p => .tuple [.int p.1, .int p.2]) (qs.map fun p => .tuple [.int p.1, .int p.2])) = _
    rw [eqvAll_pairs ps qs]
    simp only [PyData.eqv, PyData.eqvAll]
    by_cases h1 : a = c <;> by_cases h2 : b = d <;> by_cases h3 : ps = qs <;> simp [h1, h2, h3]
theorem eqv_pairs (ps qs : List (Int × Int)) : PyData.eqv (dP ps) (dP qs) = decide (ps = qs) := by
  unfold dP
  rw [PyData.eqv]
  exact eqvAll_pairs ps qs
theorem shaped_pairs (ps : List (Int × Int)) : SeqAt.shaped (dP ps) = true := by
  have h1 : ∀ ps : List (Int × Int), PyData.canLayAll0 (ps.map fun p => .tuple [.int p.1, .int p.2]) = true := fun ps => by
    induction ps with
    | nil => rfl
    | cons p ps ih => show (PyData.canLay0 (.tuple [.int p.1, .int p.2]) && PyData.canLayAll0 (ps.map fun p => .tuple [.int p.1, .int p.2])) = true; rw [ih]; rfl
  have h2 : ∀ ps : List (Int × Int), PyData.depthAll (ps.map fun p => .tuple [.int p.1, .int p.2]) ≤ 1 := fun ps => by
    induction ps with
    | nil => exact Nat.zero_le _
    | cons p ps ih =>
      show max (PyData.depth (.tuple [.int p.1, .int p.2])) (PyData.depthAll (ps.map fun p => .tuple [.int p.1, .int p.2])) ≤ 1
      exact Nat.max_le.mpr ⟨Nat.le_refl 1, ih⟩
  unfold SeqAt.shaped dP
  rw [PyData.canLay0, PyData.depth, h1 ps, Bool.true_and]
  have := h2 ps
  exact decide_eq_true (by omega)
theorem showable_pairs : ∀ {ps : List (Int × Int)}, (∀ x ∈ ps, Szd x.1 ∧ Szd x.2) → PyData.showableAll (ps.map fun p => .tuple [.int p.1, .int p.2]) = true
  | [], _ => rfl
  | p :: ps, h => by
    show (PyData.showable (.tuple [.int p.1, .int p.2]) && PyData.showableAll (ps.map fun p => .tuple [.int p.1, .int p.2])) = true
    rw [showable_pairs (fun x hx => h x (List.mem_cons_of_mem _ hx)), Bool.and_true]
    exact showable_ints (ns := [p.1, p.2]) fun x hx => by
      have := h p List.mem_cons_self
      rcases List.mem_cons.mp hx with e | e
      · rw [e]; exact this.1
      · rw [List.mem_singleton.mp e]; exact this.2
theorem hasDict_pairs : ∀ ps : List (Int × Int), PyData.hasDictAll (ps.map fun p => .tuple [.int p.1, .int p.2]) = false
  | [] => rfl
  | p :: ps => by
    show (PyData.hasDict (.tuple [.int p.1, .int p.2]) || PyData.hasDictAll (ps.map fun p => .tuple [.int p.1, .int p.2])) = false
    rw [hasDict_pairs ps]; rfl
theorem shownAll_pairs : ∀ ps : List (Int × Int), PyData.shownAll (ps.map fun p => .tuple [.int p.1, .int p.2]) = ps.map fun p => tupleText [PySem.Str.ofString (toString p.1), PySem.Str.ofString (toString p.2)]
  | [] => rfl
  | p :: ps => by
    show PyData.shown (.tuple [.int p.1, .int p.2]) :: PyData.shownAll (ps.map fun p => .tuple [.int p.1, .int p.2]) = _
    rw [shownAll_pairs ps]; rfl
theorem shown_pairs_len {ps : List (Int × Int)} (h : ∀ x ∈ ps, Szd x.1 ∧ Szd x.2) (hl : ps.length ≤ 1000) : (dP ps).shown.length ≤ sizeLine := by
  have e : (dP ps).shown = listText (PyData.shownAll (ps.map fun p => .tuple [.int p.1, .int p.2])) := by unfold dP; rw [PyData.shown]
  rw [e, shownAll_pairs]
  refine Nat.le_trans (listText_len_le _) ?_
  rw [List.map_map, List.length_map]
  have h1 := sum_le_const (fun p : Int × Int => (tupleText [PySem.Str.ofString (toString p.1), PySem.Str.ofString (toString p.2)]).length) 3900 (xs := ps) fun x hx => by
    have g := h x hx
    have g1 := int_text_len_1921 (i := x.1) (by have := g.1; unfold Szd at this; omega)
    have g2 := int_text_len_1921 (i := x.2) (by have := g.2; unfold Szd at this; omega)
    have g3 := tupleText_len_le [PySem.Str.ofString (toString x.1), PySem.Str.ofString (toString x.2)]
    simp only [List.map_cons, List.map_nil, List.sum_cons, List.sum_nil, List.length_cons, List.length_nil] at g3
    omega
  have h2 : (ps.map ((fun x : Str => x.length) ∘ fun p : Int × Int => tupleText [PySem.Str.ofString (toString p.1), PySem.Str.ofString (toString p.2)])).sum ≤ 3900 * ps.length := h1
  have : sizeLine = 16777216 := rfl
  omega
end
section
variable {X : Cx} {H : Hp} {Q : VK} {p q : Addr} {ps qs : List (Int × Int)} {k : Nat}
theorem k_reprP (hr : Room k X.A) (hgd : X.A.guards = some []) (h1 : PL H p ps) (hb : ∀ x ∈ ps, Szd x.1 ∧ Szd x.2) (hl : ps.length ≤ 1000) (h : Q (.str (dP ps).shown) H) : Cal X (.builtin "repr") [.ref p] H Q :=
  k_repr hr hgd h1.dp (by unfold dP; rw [PyData.showable]; exact showable_pairs hb) (by unfold dP; rw [PyData.hasDict]; exact hasDict_pairs ps) (by
    have h2 := SeqAt.depth_of_shaped (shaped_pairs ps)
    omega) (shown_pairs_len hb hl) h
theorem c_eqP (hr : Room k X.A) (h1 : PL H p ps) (h2 : PL H q qs) (h : Q (.bl (decide (ps = qs))) H) : Cmp X .Eq (.ref p) (.ref q) H Q := c_eqD hr h1.dp h2.dp (shaped_pairs _) (shaped_pairs _) (by rw [eqv_pairs]; exact h)
theorem c_neP (hr : Room k X.A) (h1 : PL H p ps) (h2 : PL H q qs) (h : Q (.bl (!decide (ps = qs))) H) : Cmp X .NotEq (.ref p) (.ref q) H Q := c_neD hr h1.dp h2.dp (shaped_pairs _) (shaped_pairs _) (by rw [eqv_pairs]; exact h)
theorem k_isiP {n : String} {b : Bool} (h1 : PL H p ps) (hk : kitB "list" n = some b) (h : Q (.bl b) H) : Cal X (.builtin "isinstance") [.ref p, .ty n] H Q := let ⟨_, e⟩ := h1.at; k_isiL e hk h
theorem k_lenP (h1 : PL H p ps) (h : Q (.int (ps.length : Int)) H) : Cal X (.builtin "len") [.ref p] H Q := by
  obtain ⟨ts, e1, e2, _⟩ := h1.ex
  exact k_len (sqL e1) (by rw [List.length_map, e2]; exact h)
theorem k_listP (h1 : PL H p ps) (h : ∀ p' H', H p' = none → Kp [] H H' → PL H' p' ps → Q (.ref p') H') : Cal X (.type "list") [.ref p] H Q := by
  obtain ⟨ts, e1, e2, e3⟩ := h1.ex
  exact k_list (.inl (sqL e1)) fun p' H' n k e => h p' H' n k ⟨ts, e, e2, fun j t hj => let ⟨q, f1, f2⟩ := e3 j t hj; ⟨q, f1, k.gT f2⟩⟩
end

section
variable {X : Cx} {H : Hp} {Q : VK} {l b p : Addr} {ps qs : List (Int × Int)} {i : Int}
theorem b_catP (h1 : PL H l ps) (h2 : PL H b qs) (hz : ps.length + qs.length ≤ 100000) (h : ∀ p H', H p = none → Kp [] H H' → PL H' p (ps ++ qs) → Q (.ref p) H') : Bin X .Add (.ref l) (.ref b) H Q := by
  obtain ⟨ts, e1, e2, e3⟩ := h1.ex
  obtain ⟨us, f1, f2, f3⟩ := h2.ex
  refine b_cat e1 f1 (by rw [List.length_map, List.length_map, e2, f2]; exact hz) fun p H' n k e => h p H' n k ⟨ts ++ us, by rw [e, List.map_append], by rw [List.length_append, List.length_append, e2, f2], fun j t hj => ?_⟩
  by_cases hlt : j < ts.length
  · rw [List.getElem?_append_left hlt] at hj
    obtain ⟨q, g1, g2⟩ := e3 j t hj
    exact ⟨q, by rw [List.getElem?_append_left (by omega)]; exact g1, k.gT g2⟩
  · rw [List.getElem?_append_right (by omega)] at hj
    obtain ⟨q, g1, g2⟩ := f3 _ t hj
    exact ⟨q, by rw [List.getElem?_append_right (by omega), ← e2]; exact g1, k.gT g2⟩
theorem x_r3 {a b c : Addr} (h1 : H p = some (.lst [.ref a, .ref b, .ref c])) (h0 : 0 ≤ i ∧ i < 3) (ha : Q (.ref a) H) (hb : Q (.ref b) H) (hc : Q (.ref c) H) : Ixw X (.ref p) (.int i) H Q := by
  have hi : i = 0 ∨ i = 1 ∨ i = 2 := by omega
  rcases hi with rfl | rfl | rfl
  · exact x_lst (sqL h1) rfl ha
  · exact x_lst (sqL h1) rfl hb
  · exact x_lst (sqL h1) rfl hc
theorem PL.get {H : Hp} {p : Addr} {ps : List (Int × Int)} (h : PL H p ps) {xs : List V} (e : H p = some (.lst xs)) {j : Nat} {x : V} (hj : xs[j]? = some x) : ∃ t q, x = .ref t ∧ ps[j]? = some q ∧ H t = some (.tup [.int q.1, .int q.2]) := by
  obtain ⟨ts, e1, e2, e3⟩ := h.ex
  have := HO.lst.inj (Option.some.inj (e1.symm.trans e))
  subst this
  rw [List.getElem?_map] at hj
  obtain ⟨t, ht, rfl⟩ := Option.map_eq_some_iff.mp hj
  obtain ⟨q, g1, g2⟩ := e3 j t ht
  exact ⟨t, q, rfl, g1, g2⟩
theorem PL.l1 {H : Hp} {p a : Addr} {x y : Int} (h : H p = some (.lst [.ref a])) (h1 : H a = some (.tup [.int x, .int y])) : PL H p [(x, y)] :=
  ⟨[a], h, rfl, fun j t hj => match j, hj with
    | 0, hj => ⟨_, rfl, by cases hj; exact h1⟩
    | n + 1, hj => by simp at hj⟩
theorem PL.l2 {H : Hp} {p a b : Addr} {x1 y1 x2 y2 : Int} (h : H p = some (.lst [.ref a, .ref b])) (h1 : H a = some (.tup [.int x1, .int y1])) (h2 : H b = some (.tup [.int x2, .int y2])) : PL H p [(x1, y1), (x2, y2)] :=
  ⟨[a, b], h, rfl, fun j t hj => match j, hj with
    | 0, hj => ⟨_, rfl, by cases hj; exact h1⟩
    | 1, hj => ⟨_, rfl, by cases hj; exact h2⟩
    | n + 2, hj => by simp at hj⟩
end

/-! ### xs[:c] = ys -/
section
variable {prog : Program} {w : World} {A : Around} {E : Value → Shared → Prop} {s : Shared}
theorem bounds_to {c n : Nat} (hc : c ≤ n) : sliceBounds none (some (c : Int)) none n = ((0 : Int), (c : Int), 1) := by
  have h2 : ¬ ((c : Int) < 0) := by omega
  simp only [sliceBounds, Option.getD_none, h2, if_false, show (1 : Int) > 0 by decide, if_true]
  congr 2
  omega
theorem setItem_to {l b sl : Addr} {items new : Array Value} {n n2 : Nat} {vu : Value} {c : Nat} {Q : Unit → Shared → Prop} (e : s.heap.get? l = some { cls := .type "list", data := .seq items n }) (e2 : s.heap.get? b = some { cls := .type "list", data := .seq new n2 }) (hne : l ≠ b) (hs : s.heap.IsSliceOf sl .none vu .none)
    (pu : IsPart vu (some (c : Int))) (hc : c ≤ items.size) (hsz : items.size + new.size ≤ sizeLine) (h : Q () { s with heap := s.heap.update l (Obj.mapSeq fun xs => xs.extract 0 0 ++ new ++ xs.extract c xs.size) }) : wpAny (model prog w) A (setItem (.ref l) (.ref sl) (.ref b)) Q E s := by
  have hl : s.heap.IsList l items := PySem.IsL.isList e; have hb : s.heap.IsList b new := PySem.IsL.isList e2
  obtain ⟨os, hos, hcs, hds⟩ := id hs
  have hTs : s.TypeIs (.ref sl) "slice" := ⟨os, hos, hcs⟩; have hstep : ¬ ((rawPart none == rawInt 0) = true) := Bool.false_ne_true
  have hsame : Builtin.List.listSameRef (.ref l) (.ref b) = false := by unfold Builtin.List.listSameRef; exact beq_eq_false_iff_ne.mpr hne
  have hz' : ((fun xs : Array Value => xs.extract 0 0 ++ new ++ xs.extract c xs.size) items).size ≤ sizeLine + 1 := by simp only [Array.size_append, Array.size_extract]; omega
  unfold setItem; try with_reducible refine wpAny_holding ?_
  first | refine wpAny_bind (wpAny_pure ?_) | skip
  refine wpAny_bind (wpAny_sequenceKey hl.typeIs (by decide) ?_); refine wpAny_bind (wpAny_callSpecial?_slot (name := Str.ofString "__setitem__") hl.typeIs F.slot_list_setitem (wpAny_call_entry F.slot_list_setitem hl.typeIs F.entry_list_setitem ?_ (F.args_list_setitem_3 _ _ _)))
  show wpAny _ _ (Builtin.List.listSubscript? (.ref sl) >>= _) _ _ s; refine wpAny_bind ?_; unfold Builtin.List.listSubscript?
  refine wpAny_bind (wpAny_specialOf hTs slice_no_index ?_); simp only [Option.isNone_none, if_true]; refine wpAny_pure ?_
  show wpAny _ _ (typeOf (.ref sl) >>= _) _ _ s; refine wpAny_bind (wpAny_typeOf hTs ?_)
  first | rw [if_neg (by decide)] | refine PySem.W.KFB.if_not (by decide) ?_
  rw [listSliceParts_eq]; refine wpAny_bind (wpAny_bind (wpAny_field hos hds (x := .none) rfl (wpAny_bind (wpAny_listPart .none ?_)))); rw [if_neg hstep]
  refine wpAny_bind (wpAny_field hos hds (x := .none) rfl (wpAny_bind (wpAny_listPart .none ?_))); refine wpAny_bind (wpAny_field hos hds (x := vu) rfl (wpAny_bind (wpAny_listPart pu (wpAny_pure ?_))))
  first | simp only [hsame, Bool.false_eq_true, if_false] | refine PySem.W.KFB.if_not hsame ?_ | (dsimp only; rw [if_neg (by rw [hsame]; exact Bool.false_ne_true)])
  refine wpAny_bind (m := Builtin.List.listAllItems (.ref b) "must assign iterable to extended slice") ?_; unfold Builtin.List.listAllItems; refine wpAny_bind (wpAny_typeOf hb.typeIs ?_)
  first | refine PySem.W.KFB.if_so (by decide) ?_ | rw [if_pos (by decide)] | simp only [beq_self_eq_true, Bool.true_or, if_true]
  unfold Builtin.List.listItems; refine wpAny_bind (wpAny_seqItems e2 rfl (wpAny_pure ?_)); refine wpAny_bind (wpAny_bind (wpAny_seqItems e rfl (wpAny_pure ?_)))
  refine wpAny_bind (wpAny_of_eq ((sliceIndices_raw none (some (c : Int)) none items.size (by simp)).trans (congrArg (pure : Int × Int × Int → Sem (Int × Int × Int)) (bounds_to hc))) ?_)
  show wpAny _ _ (if ((1 : Int) == 1) = true then _ else _) _ _ s; rw [if_pos (by decide)]; refine wpAny_bind (wpAny_rule ?_)
  first | simp only [notLongL hsz, Bool.false_eq_true, if_false] | refine PySem.W.KFB.if_not (notLongL hsz) ?_
  first | refine wpAny_bind (wpAny_pure ?_) | skip
  show wpAny _ _ (updateSeq l (fun xs => xs.extract 0 ((0 : Int)).toNat ++ new ++ xs.extract (max (0 : Int) (c : Int)).toNat xs.size) >>= _) _ _ s
  rw [show (max (0 : Int) (c : Int)).toNat = c from by omega, show ((0 : Int)).toNat = 0 from rfl]; refine wpAny_bind (wpAny_updateSeq (hz := Nat.le_trans (Nat.le_add_right _ _) hsz) (_hz' := hz') e rfl ?_); refine wpAny_bind (wpAny_letGo ?_)
  first | exact wpAny_bind (wpAny_pure (wpAny_pure ⟨.none, rfl, wpAny_pure h⟩)) | exact wpAny_pure ⟨.none, rfl, wpAny_pure h⟩
end
section
variable {X : Cx} {σ : L2.St} {H : Hp} {o hi : Expr} {pos p2 : Pos} {G : L2.St → Hp → Prop} {v : V}
theorem wg_cut (h : We X o σ H fun x H1 => We X hi σ H1 fun y H2 => ∃ (l b : Addr) (xs ys : List V) (c : Int), x = .ref l ∧ y = .int c ∧ v = .ref b ∧ H2 l = some (.lst xs) ∧ H2 b = some (.lst ys) ∧ l ≠ b ∧ (0 ≤ c ∧ c ≤ xs.length) ∧ xs.length + ys.length ≤ 100000 ∧ ∀ H', Kp [l] H2 H' → H' l = some (.lst (ys ++ xs.drop c.toNat)) → G σ H')
    (ha : ∀ v, assign (.Subscript o (.Slice none (some hi) none p2) pos) X.env v = (do
      let ov ← holding [v] (eval o X.env)
      let iv ← holding [v, ov] (eval (.Slice none (some hi) none p2) X.env)
      standAt pos
      holding [v, ov, iv] (setItem ov iv v)
      release [iv, v, ov] []) := by intro _; rfl) : Wg X (.Subscript o (.Slice none (some hi) none p2) pos) v σ H G := by
  refine ⟨fun pins s u I r => ?_⟩
  rw [ha]
  refine wpAny_bind (wpAny_holding (thn (h.run pins s I) fun ov s1 ⟨x, H1, I1, r1, q1⟩ => ?_))
  refine wpAny_bind (wpAny_holding (wpAny_Slice ?_))
  rw [evalPart_none]
  refine wpAny_pure ?_
  have hpo : PO X (some hi) (Wp X (some hi)) := Wp.po
  refine thn (hpo.run pins s1 σ H1 (fun u H2 => ∃ c, u = some c ∧ ∃ (l b : Addr) (xs ys : List V), x = .ref l ∧ v = .ref b ∧ H2 l = some (.lst xs) ∧ H2 b = some (.lst ys) ∧ l ≠ b ∧ (0 ≤ c ∧ c ≤ xs.length) ∧ xs.length + ys.length ≤ 100000 ∧ ∀ H', Kp [l] H2 H' → H' l = some (.lst (ys ++ xs.drop c.toNat)) → G σ H') I1 ?_) fun vu s2 ⟨cu, H2, I2, pu, c, ecu, l, b, xs, ys, ex, ev, hl, hb, hne, hc, hz, hG⟩ => ?_
  · show We X hi σ H1 _
    exact we_mono q1 fun y H2 ⟨l, b, xs, ys, c, e1, e2, e3, g⟩ => ⟨c, e2, c, rfl, l, b, xs, ys, e1, e3, g⟩
  subst ecu ex ev
  cases r1
  cases r
  refine wpAny_pure ?_
  have I4 : Inv X pins σ H2 { s2 with heap := s2.heap.push { cls := .type "slice", data := .fields #[.none, vu, .none] } } := I2.kept (t' := s2.toks) fun b ob q => Heap.get?_push_of_some _ q
  refine wpAny_bind (wpAny_standAt (wpAny_bind (wpAny_holding ?_)))
  obtain ⟨z, its, n, r, hll, e⟩ := I4.lstM hl
  obtain ⟨z2, its2, n2, r2, hl2, e2⟩ := I4.lstM hb
  obtain ⟨c', rfl⟩ := Int.eq_ofNat_of_zero_le hc.1
  have hln := r.length
  have hln2 := r2.length
  have hbig : (100000 : Nat) ≤ sizeLine := by decide
  refine setItem_to (c := c') e e2 hne (Heap.IsSliceOf.new ..) pu (by rw [List.size_toArray]; omega) (by rw [List.size_toArray, List.size_toArray]; omega) (wpAny_release ⟨σ, upd H2 l (.lst (ys ++ xs.drop c')), ?_, hG _ (.put hl) upd_same⟩)
  refine I4.lset (its' := its2 ++ its.drop c') (t' := s2.toks) hl e ?_ (Vals.append r2 (r.drop _)) ?_
  · have := splice_eq its its2 0 c'
    simpa using this
  · rw [List.length_append, List.length_drop]
    omega
end

/-! ### comprehensions whose end is plain -/
theorem wg_mono {X : Cx} {tg : Expr} {v : V} {σ : L2.St} {H : Hp} {G G' : L2.St → Hp → Prop} (h : Wg X tg v σ H G) (hg : ∀ σ' H', G σ' H' → G' σ' H') : Wg X tg v σ H G' := ⟨fun pins s u I r => thn (h.run pins s u I r) fun _ _ ⟨σ', H', I', g⟩ => ⟨σ', H', I', hg σ' H' g⟩⟩
theorem wt_mono {X : Cx} {c : Expr} {σ : L2.St} {H : Hp} {Q Q' : Bool → Hp → Prop} (h : Wt X c σ H Q) (hq : ∀ k H1, Q k H1 → Q' k H1) : Wt X c σ H Q' := ⟨fun pins s I => thn (h.run pins s I) fun k _ ⟨H1, I1, q⟩ => ⟨H1, I1, hq k H1 q⟩⟩
section
variable {X : Cx} {elt tg c : Expr} {scope : Scope} {vs : List Nat} {σ : L2.St} {R : VK} {q : Addr} {ns : List Int} {H : Hp}
theorem lcd_map (g : Int → Int) (hS : SqL X.K H q (ns.map V.int)) (hl : ns.length ≤ 10000)
    (he : ∀ x ∈ ns, ∀ H1, Kp [] H H1 → Bl X scope fun Z => Wg Z tg (.int x) (wipe σ vs) H1 fun σ2 H2 => wipe σ2 vs = wipe σ vs ∧ Bl X scope fun Z => We Z elt σ2 H2 fun y H3 => y = .int (g x) ∧ Kp [] H1 H3)
    (hd : ∀ Dl H', H Dl = none → Kp [] H H' → H' Dl = some (.lst ((ns.map g).map V.int)) → R (.ref Dl) H') :
    LcD X elt tg [] scope vs σ R (ns.map V.int).length (fun H => SqL X.K H q (ns.map V.int)) (YAt (ns.map V.int)) H := by
  intro Dl H1 nD kD hD
  refine ⟨fun i H' => Kp [] H H' ∧ H' Dl = some (.lst (((ns.take i).map g).map V.int)), ⟨kD, hD⟩, fun i H' _ h => Kp.sqK hS h.1, ?_, ?_⟩
  · rintro i x H2 H3 hi ⟨k2, hD2⟩ ⟨rfl, hx⟩
    obtain ⟨v, hv, rfl⟩ := mapI_get hx
    intro s0 H0 C cl fp
    refine wg_mono (he v (List.mem_of_getElem? hv) _ k2 s0 H0 C cl fp) fun σ2 H4 ⟨e1, h2⟩ => ⟨e1, fun s0 H0 C cl fp => ?_⟩
    refine wts_nil (iteT fun s0 H0 C cl fp => we_mono (h2 s0 H0 C cl fp) fun y H5 ⟨ey, k5⟩ => ?_)
    subst ey
    refine appI (k5.g0 hD2) (by rw [List.length_map, List.length_take]; omega) fun H6 k6 hD6 => ⟨(k2.tr0 k5).trN k6 nD, ?_⟩
    have et : (ns.take (i + 1)).map g = (ns.take i).map g ++ [g v] := by
      rw [List.take_succ, hv, List.map_append]
      rfl
    rw [hD6, et]
  · rintro H2 ⟨k2, hD2⟩
    rw [List.length_map, List.take_length] at hD2
    exact hd Dl H2 nD k2 hD2
/-- none is let by -/
theorem lcd_none {n : Nat} {G : Hp → Prop} {Y : Nat → Hp → V → Hp → Prop} (hG : ∀ H1, Kp [] H H1 → G H1)
    (he : ∀ i x H1 H2, i < n → Kp [] H H1 → Y i H1 x H2 → Bl X scope fun Z => Wg Z tg x (wipe σ vs) H2 fun σ2 H3 => wipe σ2 vs = wipe σ vs ∧ Bl X scope fun Z => Wt Z c σ2 H3 fun k H4 => k = false ∧ Kp [] H1 H4)
    (hd : ∀ Dl H', H Dl = none → Kp [] H H' → H' Dl = some (.lst []) → R (.ref Dl) H') : LcD X elt tg [c] scope vs σ R n G Y H := by
  intro Dl H1 nD kD hD
  refine ⟨fun i H' => Kp [] H H' ∧ H' Dl = some (.lst []), ⟨kD, hD⟩, fun i H' _ h => hG H' h.1, ?_, fun H2 h => hd Dl H2 nD h.1 h.2⟩
  rintro i x H2 H3 hi ⟨k2, hD2⟩ hY
  intro s0 H0 C cl fp
  refine wg_mono (he i x H2 H3 hi k2 hY s0 H0 C cl fp) fun σ2 H4 ⟨e1, h2⟩ => ⟨e1, fun s0 H0 C cl fp => ?_⟩
  refine wts_one (wt_mono (h2 s0 H0 C cl fp) fun k H5 ⟨ek, k5⟩ => ?_)
  subst ek
  exact iteF ⟨k2.tr0 k5, k5.g0 hD2⟩
end
section
variable {X : Cx} {H : Hp} {Q : VK} {p : Addr} {ns : List Int} {x : Int}
theorem inV_ints (x : Int) : ∀ ns : List Int, inV (.int x) (ns.map V.int) = decide (x ∈ ns)
  | [] => rfl
  | n :: ns => by
    have h := inV_ints x ns
    unfold inV at h ⊢
    rw [List.map_cons, List.any_cons, h]
    by_cases e : n = x
    · simp [eqV, e]
    · have e' : ¬ x = n := fun z => e z.symm
      simp [eqV, e, e']
theorem flat_ints : ∀ ns : List Int, (ns.map V.int).all flatV = true
  | [] => rfl
  | n :: ns => by
    rw [List.map_cons, List.all_cons, flat_ints ns]
    rfl
theorem c_inI (h1 : SqL X.K H p (ns.map V.int)) (h : Q (.bl (decide (x ∈ ns))) H) : Cmp X .In (.int x) (.ref p) H Q := ⟨_, op_in_seq, p, _, rfl, .inl h1, rfl, flat_ints ns, by rw [if_neg (by decide), inV_ints]; exact h⟩
theorem c_ninI (h1 : SqL X.K H p (ns.map V.int)) (h : Q (.bl (!decide (x ∈ ns))) H) : Cmp X .NotIn (.int x) (.ref p) H Q := ⟨_, op_notIn_seq, p, _, rfl, .inl h1, rfl, flat_ints ns, by rw [if_pos rfl, inV_ints]; exact h⟩
end
section
variable {X : Cx} {H : Hp} {Q : VK} {p : Addr} {ns : List Int} {i : Int}
theorem b_p3 (h : Q (.int 1000) H) : Bin X .Pow (.int 10) (.int 3) H Q := b_pow (by decide) (by rw [show (10 : Int) ^ (3 : Int).toNat = 1000 from by decide +kernel]; exact h)
theorem b_p4 (h : Q (.int 10000) H) : Bin X .Pow (.int 10) (.int 4) H Q := b_pow (by decide) (by rw [show (10 : Int) ^ (4 : Int).toNat = 10000 from by decide +kernel]; exact h)
theorem b_p5 (h : Q (.int 100000) H) : Bin X .Pow (.int 10) (.int 5) H Q := b_pow (by decide) (by rw [show (10 : Int) ^ (5 : Int).toNat = 100000 from by decide +kernel]; exact h)
theorem b_p7 (h : Q (.int 10000000) H) : Bin X .Pow (.int 10) (.int 7) H Q := b_pow (by decide) (by rw [show (10 : Int) ^ (7 : Int).toNat = 10000000 from by decide +kernel]; exact h)
theorem b_p10 (h : Q (.int 10000000000) H) : Bin X .Pow (.int 10) (.int 10) H Q := b_pow (by decide) (by rw [show (10 : Int) ^ (10 : Int).toNat = 10000000000 from by decide +kernel]; exact h)
theorem b_p13 (h : Q (.int 10000000000000) H) : Bin X .Pow (.int 10) (.int 13) H Q := b_pow (by decide) (by rw [show (10 : Int) ^ (13 : Int).toNat = 10000000000000 from by decide +kernel]; exact h)
theorem b_p15 (h : Q (.int 1000000000000000) H) : Bin X .Pow (.int 10) (.int 15) H Q := b_pow (by decide) (by rw [show (10 : Int) ^ (15 : Int).toNat = 1000000000000000 from by decide +kernel]; exact h)
theorem b_p16 (h : Q (.int 10000000000000000) H) : Bin X .Pow (.int 10) (.int 16) H Q := b_pow (by decide) (by rw [show (10 : Int) ^ (16 : Int).toNat = 10000000000000000 from by decide +kernel]; exact h)
theorem b_p17 (h : Q (.int 100000000000000000) H) : Bin X .Pow (.int 10) (.int 17) H Q := b_pow (by decide) (by rw [show (10 : Int) ^ (17 : Int).toNat = 100000000000000000 from by decide +kernel]; exact h)
theorem b_p24 (h : Q (.int 1000000000000000000000000) H) : Bin X .Pow (.int 10) (.int 24) H Q := b_pow (by decide) (by rw [show (10 : Int) ^ (24 : Int).toNat = 1000000000000000000000000 from by decide +kernel]; exact h)
/-- some item of a list of whole numbers, from behind too -/
theorem x_memN (h1 : SqL X.K H p (ns.map V.int)) (h0 : -(ns.length : Int) ≤ i) (h2 : i < ns.length) (h : ∀ x, x ∈ ns → Q (.int x) H) : Ixw X (.ref p) (.int i) H Q := by
  by_cases hi : 0 ≤ i
  · exact x_mem h1 hi h2 h
  · have hl : (i + ns.length).toNat < ns.length := by omega
    refine x_lst h1 (v := .int ns[(i + ns.length).toNat]) ?_ (h _ (List.getElem_mem hl))
    unfold atI
    have e : ixN (ns.map V.int).length i = some (i + ns.length).toNat := by
      unfold ixN
      rw [List.length_map, if_neg hi, if_pos (by omega)]
    rw [e]
    show (ns.map V.int)[(i + ns.length).toNat]? = _
    rw [List.getElem?_map, List.getElem?_eq_getElem hl]
    rfl
end
section
variable {X : Cx} {σ : L2.St} {H : Hp} {Q : VK} {e o : Expr} {apos : Pos}
/-- xs.extend(ys), ys another list -/
theorem we_extend {cpos : Pos} (h : We X o σ H fun x H1 => ∃ l, x = .ref l ∧ (∃ xs, H1 l = some (.lst xs)) ∧ We X e σ H1 fun y H2 => ∃ b xs ys, y = .ref b ∧ H2 l = some (.lst xs) ∧ H2 b = some (.lst ys) ∧ xs.length + ys.length ≤ 100000 ∧ ∀ H', Kp [l] H2 H' → H' l = some (.lst (xs ++ ys)) → Q .non H')
    (hbase : attributeBase o "extend" X.env (eval o X.env) = eval o X.env := by rfl)
    (hfew : ((backTo cpos (starEach [e] X.env)).all (fun x => !x.1) && (backToKw cpos (keywordEach [] X.env)).all (fun x => x.1.isSome) && decide ([e].length + ([] : List Keyword).length + (if ([] : List Keyword).isEmpty then 0 else 1) < 30)) = true := by rfl)
    (hline : (apos.endLine == cpos.line) = true := by rfl) (hs : starEach [e] X.env = (false, eval e X.env) :: starEach [] X.env := by rfl) (hplain : (backTo cpos (starEach [] X.env)).any (·.1) = false := by rfl) :
    We X (.Call (.Attribute o "extend" apos) [e] [] cpos) σ H Q :=
  we_of (pe_bm PySem.F.plainAttrs_list PySem.F.slot_list_extend PySem.F.type_list_extend mt_extend We.pe (pa_cons We.pe pa_nil hs) hbase hfew hline hs hplain) (by
    refine ⟨fun pins s I => thn (h.run pins s I) fun u s1 ⟨v, H1, I1, r1, l, ev, ⟨xs, hl⟩, h2⟩ => ⟨v, H1, I1, r1, ?_, ?_⟩⟩
    · rw [ev]
      exact .inl ⟨rfl, xs, sqL hl⟩
    · refine ⟨fun pins s I => thn (h2.run pins s I) fun u s1 ⟨w, H2, I2, r2, b, xs, ys, ew, hl, hb, hz, h3⟩ => ⟨w, H2, I2, r2, ?_⟩⟩
      exact ⟨l, b, xs, ys, ev, by rw [ew], hl, hb, Nat.le_trans hz (by decide), h3 _ (.put hl) upd_same⟩)
end
/-- a list of pairs made longer by another one -/
theorem PL.ext {H H' : Hp} {p b : Addr} {ts us : List Addr} {ps qs : List (Int × Int)} (h : PL H p ps) (hq : PL H b qs) (hp : H p = some (.lst (ts.map V.ref))) (hb : H b = some (.lst (us.map V.ref))) (k : Kp [p] H H') (e : H' p = some (.lst (ts.map V.ref ++ us.map V.ref))) : PL H' p (ps ++ qs) := by
  obtain ⟨ts', e1, e2, e3⟩ := h.ex
  obtain ⟨us', f1, f2, f3⟩ := hq.ex
  have g1 : ts'.map V.ref = ts.map V.ref := HO.lst.inj (Option.some.inj (e1.symm.trans hp))
  have g2 : us'.map V.ref = us.map V.ref := HO.lst.inj (Option.some.inj (f1.symm.trans hb))
  refine ⟨ts' ++ us', by rw [e, List.map_append, g1, g2], by rw [List.length_append, List.length_append, e2, f2], fun j t hj => ?_⟩
  by_cases hlt : j < ts'.length
  · rw [List.getElem?_append_left hlt] at hj
    obtain ⟨q, c1, c2⟩ := e3 j t hj
    exact ⟨q, by rw [List.getElem?_append_left (by omega)]; exact c1, k.gT c2⟩
  · rw [List.getElem?_append_right (by omega)] at hj
    obtain ⟨q, c1, c2⟩ := f3 _ t hj
    exact ⟨q, by rw [List.getElem?_append_right (by omega), ← e2]; exact c1, k.gT c2⟩
end SL

/-! lists of tuples of any kind, more comprehensions -/
namespace SL
open PySem PySem.Spec PyProof.Rows L2

/-- at p a list of tuples, each told by a letter -/
structure RL {α : Type} (enc : α → List V) (H : Hp) (p : Addr) (xs : List α) : Prop where
  ex : ∃ ts : List Addr, H p = some (.lst (ts.map V.ref)) ∧ ts.length = xs.length ∧ ∀ (j : Nat) t, ts[j]? = some t → ∃ x, xs[j]? = some x ∧ H t = some (.tup (enc x))
section
variable {α : Type} {enc : α → List V} {M : List Addr} {H H' : Hp} {p t : Addr} {xs : List α} {x : α}
theorem RL.kp (h : RL enc H p xs) (k : Kp M H H') (n : p ∉ M) : RL enc H' p xs := by
  obtain ⟨ts, h1, h2, h3⟩ := h.ex
  refine ⟨ts, k.gM n h1, h2, fun j t hj => ?_⟩
  obtain ⟨q, e1, e2⟩ := h3 j t hj
  exact ⟨q, e1, k.gT e2⟩
theorem RL.kX (k : Kp M H H') (h : RL enc H p xs) (n : p ∉ M) : RL enc H' p xs := h.kp k n
theorem RL.th (h : RL enc H p xs) : Th H p := let ⟨ts, h1, _⟩ := h.ex; ⟨_, h1⟩
theorem RL.nil (h : H p = some (.lst [])) : RL enc H p [] := ⟨[], h, rfl, fun j t hj => by simp at hj⟩
theorem RL.app {ts : List Addr} (h : RL enc H p xs) (hp : H p = some (.lst (ts.map V.ref))) (ht : H t = some (.tup (enc x))) (k : Kp [p] H H') (e : H' p = some (.lst (ts.map V.ref ++ [.ref t]))) : RL enc H' p (xs ++ [x]) := by
  obtain ⟨us, h1, h2, h3⟩ := h.ex
  have eu : us.map V.ref = ts.map V.ref := HO.lst.inj (Option.some.inj (h1.symm.trans hp))
  refine ⟨us ++ [t], by rw [e, List.map_append, eu]; rfl, by rw [List.length_append, List.length_append, h2]; rfl, fun j u hj => ?_⟩
  by_cases hlt : j < us.length
  · rw [List.getElem?_append_left hlt] at hj
    obtain ⟨q', e1, e2⟩ := h3 j u hj
    exact ⟨q', by rw [List.getElem?_append_left (by omega)]; exact e1, k.gT e2⟩
  · have hj' := (List.getElem?_eq_some_iff.mp hj).1
    rw [List.length_append] at hj'
    have ej : j = us.length := by
      have : [t].length = 1 := rfl
      omega
    subst ej
    rw [List.getElem?_concat_length] at hj
    cases hj
    exact ⟨x, by rw [h2, List.getElem?_concat_length], k.gT ht⟩
theorem RL.get (h : RL enc H p xs) {vs : List V} (e : H p = some (.lst vs)) {j : Nat} {v : V} (hj : vs[j]? = some v) : ∃ t x, v = .ref t ∧ xs[j]? = some x ∧ H t = some (.tup (enc x)) := by
  obtain ⟨ts, e1, e2, e3⟩ := h.ex
  have := HO.lst.inj (Option.some.inj (e1.symm.trans e))
  subst this
  rw [List.getElem?_map] at hj
  obtain ⟨t, ht, rfl⟩ := Option.map_eq_some_iff.mp hj
  obtain ⟨q, g1, g2⟩ := e3 j t ht
  exact ⟨t, q, rfl, g1, g2⟩
theorem PL.rl {H : Hp} {p : Addr} {ps : List (Int × Int)} (h : PL H p ps) : RL (fun q : Int × Int => [.int q.1, .int q.2]) H p ps := ⟨h.ex⟩
theorem RL.pl {H : Hp} {p : Addr} {ps : List (Int × Int)} (h : RL (fun q : Int × Int => [.int q.1, .int q.2]) H p ps) : PL H p ps := ⟨h.ex⟩
end
def e3 : Int × Int × Int → List V := fun q => [.int q.1, .int q.2.1, .int q.2.2]
section
variable {X : Cx} {elt tg c a b : Expr} {scope : Scope} {vs : List Nat} {σ : L2.St} {R : VK} {q : Addr} {ns : List Int} {H : Hp} {ifs : List Expr} {p pos : Pos}
/-- [elt for x in xs if test], whole numbers -/
theorem lcd_filter (P : Int → Prop) [DecidablePred P] (g : Int → Int) (hS : SqL X.K H q (ns.map V.int)) (hl : ns.length ≤ 99999)
    (he : ∀ x ∈ ns, ∀ H1, Kp [] H H1 → Bl X scope fun Z => Wg Z tg (.int x) (wipe σ vs) H1 fun σ2 H2 => wipe σ2 vs = wipe σ vs ∧ Bl X scope fun Z => Wt Z c σ2 H2 fun k H3 => k = decide (P x) ∧ Kp [] H1 H3 ∧ Bl X scope fun Z => We Z elt σ2 H3 fun y H4 => y = .int (g x) ∧ Kp [] H3 H4)
    (hd : ∀ Dl H', H Dl = none → Kp [] H H' → H' Dl = some (.lst (((ns.filter fun x => decide (P x)).map g).map V.int)) → R (.ref Dl) H') :
    LcD X elt tg [c] scope vs σ R (ns.map V.int).length (fun H => SqL X.K H q (ns.map V.int)) (YAt (ns.map V.int)) H := by
  intro Dl H1 nD kD hD
  refine ⟨fun i H' => Kp [] H H' ∧ H' Dl = some (.lst ((((ns.take i).filter fun x => decide (P x)).map g).map V.int)), ⟨kD, hD⟩, fun i H' _ h => Kp.sqK hS h.1, ?_, ?_⟩
  · rintro i x H2 H3 hi ⟨k2, hD2⟩ ⟨rfl, hx⟩
    obtain ⟨v, hv, rfl⟩ := mapI_get hx
    intro s0 H0 C cl fp
    refine wg_mono (he v (List.mem_of_getElem? hv) _ k2 s0 H0 C cl fp) fun σ2 H4 ⟨e1, h2⟩ => ⟨e1, fun s0 H0 C cl fp => ?_⟩
    refine wts_one (wt_mono (h2 s0 H0 C cl fp) fun k H5 ⟨ek, k5, h3⟩ => ?_)
    subst ek
    have et : (ns.take (i + 1)).filter (fun x => decide (P x)) = (ns.take i).filter (fun x => decide (P x)) ++ [v].filter (fun x => decide (P x)) := by
      rw [List.take_succ, hv, List.filter_append]
      rfl
    by_cases hp : P v
    · rw [decide_eq_true hp]
      refine iteT fun s0 H0 C cl fp => we_mono (h3 s0 H0 C cl fp) fun y H6 ⟨ey, k6⟩ => ?_
      subst ey
      refine appI (k6.g0 (k5.g0 hD2)) (by
        rw [List.length_map]
        have h1 := List.length_filter_le (fun x => decide (P x)) (ns.take i)
        rw [List.length_take] at h1
        omega) fun H7 k7 hD7 => ⟨((k2.tr0 k5).tr0 k6).trN k7 nD, ?_⟩
      rw [hD7, et, List.filter_cons_of_pos (by exact decide_eq_true hp), List.filter_nil, List.map_append (l₂ := [v])]
      rfl
    · rw [decide_eq_false hp]
      refine iteF ⟨k2.tr0 k5, ?_⟩
      rw [et, List.filter_cons_of_neg (by rw [decide_eq_false hp]; decide), List.filter_nil, List.append_nil]
      exact k5.g0 hD2
  · rintro H2 ⟨k2, hD2⟩
    rw [List.length_map, List.take_length] at hD2
    exact hd Dl H2 nD k2 hD2
theorem lc_Z {elts : List Expr} {kk : Nat} {tpos : Pos} (hg : Gl X "zip") (hm : X.mg "zip" = none) (h : We X a σ H fun v H0 => We X b σ H0 fun w H1 => ∃ q r xs ys, v = .ref q ∧ w = .ref r ∧ SqL X.K H1 q xs ∧ SqL X.K H1 r ys ∧ LcD X elt (.Tuple elts kk tpos) ifs scope vs σ R (min xs.length ys.length) (fun H => SqL X.K H q xs ∧ SqL X.K H r ys) (YPair (fun i => xs[i]?) (fun i => ys[i]?)) H1)
    (he : starEach [a, b] X.env = (false, eval a X.env) :: starEach [b] X.env := by rfl) (hb : starEach [b] X.env = (false, eval b X.env) :: starEach [] X.env := by rfl) :
    Wit X (.Tuple elts kk tpos) (.Call (.Name "zip" p) [a, b] [] pos) σ H (LcW X elt (.Tuple elts kk tpos) ifs scope vs σ R) :=
  wit_zip hg hm (we_mono h fun _ _ h' => we_mono h' fun _ _ ⟨q, r, xs, ys, e1, e2, h1, h2, h3⟩ => ⟨q, r, xs, ys, e1, e2, h1, h2, lcd (walk_zip rfl) h3⟩) he hb
/-- the first, second, .. of a list of tuples -/
theorem lcd_tup {α : Type} {enc : α → List V} {xs : List α} {ts : List Addr} (g : α → Int) (hp : H q = some (.lst (ts.map V.ref))) (hR : RL enc H q xs) (hl : xs.length ≤ 99999)
    (he : ∀ x ∈ xs, ∀ t H1, Kp [] H H1 → H1 t = some (.tup (enc x)) → Bl X scope fun Z => Wg Z tg (.ref t) (wipe σ vs) H1 fun σ2 H2 => wipe σ2 vs = wipe σ vs ∧ Bl X scope fun Z => We Z elt σ2 H2 fun y H3 => y = .int (g x) ∧ Kp [] H1 H3)
    (hd : ∀ Dl H', H Dl = none → Kp [] H H' → H' Dl = some (.lst ((xs.map g).map V.int)) → R (.ref Dl) H') :
    LcD X elt tg [] scope vs σ R (ts.map V.ref).length (fun H => SqL X.K H q (ts.map V.ref)) (YAt (ts.map V.ref)) H := by
  obtain ⟨us, f1, f2, f3⟩ := hR.ex
  have eu : us.map V.ref = ts.map V.ref := HO.lst.inj (Option.some.inj (f1.symm.trans hp))
  have elen : (ts.map V.ref).length = xs.length := by rw [← eu, List.length_map, f2]
  intro Dl H1 nD kD hD
  refine ⟨fun i H' => Kp [] H H' ∧ H' Dl = some (.lst (((xs.take i).map g).map V.int)), ⟨kD, hD⟩, fun i H' _ h => sqL (h.1.g0 hp), ?_, ?_⟩
  · rintro i v H2 H3 hi ⟨k2, hD2⟩ ⟨rfl, hx⟩
    obtain ⟨t, x, rfl, g1, g2⟩ := hR.get hp hx
    intro s0 H0 C cl fp
    refine wg_mono (he x (List.mem_of_getElem? g1) t _ k2 (k2.g0 g2) s0 H0 C cl fp) fun σ2 H4 ⟨e1, h2⟩ => ⟨e1, fun s0 H0 C cl fp => ?_⟩
    refine wts_nil (iteT fun s0 H0 C cl fp => we_mono (h2 s0 H0 C cl fp) fun y H5 ⟨ey, k5⟩ => ?_)
    subst ey
    refine appI (k5.g0 hD2) (by rw [List.length_map, List.length_take]; omega) fun H6 k6 hD6 => ⟨(k2.tr0 k5).trN k6 nD, ?_⟩
    have et : (xs.take (i + 1)).map g = (xs.take i).map g ++ [g x] := by
      rw [List.take_succ, g1, List.map_append]
      rfl
    rw [hD6, et]
  · rintro H2 ⟨k2, hD2⟩
    rw [elen, List.take_length] at hD2
    exact hd Dl H2 nD k2 hD2
end
theorem x_headI {X : Cx} {H : Hp} {Q : VK} {p : Addr} {x : Int} {xs : List Int} (h1 : H p = some (.lst ((x :: xs).map V.int))) (h : Q (.int x) H) : Ixw X (.ref p) (.int 0) H Q := x_lst (sqL h1) (atI_of (by omega) rfl) h
end SL

/-! min, max of lists of triples; tuples compared -/
namespace SL
open PySem PySem.Spec PyProof.Rows L2
open PySem.W (keyToksAll dataLt dataLt_tuple dataLt_int dataLt_all_yes dataLt_all_no alike alikeAll AlikeAll minD maxD)

def d3 (x : Int × Int × Int) : PyData := .tuple [.int x.1, .int x.2.1, .int x.2.2]
/-- the order of triples -/
def lt3 (x y : Int × Int × Int) : Prop := x.1 < y.1 ∨ (x.1 = y.1 ∧ (x.2.1 < y.2.1 ∨ (x.2.1 = y.2.1 ∧ x.2.2 < y.2.2)))
instance (x y : Int × Int × Int) : Decidable (lt3 x y) := by unfold lt3; exact inferInstance
theorem eqv_int (a b : Int) : PyData.eqv (.int a) (.int b) = decide (a = b) := by
  simp only [PyData.eqv]
  by_cases h : a = b
  · simp [h]
  · simp [h]
theorem lexAll_int (a b : Int) (xs ys : List PyData) : PyProof.Rows.lexLt itemOrd (keyToksAll (.int a :: xs)) (keyToksAll (.int b :: ys)) = if a = b then PyProof.Rows.lexLt itemOrd (keyToksAll xs) (keyToksAll ys) else decide (a < b) := by
  by_cases e : a = b
  · rw [if_pos e, dataLt_all_yes rfl (by rw [eqv_int]; exact decide_eq_true e)]
  · rw [if_neg e, dataLt_all_no rfl (by rw [eqv_int]; exact decide_eq_false e), dataLt_int]
theorem dataLt_t3 (x y : Int × Int × Int) : dataLt (d3 x) (d3 y) = decide (lt3 x y) := by
  obtain ⟨a, b, c⟩ := x
  obtain ⟨a', b', c'⟩ := y
  unfold d3 lt3
  rw [dataLt_tuple, lexAll_int, lexAll_int, lexAll_int]
  have e0 : PyProof.Rows.lexLt itemOrd (keyToksAll []) (keyToksAll []) = false := rfl
  rw [e0]
  dsimp only
  by_cases h1 : a = a'
  · rw [if_pos h1]
    by_cases h2 : b = b'
    · rw [if_pos h2]
      by_cases h3 : c = c'
      · rw [if_pos h3]; exact (decide_eq_false (by omega)).symm
      · rw [if_neg h3]
        exact decide_eq_decide.mpr (by omega)
    · rw [if_neg h2]
      exact decide_eq_decide.mpr (by omega)
  · rw [if_neg h1]
    exact decide_eq_decide.mpr (by omega)
theorem dpAll_t3 {K : PySem.W.Frag} {H : Hp} : ∀ {ts : List Addr} {xs : List (Int × Int × Int)}, ts.length = xs.length → (∀ (j : Nat) t, ts[j]? = some t → ∃ q, xs[j]? = some q ∧ H t = some (.tup (e3 q))) → DpAll K H (ts.map V.ref) (xs.map d3)
  | [], [], _, _ => .nil
  | t :: ts, p :: ps, hl, h => by
    obtain ⟨q, e1, e2⟩ := h 0 t rfl
    have e1' : p = q := by simpa using e1
    subst e1'
    exact .cons (.tup (sqT e2) (.cons (.int _) (.cons (.int _) (.cons (.int _) .nil)))) (dpAll_t3 (Nat.succ.inj hl) fun j u hj => h (j + 1) u hj)
  | [], _ :: _, hl, _ => by cases hl
  | _ :: _, [], hl, _ => by cases hl
theorem alike_t3 (xs : List (Int × Int × Int)) : AlikeAll (xs.map d3) := by
  refine ⟨fun x hx y hy => ?_, fun x hx => ?_⟩
  · obtain ⟨a, _, rfl⟩ := List.mem_map.mp hx
    obtain ⟨b, _, rfl⟩ := List.mem_map.mp hy
    rfl
  · obtain ⟨a, _, rfl⟩ := List.mem_map.mp hx
    intro z
    cases z
theorem depth_t3 : ∀ xs : List (Int × Int × Int), PyData.depthAll (xs.map d3) ≤ 1
  | [] => Nat.zero_le _
  | x :: xs => by
    show max (PyData.depth (d3 x)) (PyData.depthAll (xs.map d3)) ≤ 1
    exact Nat.max_le.mpr ⟨Nat.le_refl 1, depth_t3 xs⟩
/-- the first of the least, the first of the greatest -/
def min3 (x : Int × Int × Int) (xs : List (Int × Int × Int)) : Int × Int × Int := xs.foldl (fun a y => if lt3 y a then y else a) x
def max3 (x : Int × Int × Int) (xs : List (Int × Int × Int)) : Int × Int × Int := xs.foldl (fun a y => if lt3 a y then y else a) x
theorem minD_t3 : ∀ (xs : List (Int × Int × Int)) (x : Int × Int × Int), minD (d3 x) (xs.map d3) = d3 (min3 x xs)
  | [], _ => rfl
  | y :: xs, x => by
    show minD (if dataLt (d3 y) (d3 x) = true then d3 y else d3 x) (xs.map d3) = d3 (min3 (if lt3 y x then y else x) xs)
    rw [dataLt_t3]
    by_cases h : lt3 y x
    · rw [if_pos (decide_eq_true h), if_pos h]; exact minD_t3 xs y
    · rw [if_neg (by rw [decide_eq_false h]; decide), if_neg h]; exact minD_t3 xs x
theorem maxD_t3 : ∀ (xs : List (Int × Int × Int)) (x : Int × Int × Int), maxD (d3 x) (xs.map d3) = d3 (max3 x xs)
  | [], _ => rfl
  | y :: xs, x => by
    show maxD (if dataLt (d3 x) (d3 y) = true then d3 y else d3 x) (xs.map d3) = d3 (max3 (if lt3 x y then y else x) xs)
    rw [dataLt_t3]
    by_cases h : lt3 x y
    · rw [if_pos (decide_eq_true h), if_pos h]; exact maxD_t3 xs y
    · rw [if_neg (by rw [decide_eq_false h]; decide), if_neg h]; exact maxD_t3 xs x
section
variable {X : Cx} {H : Hp} {Q : VK} {p : Addr} {x : Int × Int × Int} {xs : List (Int × Int × Int)} {k : Nat}
/-- what is read of a triple's address -/
theorem read_t3 {pins : List (Addr × Obj)} {σ : L2.St} {s : Shared} {h' : Heap} {xs : List (Int × Int × Int)} {ts : List Addr} {its : List Value} {i : Nat} {v : Value} {bs : List Addr} {m : Int × Int × Int} (I : Inv X pins σ H s) (hlt : ts.length = xs.length) (ht : ∀ (j : Nat) t, ts[j]? = some t → ∃ q, xs[j]? = some q ∧ H t = some (.tup (e3 q)))
    (rv : Vals (ts.map V.ref) its) (hi : its[i]? = some v) (hr : Reads h' v (d3 m) bs) (hk : ∀ b o, s.heap.get? b = some o → h'.get? b = some o) : ∃ t, v = .ref t ∧ H t = some (.tup (e3 m)) := by
  have hl := rv.length
  have hit : i < ts.length := by
    have := (List.getElem?_eq_some_iff.mp hi).1
    rw [List.length_map] at hl
    omega
  obtain ⟨q, hq, hH⟩ := ht i ts[i] (List.getElem?_eq_getElem hit)
  have hx : (ts.map V.ref)[i]? = some (V.ref ts[i]) := by rw [List.getElem?_map, List.getElem?_eq_getElem hit]; rfl
  obtain ⟨u, hu, ru⟩ := rv.get hx
  rw [hi] at hu
  cases hu
  cases ru
  have hD : Dp X.K H (.ref ts[i]) (d3 q) := .tup (sqT hH) (.cons (.int _) (.cons (.int _) (.cons (.int _) .nil)))
  obtain ⟨cs, r2⟩ := Dp.reads I _ _ _ hD rfl
  have e := (PyProof.Rows.reads_det (h := s.heap) (h' := h') (fun b o e _ => hk b o e) r2 hr).1
  have e2 : m = q := by
    obtain ⟨m1, m2, m3⟩ := m
    obtain ⟨q1, q2, q3⟩ := q
    simp only [d3, PyData.tuple.injEq, List.cons.injEq, PyData.int.injEq, and_true] at e
    obtain ⟨rfl, rfl, rfl⟩ := e
    rfl
  exact ⟨ts[i], rfl, by rw [e2]; exact hH⟩
/-- min of a list of triples: one of them -/
theorem k_min3 (hc : X.calm = true) (hr : Room k X.A) (h1 : RL e3 H p (x :: xs)) (h : ∀ t, H t = some (.tup (e3 (min3 x xs))) → Q (.ref t) H) : Cal X (.builtin "min") [.ref p] H Q := by
  refine ⟨fun vs H Q => vs = [.ref p] ∧ RL e3 H p (x :: xs) ∧ ∀ t, H t = some (.tup (e3 (min3 x xs))) → Q (.ref t) H, ?_, rfl, h1, h⟩
  intro pins s σ H vs us Q I r h
  obtain ⟨rfl, hR, q⟩ := h
  rw [Vals.ref1 r]
  obtain ⟨ts, e1, e2, e3'⟩ := hR.ex
  obtain ⟨its, rv, pl, hz⟩ := I.list (sqL e1)
  obtain ⟨as, hra⟩ := Dp.readsAll I ((x :: xs).map d3) _ its (dpAll_t3 e2 e3') rv
  have hu := hr.units
  have hd : PyData.depthAll (d3 x :: xs.map d3) ≤ 1 := depth_t3 (x :: xs)
  refine PySem.W.min_list_data (I.ok.hd hc) pl.isList (by simpa using hra) (alike_t3 (x :: xs)) (by omega) fun i v h' tk bs hi hR hk => ?_
  rw [minD_t3] at hR
  obtain ⟨t, rfl, hH⟩ := read_t3 I e2 e3' rv (by simpa using hi) hR hk
  exact ⟨.ref t, H, I.kept hk, rfl, q t hH⟩
theorem k_max3 (hc : X.calm = true) (hr : Room k X.A) (h1 : RL e3 H p (x :: xs)) (h : ∀ t, H t = some (.tup (e3 (max3 x xs))) → Q (.ref t) H) : Cal X (.builtin "max") [.ref p] H Q := by
  refine ⟨fun vs H Q => vs = [.ref p] ∧ RL e3 H p (x :: xs) ∧ ∀ t, H t = some (.tup (e3 (max3 x xs))) → Q (.ref t) H, ?_, rfl, h1, h⟩
  intro pins s σ H vs us Q I r h
  obtain ⟨rfl, hR, q⟩ := h
  rw [Vals.ref1 r]
  obtain ⟨ts, e1, e2, e3'⟩ := hR.ex
  obtain ⟨its, rv, pl, hz⟩ := I.list (sqL e1)
  obtain ⟨as, hra⟩ := Dp.readsAll I ((x :: xs).map d3) _ its (dpAll_t3 e2 e3') rv
  have hu := hr.units
  have hd : PyData.depthAll (d3 x :: xs.map d3) ≤ 1 := depth_t3 (x :: xs)
  refine PySem.W.max_list_data (I.ok.hd hc) pl.isList (by simpa using hra) (alike_t3 (x :: xs)) (by omega) fun i v h' tk bs hi hR hk => ?_
  rw [maxD_t3] at hR
  obtain ⟨t, rfl, hH⟩ := read_t3 I e2 e3' rv (by simpa using hi) hR hk
  exact ⟨.ref t, H, I.kept hk, rfl, q t hH⟩
end
section
variable {X : Cx} {H : Hp} {Q : VK} {p q : Addr} {ns ms : List Int} {k : Nat}
/-- tuples of whole numbers compared -/
theorem dp_tup (h : SqT X.K H p (ns.map V.int)) : Dp X.K H (.ref p) (.tuple (ns.map PyData.int)) := .tup h (dpAll_ints ns)
theorem eqv_tups (ns ms : List Int) : PyData.eqv (.tuple (ns.map PyData.int)) (.tuple (ms.map PyData.int)) = decide (ns = ms) := by
  rw [← eqvAll_ints]
  simp [PyData.eqv]
theorem shaped_tups (ns : List Int) : SeqAt.shaped (.tuple (ns.map PyData.int)) = true := by
  have := shaped_ints ns
  simp only [dI, SeqAt.shaped] at this ⊢
  exact this
theorem c_eqT (hr : Room k X.A) (h1 : SqT X.K H p (ns.map V.int)) (h2 : SqT X.K H q (ms.map V.int)) (h : Q (.bl (decide (ns = ms))) H) : Cmp X .Eq (.ref p) (.ref q) H Q := c_eqD hr (dp_tup h1) (dp_tup h2) (shaped_tups _) (shaped_tups _) (by rw [eqv_tups]; exact h)
theorem c_neT (hr : Room k X.A) (h1 : SqT X.K H p (ns.map V.int)) (h2 : SqT X.K H q (ms.map V.int)) (h : Q (.bl (!decide (ns = ms))) H) : Cmp X .NotEq (.ref p) (.ref q) H Q := c_neD hr (dp_tup h1) (dp_tup h2) (shaped_tups _) (shaped_tups _) (by rw [eqv_tups]; exact h)
theorem c_ltT (hr : Room k X.A) (h1 : SqT X.K H p (ns.map V.int)) (h2 : SqT X.K H q (ms.map V.int)) (h : Q (.bl (HT.lexLt ns ms)) H) : Cmp X .Lt (.ref p) (.ref q) H Q := ⟨_, op_ltT (by have := hr.units; omega), p, q, ns, ms, rfl, rfl, h1, h2, h⟩
theorem lex3 (x y : Int × Int × Int) : HT.lexLt [x.1, x.2.1, x.2.2] [y.1, y.2.1, y.2.2] = decide (lt3 x y) := by
  obtain ⟨a, b, c⟩ := x
  obtain ⟨d, e, f⟩ := y
  show (if a = d then (if b = e then (if c = f then false else decide (c < f)) else decide (b < e)) else decide (a < d)) = decide (lt3 (a, b, c) (d, e, f))
  unfold lt3
  by_cases h1 : a = d
  · rw [if_pos h1]
    by_cases h2 : b = e
    · rw [if_pos h2]
      by_cases h3 : c = f
      · rw [if_pos h3]
        exact (decide_eq_false (by dsimp only; omega)).symm
      · rw [if_neg h3]
        exact decide_eq_decide.mpr (by dsimp only; omega)
    · rw [if_neg h2]
      exact decide_eq_decide.mpr (by dsimp only; omega)
  · rw [if_neg h1]
    exact decide_eq_decide.mpr (by dsimp only; omega)
theorem c_lt3 {x y : Int × Int × Int} (hr : Room k X.A) (h1 : H p = some (.tup (e3 x))) (h2 : H q = some (.tup (e3 y))) (h : Q (.bl (decide (lt3 x y))) H) : Cmp X .Lt (.ref p) (.ref q) H Q :=
  c_ltT (ns := [x.1, x.2.1, x.2.2]) (ms := [y.1, y.2.1, y.2.2]) hr (sqT h1) (sqT h2) (by rw [lex3]; exact h)
theorem tup2 {o : Hp} {a b : Int} (h : o p = some (.tup [.int a, .int b])) : o p = some (.tup ([a, b].map V.int)) := h
theorem tup3 {o : Hp} {a b c : Int} (h : o p = some (.tup [.int a, .int b, .int c])) : o p = some (.tup ([a, b, c].map V.int)) := h
theorem k_isiTu {n : String} {b : Bool} {xs : List V} (h1 : H p = some (.tup xs)) (hk : kitB "tuple" n = some b) (h : Q (.bl b) H) : Cal X (.builtin "isinstance") [.ref p, .ty n] H Q := k_isiT h1 hk h
theorem it_tup : kitB "tuple" "tuple" = some true := by decide +kernel
end
end SL

/-! lists of tuples: slices, reversed, filtered, mapped, walked; range downwards -/
namespace SL
open PySem PySem.Spec PyProof.Rows L2
section
variable {X : Cx} {σ : L2.St} {H : Hp} {Q : VK} {D : Ends} {a b c e it tg elt : Expr} {ifs : List Expr} {pos p : Pos} {body : List Stmt} {R : It → Hp → Prop}
/-- range(a, b, -1) -/
theorem wit_down (hg : Gl X "range") (hm : X.mg "range" = none) (h : We X a σ H fun v H1 => We X b σ H1 fun w H2 => We X c σ H2 fun u H3 => ∃ i j : Int, v = .int i ∧ w = .int j ∧ u = .int (-1) ∧ (-100000 ≤ i ∧ i ≤ 100000 ∧ -100000 ≤ j ∧ j ≤ 100000) ∧ R (Itc i (-1) (i - j).toNat) H3)
    (he : starEach [a, b, c] X.env = (false, eval a X.env) :: starEach [b, c] X.env := by rfl) (hb : starEach [b, c] X.env = (false, eval b X.env) :: starEach [c] X.env := by rfl) (hc : starEach [c] X.env = (false, eval c X.env) :: starEach [] X.env := by rfl) : Wit X tg (.Call (.Name "range" p) [a, b, c] [] pos) σ H R :=
  wit_of (pi_range3 hg hm (pa_cons We.pe (pa_cons We.pe (pa_cons We.pe pa_nil hc) hb) he) he (by rw [hb, hc]; rfl)) (by
    refine ⟨fun pins s I => thn (h.run pins s I) fun u s1 ⟨v, H1, I1, r1, h2⟩ => ⟨v, H1, I1, r1, ⟨fun pins s I => thn (h2.run pins s I) fun u s1 ⟨w, H2, I2, r2, h3⟩ => ⟨w, H2, I2, r2, ⟨fun pins s I => thn (h3.run pins s I) fun u s1 ⟨z, H3, I3, r3, i, j, e1, e2, e3, h3, h4⟩ => ⟨z, H3, I3, r3, i, j, -1, (i - j).toNat, ?_, ?_, h4⟩⟩⟩⟩⟩⟩
    · rw [e1, e2, e3]
    · exact RgC.neg (by omega) (by omega) (by omega) (by omega))
theorem ws_forD (hg : Gl X "range") (hm : X.mg "range" = none) (h : We X a σ H fun v H1 => We X b σ H1 fun w H2 => We X c σ H2 fun u H3 => ∃ lo hi : Int, v = .int lo ∧ w = .int hi ∧ u = .int (-1) ∧ (-100000 ≤ lo ∧ lo ≤ 100000 ∧ -100000 ≤ hi ∧ hi ≤ 100000) ∧ ∃ Pv : Nat → L2.St → Hp → Prop, Pv 0 σ H3 ∧
      (∀ (i : Nat) σ' H', (i : Int) < lo - hi → Pv i σ' H' → Wg X tg (.int (lo - (i : Int))) σ' H' (Body X body D Pv i)) ∧ ∀ σ' H', Pv (lo - hi).toNat σ' H' → D.nx σ' H')
    (hp : PassesOwn (model X.prog X.w) X.A X.env X.xe) (hcl : X.calm = true) (he : starEach [a, b, c] X.env = (false, eval a X.env) :: starEach [b, c] X.env := by rfl) (hb : starEach [b, c] X.env = (false, eval b X.env) :: starEach [c] X.env := by rfl) (hc : starEach [c] X.env = (false, eval c X.env) :: starEach [] X.env := by rfl)
    (hs : ∀ x, foldedSetIterable (.Call (.Name "range" p) [a, b, c] [] pos) X.env x = pure x := by intro _; rfl) {pos2 : Pos} : Ws X (.For tg (.Call (.Name "range" p) [a, b, c] [] pos) body [] pos2) D σ H :=
  ws_for (wit_down hg hm (we_mono h fun _ _ h' => we_mono h' fun _ _ h'' => we_mono h'' fun _ _ ⟨lo, hi, e1, e2, e3, h1, Pv, h0, ht, hd⟩ => ⟨lo, hi, e1, e2, e3, h1, (lo - hi).toNat, _, _, walk_rangeC, Pv, h0, fun _ _ _ _ _ => trivial, fun i x σ' H' H'' hi hP hY => by
    obtain ⟨rfl, rfl⟩ := hY
    show Wg X tg (.int (lo + (i : Int) * -1)) σ' _ _
    rw [show lo + (i : Int) * -1 = lo - (i : Int) from by omega]
    exact ht i σ' _ (by omega) hP, hd⟩) he hb hc) hp hcl hs
end
/-! ### slices of any list -/
def cutG {α : Type} (xs : List α) (lo hi : Option Int) : List α := (xs.drop (HT.sIx xs.length 0 lo)).take (HT.sIx xs.length xs.length hi - HT.sIx xs.length 0 lo)
theorem cutG_I (ns : List Int) (lo hi : Option Int) : cutG ns lo hi = cutI ns lo hi := rfl
theorem cutG_map {α β : Type} (g : α → β) (xs : List α) (lo hi : Option Int) : (cutG xs lo hi).map g = cutG (xs.map g) lo hi := by
  unfold cutG
  rw [List.length_map, List.map_take, List.map_drop]
theorem cutV_G (xs : List V) (lo hi : Option Int) : cutV xs lo hi = cutG xs lo hi := rfl
theorem cutG_get {α : Type} {xs : List α} {lo hi : Option Int} {j : Nat} {x : α} (h : (cutG xs lo hi)[j]? = some x) : xs[HT.sIx xs.length 0 lo + j]? = some x := by
  unfold cutG at h
  rw [List.getElem?_take] at h
  split at h
  · rw [List.getElem?_drop] at h
    exact h
  · cases h
theorem cutG_of {α β : Type} {xs : List α} {ys : List β} {lo hi : Option Int} {j : Nat} {x : α} {y : β} (hl : xs.length = ys.length) (h : (cutG xs lo hi)[j]? = some x) (hy : ys[HT.sIx xs.length 0 lo + j]? = some y) : (cutG ys lo hi)[j]? = some y := by
  unfold cutG at h ⊢
  rw [List.getElem?_take] at h ⊢
  rw [← hl]
  split at h
  · rename_i h1
    rw [if_pos h1, List.getElem?_drop]
    exact hy
  · cases h
theorem cutG_to {α : Type} (xs : List α) (n : Int) (h : 0 ≤ n) : cutG xs none (some n) = xs.take n.toNat := by
  have hl : ((List.range xs.length).map Int.ofNat).length = xs.length := by simp
  have e := cutI_to ((List.range xs.length).map Int.ofNat) n h
  unfold cutI at e
  unfold cutG
  rw [hl] at e
  have e2 := congrArg List.length e
  rw [List.length_take, List.length_drop, List.length_take, hl] at e2
  have e0 : HT.sIx xs.length 0 none = 0 := rfl
  rw [e0] at e2 ⊢
  rw [List.drop_zero, Nat.sub_zero] at *
  apply List.ext_getElem?
  intro i
  rw [List.getElem?_take, List.getElem?_take]
  by_cases h1 : i < xs.length
  · by_cases h2 : i < n.toNat
    · rw [if_pos h2, if_pos (by omega)]
    · rw [if_neg h2, if_neg (by omega)]
  · rw [List.getElem?_eq_none (by omega)]
    split <;> split <;> rfl
section
variable {α : Type} {enc : α → List V} {X : Cx} {σ : L2.St} {H : Hp} {Q : VK} {p : Addr} {xs : List α} {lo hi : Option Int} {e : Expr} {pos p1 p2 p3 : Pos} {k : Nat} {i : Int}
theorem x_slR (h1 : RL enc H p xs) (h : ∀ q H', H q = none → Kp [] H H' → RL enc H' q (cutG xs lo hi) → Q (.ref q) H') : Slw X (.ref p) lo hi H Q := by
  obtain ⟨ts, e1, e2, e3⟩ := h1.ex
  refine x_sl (sqL e1) fun q H' n k e => h q H' n k ⟨cutG ts lo hi, by rw [e, cutV_G, ← cutG_map], ?_, fun j t hj => ?_⟩
  · unfold cutG
    rw [List.length_take, List.length_drop, List.length_take, List.length_drop, e2]
  · obtain ⟨x, f1, f2⟩ := e3 _ t (cutG_get hj)
    exact ⟨x, cutG_of e2 hj f1, k.g0 f2⟩
theorem we_revR (h : We X e σ H fun x H1 => ∃ a, x = .ref a ∧ ∃ xs : List α, RL enc H1 a xs ∧ ∀ p H', H1 p = none → Kp [] H1 H' → RL enc H' p xs.reverse → Q (.ref p) H') :
    We X (.Subscript e (.Slice none none (some (.UnaryOp .USub (.Constant (.int 1) k p1) p2)) p3) pos) σ H Q :=
  we_revK (we_mono h fun _ _ ⟨a, e1, xs, h1, h2⟩ => by
    obtain ⟨ts, f1, f2, f3⟩ := h1.ex
    refine ⟨a, ts.map V.ref, e1, sqL f1, fun p H' n kk e => h2 p H' n kk ⟨ts.reverse, by rw [e, List.map_reverse], by rw [List.length_reverse, List.length_reverse, f2], fun j t hj => ?_⟩⟩
    have hjl : j < ts.length := by
      have := (List.getElem?_eq_some_iff.mp hj).1
      rwa [List.length_reverse] at this
    rw [List.getElem?_reverse hjl] at hj
    obtain ⟨x, g1, g2⟩ := f3 _ t hj
    refine ⟨x, ?_, kk.g0 g2⟩
    rw [List.getElem?_reverse (by omega), ← f2]
    exact g1)
theorem k_lenR (h1 : RL enc H p xs) (h : Q (.int (xs.length : Int)) H) : Cal X (.builtin "len") [.ref p] H Q := by
  obtain ⟨ts, e1, e2, _⟩ := h1.ex
  exact k_len (sqL e1) (by rw [List.length_map, e2]; exact h)
theorem k_listR (h1 : RL enc H p xs) (h : ∀ p' H', H p' = none → Kp [] H H' → RL enc H' p' xs → Q (.ref p') H') : Cal X (.type "list") [.ref p] H Q := by
  obtain ⟨ts, e1, e2, e3⟩ := h1.ex
  exact k_list (.inl (sqL e1)) fun p' H' n k e => h p' H' n k ⟨ts, e, e2, fun j t hj => let ⟨x, f1, f2⟩ := e3 j t hj; ⟨x, f1, k.g0 f2⟩⟩
/-- an item, a tuple -/
theorem x_itemR (h1 : RL enc H p xs) (h0 : 0 ≤ i) (h2 : i < xs.length) (h : ∀ t x, xs[i.toNat]? = some x → H t = some (.tup (enc x)) → Q (.ref t) H) : Ixw X (.ref p) (.int i) H Q := by
  obtain ⟨ts, e1, e2, e3⟩ := h1.ex
  have hil : i.toNat < ts.length := by omega
  obtain ⟨x, f1, f2⟩ := e3 _ _ (List.getElem?_eq_getElem hil)
  exact x_lst (sqL e1) (atI_of h0 (by rw [List.getElem?_map, List.getElem?_eq_getElem hil]; rfl)) (h _ x f1 f2)
theorem b_catR {l b : Addr} {ys : List α} (h1 : RL enc H l xs) (h2 : RL enc H b ys) (hz : xs.length + ys.length ≤ 100000) (h : ∀ p H', H p = none → Kp [] H H' → RL enc H' p (xs ++ ys) → Q (.ref p) H') : Bin X .Add (.ref l) (.ref b) H Q := by
  obtain ⟨ts, e1, e2, e3⟩ := h1.ex
  obtain ⟨us, f1, f2, f3⟩ := h2.ex
  refine b_cat e1 f1 (by rw [List.length_map, List.length_map]; omega) fun p H' n k e => h p H' n k ⟨ts ++ us, by rw [e, List.map_append], by rw [List.length_append, List.length_append, e2, f2], fun j t hj => ?_⟩
  by_cases hjl : j < ts.length
  · rw [List.getElem?_append_left hjl] at hj
    obtain ⟨x, g1, g2⟩ := e3 j t hj
    exact ⟨x, by rw [List.getElem?_append_left (by omega)]; exact g1, k.g0 g2⟩
  · rw [List.getElem?_append_right (by omega)] at hj
    obtain ⟨x, g1, g2⟩ := f3 _ t hj
    exact ⟨x, by rw [List.getElem?_append_right (by omega), ← e2]; exact g1, k.g0 g2⟩
theorem RL.l1 {a : Addr} {x : α} (h : H p = some (.lst [.ref a])) (h1 : H a = some (.tup (enc x))) : RL enc H p [x] := ⟨[a], h, rfl, fun j t hj => by
  cases j with
  | zero => cases hj; exact ⟨_, rfl, h1⟩
  | succ j => simp at hj⟩
end
/-- all is as it was but where q is not -/
def KpE (q : Addr) (H H' : Hp) : Prop := ∃ M, Kp M H H' ∧ q ∉ M
theorem KpE.of0 {q : Addr} {H H' : Hp} (k : Kp [] H H') : KpE q H H' := ⟨[], k, by simp⟩
theorem KpE.of1 {q p : Addr} {H H' : Hp} (k : Kp [p] H H') (n : q ≠ p) : KpE q H H' := ⟨[p], k, by simp [n]⟩
section
variable {α : Type} {enc : α → List V} {X : Cx} {σ : L2.St} {H : Hp} {Q : VK} {D : Ends} {it tg elt c : Expr} {pos : Pos} {body : List Stmt}
/-- a for over a list of tuples -/
theorem ws_forT (enc : α → List V) (h : We X it σ H fun v H1 => ∃ q xs, v = .ref q ∧ RL enc H1 q xs ∧ ∃ Pv : Nat → L2.St → Hp → Prop, Pv 0 σ H1 ∧ (∀ i σ' H', i ≤ xs.length → Pv i σ' H' → KpE q H1 H') ∧
      (∀ i x t σ' H', xs[i]? = some x → H' t = some (.tup (enc x)) → Pv i σ' H' → Wg X tg (.ref t) σ' H' (Body X body D Pv i)) ∧ ∀ σ' H', Pv xs.length σ' H' → D.nx σ' H')
    (hp : PassesOwn (model X.prog X.w) X.A X.env X.xe) (hc : X.calm = true) (hs : ∀ x, foldedSetIterable it X.env x = pure x := by intro _; rfl) : Ws X (.For tg it body [] pos) D σ H :=
  ws_forL (we_mono h fun v H1 ⟨q, xs, e1, hR, Pv, h0, hk, ht, hd⟩ => by
    obtain ⟨ts, f1, f2, f3⟩ := hR.ex
    have hl : (ts.map V.ref).length = xs.length := by rw [List.length_map, f2]
    refine ⟨q, ts.map V.ref, e1, sqL f1, Pv, h0, fun i σ' H' hi hP => ?_, fun i x σ' H' hx hP => ?_, fun σ' H' hP => hd σ' H' (by rw [← hl]; exact hP)⟩
    · obtain ⟨M, k, n⟩ := hk i σ' H' (by omega) hP
      exact sqL (k.gM n f1)
    · obtain ⟨t, y, rfl, g1, g2⟩ := hR.get f1 hx
      have hil : i < xs.length := (List.getElem?_eq_some_iff.mp g1).1
      obtain ⟨M, k, n⟩ := hk i σ' H' (by omega) hP
      exact ht i y t σ' H' g1 (k.gT g2) hP) hp hc hs
variable {scope : Scope} {vs : List Nat} {R : VK} {q : Addr} {xs : List α} {ts : List Addr}
/-- [t for t in ts if test], tuples -/
theorem lcd_selR (P : α → Prop) [DecidablePred P] (hp : H q = some (.lst (ts.map V.ref))) (hR : RL enc H q xs) (hl : xs.length ≤ 99999)
    (he : ∀ x ∈ xs, ∀ t H1, Kp [] H H1 → H1 t = some (.tup (enc x)) → Bl X scope fun Z => Wg Z tg (.ref t) (wipe σ vs) H1 fun σ2 H2 => wipe σ2 vs = wipe σ vs ∧ Bl X scope fun Z => Wt Z c σ2 H2 fun k H3 => k = decide (P x) ∧ Kp [] H1 H3 ∧ Bl X scope fun Z => We Z elt σ2 H3 fun y H4 => y = .ref t ∧ Kp [] H3 H4)
    (hd : ∀ Dl H', H Dl = none → Kp [] H H' → RL enc H' Dl (xs.filter fun x => decide (P x)) → R (.ref Dl) H') :
    LcD X elt tg [c] scope vs σ R (ts.map V.ref).length (fun H => SqL X.K H q (ts.map V.ref)) (YAt (ts.map V.ref)) H := by
  obtain ⟨us, f1, f2, f3⟩ := hR.ex
  have eu : us.map V.ref = ts.map V.ref := HO.lst.inj (Option.some.inj (f1.symm.trans hp))
  have elen : (ts.map V.ref).length = xs.length := by rw [← eu, List.length_map, f2]
  intro Dl H1 nD kD hD
  refine ⟨fun i H' => Kp [] H H' ∧ RL enc H' Dl ((xs.take i).filter fun x => decide (P x)), ⟨kD, .nil hD⟩, fun i H' _ h => sqL (h.1.g0 hp), ?_, ?_⟩
  · rintro i v H2 H3 hi ⟨k2, hD2⟩ ⟨rfl, hx⟩
    obtain ⟨t, x, rfl, g1, g2⟩ := hR.get hp hx
    intro s0 H0 C cl fp
    refine wg_mono (he x (List.mem_of_getElem? g1) t _ k2 (k2.g0 g2) s0 H0 C cl fp) fun σ2 H4 ⟨e1, h2⟩ => ⟨e1, fun s0 H0 C cl fp => ?_⟩
    refine wts_one (wt_mono (h2 s0 H0 C cl fp) fun k H5 ⟨ek, k5, h3⟩ => ?_)
    subst ek
    have et : (xs.take (i + 1)).filter (fun x => decide (P x)) = (xs.take i).filter (fun x => decide (P x)) ++ [x].filter (fun x => decide (P x)) := by
      rw [List.take_succ, g1, List.filter_append]
      rfl
    by_cases hq : P x
    · rw [decide_eq_true hq]
      refine iteT fun s0 H0 C cl fp => we_mono (h3 s0 H0 C cl fp) fun y H6 ⟨ey, k6⟩ => ?_
      subst ey
      have hD6 : RL enc H6 Dl ((xs.take i).filter fun x => decide (P x)) := (hD2.kp k5 (by simp)).kp k6 (by simp)
      obtain ⟨ws, w1, w2, w3⟩ := hD6.ex
      have h1 := List.length_filter_le (fun x => decide (P x)) (xs.take i)
      rw [List.length_take] at h1
      refine ⟨ws.map V.ref, w1, by rw [List.length_map]; omega, fun H7 k7 hD7 => ⟨((k2.tr0 k5).tr0 k6).trN k7 nD, ?_⟩⟩
      rw [et, List.filter_cons_of_pos (by exact decide_eq_true hq), List.filter_nil]
      exact RL.app hD6 w1 (k6.g0 (k5.g0 (k2.g0 g2))) k7 hD7
    · rw [decide_eq_false hq]
      refine iteF ⟨k2.tr0 k5, ?_⟩
      rw [et, List.filter_cons_of_neg (by rw [decide_eq_false hq]; decide), List.filter_nil, List.append_nil]
      exact hD2.kp k5 (by simp)
  · rintro H2 ⟨k2, hD2⟩
    rw [elen, List.take_length] at hD2
    exact hd Dl H2 nD k2 hD2
/-- [(..) for t in ts], tuples to tuples -/
theorem lcd_mapR {β : Type} {enc2 : β → List V} (g : α → β) (hp : H q = some (.lst (ts.map V.ref))) (hR : RL enc H q xs) (hl : xs.length ≤ 99999)
    (he : ∀ x ∈ xs, ∀ t H1, Kp [] H H1 → H1 t = some (.tup (enc x)) → Bl X scope fun Z => Wg Z tg (.ref t) (wipe σ vs) H1 fun σ2 H2 => wipe σ2 vs = wipe σ vs ∧ Bl X scope fun Z => We Z elt σ2 H2 fun y H3 => ∃ u, y = .ref u ∧ H3 u = some (.tup (enc2 (g x))) ∧ Kp [] H1 H3)
    (hd : ∀ Dl H', H Dl = none → Kp [] H H' → RL enc2 H' Dl (xs.map g) → R (.ref Dl) H') :
    LcD X elt tg [] scope vs σ R (ts.map V.ref).length (fun H => SqL X.K H q (ts.map V.ref)) (YAt (ts.map V.ref)) H := by
  obtain ⟨us, f1, f2, f3⟩ := hR.ex
  have eu : us.map V.ref = ts.map V.ref := HO.lst.inj (Option.some.inj (f1.symm.trans hp))
  have elen : (ts.map V.ref).length = xs.length := by rw [← eu, List.length_map, f2]
  intro Dl H1 nD kD hD
  refine ⟨fun i H' => Kp [] H H' ∧ RL enc2 H' Dl ((xs.take i).map g), ⟨kD, .nil hD⟩, fun i H' _ h => sqL (h.1.g0 hp), ?_, ?_⟩
  · rintro i v H2 H3 hi ⟨k2, hD2⟩ ⟨rfl, hx⟩
    obtain ⟨t, x, rfl, g1, g2⟩ := hR.get hp hx
    intro s0 H0 C cl fp
    refine wg_mono (he x (List.mem_of_getElem? g1) t _ k2 (k2.g0 g2) s0 H0 C cl fp) fun σ2 H4 ⟨e1, h2⟩ => ⟨e1, fun s0 H0 C cl fp => ?_⟩
    refine wts_nil (iteT fun s0 H0 C cl fp => we_mono (h2 s0 H0 C cl fp) fun y H5 ⟨u, ey, hu, k5⟩ => ?_)
    subst ey
    have hD5 : RL enc2 H5 Dl ((xs.take i).map g) := hD2.kp k5 (by simp)
    obtain ⟨ws, w1, w2, w3⟩ := hD5.ex
    refine ⟨ws.map V.ref, w1, by rw [List.length_map, w2, List.length_map, List.length_take]; omega, fun H6 k6 hD6 => ⟨(k2.tr0 k5).trN k6 nD, ?_⟩⟩
    rw [List.take_succ, g1, List.map_append]
    exact RL.app hD5 w1 hu k6 hD6
  · rintro H2 ⟨k2, hD2⟩
    rw [elen, List.take_length] at hD2
    exact hd Dl H2 nD k2 hD2
/-- [(..) for x in xs], whole numbers to tuples -/
theorem lcd_mapIR {ns : List Int} (g : Int → α) (hS : SqL X.K H q (ns.map V.int)) (hl : ns.length ≤ 99999)
    (he : ∀ x ∈ ns, ∀ H1, Kp [] H H1 → Bl X scope fun Z => Wg Z tg (.int x) (wipe σ vs) H1 fun σ2 H2 => wipe σ2 vs = wipe σ vs ∧ Bl X scope fun Z => We Z elt σ2 H2 fun y H3 => ∃ u, y = .ref u ∧ H3 u = some (.tup (enc (g x))) ∧ Kp [] H1 H3)
    (hd : ∀ Dl H', H Dl = none → Kp [] H H' → RL enc H' Dl (ns.map g) → R (.ref Dl) H') :
    LcD X elt tg [] scope vs σ R (ns.map V.int).length (fun H => SqL X.K H q (ns.map V.int)) (YAt (ns.map V.int)) H := by
  intro Dl H1 nD kD hD
  refine ⟨fun i H' => Kp [] H H' ∧ RL enc H' Dl ((ns.take i).map g), ⟨kD, .nil hD⟩, fun i H' _ h => Kp.sqK hS h.1, ?_, ?_⟩
  · rintro i x H2 H3 hi ⟨k2, hD2⟩ ⟨rfl, hx⟩
    obtain ⟨v, hv, rfl⟩ := mapI_get hx
    intro s0 H0 C cl fp
    refine wg_mono (he v (List.mem_of_getElem? hv) _ k2 s0 H0 C cl fp) fun σ2 H4 ⟨e1, h2⟩ => ⟨e1, fun s0 H0 C cl fp => ?_⟩
    refine wts_nil (iteT fun s0 H0 C cl fp => we_mono (h2 s0 H0 C cl fp) fun y H5 ⟨u, ey, hu, k5⟩ => ?_)
    subst ey
    have hD5 : RL enc H5 Dl ((ns.take i).map g) := hD2.kp k5 (by simp)
    obtain ⟨ws, w1, w2, w3⟩ := hD5.ex
    refine ⟨ws.map V.ref, w1, by rw [List.length_map, w2, List.length_map, List.length_take]; omega, fun H6 k6 hD6 => ⟨(k2.tr0 k5).trN k6 nD, ?_⟩⟩
    rw [List.take_succ, hv, List.map_append]
    exact RL.app hD5 w1 hu k6 hD6
  · rintro H2 ⟨k2, hD2⟩
    rw [List.length_map, List.take_length] at hD2
    exact hd Dl H2 nD k2 hD2
end
def e2 : Int × Int → List V := fun q => [.int q.1, .int q.2]
theorem PL.rl2 {H : Hp} {p : Addr} {ps : List (Int × Int)} (h : PL H p ps) : RL e2 H p ps := ⟨h.ex⟩
theorem RL.pl2 {H : Hp} {p : Addr} {ps : List (Int × Int)} (h : RL e2 H p ps) : PL H p ps := ⟨h.ex⟩
end SL

/-! comprehensions over tuples; more of lists of tuples -/
namespace SL
open PySem PySem.Spec PyProof.Rows L2
section
variable {X : Cx} {σ : L2.St} {H : Hp} {Q : VK} {D : Ends} {a b c e it tg elt : Expr} {ifs : List Expr} {pos p : Pos} {body : List Stmt}
theorem lc_T {scope : Scope} {vs : List Nat} {R : VK} (h : We X it σ H fun v H1 => ∃ q xs, v = .ref q ∧ SqT X.K H1 q xs ∧ LcD X elt tg ifs scope vs σ R xs.length (fun H => SqT X.K H q xs) (YAt xs) H1) : Wit X tg it σ H (LcW X elt tg ifs scope vs σ R) :=
  wit_tup (we_mono h fun _ _ ⟨q, xs, e1, h1, h3⟩ => ⟨q, e1, ⟨xs, h1⟩, lcd walk_tup h3⟩)
/-- a for over a tuple -/
theorem ws_forTu (h : We X it σ H fun v H1 => ∃ q xs, v = .ref q ∧ SqT X.K H1 q xs ∧ ∃ Pv : Nat → L2.St → Hp → Prop, Pv 0 σ H1 ∧ (∀ i σ' H', i ≤ xs.length → Pv i σ' H' → SqT X.K H' q xs) ∧
      (∀ i x σ' H', xs[i]? = some x → Pv i σ' H' → Wg X tg x σ' H' (Body X body D Pv i)) ∧ ∀ σ' H', Pv xs.length σ' H' → D.nx σ' H')
    (hp : PassesOwn (model X.prog X.w) X.A X.env X.xe) (hc : X.calm = true) (hs : ∀ x, foldedSetIterable it X.env x = pure x := by intro _; rfl) : Ws X (.For tg it body [] pos) D σ H :=
  ws_for (wit_tup (we_mono h fun _ _ ⟨q, xs, e1, h1, Pv, h0, hl, ht, hd⟩ => ⟨q, e1, ⟨xs, h1⟩, xs.length, _, _, walk_tup (xs := xs), Pv, h0, hl, fun i x σ' H' H'' hi hP hY => by
    obtain ⟨rfl, hx⟩ := hY
    exact ht i x σ' _ hx hP, hd⟩)) hp hc hs
end
theorem RL.two {α : Type} {enc : α → List V} {H H1 H2 : Hp} {p t : Addr} {xs : List α} {x : α} {ts : List Addr} (h : RL enc H p xs) (hp : H p = some (.lst (ts.map V.ref))) : ts.length = xs.length := by
  obtain ⟨us, f1, f2, f3⟩ := h.ex
  have eu : us.map V.ref = ts.map V.ref := HO.lst.inj (Option.some.inj (f1.symm.trans hp))
  have := congrArg List.length eu
  rw [List.length_map, List.length_map] at this
  omega
/-- append to a list of tuples -/
theorem appR {α : Type} {enc : α → List V} {H : Hp} {l t : Addr} {xs : List α} {x : α} {R : Hp → Prop} (h1 : RL enc H l xs) (ht : H t = some (.tup (enc x))) (hl : xs.length < 100000) (h : ∀ H', Kp [l] H H' → RL enc H' l (xs ++ [x]) → R H') : ∃ ys, H l = some (.lst ys) ∧ ys.length < 100000 ∧ ∀ H', Kp [l] H H' → H' l = some (.lst (ys ++ [.ref t])) → R H' := by
  obtain ⟨us, f1, f2, f3⟩ := h1.ex
  exact ⟨us.map V.ref, f1, by rw [List.length_map]; omega, fun H' k e => h H' k (RL.app h1 f1 ht k e)⟩
theorem appRx {α : Type} {enc : α → List V} {H : Hp} {l : Addr} {xs : List α} (h1 : RL enc H l xs) : ∃ ys, H l = some (.lst ys) := by
  obtain ⟨us, f1, f2, f3⟩ := h1.ex
  exact ⟨_, f1⟩
theorem ref_non {a : Addr} : ¬ (V.ref a = V.non) := fun z => nomatch z
/-! ### lists of tuples of whole numbers compared -/
def dT (ns : List Int) : PyData := .tuple (ns.map PyData.int)
section
variable {K : PySem.W.Frag} {H : Hp} {α : Type} {enc : α → List V} {g : α → List Int}
theorem dpAll_R (hg : ∀ x, enc x = (g x).map V.int) : ∀ {ts : List Addr} {xs : List α}, ts.length = xs.length → (∀ (j : Nat) t, ts[j]? = some t → ∃ q, xs[j]? = some q ∧ H t = some (.tup (enc q))) → DpAll K H (ts.map V.ref) (xs.map fun x => dT (g x))
  | [], [], _, _ => .nil
  | t :: ts, p :: ps, hl, h => by
    obtain ⟨q, e1, e2⟩ := h 0 t rfl
    have e1' : p = q := by simpa using e1
    subst e1'
    rw [hg] at e2
    exact .cons (.tup (sqT e2) (dpAll_ints _)) (dpAll_R hg (Nat.succ.inj hl) fun j u hj => h (j + 1) u hj)
  | [], _ :: _, hl, _ => by cases hl
  | _ :: _, [], hl, _ => by cases hl
theorem eqvAll_T : ∀ xs ys : List (List Int), PyData.eqvAll (xs.map dT) (ys.map dT) = decide (xs = ys)
  | [], [] => by simp [PyData.eqvAll]
  | [], _ :: _ => by simp [PyData.eqvAll]
  | _ :: _, [] => by simp [PyData.eqvAll]
  | x :: xs, y :: ys => by
    show (PyData.eqv (dT x) (dT y) && PyData.eqvAll (xs.map dT) (ys.map dT)) = _
    rw [eqvAll_T xs ys]
    have e : PyData.eqv (dT x) (dT y) = decide (x = y) := by
      rw [← eqvAll_ints]
      simp [dT, PyData.eqv]
    rw [e]
    by_cases h1 : x = y <;> by_cases h3 : xs = ys <;> simp [h1, h3]
theorem shaped_T (xs : List (List Int)) : SeqAt.shaped (.list (xs.map dT)) = true := by
  have h0 : ∀ ns : List Int, PyData.canLayAll0 (ns.map PyData.int) = true := fun ns => by
    induction ns with
    | nil => rfl
    | cons n ns ih => show (PyData.canLay0 (.int n) && PyData.canLayAll0 (ns.map PyData.int)) = true; rw [ih]; rfl
  have h1 : ∀ xs : List (List Int), PyData.canLayAll0 (xs.map dT) = true := fun xs => by
    induction xs with
    | nil => rfl
    | cons p ps ih =>
      show (PyData.canLay0 (dT p) && PyData.canLayAll0 (ps.map dT)) = true
      rw [ih, Bool.and_true]
      show PyData.canLayAll0 (p.map PyData.int) = true
      exact h0 p
  have h2 : ∀ xs : List (List Int), PyData.depthAll (xs.map dT) ≤ 1 := fun xs => by
    induction xs with
    | nil => exact Nat.zero_le _
    | cons p ps ih =>
      show max (PyData.depth (dT p)) (PyData.depthAll (ps.map dT)) ≤ 1
      refine Nat.max_le.mpr ⟨?_, ih⟩
      show PyData.depthAll (p.map PyData.int) + 1 ≤ 1
      rw [depth_ints]
      exact Nat.le_refl 1
  unfold SeqAt.shaped
  rw [PyData.canLay0, PyData.depth, h1 xs, Bool.true_and]
  have := h2 xs
  exact decide_eq_true (by omega)
theorem RL.dpT (hg : ∀ x, enc x = (g x).map V.int) {p : Addr} {xs : List α} (h : RL enc H p xs) : Dp K H (.ref p) (.list ((xs.map g).map dT)) := by
  obtain ⟨ts, h1, h2, h3⟩ := h.ex
  rw [List.map_map]
  exact .lst (sqL h1) (dpAll_R hg h2 h3)
theorem eqv_T (xs ys : List (List Int)) : PyData.eqv (.list (xs.map dT)) (.list (ys.map dT)) = decide (xs = ys) := by
  rw [PyData.eqv]
  exact eqvAll_T xs ys
end
section
variable {X : Cx} {H : Hp} {Q : VK} {p q : Addr} {k : Nat} {α : Type} {enc : α → List V} {g : α → List Int} {xs ys : List α}
theorem c_eqR (g : α → List Int) (hg : ∀ x, enc x = (g x).map V.int) (hr : Room k X.A) (h1 : RL enc H p xs) (h2 : RL enc H q ys) (h : Q (.bl (decide (xs.map g = ys.map g))) H) : Cmp X .Eq (.ref p) (.ref q) H Q := c_eqD hr (h1.dpT hg) (h2.dpT hg) (shaped_T _) (shaped_T _) (by rw [eqv_T]; exact h)
theorem c_neR (g : α → List Int) (hg : ∀ x, enc x = (g x).map V.int) (hr : Room k X.A) (h1 : RL enc H p xs) (h2 : RL enc H q ys) (h : Q (.bl (!decide (xs.map g = ys.map g))) H) : Cmp X .NotEq (.ref p) (.ref q) H Q := c_neD hr (h1.dpT hg) (h2.dpT hg) (shaped_T _) (shaped_T _) (by rw [eqv_T]; exact h)
end
def g2 (q : Int × Int) : List Int := [q.1, q.2]
def g3 (q : Int × Int × Int) : List Int := [q.1, q.2.1, q.2.2]
theorem map_inj' {α β : Type} {g : α → β} (hg : ∀ x y, g x = g y → x = y) : ∀ {xs ys : List α}, xs.map g = ys.map g ↔ xs = ys
  | [], [] => by simp
  | [], _ :: _ => by simp
  | _ :: _, [] => by simp
  | x :: xs, y :: ys => by
    rw [List.map_cons, List.map_cons, List.cons.injEq, List.cons.injEq, map_inj' hg]
    exact ⟨fun ⟨a, b⟩ => ⟨hg _ _ a, b⟩, fun ⟨a, b⟩ => ⟨by rw [a], b⟩⟩
theorem g2_inj (x y : Int × Int) (h : g2 x = g2 y) : x = y := by
  obtain ⟨a, b⟩ := x
  obtain ⟨c, d⟩ := y
  simp only [g2, List.cons.injEq, and_true] at h
  rw [h.1, h.2]
theorem g3_inj (x y : Int × Int × Int) (h : g3 x = g3 y) : x = y := by
  obtain ⟨a, b, e⟩ := x
  obtain ⟨c, d, f⟩ := y
  simp only [g3, List.cons.injEq, and_true] at h
  rw [h.1, h.2.1, h.2.2]
section
variable {X : Cx} {H : Hp} {Q : VK} {p q : Addr} {k : Nat}
theorem c_eq2 {xs ys : List (Int × Int)} (hr : Room k X.A) (h1 : RL e2 H p xs) (h2 : RL e2 H q ys) (h : Q (.bl (decide (xs = ys))) H) : Cmp X .Eq (.ref p) (.ref q) H Q := c_eqR g2 (fun _ => rfl) hr h1 h2 (by rw [decide_eq_decide.mpr (map_inj' g2_inj)]; exact h)
theorem c_ne2 {xs ys : List (Int × Int)} (hr : Room k X.A) (h1 : RL e2 H p xs) (h2 : RL e2 H q ys) (h : Q (.bl (!decide (xs = ys))) H) : Cmp X .NotEq (.ref p) (.ref q) H Q := c_neR g2 (fun _ => rfl) hr h1 h2 (by rw [decide_eq_decide.mpr (map_inj' g2_inj)]; exact h)
theorem c_eq3 {xs ys : List (Int × Int × Int)} (hr : Room k X.A) (h1 : RL e3 H p xs) (h2 : RL e3 H q ys) (h : Q (.bl (decide (xs = ys))) H) : Cmp X .Eq (.ref p) (.ref q) H Q := c_eqR g3 (fun _ => rfl) hr h1 h2 (by rw [decide_eq_decide.mpr (map_inj' g3_inj)]; exact h)
theorem c_ne3 {xs ys : List (Int × Int × Int)} (hr : Room k X.A) (h1 : RL e3 H p xs) (h2 : RL e3 H q ys) (h : Q (.bl (!decide (xs = ys))) H) : Cmp X .NotEq (.ref p) (.ref q) H Q := c_neR g3 (fun _ => rfl) hr h1 h2 (by rw [decide_eq_decide.mpr (map_inj' g3_inj)]; exact h)
end
/-! ### pairs compared -/
def lt2 (x y : Int × Int) : Prop := x.1 < y.1 ∨ (x.1 = y.1 ∧ x.2 < y.2)
instance (x y : Int × Int) : Decidable (lt2 x y) := by unfold lt2; exact inferInstance
theorem dataLt_t2 (x y : Int × Int) : PySem.W.dataLt (dT (g2 x)) (dT (g2 y)) = decide (lt2 x y) := by
  obtain ⟨a, b⟩ := x
  obtain ⟨a', b'⟩ := y
  show PySem.W.dataLt (.tuple [.int a, .int b]) (.tuple [.int a', .int b']) = _
  unfold lt2
  rw [PySem.W.dataLt_tuple, lexAll_int, lexAll_int]
  have e0 : PyProof.Rows.lexLt itemOrd (PySem.W.keyToksAll []) (PySem.W.keyToksAll []) = false := rfl
  rw [e0]
  dsimp only
  by_cases h1 : a = a'
  · rw [if_pos h1]
    by_cases h2 : b = b'
    · rw [if_pos h2]; exact (decide_eq_false (by omega)).symm
    · rw [if_neg h2]
      exact decide_eq_decide.mpr (by omega)
  · rw [if_neg h1]
    exact decide_eq_decide.mpr (by omega)
theorem c_ge2 {X : Cx} {H : Hp} {Q : VK} {p q : Addr} {k : Nat} {x y : Int × Int} (hr : Room k X.A) (h1 : H p = some (.tup (e2 x))) (h2 : H q = some (.tup (e2 y))) (h : Q (.bl (!decide (lt2 x y))) H) : Cmp X .GtE (.ref p) (.ref q) H Q := by
  refine ⟨fun a b H Q => a = .ref p ∧ b = .ref q ∧ H p = some (.tup (e2 x)) ∧ H q = some (.tup (e2 y)) ∧ Q (.bl (!decide (lt2 x y))) H, ?_, rfl, rfl, h1, h2, h⟩
  intro pins s σ H a b v u Q I ra rb hh
  obtain ⟨rfl, rfl, h1, h2, h⟩ := hh
  have d1 : Dp X.K H (.ref p) (dT (g2 x)) := .tup (sqT (xs := (g2 x).map V.int) h1) (dpAll_ints _)
  have d2 : Dp X.K H (.ref q) (dT (g2 y)) := .tup (sqT (xs := (g2 y).map V.int) h2) (dpAll_ints _)
  obtain ⟨as, r1⟩ := Dp.reads I _ _ _ d1 ra
  obtain ⟨bs, r2⟩ := Dp.reads I _ _ _ d2 rb
  have hu := hr.units
  have dx : (dT (g2 x)).depth = 1 := rfl
  have dy : (dT (g2 y)).depth = 1 := rfl
  refine PySem.W.ge_data r1 r2 rfl (fun z => nomatch z) (by rw [dx, dy]; omega) ⟨.bl _, H, I, rfl, ?_⟩
  rw [dataLt_t2]
  exact h
section
variable {α : Type} {enc : α → List V} {X : Cx} {σ : L2.St} {H : Hp} {tg elt c : Expr} {scope : Scope} {vs : List Nat} {R : VK}
/-- [.. for i in range(a, b)], whole numbers -/
theorem lcd_rangeI {n : Nat} {lo : Int} (g : Nat → Int) (hl : n ≤ 99999)
    (he : ∀ i, i < n → ∀ H1, Kp [] H H1 → Bl X scope fun Z => Wg Z tg (.int (lo + (i : Int))) (wipe σ vs) H1 fun σ2 H2 => wipe σ2 vs = wipe σ vs ∧ Bl X scope fun Z => We Z elt σ2 H2 fun y H3 => y = .int (g i) ∧ Kp [] H1 H3)
    (hd : ∀ Dl H', H Dl = none → Kp [] H H' → H' Dl = some (.lst (((List.range n).map g).map V.int)) → R (.ref Dl) H') :
    LcD X elt tg [] scope vs σ R n (fun _ => True) (YFn fun i => .int (lo + (i : Int))) H := by
  intro Dl H1 nD kD hD
  refine ⟨fun i H' => Kp [] H H' ∧ H' Dl = some (.lst (((List.range i).map g).map V.int)), ⟨kD, hD⟩, fun _ _ _ _ => trivial, ?_, ?_⟩
  · rintro i x H2 H3 hi ⟨k2, hD2⟩ ⟨rfl, rfl⟩
    intro s0 H0 C cl fp
    refine wg_mono (he i hi _ k2 s0 H0 C cl fp) fun σ2 H4 ⟨e1, h2⟩ => ⟨e1, fun s0 H0 C cl fp => ?_⟩
    refine wts_nil (iteT fun s0 H0 C cl fp => we_mono (h2 s0 H0 C cl fp) fun y H5 ⟨ey, k5⟩ => ?_)
    subst ey
    refine appI (k5.g0 hD2) (by rw [List.length_map, List.length_range]; omega) fun H6 k6 hD6 => ⟨(k2.tr0 k5).trN k6 nD, ?_⟩
    rw [hD6, List.range_succ, List.map_append (l₂ := [i])]
    rfl
  · rintro H2 ⟨k2, hD2⟩
    exact hd Dl H2 nD k2 hD2
/-- [(..) for i in range(n)] -/
theorem lcd_rangeR {n : Nat} (g : Nat → α) (hl : n ≤ 99999)
    (he : ∀ i, i < n → ∀ H1, Kp [] H H1 → Bl X scope fun Z => Wg Z tg (.int (i : Int)) (wipe σ vs) H1 fun σ2 H2 => wipe σ2 vs = wipe σ vs ∧ Bl X scope fun Z => We Z elt σ2 H2 fun y H3 => ∃ u, y = .ref u ∧ H3 u = some (.tup (enc (g i))) ∧ Kp [] H1 H3)
    (hd : ∀ Dl H', H Dl = none → Kp [] H H' → RL enc H' Dl ((List.range n).map g) → R (.ref Dl) H') :
    LcD X elt tg [] scope vs σ R n (fun _ => True) (YFn fun i => .int ((0 : Int) + (i : Int))) H := by
  intro Dl H1 nD kD hD
  refine ⟨fun i H' => Kp [] H H' ∧ RL enc H' Dl ((List.range i).map g), ⟨kD, .nil hD⟩, fun _ _ _ _ => trivial, ?_, ?_⟩
  · rintro i x H2 H3 hi ⟨k2, hD2⟩ ⟨rfl, rfl⟩
    intro s0 H0 C cl fp
    show Wg _ _ (.int ((0 : Int) + (i : Int))) _ _ _
    rw [Int.zero_add]
    refine wg_mono (he i hi _ k2 s0 H0 C cl fp) fun σ2 H4 ⟨e1, h2⟩ => ⟨e1, fun s0 H0 C cl fp => ?_⟩
    refine wts_nil (iteT fun s0 H0 C cl fp => we_mono (h2 s0 H0 C cl fp) fun y H5 ⟨u, ey, hu, k5⟩ => ?_)
    subst ey
    have hD5 : RL enc H5 Dl ((List.range i).map g) := hD2.kp k5 (by simp)
    obtain ⟨ws, w1, w2, w3⟩ := hD5.ex
    refine ⟨ws.map V.ref, w1, by rw [List.length_map, w2, List.length_map, List.length_range]; omega, fun H6 k6 hD6 => ⟨(k2.tr0 k5).trN k6 nD, ?_⟩⟩
    rw [List.range_succ, List.map_append]
    exact RL.app hD5 w1 hu k6 hD6
  · rintro H2 ⟨k2, hD2⟩
    exact hd Dl H2 nD k2 hD2
end
end SL

/-! objects: fields, methods, makings -/
namespace SL
open PySem PySem.Spec PyProof.Rows L2
section
variable {P : Program} {w : World} {K : PySem.W.Frag} {mg : Str → Option Value} {base : Heap}
/-- a method of the class at C, with its promise -/
structure Me (P : Program) (w : World) (K : PySem.W.Frag) (mg : Str → Option Value) (base : Heap) (k : Nat) (C : Addr) (m : Str) (sp : Sp) : Prop where
  ex : ∃ f fd ps, FnG P w K mg base CX0 k f fd ps sp ∧ Meth K C m f ∧ Binds K fd ps []
/-- the making of an object by its __init__ -/
structure Mak (P : Program) (w : World) (K : PySem.W.Frag) (mg : Str → Option Value) (base : Heap) (k : Nat) (x : Str) (C : Addr) (sp : Sp) : Prop where
  ex : ∃ f fd ps, FnG P w K mg base CX0 k f fd ps sp ∧ Mk K C f ∧ mg x = some (.ref C) ∧ Binds K fd ps []
/-- the class itself: plain, without these names -/
structure Kl (K : PySem.W.Frag) (C : Addr) (fs : List Str) : Prop where
  cl : Cls K C
  na : ∀ f ∈ fs, NoAttr K C f
theorem me_mk {k : Nat} {C f : Addr} {m : Str} {fd : FuncData} {ps : List Str} {sp : Sp} (F : FnG P w K mg base CX0 k f fd ps sp) (h : Meth K C m f) (b : Binds K fd ps []) : Me P w K mg base k C m sp := ⟨f, fd, ps, F, h, b⟩
theorem mak_mk {k : Nat} {C f : Addr} {x : Str} {fd : FuncData} {ps : List Str} {sp : Sp} (F : FnG P w K mg base CX0 k f fd ps sp) (h : Mk K C f) (g : mg x = some (.ref C)) (b : Binds K fd ps []) : Mak P w K mg base k x C sp := ⟨f, fd, ps, F, h, g, b⟩
end
section
variable {X : Cx} {σ : L2.St} {H : Hp} {Q : VK} {D : Ends} {e o value : Expr} {es : List Expr} {p pos pos' apos : Pos} {x m f : Str} {k j : Nat} {sp : Sp} {C : Addr} {fs : List Str}
/-- o.f -/
theorem we_fld (T : Kl X.K C fs) (hf : f ∈ fs) (h : We X o σ H fun x H1 => ∃ a, x = .ref a ∧ ∃ dx fv v, H1 a = some (.ins C dx fv) ∧ fv.lookup f = some v ∧ Q v H1) (hb : attributeBase o f X.env (eval o X.env) = eval o X.env := by rfl) : We X (.Attribute o f pos) σ H Q :=
  we_of (pe_fld We.pe hb) (we_mono h fun x H1 ⟨a, e1, dx, fv, v, h1, h2, q⟩ => ⟨a, C, dx, fv, v, e1, h1, T.cl, T.na f hf, h2, q⟩)
theorem Kp.putI {H : Hp} {p C dx : Addr} {fv : List (Str × V)} {o : HO} (n : H p = some (.ins C dx fv)) : Kp [p] H (upd H p o) := ⟨fun b u e h => by
    rcases h with h | h
    · rw [upd_ne (by simpa using h)]; exact e
    · by_cases z : b = p
      · rw [z, n] at e
        cases e
        exact h.elim
      · rw [upd_ne z]; exact e, fun b e => by
    by_cases z : b = p
    · rw [z, upd_same] at e; cases e
    · rw [upd_ne z] at e; exact e⟩
/-- o.f = e -/
theorem ws_fld (T : Kl X.K C fs) (hf : f ∈ fs) (h : We X value σ H fun y H1 => We X o σ H1 fun x H2 => ∃ a, x = .ref a ∧ ∃ dx fv, H2 a = some (.ins C dx fv) ∧ fv.length < 1000 ∧ ∀ H', Kp [a] H2 H' → H' a = some (.ins C dx (putF f y fv)) → D.nx σ H')
    (hs : swapsWith value (some (.Attribute o f pos')) pos.line X.env = pure false := by rfl) : Ws X (.Assign [.Attribute o f pos'] value pos) D σ H :=
  ws_of (ps_fld We.pe We.pe hs) (we_mono h fun y H1 h1 => we_mono h1 fun x H2 ⟨a, e1, dx, fv, h2, h3, q⟩ => ⟨a, C, dx, fv, e1, h2, T.cl, T.na f hf, h3, q _ (.putI h2) upd_same⟩)
theorem run_fnG {pins : List (Addr × Obj)} {s : Shared} {us : List Value} {vs : List V} {f : Addr} {fd : FuncData} {ps : List Str} (F : FnG X.prog X.w X.K X.mg X.base CX0 k f fd ps sp) (hr : Room k X.A) (hgd : X.A.guards = some []) (b : Binds X.K fd ps [])
    (I : Inv X pins σ H s) (r : Vals vs us) (h : sp vs H Q E0) : wpAny (model X.prog X.w) X.A (call (.ref f) us) (EP X pins σ Q) X.xe s := by
  have hl : us.length = ps.length := r.length.symm.trans (F.len _ _ _ _ h)
  have hb := b s us I.kIn (by rw [List.append_nil]; exact hl)
  rw [List.append_nil] at hb
  refine wpAny_call (codeAny_mono (F.run X.A X.stack s H ⟨us, []⟩ us vs Q E0 hr hgd I.env0 hb r h) fun r s' hq => ?_)
  cases r with
  | error e => exact hq.elim
  | ok fl => cases fl with
    | ret u => exact I.after hq
    | next => exact hq.elim
    | brk => exact hq.elim
    | cont => exact hq.elim
/-- o.m(e, ..) -/
theorem we_meth {pl : Sem Bool} (T : Kl X.K C fs) (M : Me X.prog X.w X.K X.mg X.base k C m sp) (hr : Room j X.A) (hk : k ≤ j) (hgd : X.A.guards = some [])
    (h : We X o σ H fun x H1 => ∃ a, x = .ref a ∧ ∃ dx fv, H1 a = some (.ins C dx fv) ∧ fv.lookup m = none ∧ Wa X (e :: es) σ H1 fun vs H2 => sp (.ref a :: vs) H2 Q E0)
    (hst : starEach (e :: es) X.env = (false, eval e X.env) :: starEach es X.env := by rfl) (hpl : (backTo pos (starEach es X.env)).any (·.1) = false := by rfl)
    (ht : eval (.Call (.Attribute o m apos) (e :: es) [] pos) X.env = (do
      let ov ← eval o X.env
      standAt apos.atName
      let (f, first) ← holding [ov] (getMethod ov m pl)
      callWith pos f first (backTo pos (starEach (e :: es) X.env)) (backToKw pos (keywordEach [] X.env))) := by rfl) : We X (.Call (.Attribute o m apos) (e :: es) [] pos) σ H Q := by
  obtain ⟨f, fd, ps, F, hm, b⟩ := M.ex
  refine ⟨fun pins s I => ?_⟩
  refine PySem.W.methodCall_KW (pl := pl) (thn (h.run pins s I) fun u s1 ⟨x, H1, I1, rx, a, ex, dx, fv, ea, l, q⟩ => ?_) ht
  subst ex
  obtain rfl : u = Value.ref a := rx
  refine getmeth_ok I1 ea T.cl hm l ?_
  refine PySem.W.callWith_K (first := [.ref a]) (h₀ := X.base) I.ok.mod.kin hm.kp (thn (q.run pos pins s1 I1) fun us s2 ⟨vs, H2, I2, r, q2⟩ => ⟨I2.kIn, ?_⟩) hst hpl
  exact run_fnG (us := .ref a :: us) (vs := .ref a :: vs) F (hr.mono hk) hgd b I2 (.cons rfl r) q2
theorem we_meth0 {pl : Sem Bool} (T : Kl X.K C fs) (M : Me X.prog X.w X.K X.mg X.base k C m sp) (hr : Room j X.A) (hk : k ≤ j) (hgd : X.A.guards = some [])
    (h : We X o σ H fun x H1 => ∃ a, x = .ref a ∧ ∃ dx fv, H1 a = some (.ins C dx fv) ∧ fv.lookup m = none ∧ sp [.ref a] H1 Q E0)
    (ht : eval (.Call (.Attribute o m apos) [] [] pos) X.env = (do
      let ov ← eval o X.env
      standAt apos.atName
      let (f, first) ← holding [ov] (getMethod ov m pl)
      callWith pos f first (backTo pos (starEach [] X.env)) (backToKw pos (keywordEach [] X.env))) := by rfl) : We X (.Call (.Attribute o m apos) [] [] pos) σ H Q := by
  obtain ⟨f, fd, ps, F, hm, b⟩ := M.ex
  refine ⟨fun pins s I => ?_⟩
  refine PySem.W.methodCall_KW (pl := pl) (thn (h.run pins s I) fun u s1 ⟨x, H1, I1, rx, a, ex, dx, fv, ea, l, q⟩ => ?_) ht
  subst ex
  obtain rfl : u = Value.ref a := rx
  refine getmeth_ok I1 ea T.cl hm l ?_
  exact PySem.W.callWith_K0 (first := [.ref a]) I1.kIn hm.kp (run_fnG (us := [.ref a]) (vs := [.ref a]) F (hr.mono hk) hgd b I1 (.cons rfl .nil) q)
theorem run_makeG {pins : List (Addr × Obj)} {s : Shared} {us : List Value} {vs : List V} {f : Addr} {fd : FuncData} {ps : List Str} (M : Mk X.K C f) (F : FnG X.prog X.w X.K X.mg X.base CX0 k f fd ps sp) (hr : Room (k + 1) X.A) (hgd : X.A.guards = some []) (hb : Binds X.K fd ps [])
    (I : Inv X pins σ H s) (r : Vals vs us)
    (h : ∀ x dx, H x = none → H dx = none → dx ≠ x → sp (.ref x :: vs) (upd (upd H dx (.own x)) x (.ins C dx [])) (fun v H2 => v = .non ∧ Q (.ref x) H2) E0) :
    wpAny (model X.prog X.w) X.A (call (.ref C) us) (EP X pins σ Q) X.xe s := by
  have hq := h (s.heap.objs.size + 1) s.heap.objs.size (I.hok.fresh (Nat.le_succ _)) (I.hok.fresh (Nat.le_refl _)) (Nat.ne_of_lt (Nat.lt_succ_self _))
  have I2 := Inv.made (C := C) I
  have r2 : Vals (V.ref (s.heap.objs.size + 1) :: vs) (Value.ref (s.heap.objs.size + 1) :: us) := .cons rfl r
  have hl : (Value.ref (s.heap.objs.size + 1) :: us).length = ps.length := by
    have e := r2.length
    rw [F.len _ _ _ _ hq] at e
    exact e.symm
  have hb2 := hb _ (Value.ref (s.heap.objs.size + 1) :: us) I2.kIn (by rw [List.append_nil]; exact hl)
  rw [List.append_nil] at hb2
  refine wpAny_call (make_map (f := f) I.kIn M.makes M.init (beq_iff_eq.mp M.fn) (codeAny_mono (F.run _ X.stack _ _ ⟨Value.ref (s.heap.objs.size + 1) :: us, []⟩ (Value.ref (s.heap.objs.size + 1) :: us) _ _ E0 (hr.make C us []) hgd
    (I2.env0.make C us []) hb2 r2 hq) fun r s' hq' => ?_))
  cases r with
  | error e => exact hq'.elim
  | ok fl =>
    cases fl with
    | ret u =>
      obtain ⟨v, H', I3, rv, ev, q3⟩ := I2.after hq'
      subst ev
      exact ⟨rv, ⟨V.ref (s.heap.objs.size + 1), H', I3, rfl, q3⟩⟩
    | next => exact False.elim hq'
    | brk => exact False.elim hq'
    | cont => exact False.elim hq'
theorem kp_made {H : Hp} {x dx : Addr} {o u : HO} (nx : H x = none) (nd : H dx = none) : Kp [] H (upd (upd H dx o) x u) := .ext fun b v e => by rw [upd_ne (ne_of_none e nx), upd_ne (ne_of_none e nd)]; exact e
/-- C(e, ..) -/
theorem we_make (M : Mak X.prog X.w X.K X.mg X.base k x C sp) (hr : Room j X.A) (hk : k + 1 ≤ j) (hgd : X.A.guards = some []) (hg : Gl X x)
    (h : Wa X (e :: es) σ H fun vs H1 => ∀ a dx H2, H1 a = none → Kp [] H1 H2 → H2 a = some (.ins C dx []) → sp (.ref a :: vs) H2 (fun v H3 => v = .non ∧ Q (.ref a) H3) E0) (hdb : (x == ("__debug__" : Str)) = false := by decide)
    (he : starEach (e :: es) X.env = (false, eval e X.env) :: starEach es X.env := by rfl) (hpl : (backTo pos (starEach es X.env)).any (·.1) = false := by rfl) : We X (.Call (.Name x p) (e :: es) [] pos) σ H Q := by
  obtain ⟨f, fd, ps, F, hm, g, b⟩ := M.ex
  refine ⟨fun pins s I => ?_⟩
  refine wpAny_Call_Name_kw (ld_glob I hg g ?_ hdb)
  refine PySem.W.callWith_K (h₀ := X.base) I.ok.mod.kin hm.kp (thn (h.run pos pins s I) fun us s1 ⟨vs, H1, I1, r, q⟩ => ⟨I1.kIn, ?_⟩) he hpl
  exact run_makeG hm F (hr.mono hk) hgd b I1 r fun a dx na nd _ => q a dx _ na (kp_made na nd) upd_same
/-- C() -/
theorem we_make0 (M : Mak X.prog X.w X.K X.mg X.base k x C sp) (hr : Room j X.A) (hk : k + 1 ≤ j) (hgd : X.A.guards = some []) (hg : Gl X x)
    (h : ∀ a dx H2, H a = none → Kp [] H H2 → H2 a = some (.ins C dx []) → sp [.ref a] H2 (fun v H3 => v = .non ∧ Q (.ref a) H3) E0) (hdb : (x == ("__debug__" : Str)) = false := by decide) : We X (.Call (.Name x p) [] [] pos) σ H Q := by
  obtain ⟨f, fd, ps, F, hm, g, b⟩ := M.ex
  refine ⟨fun pins s I => ?_⟩
  refine wpAny_Call_Name_kw (ld_glob I hg g ?_ hdb)
  exact PySem.W.callWith_K0 I.kIn hm.kp (run_makeG (us := []) (vs := []) hm F (hr.mono hk) hgd b I .nil fun a dx na nd _ => h a dx _ na (kp_made na nd) upd_same)
end
section
variable {X : Cx} {σ : L2.St} {H : Hp} {Q : VK} {D : Ends} {e o value : Expr} {es : List Expr} {p pos pos' apos : Pos} {x m f : Str} {k j : Nat} {sp : Sp} {C a dx : Addr} {fs : List Str} {fv : List (Str × V)} {y v : V} {R : Hp → Prop}
/-- a field of the object at a -/
structure Fw (X : Cx) (a : Addr) (f : Str) (H : Hp) (Q : VK) : Prop where
  ex : ∃ C fs dx fv v, Kl X.K C fs ∧ f ∈ fs ∧ H a = some (.ins C dx fv) ∧ fv.lookup f = some v ∧ Q v H
theorem fw_of (h1 : H a = some (.ins C dx fv)) (T : Kl X.K C fs) (hf : f ∈ fs) (h2 : fv.lookup f = some v) (h : Q v H) : Fw X a f H Q := ⟨C, fs, dx, fv, v, T, hf, h1, h2, h⟩
theorem we_fldF (h : We X o σ H fun x H1 => ∃ a, x = .ref a ∧ Fw X a f H1 Q) (hb : attributeBase o f X.env (eval o X.env) = eval o X.env := by rfl) : We X (.Attribute o f pos) σ H Q :=
  we_of (pe_fld We.pe hb) (we_mono h fun x H1 ⟨a, e1, h2⟩ => let ⟨C, fs, dx, fv, v, T, hf, h1, h3, q⟩ := h2.ex; ⟨a, C, dx, fv, v, e1, h1, T.cl, T.na f hf, h3, q⟩)
/-- a store to a field of the object at a -/
structure Sw (X : Cx) (a : Addr) (f : Str) (y : V) (H : Hp) (R : Hp → Prop) : Prop where
  ex : ∃ C fs dx fv, Kl X.K C fs ∧ f ∈ fs ∧ H a = some (.ins C dx fv) ∧ fv.length < 1000 ∧ R (upd H a (.ins C dx (putF f y fv)))
theorem sw_of (h1 : H a = some (.ins C dx fv)) (T : Kl X.K C fs) (hf : f ∈ fs) (h2 : fv.length < 1000) {fv' : List (Str × V)} (h3 : putF f y fv = fv') (h : ∀ H', Kp [a] H H' → H' a = some (.ins C dx fv') → R H') : Sw X a f y H R := ⟨C, fs, dx, fv, T, hf, h1, h2, h _ (.putI h1) (by rw [h3]; exact upd_same)⟩
theorem ws_fldS (h : We X value σ H fun y H1 => We X o σ H1 fun x H2 => ∃ a, x = .ref a ∧ Sw X a f y H2 fun H3 => D.nx σ H3)
    (hs : swapsWith value (some (.Attribute o f pos')) pos.line X.env = pure false := by rfl) : Ws X (.Assign [.Attribute o f pos'] value pos) D σ H :=
  ws_of (ps_fld We.pe We.pe hs) (we_mono h fun y H1 h1 => we_mono h1 fun x H2 ⟨a, e1, h2⟩ => let ⟨C, fs, dx, fv, T, hf, h3, h4, q⟩ := h2.ex; ⟨a, C, dx, fv, e1, h3, T.cl, T.na f hf, h4, q⟩)
/-- a method of the object at a -/
structure Mw (X : Cx) (a : Addr) (m : Str) (es : List Expr) (σ : L2.St) (H : Hp) (Q : VK) : Prop where
  ex : ∃ C fs k j sp dx fv, Kl X.K C fs ∧ Me X.prog X.w X.K X.mg X.base k C m sp ∧ Room j X.A ∧ k ≤ j ∧ X.A.guards = some [] ∧ H a = some (.ins C dx fv) ∧ fv.lookup m = none ∧ Wa X es σ H fun vs H2 => sp (.ref a :: vs) H2 Q E0
theorem mw_of (h1 : H a = some (.ins C dx fv)) (T : Kl X.K C fs) (M : Me X.prog X.w X.K X.mg X.base k C m sp) (hr : Room j X.A) (hk : k ≤ j) (hgd : X.A.guards = some []) (h2 : fv.lookup m = none) (h : Wa X es σ H fun vs H2 => sp (.ref a :: vs) H2 Q E0) : Mw X a m es σ H Q := ⟨C, fs, k, j, sp, dx, fv, T, M, hr, hk, hgd, h1, h2, h⟩
theorem we_methM {pl : Sem Bool} (h : We X o σ H fun x H1 => ∃ a, x = .ref a ∧ Mw X a m (e :: es) σ H1 Q)
    (hst : starEach (e :: es) X.env = (false, eval e X.env) :: starEach es X.env := by rfl) (hpl : (backTo pos (starEach es X.env)).any (·.1) = false := by rfl)
    (ht : eval (.Call (.Attribute o m apos) (e :: es) [] pos) X.env = (do
      let ov ← eval o X.env
      standAt apos.atName
      let (f, first) ← holding [ov] (getMethod ov m pl)
      callWith pos f first (backTo pos (starEach (e :: es) X.env)) (backToKw pos (keywordEach [] X.env))) := by rfl) : We X (.Call (.Attribute o m apos) (e :: es) [] pos) σ H Q := by
  refine ⟨fun pins s I => ?_⟩
  refine PySem.W.methodCall_KW (pl := pl) (thn (h.run pins s I) fun u s1 ⟨x, H1, I1, rx, a, ex, hw⟩ => ?_) ht
  obtain ⟨C, fs, k, j, sp, dx, fv, T, M, hr, hk, hgd, ea, l, q⟩ := hw.ex
  obtain ⟨f, fd, ps, F, hm, b⟩ := M.ex
  subst ex
  obtain rfl : u = Value.ref a := rx
  refine getmeth_ok I1 ea T.cl hm l ?_
  refine PySem.W.callWith_K (first := [.ref a]) (h₀ := X.base) I.ok.mod.kin hm.kp (thn (q.run pos pins s1 I1) fun us s2 ⟨vs, H2, I2, r, q2⟩ => ⟨I2.kIn, ?_⟩) hst hpl
  exact run_fnG (us := .ref a :: us) (vs := .ref a :: vs) F (hr.mono hk) hgd b I2 (.cons rfl r) q2
structure Mw0 (X : Cx) (a : Addr) (m : Str) (H : Hp) (Q : VK) : Prop where
  ex : ∃ C fs k j sp dx fv, Kl X.K C fs ∧ Me X.prog X.w X.K X.mg X.base k C m sp ∧ Room j X.A ∧ k ≤ j ∧ X.A.guards = some [] ∧ H a = some (.ins C dx fv) ∧ fv.lookup m = none ∧ sp [.ref a] H Q E0
theorem mw0_of (h1 : H a = some (.ins C dx fv)) (T : Kl X.K C fs) (M : Me X.prog X.w X.K X.mg X.base k C m sp) (hr : Room j X.A) (hk : k ≤ j) (hgd : X.A.guards = some []) (h2 : fv.lookup m = none) (h : sp [.ref a] H Q E0) : Mw0 X a m H Q := ⟨C, fs, k, j, sp, dx, fv, T, M, hr, hk, hgd, h1, h2, h⟩
theorem we_methM0 {pl : Sem Bool} (h : We X o σ H fun x H1 => ∃ a, x = .ref a ∧ Mw0 X a m H1 Q)
    (ht : eval (.Call (.Attribute o m apos) [] [] pos) X.env = (do
      let ov ← eval o X.env
      standAt apos.atName
      let (f, first) ← holding [ov] (getMethod ov m pl)
      callWith pos f first (backTo pos (starEach [] X.env)) (backToKw pos (keywordEach [] X.env))) := by rfl) : We X (.Call (.Attribute o m apos) [] [] pos) σ H Q := by
  refine ⟨fun pins s I => ?_⟩
  refine PySem.W.methodCall_KW (pl := pl) (thn (h.run pins s I) fun u s1 ⟨x, H1, I1, rx, a, ex, hw⟩ => ?_) ht
  obtain ⟨C, fs, k, j, sp, dx, fv, T, M, hr, hk, hgd, ea, l, q⟩ := hw.ex
  obtain ⟨f, fd, ps, F, hm, b⟩ := M.ex
  subst ex
  obtain rfl : u = Value.ref a := rx
  refine getmeth_ok I1 ea T.cl hm l ?_
  exact PySem.W.callWith_K0 (first := [.ref a]) I1.kIn hm.kp (run_fnG (us := [.ref a]) (vs := [.ref a]) F (hr.mono hk) hgd b I1 (.cons rfl .nil) q)
end
theorem putF_one (f : Str) (v : V) : putF f v [] = [(f, v)] := rfl
theorem lk_one {f : Str} {v : V} : ([(f, v)] : List (Str × V)).lookup f = some v := by simp [List.lookup]
theorem lk_no {f g : Str} {v : V} (h : (g == f) = false) : ([(f, v)] : List (Str × V)).lookup g = none := by simp [List.lookup, h]
theorem rgV_of (n : Int) : rgV 0 n = ((List.range n.toNat).map Int.ofNat).map V.int := by
  unfold rgV
  rw [List.map_map, Int.sub_zero]
  refine List.map_congr_left fun i _ => ?_
  show V.int (0 + (i : Int)) = V.int (i : Int)
  rw [Int.zero_add]
/-- list(range(n)) -/
theorem we_listRange {X : Cx} {σ : L2.St} {H : Hp} {Q : VK} {a : Expr} {p p2 pos q : Pos} (hc : X.calm = true) (hg : Gl X "list") (hm : X.mg "list" = none) (hg2 : Gl X "range") (hm2 : X.mg "range" = none) (h : We X a σ H fun v H1 => ∃ n : Int, v = .int n ∧ n ≤ 100000 ∧ -100000 ≤ n ∧ ∀ r H', H1 r = none → Kp [] H1 H' → H' r = some (.lst (((List.range n.toNat).map Int.ofNat).map V.int)) → Q (.ref r) H') (na : starEach [a] X.env = (false, eval a X.env) :: starEach [] X.env := by rfl)
    (nb : starEach [.Call (.Name "range" p2) [a] [] q] X.env = (false, eval (.Call (.Name "range" p2) [a] [] q) X.env) :: starEach [] X.env := by rfl) :
    We X (.Call (.Name "list" p) [.Call (.Name "range" p2) [a] [] q] [] pos) σ H Q :=
  we_of (pe_listRg hc hg hm (prg_1 hg2 hm2 We.pe na) nb) (we_mono h fun v H1 ⟨n, e, h1, h2, h3⟩ => ⟨n, e, ⟨by omega, by omega, by omega, by omega, by omega⟩, fun r hr => h3 r _ hr (.new hr) (by rw [upd_same, rgV_of])⟩)
end SL

/-! dicts of whole numbers -/
namespace SL
open PySem PySem.Spec PyProof.Rows L2
def encK (ps : List (Int × Int)) : List (Key × V) := ps.map fun q => ((Sum.inl q.1 : Key), V.int q.2)
def lkI (ps : List (Int × Int)) (k : Int) : Option Int := (ps.find? fun q => decide (q.1 = k)).map (·.2)
def ptI (ps : List (Int × Int)) (k v : Int) : List (Int × Int) := if (ps.any fun q => decide (q.1 = k)) = true then ps.map (fun q => if q.1 = k then (q.1, v) else q) else ps ++ [(k, v)]
theorem inl_dec (a k : Int) : decide ((Sum.inl a : Key) = Sum.inl k) = decide (a = k) := decide_eq_decide.mpr ⟨fun z => Sum.inl.inj z, fun z => by rw [z]⟩
theorem valV_enc (k : Int) : ∀ ps : List (Int × Int), valV (encK ps) (Sum.inl k : Key) = (lkI ps k).map V.int
  | [] => rfl
  | q :: ps => by
    by_cases h : q.1 = k
    · have e1 : valV (encK (q :: ps)) (Sum.inl k : Key) = some (V.int q.2) := valV_pos (p := ((Sum.inl q.1 : Key), V.int q.2)) (by rw [h])
      rw [e1]
      simp [lkI, List.find?_cons, h]
    · have e1 : valV (encK (q :: ps)) (Sum.inl k : Key) = valV (encK ps) (Sum.inl k : Key) := valV_neg (p := ((Sum.inl q.1 : Key), V.int q.2)) (fun z => h (Sum.inl.inj z))
      rw [e1, valV_enc k ps]
      simp [lkI, List.find?_cons, h]
theorem putK_enc (ps : List (Int × Int)) (k v : Int) : putK (encK ps) (Sum.inl k : Key) (V.int v) = encK (ptI ps k v) := by
  unfold putK ptI encK
  rw [List.any_map]
  have e : (fun kv : Key × V => decide (kv.1 = (Sum.inl k : Key))) ∘ (fun q : Int × Int => ((Sum.inl q.1 : Key), V.int q.2)) = fun q => decide (q.1 = k) := by
    funext q
    exact inl_dec q.1 k
  rw [e]
  split
  · rw [List.map_map, List.map_map]
    refine List.map_congr_left fun q _ => ?_
    show (if (Sum.inl q.1 : Key) = Sum.inl k then _ else _) = _
    by_cases h : q.1 = k
    · rw [if_pos (by rw [h])]
      show _ = ((Sum.inl (if q.1 = k then (q.1, v) else q).1 : Key), V.int (if q.1 = k then (q.1, v) else q).2)
      rw [if_pos h]
    · rw [if_neg (fun z => h (Sum.inl.inj z))]
      show _ = ((Sum.inl (if q.1 = k then (q.1, v) else q).1 : Key), V.int (if q.1 = k then (q.1, v) else q).2)
      rw [if_neg h]
  · rw [List.map_append]
    rfl
theorem Kp.putD {H : Hp} {p : Addr} {kvs : List (Key × V)} {o : HO} (n : H p = some (.dK kvs)) : Kp [p] H (upd H p o) := ⟨fun b u e h => by
    rcases h with h | h
    · rw [upd_ne (by simpa using h)]; exact e
    · by_cases z : b = p
      · rw [z, n] at e
        cases e
        exact h.elim
      · rw [upd_ne z]; exact e, fun b e => by
    by_cases z : b = p
    · rw [z, upd_same] at e; cases e
    · rw [upd_ne z] at e; exact e⟩
section
variable {X : Cx} {σ : L2.St} {H : Hp} {Q : VK} {o e f : Expr} {pos apos cpos : Pos} {k : Nat} {a : Addr} {ps : List (Int × Int)} {i v : Int}
theorem we_dict0 (h : ∀ d H', H d = none → Kp [] H H' → H' d = some (.dK (encK [])) → Q (.ref d) H') : We X (.Dict [] [] pos) σ H Q := we_of pe_dnewK fun d nd => h d _ nd (.new nd) upd_same
theorem we_dget2 (hr : Room k X.A) (h : We X o σ H fun x H1 => ∃ a, x = .ref a ∧ (∃ ps, H1 a = some (.dK (encK ps))) ∧ We X e σ H1 fun y H2 => We X f σ H2 fun z H3 => ∃ ps i d, H3 a = some (.dK (encK ps)) ∧ y = .int i ∧ z = .int d ∧ Q (.int ((lkI ps i).getD d)) H3)
    (m1 : attributeBase o "get" X.env (eval o X.env) = eval o X.env := by rfl)
    (m2 : ((backTo cpos (starEach [e, f] X.env)).all (fun x => !x.1) && (backToKw cpos (keywordEach [] X.env)).all (fun x => x.1.isSome)
    && decide (([e, f] : List Expr).length + ([] : List Keyword).length + (if ([] : List Keyword).isEmpty then 0 else 1) < 30)) = true := by rfl)
    (m3 : (apos.endLine == cpos.line) = true := by rfl) (m4 : backTo cpos (starEach [e, f] X.env) = [(false, eval e X.env), (false, eval f X.env)] := by rfl) : We X (.Call (.Attribute o "get" apos) [e, f] [] cpos) σ H Q :=
  we_of (pe_dget2 (by have := hr.units; omega) We.pe We.pe We.pe ⟨m1, m2, m3, m4⟩) (we_mono h fun x H1 ⟨a, e1, ⟨ps, h1⟩, h2⟩ => ⟨a, e1, .inl ⟨_, .inl h1⟩, we_mono h2 fun y H2 h3 => we_mono h3 fun z H3 ⟨ps, i, d, h4, ey, ez, q⟩ => by
    subst ey ez
    refine ⟨_, DGet.k (k := Sum.inl i) h4, ?_⟩
    rw [valV_enc]
    cases hl : lkI ps i with
    | none => rw [hl] at q; exact q
    | some w => rw [hl] at q; exact q⟩)
theorem x_setD {G : Hp → Prop} (hr : Room k X.A) (h1 : H a = some (.dK (encK ps))) (hl : ps.length < 100000) (h : ∀ H', Kp [a] H H' → H' a = some (.dK (encK (ptI ps i v))) → G H') : Setw X (.ref a) (.int i) (.int v) H G := by
  refine ⟨fun o i v H Q => ∃ a H', o = .ref a ∧ DPut H a i v H' ∧ Q H', ?_, a, _, rfl, DPut.k (k := Sum.inl i) h1 (by
    have : sizeLine = 16777216 := rfl
    unfold encK
    rw [List.length_map]
    omega), h _ (.putD h1) (by rw [upd_same, putK_enc])⟩
  intro pins s σ H o i v ov iv u Q I r1 r2 r3 h
  obtain ⟨a, H', rfl, g, q⟩ := h
  obtain rfl : ov = Value.ref a := r1
  exact d_setItem (by have := hr.units; omega) I g r2 r3 fun s' I' => ⟨H', I', q⟩
/-- d[k], the key is there -/
theorem x_getD (hr : Room k X.A) (h1 : H a = some (.dK (encK ps))) (h2 : lkI ps i = some v) (h : Q (.int v) H) (hp : PlainIx e := by exact fun _ _ => rfl) {σ : L2.St} {Q : VK} : True := trivial
theorem we_dgetS (hr : Room k X.A) (h : We X o σ H fun x H1 => We X e σ H1 fun y H2 => ∃ a ps i v, x = .ref a ∧ H2 a = some (.dK (encK ps)) ∧ y = .int i ∧ lkI ps i = some v ∧ Q (.int v) H2) (hs : NoSl e := by exact fun _ _ => rfl) : We X (.Subscript o e pos) σ H Q :=
  we_of (pe_dget (by have := hr.units; omega) We.pe We.pe hs) (we_mono h fun x H1 h1 => we_mono h1 fun y H2 ⟨a, ps, i, v, e1, h2, ey, h3, q⟩ => ⟨a, .int v, e1, by
    subst ey
    have := DGet.k (k := Sum.inl i) h2
    rw [valV_enc, h3] at this
    exact this, q⟩)
end
/-! ### sorted(d.items()) -/
/-- new pairs of whole numbers, and a new list of some order of them -/
theorem pairs_laid2 {X : Cx} {pins : List (Addr × Obj)} {σ : L2.St} {H : Hp} {s : Shared} {h' : Heap} {tk : Nat} {S : Addr} {ps : List (V × V)} {acc : Array Value} {c : Nat} {as bs : List Addr} (I : Inv X pins σ H s) (hz : bs.length ≤ sizeLine) (hSs : s.heap.objs.size ≤ S)
    (hk : ∀ b o, s.heap.get? b = some o → h'.get? b = some o) (hS : h'.get? S = some { cls := .type "list", dict := none, data := .seq acc c, slots := #[] }) (hl : as.length = ps.length) (nd : as.Nodup) (hab : ∀ a ∈ as, s.heap.objs.size ≤ a) (hSn : S ∉ as) (hacc : acc.toList = bs.map Value.ref)
    (hpair : ∀ (j : Nat) (a : Addr) (p : V × V), as[j]? = some a → ps[j]? = some p → ∃ k v, RelV p.1 k ∧ RelV p.2 v ∧ h'.get? a = some { cls := .type "tuple", data := .seq #[k, v] }) :
    ∃ H' : Hp, (∀ b o, H b = some o → H' b = some o) ∧ H S = none ∧ (∀ t ∈ as, H t = none) ∧ H' S = some (.lst (bs.map V.ref)) ∧ (∀ (j : Nat) (a : Addr) (p : V × V), as[j]? = some a → ps[j]? = some p → H' a = some (.tup [p.1, p.2])) ∧ Inv X pins σ H' { s with heap := h', toks := tk } := by
  have new : ∀ t ∈ as, H t = none := fun t ht => I.hok.fresh (hab t ht)
  have newS : H S = none := I.hok.fresh hSs
  have atP := putP_at as ps (upd H S (.lst (bs.map V.ref))) hl nd
  have off : ∀ b, b ∉ as → b ≠ S → putP (upd H S (.lst (bs.map V.ref))) as ps b = H b := fun b h1 h2 => by rw [putP_off as ps _ h1, upd_ne h2]
  have low : ∀ b o, s.heap.get? b = some o → b ∉ as ∧ b ≠ S := fun b o e => ⟨fun z => Nat.lt_irrefl b (Nat.lt_of_lt_of_le (Heap.lt_size e) (hab b z)), fun z => Nat.lt_irrefl b (Nat.lt_of_lt_of_le (Heap.lt_size e) (by rw [z]; exact hSs))⟩
  have kp : ∀ b u, H b = some u → (putP (upd H S (.lst (bs.map V.ref))) as ps) b = some u := fun b u e => by
    rw [off b (fun z => by rw [new b z] at e; cases e) (fun z => by rw [z, newS] at e; cases e)]
    exact e
  have eS : putP (upd H S (.lst (bs.map V.ref))) as ps S = some (.lst (bs.map V.ref)) := by rw [putP_off as ps _ hSn, upd_same]
  refine ⟨putP (upd H S (.lst (bs.map V.ref))) as ps, kp, newS, new, eS, atP, ?_⟩
  refine I.call' (ch := []) rfl ⟨fun b o q _ _ _ => hk b o q, fun b o q _ _ _ => ⟨o.slots, hk b o q⟩, fun b o q n _ => ?_, fun b o q _ => ⟨o, hk b o q⟩, fun b xs q => kp b _ q, fun b o u q => kp b _ q, fun b ps q => ⟨#[], by rw [kp b _ q]; simp⟩⟩ (fun b u q => ?_) I.bare fun b z => by simp at z
  · obtain ⟨z1, z2⟩ := low b o q
    rw [off b z1 z2]
    exact n
  · by_cases hb : b ∈ as
    · obtain ⟨j, hj⟩ := List.mem_iff_getElem?.mp hb
      have hjl : j < ps.length := by rw [← hl]; exact (List.getElem?_eq_some_iff.mp hj).1
      have e3 := atP j b _ hj (List.getElem?_eq_getElem hjl)
      rw [e3] at q
      cases q
      obtain ⟨k, v, r1, r2, f3⟩ := hpair j b _ hj (List.getElem?_eq_getElem hjl)
      exact ⟨by show 2 ≤ sizeLine; decide, [k, v], .cons r1 (.cons r2 .nil), ⟨_, f3, rfl, _, rfl⟩⟩
    · by_cases hb2 : b = S
      · rw [hb2] at q ⊢
        rw [eS] at q
        cases q
        refine ⟨by rw [List.length_map]; omega, acc.toList, c, by rw [hacc]; exact vals_refs bs, ?_⟩
        rw [Array.toArray_toList]
        exact hS
      · rw [off b hb hb2] at q
        exact (I.hok b u q).stay (fun d v _ y => hk d v y) (fun d y => kp d _ y) fun d xs y => kp d _ y
theorem pairs_get {P : Program} {w : World} {es : List DictEntry} {vs : List (Key × Value)} (h : Pairs (mixKind P w) es vs) : ∀ {j : Nat} {en : DictEntry}, es[j]? = some en → ∃ kv, vs[j]? = some kv ∧ (mixKind P w).is kv.1 en.key = true ∧ en.val = kv.2 := by
  induction h with
  | nil => intro j en h; cases h
  | cons h1 h2 _ ih =>
    intro j en h
    cases j with
    | zero => cases h; exact ⟨_, rfl, h1, h2⟩
    | succ j => exact ih h
theorem kv_get {kvs : List (Key × V)} {vs : List (Key × Value)} (h : KV kvs vs) : ∀ {j : Nat} {kv : Key × Value}, vs[j]? = some kv → ∃ p, kvs[j]? = some p ∧ p.1 = kv.1 ∧ RelV p.2 kv.2 := by
  unfold KV at h
  induction h with
  | nil => intro j en h; cases h
  | cons h1 _ ih =>
    intro j en h
    cases j with
    | zero => cases h; exact ⟨_, rfl, h1.1, h1.2⟩
    | succ j => exact ih h
theorem lookup_zip : ∀ {as : List Addr} {ps : List (Int × Int)} {j : Nat} {b : Addr} {y : Int × Int}, as.Nodup → as[j]? = some b → ps[j]? = some y → (as.zip ps).lookup b = some y
  | [], _, _, _, _, _, h, _ => by cases h
  | _ :: _, [], _, _, _, _, _, h => by cases h
  | a :: as, p :: ps, 0, b, y, _, h1, h2 => by
    cases h1
    cases h2
    simp [List.lookup]
  | a :: as, p :: ps, j + 1, b, y, hn, h1, h2 => by
    have hn' := List.nodup_cons.mp hn
    have hb : b ∈ as := List.mem_of_getElem? (i := j) h1
    have hne : (b == a) = false := by
      rw [beq_eq_false_iff_ne]
      exact fun z => hn'.1 (z ▸ hb)
    show (((a, p) :: as.zip ps).lookup b) = some y
    rw [List.lookup_cons, hne]
    exact lookup_zip hn'.2 h1 h2
theorem perm_ref {as bs : List Addr} (h : (bs.map Value.ref).Perm (as.map Value.ref)) : bs.Perm as := by
  have := h.map fun v => match v with | Value.ref b => b | _ => 0
  rw [List.map_map, List.map_map] at this
  have e : ∀ xs : List Addr, xs.map ((fun v => match v with | Value.ref b => b | _ => 0) ∘ Value.ref) = xs := fun xs => by
    induction xs with
    | nil => rfl
    | cons x xs ih => rw [List.map_cons, ih]; rfl
  rw [e, e] at this
  exact this
theorem pairs_len {P : Program} {w : World} : ∀ {es : List DictEntry} {vs : List (Key × Value)}, Pairs (mixKind P w) es vs → es.length = vs.length
  | _, _, .nil => rfl
  | _, _, .cons _ _ r => congrArg Nat.succ (pairs_len r)
section
variable {X : Cx} {σ : L2.St} {H : Hp} {Q : VK} {o : Expr} {pos apos cpos p : Pos} {k : Nat}
def Srt2 (xs : List (Int × Int)) : Prop := xs.Pairwise fun x y => ¬ lt2 y x
theorem lexB_lt2 (x y : Int × Int) : SrtO.lexB x y = decide (lt2 x y) := by
  have h := @SrtO.lexB_iff x y
  by_cases q : lt2 x y
  · rw [decide_eq_true q]; exact h.mpr q
  · rw [decide_eq_false q]
    cases e : SrtO.lexB x y with
    | false => rfl
    | true => exact absurd (h.mp e) q
theorem we_sortedItems (hc : X.calm = true) (hg : Gl X "sorted") (hm : X.mg "sorted" = none)
    (h : We X o σ H fun x H1 => ∃ d ps, x = .ref d ∧ H1 d = some (.dK (encK ps)) ∧ ∀ r H' qs, H1 r = none → Kp [] H1 H' → RL e2 H' r qs → qs.Perm ps → Srt2 qs → Q (.ref r) H')
    (hbase : attributeBase o "items" X.env (eval o X.env) = eval o X.env := by rfl) (hline : (apos.endLine == cpos.line) = true := by rfl)
    (hs : starEach [.Call (.Attribute o "items" apos) [] [] cpos] X.env = (false, eval (.Call (.Attribute o "items" apos) [] [] cpos) X.env) :: starEach [] X.env := by rfl) : We X (.Call (.Name "sorted" p) [.Call (.Attribute o "items" apos) [] [] cpos] [] pos) σ H Q := by
  have mi : MtR X "dict.items" (fun x xs H Q => ∃ (a : Addr) (kvs : List (Key × V)), x = .ref a ∧ xs = [] ∧ H a = some (.dK kvs) ∧ ∀ p, H p = none → Q (.ref p) (upd H p (L2.DX.itemsO p a))) := by
    intro pins s σ H x xs v us Q I rx rxs h
    obtain ⟨a, kvs, rfl, rfl, ha, q⟩ := h
    cases rx
    cases rxs
    obtain ⟨z, hd, vs, rel, ob, es, ep, ho, hx, hdat, _⟩ := dk_of I.hok ha
    refine DT.callItems (es := es) (ep := ep) hd ⟨ob, ho, hx, hdat⟩ ?_
    have hf : H s.heap.objs.size = none := I.hok.fresh (Nat.le_refl _)
    exact ⟨.ref s.heap.objs.size, upd H s.heap.objs.size (L2.DX.itemsO s.heap.objs.size a), I.laid (t' := s.toks) (fun b u e => Heap.get?_push_of_some _ e) (Nat.le_refl _) (L2.DX.itemsO_ok (Heap.get?_push_size _ rfl)), rfl, q _ hf⟩
  have cs : CallR X (.builtin "sorted") (fun vs H Q => ∃ (v d : Addr) (ps : List (Int × Int)), vs = [.ref v] ∧ H v = some (L2.DX.itemsO v d) ∧ H d = some (.dK (encK ps)) ∧ ∀ r H' qs, H r = none → Kp [] H H' → RL e2 H' r qs → qs.Perm ps → Srt2 qs → Q (.ref r) H') := by
    intro pins s σ H xs us Q I r h
    obtain ⟨v, d, ps, rfl, hv, hd, q⟩ := h
    obtain rfl := Vals.ref1 r
    have view : s.heap.IsItemsView v d := (show ObjOk X.prog X.w H s.heap v (L2.DX.itemsO v d) from I.hok v _ hv).1
    obtain ⟨hz, hdm, vs, rel, ob, es, ep, ho, hx, hdat, hks, hpr, hnd⟩ := dk_of I.hok hd
    have hlv : (encK ps).length = vs.length := Paired.length rel
    have hle : es.toList.length = vs.length := pairs_len hpr
    have hlp : (encK ps).length = ps.length := List.length_map _
    have hes : es.size = ps.length := by rw [← Array.length_toList]; omega
    have hh : X.A.handled = none := I.ok.hd hc
    refine DT.sortedI (es := es) (ep := ep) hh view ⟨ob, ho, hx, hdat⟩ (by rw [hes, ← hlp]; exact hz) fun h' tk as hk hlt hl hG => ?_
    have nd : as.Nodup := List.Pairwise.imp (fun {a b} (h : a < b) => Nat.ne_of_lt h) hG.rise
    have hal : as.length = ps.length := by omega
    -- what each new tuple holds
    have pr : ∀ (j : Nat) (b : Addr), as[j]? = some b → ∃ (y : Int × Int) (t u : Tok), ps[j]? = some y ∧ h'.get? b = some { cls := .type "tuple", data := .seq #[Value.int y.1 t, Value.int y.2 u] } := fun j b hj => by
      obtain ⟨en, he, hg⟩ := hG.pairs j b hj
      have he' : es.toList[j]? = some en := by rw [Array.getElem?_toList]; exact he
      obtain ⟨kv, h1, h2, h3⟩ := pairs_get hpr he'
      obtain ⟨pv, g1, g2, g3⟩ := kv_get rel h1
      unfold encK at g1
      rw [List.getElem?_map] at g1
      obtain ⟨y, hy, rfl⟩ := Option.map_eq_some_iff.mp g1
      have g2' : (Sum.inl y.1 : Key) = kv.1 := g2
      rw [← g2'] at h2
      have h2' : keyIs (Sum.inl y.1 : Key) en.key = true := h2
      rcases keyIs_shape h2' with ⟨i, t, e1, e2'⟩ | ⟨x, t, e1, e2'⟩
      · have e1' : y.1 = i := Sum.inl.inj e1
        obtain ⟨u, e3⟩ : ∃ u, kv.2 = Value.int y.2 u := g3
        refine ⟨y, t, u, hy, ?_⟩
        rw [hg, e2', h3, e3, e1']
      · cases e1
    -- the pair at an address
    have kex : ∃ kf : Value → Int × Int, ∀ (j : Nat) (b : Addr) (y : Int × Int), as[j]? = some b → ps[j]? = some y → kf (.ref b) = y := by
      refine ⟨fun v => match v with | .ref b => ((as.zip ps).lookup b).getD (0, 0) | _ => (0, 0), fun j b y hj hy => ?_⟩
      show ((as.zip ps).lookup b).getD (0, 0) = y
      rw [lookup_zip nd hj hy]
      rfl
    obtain ⟨kf, hkf⟩ := kex
    have ispair : ∀ u ∈ as.map Value.ref, Srt.IsPair h' u (kf u).1 (kf u).2 := fun u hu => by
      obtain ⟨b, hb, rfl⟩ := List.mem_map.mp hu
      obtain ⟨j, hj⟩ := List.mem_iff_getElem?.mp hb
      obtain ⟨y, t, u, hy, hg⟩ := pr j b hj
      rw [hkf j b y hj hy]
      exact ⟨b, _, t, u, _, rfl, hg, rfl, rfl⟩
    have hoL : (h'.push { cls := .type "list", data := .seq (as.map Value.ref).toArray }).get? h'.objs.size = some (seqObj "list" (as.map Value.ref).toArray 0) := Heap.get?_push_size _ rfl
    have keep2 : ∀ b o, h'.get? b = some o → b ≠ h'.objs.size ∧ (h'.push { cls := .type "list", data := .seq (as.map Value.ref).toArray }).get? b = some o := fun b o e => ⟨Nat.ne_of_lt (Heap.lt_size e), Heap.get?_push_of_some _ e⟩
    have hzl : (as.map Value.ref).length ≤ sizeLine := by rw [List.length_map, hal, ← hlp]; exact hz
    refine wpAny_call_entry slot_list_sort ⟨_, hoL, rfl⟩ entry_list_sort (SrtO.list_sort_ord (SrtO.swo_lex kf) hoL hzl (fun h2 => ?_) fun out hso hbo => ?_) (args_list_sort _)
    · refine SrtO.pairs_sortableO (by omega) (fun u hu => ?_) fun o e => ?_
      · exact Srt.IsPair.keeps (ispair u hu) fun b o e _ => (keep2 b o e).2
      · have e' : some o = some (seqObj "list" (as.map Value.ref).toArray 0) := e.symm.trans hoL
        cases e'
        intro c
        exact absurd (Value.type.inj c) (by decide)
    · -- the end
      have hout : ∃ bs : List Addr, out = bs.map Value.ref := by
        have : ∀ u ∈ out, ∃ b, u = Value.ref b := fun u hu => by
          obtain ⟨b, _, rfl⟩ := List.mem_map.mp (hbo.perm.mem_iff.mp hu)
          exact ⟨b, rfl⟩
        clear hso hbo
        induction out with
        | nil => exact ⟨[], rfl⟩
        | cons u out ih =>
          obtain ⟨b, rfl⟩ := this u List.mem_cons_self
          obtain ⟨bs, rfl⟩ := ih fun u hu => this u (List.mem_cons_of_mem _ hu)
          exact ⟨b :: bs, rfl⟩
      obtain ⟨bs, rfl⟩ := hout
      have hperm : bs.Perm as := by
        have := hbo.perm
        exact perm_ref this
      obtain ⟨e0, hS⟩ := sortedHeap_at (out := (bs.map Value.ref).toArray) hoL
      have hkk : ∀ b o, h'.get? b = some o → (sortedHeap (h'.push { cls := .type "list", data := .seq (as.map Value.ref).toArray }) h'.objs.size (as.map Value.ref) (bs.map Value.ref).toArray).get? b = some o := fun b o e => by
        have hb := Heap.lt_size e
        rw [sortedHeap_old (Nat.ne_of_lt hb) (by rw [Heap.size_push]; exact Nat.lt_succ_of_lt hb)]
        exact (keep2 b o e).2
      have hbl : bs.length = ps.length := by rw [hperm.length_eq, hal]
      obtain ⟨H', k1, k2, k3, k4, k5, J⟩ := pairs_laid2 (tk := tk) (ps := ps.map fun y => (V.int y.1, V.int y.2)) (as := as) (bs := bs) I (by rw [hbl, ← hlp]; exact hz) (S := h'.objs.size) (Nat.le_of_lt hlt) (fun b o e => hkk b o (hk b o e)) hS (by rw [List.length_map]; exact hal) nd (fun a ha => Nat.le_of_lt (hG.above a ha)) (fun z => Nat.lt_irrefl _ (hG.there z)) rfl (fun j a p hj hp => by
        obtain ⟨y, t, u, hy, hg⟩ := pr j a hj
        rw [List.getElem?_map, hy] at hp
        cases hp
        exact ⟨_, _, ⟨t, rfl⟩, ⟨u, rfl⟩, hkk a _ hg⟩)
      have hkas : as.map (fun b => kf (.ref b)) = ps := by
        apply List.ext_getElem?
        intro j
        rw [List.getElem?_map]
        cases hj : as[j]? with
        | none =>
          rw [List.getElem?_eq_none_iff] at hj
          rw [List.getElem?_eq_none (by omega)]
          rfl
        | some b =>
          obtain ⟨y, _, _, hy, _⟩ := pr j b hj
          rw [hy]
          show some (kf (.ref b)) = some y
          rw [hkf j b y hj hy]
      refine ⟨_, rfl, .ref h'.objs.size, H', J, rfl, q h'.objs.size H' (bs.map fun b => kf (.ref b)) k2 (Kp.ext k1) ⟨bs, k4, by rw [List.length_map], fun j t hj => ?_⟩ ?_ ?_⟩
      · refine ⟨kf (.ref t), by rw [List.getElem?_map, hj]; rfl, ?_⟩
        have ht : t ∈ as := hperm.mem_iff.mp (List.mem_of_getElem? hj)
        obtain ⟨i, hi⟩ := List.mem_iff_getElem?.mp ht
        obtain ⟨y, _, _, hy, _⟩ := pr i t hi
        rw [hkf i t y hi hy]
        exact k5 i t (V.int y.1, V.int y.2) hi (by rw [List.getElem?_map, hy]; rfl)
      · have := hperm.map fun b => kf (.ref b)
        rw [hkas] at this
        exact this
      · have hso' : (bs.map Value.ref).Pairwise fun x y => SrtO.lexB (kf y) (kf x) = false := hso
        rw [List.pairwise_map] at hso'
        unfold Srt2
        rw [List.pairwise_map]
        refine List.Pairwise.imp (fun {a b} hab => ?_) hso'
        rw [lexB_lt2] at hab
        exact of_decide_eq_false hab
  have he : PE X (.Call (.Attribute o "items" apos) [] [] cpos) _ := pe_bm0 PySem.F.plainAttrs_dict PySem.F.slot_dict_items PySem.F.type_dict_items mi (We.pe (X := X) (e := o)) hbase hline
  refine we_of (pe_callB cs hg hm boot_sorted (pa_cons he pa_nil hs) (he := hs)) ?_
  refine we_mono h fun x H1 ⟨d, ps, ex, hd, hq⟩ => ?_
  subst ex
  refine ⟨.inr (.inr (.inl ⟨rfl, .inl ⟨_, hd⟩⟩)), d, _, rfl, rfl, hd, fun v nv => ?_⟩
  have kv : Kp [] H1 (upd H1 v (L2.DX.itemsO v d)) := .new nv
  refine ⟨v, d, ps, rfl, upd_same, kv.g0 hd, fun r H' qs nr k hR hp hs => hq r H' qs (kv.nn nr) (kv.tr0 k) hR hp hs⟩
end
end SL

/-! lists of triples sorted -/
namespace SL
open PySem PySem.Spec PyProof.Rows L2
def IsTri (h : Heap) (v : Value) (q : Int × Int × Int) : Prop := ∃ a o t u w n, v = .ref a ∧ h.get? a = some o ∧ o.cls = .type "tuple" ∧ o.data = .seq #[.int q.1 t, .int q.2.1 u, .int q.2.2 w] n
theorem IsTri.keeps {h h' : Heap} {v : Value} {q : Int × Int × Int} (p : IsTri h v q) (k : ∀ b o, h.get? b = some o → o.cls = .type "tuple" → h'.get? b = some o) : IsTri h' v q := by
  obtain ⟨a, o, t, u, w, n, e, ho, hc, hd⟩ := p
  exact ⟨a, o, t, u, w, n, e, k _ _ ho hc, hc, hd⟩
theorem tri_firsts {h : Heap} {k : Value → Int × Int × Int} : ∀ {vs : List Value}, (∀ v ∈ vs, IsTri h v (k v)) → ∃ fs : List Value, PySem.W.KatTups h vs fs ∧ fs.length = vs.length ∧ ∀ f ∈ fs, ∃ x t, f = Value.int x t
  | [], _ => ⟨[], PySem.W.KatTups.nil, rfl, fun _ hm => by simp at hm⟩
  | v :: vs, hp => by
    obtain ⟨fs, h1, h2, h3⟩ := tri_firsts (vs := vs) fun v' hm => hp v' (List.mem_cons_of_mem _ hm)
    obtain ⟨a, o, t, u, w, n, e, ho, hc, hd⟩ := hp v (List.mem_cons_self ..)
    subst e
    refine ⟨.int (k (.ref a)).1 t :: fs, PySem.W.KatTups.cons ho hc hd rfl h1, by rw [List.length_cons, List.length_cons, h2], fun f hm => ?_⟩
    rcases List.mem_cons.mp hm with rfl | hm
    · exact ⟨_, t, rfl⟩
    · exact h3 f hm
def tb3 (p q : Int × Int × Int) : Bool := if p.1 = q.1 then (if p.2.1 = q.2.1 then decide (p.2.2 < q.2.2) else decide (p.2.1 < q.2.1)) else decide (p.1 < q.1)
theorem tb3_lt (p q : Int × Int × Int) : tb3 p q = decide (lt3 p q) := by
  unfold tb3 lt3
  by_cases h1 : p.1 = q.1
  · rw [if_pos h1]
    by_cases h2 : p.2.1 = q.2.1
    · rw [if_pos h2]; exact decide_eq_decide.mpr (by omega)
    · rw [if_neg h2]; exact decide_eq_decide.mpr (by omega)
  · rw [if_neg h1]; exact decide_eq_decide.mpr (by omega)
theorem swo_tb3 (k : Value → Int × Int × Int) : SrtO.Swo fun v u => tb3 (k v) (k u) := by
  refine ⟨fun x y h => ?_, fun x y z h1 h2 => ?_⟩
  · rw [tb3_lt] at h ⊢
    have a := of_decide_eq_true h
    unfold lt3 at a
    exact decide_eq_false (by unfold lt3; omega)
  · rw [tb3_lt] at h1 h2 ⊢
    have a := of_decide_eq_false h1
    have b := of_decide_eq_false h2
    unfold lt3 at a b
    exact decide_eq_false (by unfold lt3; omega)
section
variable {prog : Program} {w : World} {A : Around} {E : Value → Shared → Prop} {s : Shared}
theorem tri_cmp {vs : List Value} {k : Value → Int × Int × Int} (hp : ∀ v ∈ vs, IsTri s.heap v (k v)) : SrtO.Cmp prog w A s (tuples' true) (fun p => p.1 ∈ vs) (SrtO.lt2 fun v u => tb3 (k v) (k u)) := by
  intro p q hm hm'
  have h1 := hp _ hm
  have h2 := hp _ hm'
  show wpAny (model prog w) A (keyLt' (tuples' true) p.1 q.1) (fun r s' => s' = s ∧ r = tb3 (k p.1) (k q.1)) (fun _ _ => False) s
  unfold tb3
  obtain ⟨a, o, t, u, v, n, e, ho, hc, hd⟩ := h1
  obtain ⟨a', o', t', u', v', n', e', ho', hc', hd'⟩ := h2
  generalize (k p.1).1 = x at hd ⊢
  generalize (k p.1).2.1 = y at hd ⊢
  generalize (k p.1).2.2 = z at hd ⊢
  generalize (k q.1).1 = x' at hd' ⊢
  generalize (k q.1).2.1 = y' at hd' ⊢
  generalize (k q.1).2.2 = z' at hd' ⊢
  rw [e, e']
  refine PySem.W.kat_lt ho hd ho' hd' ?_
  show PySem.W.KatLex prog w A true (decide (3 < 3)) _ [(.int x t, .int x' t'), (.int y u, .int y' u'), (.int z v, .int z' v')] 0 s
  refine PySem.W.kat_cons (SeqAt.EqAt.int_int x t x' t' prog w _ _ ?_)
  refine PySem.W.kat_go (fun e1 => ?_) (fun e1 => ?_)
  · have ex : x = x' := by simpa using e1
    rw [if_pos ex]
    refine PySem.W.kat_yes (PySem.W.kat_cons (SeqAt.EqAt.int_int y u y' u' prog w _ _ ?_))
    refine PySem.W.kat_go (fun e2 => ?_) (fun e2 => ?_)
    · have ey : y = y' := by simpa using e2
      rw [if_pos ey]
      refine PySem.W.kat_yes (PySem.W.kat_cons (SeqAt.EqAt.int_int z v z' v' prog w _ _ ?_))
      refine PySem.W.kat_go (fun e3 => ?_) (fun e3 => ?_)
      · have ez : z = z' := by simpa using e3
        exact PySem.W.kat_yes (PySem.W.kat_nil ⟨rfl, (decide_eq_false (by omega)).symm⟩)
      · refine PySem.W.kat_no (PySem.W.kat_one _ _ (PyProof.Rows.lt_int ?_))
        exact ⟨rfl, rfl⟩
    · have ey : ¬ y = y' := by simpa using e2
      rw [if_neg ey]
      refine PySem.W.kat_no (PySem.W.kat_one _ _ (PyProof.Rows.lt_int ?_))
      exact ⟨rfl, rfl⟩
  · have ex : ¬ x = x' := by simpa using e1
    rw [if_neg ex]
    exact PySem.W.kat_no (oneLt_int ⟨rfl, rfl⟩)
theorem tri_sortable {a : Addr} {vs : List Value} {k : Value → Int × Int × Int} (h0 : 0 < vs.length) (hp : ∀ v ∈ vs, IsTri s.heap v (k v)) (ha : ∀ o, s.heap.get? a = some o → o.cls ≠ .type "tuple") : SrtO.SortableO prog w A s a vs fun v u => tb3 (k v) (k u) := by
  intro h' keep
  have hp' : ∀ v ∈ vs, IsTri h' v (k v) := fun v hm => (hp v hm).keeps fun b o e c => keep b o (fun z => by subst z; exact ha o e c) e
  obtain ⟨fs, h1, h2, h3⟩ := tri_firsts hp'
  refine ⟨tuples' true, fun Q E hq => ?_, tri_cmp hp'⟩
  refine PySem.W.kat_kind (T := .type "int") h1 (by omega) (fun f hm => ?_) (by rfl) ?_
  · obtain ⟨x, t, rfl⟩ := h3 f hm
    exact PySem.W.Looks.now
  · have e : (Value.type "int" != Value.type "tuple") = true := by first | decide +kernel | rfl | decide
    rw [e]
    exact hq
end
def Srt3 (xs : List (Int × Int × Int)) : Prop := xs.Pairwise fun x y => ¬ lt3 y x
def triAt (H : Hp) (v : Value) : Int × Int × Int := match v with
  | .ref t => match H t with
    | some (.tup [.int a, .int b, .int c]) => (a, b, c)
    | _ => (0, 0, 0)
  | _ => (0, 0, 0)
theorem triAt_of {H : Hp} {t : Addr} {q : Int × Int × Int} (h : H t = some (.tup (e3 q))) : triAt H (.ref t) = q := by
  show (match H t with | some (.tup [.int a, .int b, .int c]) => (a, b, c) | _ => (0, 0, 0)) = q
  rw [h]
  rfl
theorem k_sorted3 {X : Cx} {H : Hp} {Q : VK} {p : Addr} {xs : List (Int × Int × Int)} (h1 : RL e3 H p xs) (h : ∀ r H' qs, H r = none → Kp [] H H' → RL e3 H' r qs → qs.Perm xs → Srt3 qs → Q (.ref r) H') : Cal X (.builtin "sorted") [.ref p] H Q := by
  refine ⟨fun vs H Q => vs = [.ref p] ∧ RL e3 H p xs ∧ ∀ r H' qs, H r = none → Kp [] H H' → RL e3 H' r qs → qs.Perm xs → Srt3 qs → Q (.ref r) H', ?_, rfl, h1, h⟩
  intro pins s σ H vs us Q I r h
  obtain ⟨rfl, hR, q⟩ := h
  rw [Vals.ref1 r]
  obtain ⟨ts, e1, e2, e3'⟩ := hR.ex
  obtain ⟨its, rv, hl, hz⟩ := I.list (sqL e1)
  obtain ⟨g1, g2⟩ := refs_back rv fun x m => by
    obtain ⟨t, _, rfl⟩ := List.mem_map.mp m
    exact ⟨t, rfl⟩
  have hits : its = ts.map Value.ref := by
    clear hl hz
    have gg : ∀ (ts : List Addr) (its : List Value), ts.map V.ref = its.map backV → (∀ u ∈ its, ∃ a, u = Value.ref a) → its = ts.map Value.ref := by
      intro ts
      induction ts with
      | nil =>
        intro its h _
        cases its with
        | nil => rfl
        | cons u its => cases h
      | cons t ts ih =>
        intro its h h2
        cases its with
        | nil => cases h
        | cons u its =>
          obtain ⟨b, rfl⟩ := h2 u List.mem_cons_self
          rw [List.map_cons, List.map_cons, List.cons.injEq] at h
          have hb : t = b := V.ref.inj h.1
          rw [List.map_cons, hb, ih its h.2 fun u hu => h2 u (List.mem_cons_of_mem _ hu)]
    exact gg ts its g1 g2
  subst hits
  have hmem : ∀ t ∈ ts, ∃ y, y ∈ xs ∧ H t = some (.tup (e3 y)) := fun t ht => by
    obtain ⟨j, hj⟩ := List.mem_iff_getElem?.mp ht
    obtain ⟨y, f1, f2⟩ := e3' j t hj
    exact ⟨y, List.mem_of_getElem? f1, f2⟩
  have htri : ∀ v ∈ ts.map Value.ref, IsTri s.heap v (triAt H v) := fun v hv => by
    obtain ⟨t, ht, rfl⟩ := List.mem_map.mp hv
    obtain ⟨y, _, hy⟩ := hmem t ht
    rw [triAt_of hy]
    obtain ⟨_, its2, r2, o, ho, hc, n, hd⟩ := I.hok _ _ hy
    cases r2 with
    | cons ra r2 =>
      cases r2 with
      | cons rb r2 =>
        cases r2 with
        | cons rc r2 =>
          cases r2
          obtain ⟨t1, rfl⟩ := ra
          obtain ⟨t2, rfl⟩ := rb
          obtain ⟨t3, rfl⟩ := rc
          exact ⟨t, o, t1, t2, t3, n, rfl, ho, hc, hd⟩
  have hlen : (ts.map Value.ref).length ≤ sizeLine := by
    rw [List.length_map] at hz ⊢
    exact hz
  refine SrtO.sorted_ord (swo_tb3 (triAt H)) hl.isList hlen (fun h2 h₁ a ha kk => ?_) fun out hso hbo => ?_
  · refine tri_sortable (s := { s with heap := h₁ }) (by omega) (fun v hm => (htri v hm).keeps fun b o e _ => (kk b o e).2) fun o e => ?_
    have e' : some o = some (seqObj "list" (ts.map Value.ref).toArray 0) := e.symm.trans ha
    cases e'
    intro c
    exact absurd (Value.type.inj c) (by decide)
  · have h3 : ∀ u ∈ out, ∃ a, u = Value.ref a := fun u hu => g2 u (hbo.perm.mem_iff.mp hu)
    obtain ⟨n, hn⟩ := sortedAll_at s.heap (ts.map Value.ref) out.toArray
    have hkp : ∀ b o, s.heap.get? b = some o → (sortedAll s.heap (ts.map Value.ref) out.toArray).get? b = some o := fun b o e => sortedAll_old e
    have hfr : H (s.heap.objs.size + 1) = none := I.hok.fresh (Nat.le_succ _)
    have hol : out.length = xs.length := by
      rw [hbo.perm.length_eq, List.length_map, e2]
    refine ⟨.ref (s.heap.objs.size + 1), upd H (s.heap.objs.size + 1) (.lst (out.map backV)), I.laid (t' := s.toks) hkp (Nat.le_succ _) ⟨?_, out, n, vals_back h3, hn⟩, rfl, q _ _ (out.map (triAt H)) hfr (.new hfr) ?_ ?_ ?_⟩
    · rw [List.length_map, hbo.perm.length_eq]
      exact hlen
    · have hb : ∃ bs : List Addr, out = bs.map Value.ref := by
        clear hso hbo hn hkp hol
        induction out with
        | nil => exact ⟨[], rfl⟩
        | cons u out ih =>
          obtain ⟨b, rfl⟩ := h3 u List.mem_cons_self
          obtain ⟨bs, rfl⟩ := ih fun u hu => h3 u (List.mem_cons_of_mem _ hu)
          exact ⟨b :: bs, rfl⟩
      obtain ⟨bs, rfl⟩ := hb
      refine ⟨bs, ?_, by rw [List.length_map, List.length_map], fun j t hj => ?_⟩
      · rw [upd_same, List.map_map]
        congr 2
      · have ht : t ∈ ts := by
          have : Value.ref t ∈ ts.map Value.ref := hbo.perm.mem_iff.mp (List.mem_map_of_mem (List.mem_of_getElem? hj))
          obtain ⟨t', h1, h2⟩ := List.mem_map.mp this
          cases h2
          exact h1
        obtain ⟨y, _, hy⟩ := hmem t ht
        refine ⟨triAt H (.ref t), by rw [List.getElem?_map, List.getElem?_map, hj]; rfl, ?_⟩
        rw [triAt_of hy, upd_ne (ne_of_none hy hfr)]
        exact hy
    · have hp := hbo.perm.map (triAt H)
      rw [List.map_map] at hp
      have ex : ts.map (triAt H ∘ Value.ref) = xs := by
        apply List.ext_getElem?
        intro j
        rw [List.getElem?_map]
        cases hj : ts[j]? with
        | none =>
          rw [List.getElem?_eq_none_iff] at hj
          rw [List.getElem?_eq_none (by omega)]
          rfl
        | some b =>
          obtain ⟨y, hy, hH⟩ := e3' j b hj
          rw [hy]
          show some (triAt H (.ref b)) = some y
          rw [triAt_of hH]
      rw [ex] at hp
      exact hp
    · unfold Srt3
      rw [List.pairwise_map]
      have hso' : out.Pairwise fun x y => tb3 (triAt H y) (triAt H x) = false := hso
      refine List.Pairwise.imp (fun {a b} hab => ?_) hso'
      rw [tb3_lt] at hab
      exact of_decide_eq_false hab
section
variable {X : Cx} {elt tg c : Expr} {scope : Scope} {vs : List Nat} {σ : L2.St} {R : VK} {q : Addr} {H : Hp}
/-- [elt for t in ts if test], tuples to whole numbers -/
theorem lcd_tupF {α : Type} {enc : α → List V} {xs : List α} {ts : List Addr} (P : α → Prop) [DecidablePred P] (g : α → Int) (hp : H q = some (.lst (ts.map V.ref))) (hR : RL enc H q xs) (hl : xs.length ≤ 99999)
    (he : ∀ x ∈ xs, ∀ t H1, Kp [] H H1 → H1 t = some (.tup (enc x)) → Bl X scope fun Z => Wg Z tg (.ref t) (wipe σ vs) H1 fun σ2 H2 => wipe σ2 vs = wipe σ vs ∧ Bl X scope fun Z => Wt Z c σ2 H2 fun k H3 => k = decide (P x) ∧ Kp [] H1 H3 ∧ Bl X scope fun Z => We Z elt σ2 H3 fun y H4 => y = .int (g x) ∧ Kp [] H3 H4)
    (hd : ∀ Dl H', H Dl = none → Kp [] H H' → H' Dl = some (.lst (((xs.filter fun x => decide (P x)).map g).map V.int)) → R (.ref Dl) H') :
    LcD X elt tg [c] scope vs σ R (ts.map V.ref).length (fun H => SqL X.K H q (ts.map V.ref)) (YAt (ts.map V.ref)) H := by
  obtain ⟨us, f1, f2, f3⟩ := hR.ex
  have eu : us.map V.ref = ts.map V.ref := HO.lst.inj (Option.some.inj (f1.symm.trans hp))
  have elen : (ts.map V.ref).length = xs.length := by rw [← eu, List.length_map, f2]
  intro Dl H1 nD kD hD
  refine ⟨fun i H' => Kp [] H H' ∧ H' Dl = some (.lst ((((xs.take i).filter fun x => decide (P x)).map g).map V.int)), ⟨kD, hD⟩, fun i H' _ h => sqL (h.1.g0 hp), ?_, ?_⟩
  · rintro i v H2 H3 hi ⟨k2, hD2⟩ ⟨rfl, hx⟩
    obtain ⟨t, x, rfl, g1, g2⟩ := hR.get hp hx
    intro s0 H0 C cl fp
    refine wg_mono (he x (List.mem_of_getElem? g1) t _ k2 (k2.g0 g2) s0 H0 C cl fp) fun σ2 H4 ⟨e1, h2⟩ => ⟨e1, fun s0 H0 C cl fp => ?_⟩
    refine wts_one (wt_mono (h2 s0 H0 C cl fp) fun k H5 ⟨ek, k5, h3⟩ => ?_)
    subst ek
    have et : (xs.take (i + 1)).filter (fun x => decide (P x)) = (xs.take i).filter (fun x => decide (P x)) ++ [x].filter (fun x => decide (P x)) := by
      rw [List.take_succ, g1, List.filter_append]
      rfl
    by_cases hq : P x
    · rw [decide_eq_true hq]
      refine iteT fun s0 H0 C cl fp => we_mono (h3 s0 H0 C cl fp) fun y H6 ⟨ey, k6⟩ => ?_
      subst ey
      have h1 := List.length_filter_le (fun x => decide (P x)) (xs.take i)
      rw [List.length_take] at h1
      refine appI (k6.g0 (k5.g0 hD2)) (by rw [List.length_map]; omega) fun H7 k7 hD7 => ⟨((k2.tr0 k5).tr0 k6).trN k7 nD, ?_⟩
      rw [hD7, et, List.filter_cons_of_pos (by exact decide_eq_true hq), List.filter_nil, List.map_append (l₂ := [x])]
      rfl
    · rw [decide_eq_false hq]
      refine iteF ⟨k2.tr0 k5, ?_⟩
      rw [et, List.filter_cons_of_neg (by rw [decide_eq_false hq]; decide), List.filter_nil, List.append_nil]
      exact k5.g0 hD2
  · rintro H2 ⟨k2, hD2⟩
    rw [elen, List.take_length] at hD2
    exact hd Dl H2 nD k2 hD2
end
theorem b_p29 {X : Cx} {H : Hp} {Q : VK} (h : Q (.int 100000000000000000000000000000) H) : Bin X .Pow (.int 10) (.int 29) H Q := b_pow (by decide) (by rw [show (10 : Int) ^ (29 : Int).toNat = 100000000000000000000000000000 from by decide +kernel]; exact h)
section
variable {X : Cx} {elt tg : Expr} {scope : Scope} {vs : List Nat} {σ : L2.St} {R : VK} {q : Addr} {H : Hp}
/-- [elt for i, t in enumerate(ts)], tuples to whole numbers -/
theorem lcd_enumT {α : Type} {enc : α → List V} {xs : List α} {ts : List Addr} (g : Nat → Int) (hp : H q = some (.lst (ts.map V.ref))) (hR : RL enc H q xs) (hl : xs.length ≤ 99999)
    (he : ∀ (i : Nat) x, xs[i]? = some x → ∀ u t H1, Kp [] H H1 → H1 u = some (.tup [.int (i : Int), .ref t]) → H1 t = some (.tup (enc x)) → Bl X scope fun Z => Wg Z tg (.ref u) (wipe σ vs) H1 fun σ2 H2 => wipe σ2 vs = wipe σ vs ∧ Bl X scope fun Z => We Z elt σ2 H2 fun y H3 => y = .int (g i) ∧ Kp [] H1 H3)
    (hd : ∀ Dl H', H Dl = none → Kp [] H H' → H' Dl = some (.lst (((List.range xs.length).map g).map V.int)) → R (.ref Dl) H') :
    LcD X elt tg [] scope vs σ R (ts.map V.ref).length (fun H => SqL X.K H q (ts.map V.ref)) (YPair (fun i => some (.int (i : Nat))) (fun i => (ts.map V.ref)[i]?)) H := by
  obtain ⟨us, f1, f2, f3⟩ := hR.ex
  have eu : us.map V.ref = ts.map V.ref := HO.lst.inj (Option.some.inj (f1.symm.trans hp))
  have elen : (ts.map V.ref).length = xs.length := by rw [← eu, List.length_map, f2]
  intro Dl H1 nD kD hD
  refine ⟨fun i H' => Kp [] H H' ∧ H' Dl = some (.lst (((List.range i).map g).map V.int)), ⟨kD, hD⟩, fun i H' _ h => sqL (h.1.g0 hp), ?_, ?_⟩
  · rintro i v H2 H3 hi ⟨k2, hD2⟩ ⟨u, y, z, rfl, nu, rfl, ey, ez⟩
    cases ey
    obtain ⟨t, x, rfl, g1, g2⟩ := hR.get hp ez
    have kn : Kp [] H2 (upd H2 u (.tup [.int (i : Int), .ref t])) := .new nu
    intro s0 H0 C cl fp
    refine wg_mono (he i x g1 u t _ (k2.tr0 kn) upd_same (kn.g0 (k2.g0 g2)) s0 H0 C cl fp) fun σ2 H4 ⟨e1, h2⟩ => ⟨e1, fun s0 H0 C cl fp => ?_⟩
    refine wts_nil (iteT fun s0 H0 C cl fp => we_mono (h2 s0 H0 C cl fp) fun y H5 ⟨ey, k5⟩ => ?_)
    subst ey
    have hil := (List.getElem?_eq_some_iff.mp g1).1
    refine appI (k5.g0 (kn.g0 hD2)) (by rw [List.length_map, List.length_range]; omega) fun H6 k6 hD6 => ⟨((k2.tr0 kn).tr0 k5).trN k6 nD, ?_⟩
    rw [hD6, List.range_succ, List.map_append (l₂ := [i])]
    rfl
  · rintro H2 ⟨k2, hD2⟩
    rw [elen] at hD2
    exact hd Dl H2 nD k2 hD2
end
section
variable {X : Cx} {elt tg : Expr} {scope : Scope} {vs : List Nat} {σ : L2.St} {R : VK} {q : Addr} {H : Hp}
/-- [elt for i, x in enumerate(ns)], whole numbers -/
theorem lcd_enumI {ns : List Int} (g : Nat → Int) (hS : SqL X.K H q (ns.map V.int)) (hl : ns.length ≤ 99999)
    (he : ∀ (i : Nat) x, ns[i]? = some x → ∀ u H1, Kp [] H H1 → H1 u = some (.tup [.int (i : Int), .int x]) → Bl X scope fun Z => Wg Z tg (.ref u) (wipe σ vs) H1 fun σ2 H2 => wipe σ2 vs = wipe σ vs ∧ Bl X scope fun Z => We Z elt σ2 H2 fun y H3 => y = .int (g i) ∧ Kp [] H1 H3)
    (hd : ∀ Dl H', H Dl = none → Kp [] H H' → H' Dl = some (.lst (((List.range ns.length).map g).map V.int)) → R (.ref Dl) H') :
    LcD X elt tg [] scope vs σ R (ns.map V.int).length (fun H => SqL X.K H q (ns.map V.int)) (YPair (fun i => some (.int (i : Nat))) (fun i => (ns.map V.int)[i]?)) H := by
  have elen := mapI_len ns
  intro Dl H1 nD kD hD
  refine ⟨fun i H' => Kp [] H H' ∧ H' Dl = some (.lst (((List.range i).map g).map V.int)), ⟨kD, hD⟩, fun i H' _ h => Kp.sqK hS h.1, ?_, ?_⟩
  · rintro i v H2 H3 hi ⟨k2, hD2⟩ ⟨u, y, z, rfl, nu, rfl, ey, ez⟩
    cases ey
    obtain ⟨x, g1, rfl⟩ := mapI_get ez
    have kn : Kp [] H2 (upd H2 u (.tup [.int (i : Int), .int x])) := .new nu
    intro s0 H0 C cl fp
    refine wg_mono (he i x g1 u _ (k2.tr0 kn) upd_same s0 H0 C cl fp) fun σ2 H4 ⟨e1, h2⟩ => ⟨e1, fun s0 H0 C cl fp => ?_⟩
    refine wts_nil (iteT fun s0 H0 C cl fp => we_mono (h2 s0 H0 C cl fp) fun y H5 ⟨ey, k5⟩ => ?_)
    subst ey
    have hil := (List.getElem?_eq_some_iff.mp g1).1
    refine appI (k5.g0 (kn.g0 hD2)) (by rw [List.length_map, List.length_range]; omega) fun H6 k6 hD6 => ⟨((k2.tr0 kn).tr0 k5).trN k6 nD, ?_⟩
    rw [hD6, List.range_succ, List.map_append (l₂ := [i])]
    rfl
  · rintro H2 ⟨k2, hD2⟩
    rw [elen] at hD2
    exact hd Dl H2 nD k2 hD2
/-- [.. for i in range(n)], whole numbers -/
theorem lcd_rangeN {n : Nat} (g : Nat → Int) (hl : n ≤ 99999)
    (he : ∀ i, i < n → ∀ H1, Kp [] H H1 → Bl X scope fun Z => Wg Z tg (.int (i : Int)) (wipe σ vs) H1 fun σ2 H2 => wipe σ2 vs = wipe σ vs ∧ Bl X scope fun Z => We Z elt σ2 H2 fun y H3 => y = .int (g i) ∧ Kp [] H1 H3)
    (hd : ∀ Dl H', H Dl = none → Kp [] H H' → H' Dl = some (.lst (((List.range n).map g).map V.int)) → R (.ref Dl) H') :
    LcD X elt tg [] scope vs σ R n (fun _ => True) (YFn fun i => .int ((0 : Int) + (i : Int))) H := by
  intro Dl H1 nD kD hD
  refine ⟨fun i H' => Kp [] H H' ∧ H' Dl = some (.lst (((List.range i).map g).map V.int)), ⟨kD, hD⟩, fun _ _ _ _ => trivial, ?_, ?_⟩
  · rintro i x H2 H3 hi ⟨k2, hD2⟩ ⟨rfl, rfl⟩
    intro s0 H0 C cl fp
    show Wg _ _ (.int ((0 : Int) + (i : Int))) _ _ _
    rw [Int.zero_add]
    refine wg_mono (he i hi _ k2 s0 H0 C cl fp) fun σ2 H4 ⟨e1, h2⟩ => ⟨e1, fun s0 H0 C cl fp => ?_⟩
    refine wts_nil (iteT fun s0 H0 C cl fp => we_mono (h2 s0 H0 C cl fp) fun y H5 ⟨ey, k5⟩ => ?_)
    subst ey
    refine appI (k5.g0 hD2) (by rw [List.length_map, List.length_range]; omega) fun H6 k6 hD6 => ⟨(k2.tr0 k5).trN k6 nD, ?_⟩
    rw [hD6, List.range_succ, List.map_append (l₂ := [i])]
    rfl
  · rintro H2 ⟨k2, hD2⟩
    exact hd Dl H2 nD k2 hD2
end
/-- the last item, a tuple -/
theorem x_lastR {α : Type} {enc : α → List V} {X : Cx} {H : Hp} {Q : VK} {p : Addr} {xs : List α} {x : α} (h1 : RL enc H p xs) (h2 : xs.getLast? = some x) (h : ∀ t, H t = some (.tup (enc x)) → Q (.ref t) H) : Ixw X (.ref p) (.int (-1)) H Q := by
  obtain ⟨ts, e1, e2, e3⟩ := h1.ex
  rw [List.getLast?_eq_getElem?] at h2
  have hl := (List.getElem?_eq_some_iff.mp h2).1
  have hil : ts.length - 1 < ts.length := by omega
  obtain ⟨y, f1, f2⟩ := e3 _ _ (List.getElem?_eq_getElem hil)
  rw [e2, h2] at f1
  cases f1
  exact x_lst (sqL e1) (atI_m1 (by rw [List.getLast?_map, List.getLast?_eq_getElem?, List.getElem?_eq_getElem hil]; rfl)) (h _ f2)
/-- tuples, none or once -/
theorem b_rep0R {X : Cx} {H : Hp} {Q : VK} {l : Addr} {α : Type} {enc : α → List V} {xs : List α} (h1 : RL enc H l xs) (hz : xs.length ≤ 1000) (h : ∀ p H', H p = none → Kp [] H H' → RL enc H' p [] → Q (.ref p) H') : Bin X .Mult (.ref l) (.int 0) H Q := by
  obtain ⟨ts, e1, e2, e3⟩ := h1.ex
  exact b_rep e1 (by omega) (by rw [List.length_map]; show _ * 0 ≤ _; omega) fun p H' n k e => h p H' n k (RL.nil e)
theorem b_rep1R {X : Cx} {H : Hp} {Q : VK} {l : Addr} {α : Type} {enc : α → List V} {xs : List α} (h1 : RL enc H l xs) (hz : xs.length ≤ 1000) (h : ∀ p H', H p = none → Kp [] H H' → RL enc H' p xs → Q (.ref p) H') : Bin X .Mult (.ref l) (.int 1) H Q := by
  obtain ⟨ts, e1, e2, e3⟩ := h1.ex
  refine b_rep e1 (by omega) (by rw [List.length_map]; show _ * 1 ≤ _; omega) fun p H' n k e => h p H' n k ⟨ts, ?_, e2, fun j t hj => let ⟨x, f1, f2⟩ := e3 j t hj; ⟨x, f1, k.g0 f2⟩⟩
  rw [e]
  show some (HO.lst (List.replicate 1 _).flatten) = _
  simp
/-- x, y = a, b -/
theorem ws_par {X : Cx} {σ : L2.St} {H : Hp} {D : Ends} (i j : Nat) {x y : Str} {a b : Expr} {px py pt pos pt2 : Pos} {kt k2 : Nat} (hc : X.calm = true) (hN : X.N.Nodup) (hi : X.N[i]? = some x) (hj : X.N[j]? = some y) (hij : i ≠ j) (hx : X.env.scope.names.lookup x = some .local) (hy : X.env.scope.names.lookup y = some .local)
    (hw : swappedStores [.Tuple [.Name x px, .Name y py] kt pt] (.Tuple [a, b] k2 pt2) X.env = pure (some [x, y])) (h : We X a σ H fun v H1 => We X b σ H1 fun w H2 => D.nx ((σ.set i (some v)).set j (some w)) H2)
    (he : starEach [a, b] X.env = (false, eval a X.env) :: starEach [b] X.env := by rfl) (hb : starEach [b] X.env = (false, eval b X.env) :: starEach [] X.env := by rfl) (hs : swapsWithSole [.Tuple [.Name x px, .Name y py] kt pt] (.Tuple [a, b] k2 pt2) pos.line X.env = pure false := by rfl) :
    Ws X (.Assign [.Tuple [.Name x px, .Name y py] kt pt] (.Tuple [a, b] k2 pt2) pos) D σ H :=
  ws_of (ps_par hc hN hi hj hij hx hy (pa_cons We.pe (pa_cons We.pe pa_nil hb) he) hw hs) (we_mono h fun v H1 h1 => we_mono h1 fun w H2 h2 => ⟨v, w, rfl, h2⟩)
end SL

/-! pop(i), slices by steps, lists of whole numbers and None -/
namespace SL
open PySem PySem.Spec PyProof.Rows L2
section
variable {X : Cx} {σ : L2.St} {H : Hp} {Q : VK} {D : Ends} {a b c e o : Expr} {pos p p2 apos : Pos}
theorem ixs_of {n : Nat} {i : Int} (h0 : 0 ≤ i) (h1 : i < n) : seqIndex? i n = some i.toNat := by
  unfold seqIndex?
  simp only [show ¬ i < 0 from by omega, if_false]
  exact if_pos (by first | omega | (simp; omega))
theorem erase_map : ∀ (ns : List Int) (k : Nat), (ns.map V.int).eraseIdx k = (ns.eraseIdx k).map V.int
  | [], _ => rfl
  | _ :: _, 0 => rfl
  | n :: ns, k + 1 => by
    show V.int n :: (ns.map V.int).eraseIdx k = V.int n :: (ns.eraseIdx k).map V.int
    rw [erase_map ns k]
theorem we_popAt {cpos : Pos} (h : We X o σ H fun x H1 => ∃ l, x = .ref l ∧ (∃ xs, H1 l = some (.lst xs)) ∧ We X e σ H1 fun y H2 => ∃ (xs : List V) (i : Int) (v : V), y = .int i ∧ H2 l = some (.lst xs) ∧ 0 ≤ i ∧ xs[i.toNat]? = some v ∧ xs.length ≤ 100000 ∧ ∀ H', Kp [l] H2 H' → H' l = some (.lst (xs.eraseIdx i.toNat)) → Q v H')
    (hbase : attributeBase o "pop" X.env (eval o X.env) = eval o X.env := by rfl)
    (hfew : ((backTo cpos (starEach [e] X.env)).all (fun x => !x.1) && (backToKw cpos (keywordEach [] X.env)).all (fun x => x.1.isSome) && decide ([e].length + ([] : List Keyword).length + (if ([] : List Keyword).isEmpty then 0 else 1) < 30)) = true := by rfl)
    (hline : (apos.endLine == cpos.line) = true := by rfl) (hs : starEach [e] X.env = (false, eval e X.env) :: starEach [] X.env := by rfl) (hplain : (backTo cpos (starEach [] X.env)).any (·.1) = false := by rfl) :
    We X (.Call (.Attribute o "pop" apos) [e] [] cpos) σ H Q :=
  we_of (pe_bm PySem.F.plainAttrs_list PySem.F.slot_list_pop PySem.F.type_list_pop mt_popAt We.pe (pa_cons We.pe pa_nil hs) hbase hfew hline hs hplain) (by
    refine ⟨fun pins s I => thn (h.run pins s I) fun u s1 ⟨v, H1, I1, r1, l, ev, ⟨xs, hl⟩, h2⟩ => ⟨v, H1, I1, r1, ?_, ?_⟩⟩
    · rw [ev]
      exact .inl ⟨rfl, xs, sqL hl⟩
    · refine ⟨fun pins s I => thn (h2.run pins s I) fun u s1 ⟨w, H2, I2, r2, ys, i, y, ew, hy, h0, hg, hz, h3⟩ => ⟨w, H2, I2, r2, ?_⟩⟩
      have hlt := (List.getElem?_eq_some_iff.mp hg).1
      exact ⟨l, ys, i, i.toNat, y, ev, by rw [ew], hy, by omega, by omega, ixs_of h0 (by omega), hg, h3 _ (.put hy) upd_same⟩)
theorem popAtI {H : Hp} {l : Addr} {ns : List Int} {i : Int} {R : V → Hp → Prop} (h1 : H l = some (.lst (ns.map V.int))) (h0 : 0 ≤ i) (h2 : i < ns.length) (hz : ns.length ≤ 100000) (h : ∀ H', Kp [l] H H' → H' l = some (.lst ((ns.eraseIdx i.toNat).map V.int)) → R (.int (ns.getD i.toNat 0)) H') :
    ∃ (xs : List V) (j : Int) (v : V), V.int i = V.int j ∧ H l = some (.lst xs) ∧ 0 ≤ j ∧ xs[j.toNat]? = some v ∧ xs.length ≤ 100000 ∧ ∀ H', Kp [l] H H' → H' l = some (.lst (xs.eraseIdx j.toNat)) → R v H' := by
  refine ⟨_, i, .int (ns.getD i.toNat 0), rfl, h1, h0, ?_, by rw [List.length_map]; exact hz, fun H' k e => h H' k (by rw [e, erase_map])⟩
  rw [List.getElem?_map, List.getElem?_eq_getElem (by omega), List.getD_eq_getElem?_getD, List.getElem?_eq_getElem (by omega)]
  rfl
/-- xs[a::k], xs[::k], whole numbers: what is told of it is that its numbers are the list's -/
theorem we_stepI {k : Int} {j : Nat} {pk p3 : Pos} {lo : Option Expr} (hk : 0 < k) (h : We X e σ H fun x H1 => Wp X lo σ H1 fun l H2 => ∃ q, x = .ref q ∧ ∃ ns : List Int, SqL X.K H2 q (ns.map V.int) ∧ ∀ r H' (ms : List Int), H2 r = none → Kp [] H2 H' → H' r = some (.lst (ms.map V.int)) → ms = pickNums ns l none (some k) → ms.length ≤ ns.length → (∀ z ∈ ms, z ∈ ns) → Q (.ref r) H') :
    We X (.Subscript e (.Slice lo none (some (.Constant (.int k) j pk)) p3) pos) σ H Q := by
  refine ⟨fun pins s I => ?_⟩
  refine Subscript_ (thn (h.run pins s I) fun v s1 ⟨x, H1, I1, r1, q1⟩ => ?_)
  have hst : PO X (some (.Constant (.int k) j pk)) (tPart (tC (.int k))) := po_some pe_int
  refine wpAny_Slice (thn (Wp.po.run pins s1 σ H1 _ I1 q1) fun vl s2 ⟨l, H2, I2, pl, g⟩ => ?_)
  obtain ⟨q, ex, ns, hx, gq⟩ := g
  subst ex
  cases r1
  refine thn (po_none.run pins s2 σ H2 (fun o H3 => o = none ∧ H3 = H2) I2 ⟨rfl, rfl⟩) fun vu s3 ⟨u, H3, I3, pu, eu, e3⟩ => ?_
  subst eu e3
  refine thn (hst.run pins s3 σ H3 (fun o H4 => o = some k ∧ H4 = H3) I3 ⟨k, rfl, rfl, rfl⟩) fun vs s4 ⟨o, H4, I4, ps, eo, e4⟩ => ?_
  subst eo e4
  have I5 : Inv X pins σ H4 { s4 with heap := s4.heap.push { cls := .type "slice", data := .fields #[vl, vu, vs] } } := I4.kept (t' := s4.toks) fun b ob q => Heap.get?_push_of_some _ q
  obtain ⟨its, r, ht, hz⟩ := I5.list hx
  have hlen := r.length
  have hI := Vals.ints r
  show wpAny (model X.prog X.w) X.A (subscriptTail e (.Slice lo none (some (.Constant (.int k) j pk)) p3) (.ref q) (.ref s4.heap.objs.size)) (EP X pins σ Q) X.xe { s4 with heap := s4.heap.push { cls := .type "slice", data := .fields #[vl, vu, vs] } }
  refine tail_any (ops := [.ref q, .ref s4.heap.objs.size]) ht.isList.typeIs (PySem.slot_list_getitem.lookup) ?_ (by with_unfolding_all rfl)
  refine wpAny_getItem_list_slice ht.isList (Heap.IsSliceOf.new _ vl vu vs) pl pu ps (by intro z; have := Option.some.inj z; omega) ?_ (by rw [List.size_toArray]; omega)
  have hP := hI.pick l none (some k)
  have hpl := length_pickNums_le hI l none (some k)
  have hml := mapI_len ns
  have hsz : slicePick its.toArray l none (some k) = (slicePick its.toArray l none (some k)).toList.toArray := by simp
  rw [hsz]
  refine ⟨.ref _, _, I5.laid (t' := s4.toks) (o := .lst ((pickNums ns l none (some k)).map V.int)) (fun b ob q => Heap.get?_push_of_some _ q) (Nat.le_refl _) ?_, rfl, gq _ _ (pickNums ns l none (some k)) (I5.hok.fresh (Nat.le_refl _)) (.new (I5.hok.fresh (Nat.le_refl _))) upd_same rfl hpl ?_⟩
  · exact ⟨by rw [List.length_map]; omega, _, 0, vals_of_ints hP, Heap.get?_push_size _ rfl⟩
  · intro z hz'
    unfold pickNums at hz'
    obtain ⟨i, _, hi⟩ := List.mem_filterMap.mp hz'
    exact List.mem_of_getElem? hi
theorem iteNT {A B : Prop} (h : B) : if (!true) = true then A else B := h
theorem iteNF {A B : Prop} (h : A) : if (!false) = true then A else B := h
theorem bounds2 (n : Nat) : sliceBounds none none (some 2) n = ((0 : Int), (n : Int), 2) := rfl
theorem bounds21 (n : Nat) : sliceBounds (some 1) none (some 2) n = (max 0 (min 1 (n : Int)), (n : Int), 2) := rfl
theorem pick_ev (ns : List Int) : (pickNums ns none none (some 2)).length ≤ (ns.length + 1) / 2 := by
  unfold pickNums
  rw [bounds2]
  refine Nat.le_trans (List.length_filterMap_le _ _) ?_
  unfold sliceRange
  rw [List.length_map, List.length_range]
  simp only [show (2 : Int) > 0 from by omega, if_true]
  split <;> omega
theorem pick_od (ns : List Int) : (pickNums ns (some 1) none (some 2)).length ≤ ns.length / 2 := by
  unfold pickNums
  rw [bounds21]
  refine Nat.le_trans (List.length_filterMap_le _ _) ?_
  unfold sliceRange
  rw [List.length_map, List.length_range]
  simp only [show (2 : Int) > 0 from by omega, if_true]
  split <;> omega
end
end SL

/-! lists of whole numbers and None -/
namespace SL
open PySem PySem.Spec PyProof.Rows L2
def oV : Option Int → V
  | none => .non
  | some i => .int i
def oD : Option Int → PyData
  | none => .none
  | some i => .int i
section
variable {K : PySem.W.Frag} {H : Hp}
theorem dp_o : ∀ o : Option Int, Dp K H (oV o) (oD o)
  | none => .non
  | some i => .int i
theorem dpAll_o : ∀ os : List (Option Int), DpAll K H (os.map oV) (os.map oD)
  | [] => .nil
  | o :: os => .cons (dp_o o) (dpAll_o os)
theorem eqv_o (a b : Option Int) : PyData.eqv (oD a) (oD b) = decide (a = b) := by
  cases a with
  | none => cases b with
    | none => simp [oD, PyData.eqv]
    | some j => simp [oD, PyData.eqv]
  | some i => cases b with
    | none => simp [oD, PyData.eqv]
    | some j =>
      show PyData.eqv (.int i) (.int j) = _
      rw [eqv_int]
      simp
theorem eqvAll_o : ∀ xs ys : List (Option Int), PyData.eqvAll (xs.map oD) (ys.map oD) = decide (xs = ys)
  | [], [] => by simp [PyData.eqvAll]
  | [], _ :: _ => by simp [PyData.eqvAll]
  | _ :: _, [] => by simp [PyData.eqvAll]
  | n :: ns, m :: ms => by
    show (PyData.eqv (oD n) (oD m) && PyData.eqvAll (ns.map oD) (ms.map oD)) = _
    rw [eqvAll_o ns ms, eqv_o]
    by_cases h1 : n = m
    · by_cases h2 : ns = ms
      · simp [h1, h2]
      · simp [h1, h2]
    · simp [h1]
theorem shaped_o (xs : List (Option Int)) : SeqAt.shaped (.list (xs.map oD)) = true := by
  have h1 : ∀ xs : List (Option Int), PyData.canLayAll0 (xs.map oD) = true := fun xs => by
    induction xs with
    | nil => rfl
    | cons n ns ih => show (PyData.canLay0 (oD n) && PyData.canLayAll0 (ns.map oD)) = true; rw [ih]; cases n <;> rfl
  have h2 : ∀ xs : List (Option Int), PyData.depthAll (xs.map oD) = 0 := fun xs => by
    induction xs with
    | nil => rfl
    | cons n ns ih => show max (PyData.depth (oD n)) (PyData.depthAll (ns.map oD)) = 0; rw [ih]; cases n <;> rfl
  unfold SeqAt.shaped
  have e1 : PyData.canLay0 (.list (xs.map oD)) = true := by
    show PyData.canLayAll0 (xs.map oD) = true
    exact h1 xs
  have e2 : PyData.depth (.list (xs.map oD)) = 1 := by
    show PyData.depthAll (xs.map oD) + 1 = 1
    rw [h2 xs]
  rw [e1, e2]
  rfl
end
section
variable {X : Cx} {σ : L2.St} {H : Hp} {Q : VK} {p q : Addr} {xs ys : List (Option Int)} {k : Nat}
theorem c_eqO (hr : Room k X.A) (h1 : H p = some (.lst (xs.map oV))) (h2 : H q = some (.lst (ys.map oV))) (h : Q (.bl (decide (xs = ys))) H) : Cmp X .Eq (.ref p) (.ref q) H Q := c_eqD hr (.lst (sqL h1) (dpAll_o xs)) (.lst (sqL h2) (dpAll_o ys)) (shaped_o _) (shaped_o _) (by
  rw [show PyData.eqv (.list (xs.map oD)) (.list (ys.map oD)) = decide (xs = ys) from by rw [PyData.eqv]; exact eqvAll_o xs ys]
  exact h)
theorem c_neO (hr : Room k X.A) (h1 : H p = some (.lst (xs.map oV))) (h2 : H q = some (.lst (ys.map oV))) (h : Q (.bl (!decide (xs = ys))) H) : Cmp X .NotEq (.ref p) (.ref q) H Q := c_neD hr (.lst (sqL h1) (dpAll_o xs)) (.lst (sqL h2) (dpAll_o ys)) (shaped_o _) (shaped_o _) (by
  rw [show PyData.eqv (.list (xs.map oD)) (.list (ys.map oD)) = decide (xs = ys) from by rw [PyData.eqv]; exact eqvAll_o xs ys]
  exact h)
theorem o0 {o : Hp} (h : o p = some (.lst [])) : o p = some (.lst (([] : List (Option Int)).map oV)) := h
theorem rep_non (m : Nat) : (List.replicate m [V.non]).flatten = (List.replicate m (none : Option Int)).map oV := by
  induction m with
  | zero => rfl
  | succ m ih => rw [List.replicate_succ, List.flatten_cons, ih, List.replicate_succ]; rfl
theorem set_o (xs : List (Option Int)) (i : Nat) (o : Option Int) : (xs.map oV).set i (oV o) = (xs.set i o).map oV := by rw [List.map_set]
theorem x_setO {G : Hp → Prop} {i : Int} (o : Option Int) {v : V} (e : v = oV o) (h1 : H p = some (.lst (xs.map oV))) (h0 : 0 ≤ i) (h2 : i < xs.length) (h : ∀ H', Kp [p] H H' → H' p = some (.lst ((xs.set i.toNat o).map oV)) → G H') : Setw X (.ref p) (.int i) v H G :=
  x_set h1 (ixN_of h0 (by rw [List.length_map]; exact h2)) fun H' k e' => h H' k (by rw [e', e, set_o])
theorem x_ixO {i : Int} {o : Option Int} (h1 : H p = some (.lst (xs.map oV))) (h0 : 0 ≤ i) (h2 : xs[i.toNat]? = some o) (h : Q (oV o) H) : Ixw X (.ref p) (.int i) H Q := x_lst (sqL h1) (atI_of h0 (by rw [List.getElem?_map, h2]; rfl)) h
theorem lenO : (xs.map oV).length = xs.length := List.length_map _
end
theorem int_non {i : Int} : ¬ (V.int i = V.non) := fun z => nomatch z
theorem in_int : kitB "NoneType" "int" = some false := by decide +kernel
theorem k_isiN {X : Cx} {H : Hp} {Q : VK} {n : String} {b : Bool} (hk : kitB "NoneType" n = some b) (h : Q (.bl b) H) : Cal X (.builtin "isinstance") [.non, .ty n] H Q := k_isi (.base .non) (kit_ty hk) h
theorem subT {M : List Addr} {H : Hp} {p : Addr} : ∀ x ∈ M, x ∈ p :: M ∨ H x = none := fun x hx => .inl (List.mem_cons_of_mem _ hx)
theorem subT2 {M : List Addr} {H : Hp} {p q : Addr} : ∀ x ∈ M, x ∈ p :: q :: M ∨ H x = none := fun x hx => .inl (List.mem_cons_of_mem _ (List.mem_cons_of_mem _ hx))
section
variable {X : Cx} {elt tg : Expr} {scope : Scope} {vs : List Nat} {σ : L2.St} {R : VK} {q r : Addr} {H : Hp}
/-- [elt for x, y in zip(xs, ys)], whole numbers -/
theorem lcd_zipI {xs ys : List Int} (g : Int → Int → Int) (hx : SqL X.K H q (xs.map V.int)) (hy : SqL X.K H r (ys.map V.int)) (hl : xs.length = ys.length) (hz : xs.length ≤ 99999)
    (he : ∀ x y u H1, Kp [] H H1 → H1 u = some (.tup [.int x, .int y]) → Bl X scope fun Z => Wg Z tg (.ref u) (wipe σ vs) H1 fun σ2 H2 => wipe σ2 vs = wipe σ vs ∧ Bl X scope fun Z => We Z elt σ2 H2 fun w H3 => w = .int (g x y) ∧ Kp [] H1 H3)
    (hd : ∀ Dl H', H Dl = none → Kp [] H H' → H' Dl = some (.lst ((List.zipWith g xs ys).map V.int)) → R (.ref Dl) H') :
    LcD X elt tg [] scope vs σ R (min (xs.map V.int).length (ys.map V.int).length) (fun H => SqL X.K H q (xs.map V.int) ∧ SqL X.K H r (ys.map V.int)) (YPair (fun i => (xs.map V.int)[i]?) (fun i => (ys.map V.int)[i]?)) H := by
  intro Dl H1 nD kD hD
  refine ⟨fun i H' => Kp [] H H' ∧ H' Dl = some (.lst ((List.zipWith g (xs.take i) (ys.take i)).map V.int)), ⟨kD, by rw [List.take_zero, List.take_zero]; exact hD⟩, fun i H' _ h => ⟨Kp.sqK hx h.1, Kp.sqK hy h.1⟩, ?_, ?_⟩
  · rintro i v H2 H3 hi ⟨k2, hD2⟩ ⟨u, y, z, rfl, nu, rfl, ey, ez⟩
    obtain ⟨a, ha, rfl⟩ := mapI_get ey
    obtain ⟨b, hb, rfl⟩ := mapI_get ez
    have kn : Kp [] H2 (upd H2 u (.tup [.int a, .int b])) := .new nu
    intro s0 H0 C cl fp
    refine wg_mono (he a b u _ (k2.tr0 kn) upd_same s0 H0 C cl fp) fun σ2 H4 ⟨e1, h2⟩ => ⟨e1, fun s0 H0 C cl fp => ?_⟩
    refine wts_nil (iteT fun s0 H0 C cl fp => we_mono (h2 s0 H0 C cl fp) fun y H5 ⟨ey, k5⟩ => ?_)
    subst ey
    have hil := (List.getElem?_eq_some_iff.mp ha).1
    refine appI (k5.g0 (kn.g0 hD2)) (by rw [List.length_zipWith, List.length_take, List.length_take]; omega) fun H6 k6 hD6 => ⟨((k2.tr0 kn).tr0 k5).trN k6 nD, ?_⟩
    rw [hD6, List.take_succ, List.take_succ, ha, hb, List.zipWith_append (by rw [List.length_take, List.length_take]; omega)]
    rfl
  · rintro H2 ⟨k2, hD2⟩
    rw [List.length_map, List.length_map, ← hl, Nat.min_self, List.take_length, hl, List.take_length] at hD2
    exact hd Dl H2 nD k2 hD2
end
/-! ### segments: (begin, end, above) -/
def eS : Nat × Nat × Option Int → List V := fun q => [.int (q.1 : Int), .int (q.2.1 : Int), oV q.2.2]
def dS : Nat × Nat × Option Int → PyData := fun q => .tuple [.int (q.1 : Int), .int (q.2.1 : Int), oD q.2.2]
theorem dpAll_S {K : PySem.W.Frag} {H : Hp} : ∀ {ts : List Addr} {xs : List (Nat × Nat × Option Int)}, ts.length = xs.length → (∀ (j : Nat) t, ts[j]? = some t → ∃ q, xs[j]? = some q ∧ H t = some (.tup (eS q))) → DpAll K H (ts.map V.ref) (xs.map dS)
  | [], [], _, _ => .nil
  | [], _ :: _, h, _ => by cases h
  | _ :: _, [], h, _ => by cases h
  | t :: ts, x :: xs, h, g => by
    obtain ⟨q, e1, e2⟩ := g 0 t rfl
    cases e1
    refine .cons (.tup (sqT e2) (.cons (.int _) (.cons (.int _) (.cons (dp_o _) .nil)))) (dpAll_S (Nat.succ.inj h) fun j t hj => g (j + 1) t hj)
theorem shaped_S (xs : List (Nat × Nat × Option Int)) : SeqAt.shaped (.list (xs.map dS)) = true := by
  have h1 : ∀ xs : List (Nat × Nat × Option Int), PyData.canLayAll0 (xs.map dS) = true := fun xs => by
    induction xs with
    | nil => rfl
    | cons n ns ih => show (PyData.canLay0 (dS n) && PyData.canLayAll0 (ns.map dS)) = true; rw [ih]; rcases n with ⟨a, b, c⟩; cases c <;> rfl
  have h2 : ∀ xs : List (Nat × Nat × Option Int), PyData.depthAll (xs.map dS) ≤ 1 := fun xs => by
    induction xs with
    | nil => exact Nat.zero_le _
    | cons n ns ih =>
      have e : PyData.depth (dS n) = 1 := by rcases n with ⟨a, b, c⟩; cases c <;> rfl
      show max (PyData.depth (dS n)) (PyData.depthAll (ns.map dS)) ≤ 1
      rw [e]
      omega
  unfold SeqAt.shaped
  have e1 : PyData.canLay0 (.list (xs.map dS)) = true := by
    show PyData.canLayAll0 (xs.map dS) = true
    exact h1 xs
  have e2 : PyData.depth (.list (xs.map dS)) ≤ 2 := by
    show PyData.depthAll (xs.map dS) + 1 ≤ 2
    have := h2 xs
    omega
  rw [e1]
  simp only [Bool.true_and]
  exact decide_eq_true (by omega)
theorem c_neS0 {X : Cx} {H : Hp} {Q : VK} {p q : Addr} {k : Nat} {xs : List (Nat × Nat × Option Int)} (hr : Room k X.A) (h1 : RL eS H p xs) (h2 : H q = some (.lst [])) (h : Q (.bl (!decide (xs = []))) H) : Cmp X .NotEq (.ref p) (.ref q) H Q := by
  obtain ⟨ts, e1, e2, e3⟩ := h1.ex
  refine c_neD hr (.lst (sqL e1) (dpAll_S e2 e3)) (.lst (sqL h2) .nil) (shaped_S _) (shaped_o []) ?_
  rw [show PyData.eqv (.list (xs.map dS)) (.list []) = decide (xs = []) from by
    rw [PyData.eqv]
    cases xs <;> simp [PyData.eqvAll]]
  exact h
/-- pop of the last, a list of tuples -/
theorem popR {α : Type} {enc : α → List V} {H : Hp} {p : Addr} {xs : List α} {x : α} {R : V → Hp → Prop} (h1 : RL enc H p (xs ++ [x])) (h : ∀ t H', Kp [p] H H' → H' t = some (.tup (enc x)) → RL enc H' p xs → R (.ref t) H') :
    ∃ l ys y, V.ref p = V.ref l ∧ H l = some (.lst ys) ∧ ys.getLast? = some y ∧ ∀ H', Kp [l] H H' → H' l = some (.lst ys.dropLast) → R y H' := by
  obtain ⟨ts, e1, e2, e3⟩ := h1.ex
  have hne : ts ≠ [] := fun z => by
    rw [z, List.length_append] at e2
    simp at e2
  obtain ⟨us, t, rfl⟩ : ∃ us t, ts = us ++ [t] := ⟨ts.dropLast, ts.getLast hne, (List.dropLast_concat_getLast hne).symm⟩
  have hl : us.length = xs.length := by
    rw [List.length_append, List.length_append] at e2
    simpa using e2
  have ht : H t = some (.tup (enc x)) := by
    obtain ⟨q, g1, g2⟩ := e3 us.length t (by rw [List.getElem?_concat_length])
    rw [hl, List.getElem?_concat_length] at g1
    cases g1
    exact g2
  refine ⟨p, _, .ref t, rfl, e1, by rw [List.map_append]; exact List.getLast?_concat, fun H' k e => h t H' k (k.gT ht) ?_⟩
  rw [List.map_append] at e
  have e' : H' p = some (.lst (us.map V.ref)) := by rw [e]; exact congrArg (fun z => some (HO.lst z)) List.dropLast_concat
  refine ⟨us, e', hl, fun j t' hj => ?_⟩
  have hjl := (List.getElem?_eq_some_iff.mp hj).1
  obtain ⟨q, g1, g2⟩ := e3 j t' (by rw [List.getElem?_append_left hjl]; exact hj)
  rw [List.getElem?_append_left (by omega)] at g1
  exact ⟨q, g1, k.gT g2⟩
end SL

/-! sorted(d), reverse, count -/
namespace SL
open PySem PySem.Spec PyProof.Rows L2
section
variable {X : Cx} {H : Hp} {Q : VK} {a : Addr} {ps : List (Int × Int)}
theorem keys_enc (ps : List (Int × Int)) : (encK ps).map (·.1) = (ps.map (·.1)).map Sum.inl := by
  unfold encK
  rw [List.map_map, List.map_map]
  rfl
theorem k_sortedD (hc : X.calm = true) (h1 : H a = some (.dK (encK ps))) (hn : ps.length ≤ 100000) (h : ∀ (ms : List Int) p H', ms.Perm (ps.map (·.1)) → ms.Pairwise (· ≤ ·) → H p = none → Kp [] H H' → H' p = some (.lst (ms.map V.int)) → Q (.ref p) H') : Cal X (.builtin "sorted") [.ref a] H Q := by
  refine ⟨fun xs H Q => xs = [.ref a] ∧ H a = some (.dK (encK ps)) ∧ ∀ (ms : List Int) p H', ms.Perm (ps.map (·.1)) → ms.Pairwise (· ≤ ·) → H p = none → Kp [] H H' → H' p = some (.lst (ms.map V.int)) → Q (.ref p) H', ?_, rfl, h1, h⟩
  clear h h1
  intro pins s σ H xs us Q I r q
  obtain ⟨rfl, hd, q⟩ := q
  obtain ⟨u, rfl, rx⟩ := vals1 r
  cases rx
  obtain ⟨z, lo, vs, rel, dd⟩ := dk_rd I.hok (.inl hd)
  obtain ⟨ep, hat⟩ := dd.dictAt
  have hkk : vs.map (·.1) = (ps.map (·.1)).map Sum.inl := (KV.keys rel).symm.trans (keys_enc ps)
  have hl : vs.length = ps.length := by
    have e := congrArg List.length hkk
    simpa using e
  have hbig : vs.length ≤ sizeLine := by rw [hl]; exact Nat.le_trans hn (by decide)
  refine Calls.call_function_entry PyProof.Rows.kind_sorted PyProof.Rows.plain_sorted PyProof.Rows.entry_sorted (args_sorted1 _) ?_
  unfold Builtin.«sorted»
  refine wpAny_bind (m := checkCount "sorted" 1 1 _) (wpAny_pure ?_)
  refine wpAny_bind (PySem.W.kdu_collect (A := X.A.in1) (PySem.W.kdl_dict (knd := mixKind X.prog X.w) (kvs := vs) (ep := ep) lo) (I.ok.hd hc) hat hbig fun h' tk acc hk hacc => ?_)
  have hal : acc.toList.length = (ps.map (·.1)).length := by rw [Array.length_toList, hacc.1, hl, List.length_map]
  have hS : IntsAre acc.toList (ps.map (·.1)) := ints_each hal fun j v e => by
    obtain ⟨k, x, e1, e2⟩ := hacc.2 j v (by rw [← Array.getElem?_toList]; exact e)
    have e3 : (vs.map (·.1))[j]? = some k := by rw [List.getElem?_map, e1]; rfl
    rw [hkk, List.getElem?_map] at e3
    obtain ⟨y, e4, e5⟩ := Option.map_eq_some_iff.mp e3
    subst e5
    rcases keyIs_shape (show keyIs (Sum.inl y) v = true from e2) with ⟨i, t, ek, ev⟩ | ⟨z, t, ek, ev⟩
    · cases ek
      exact ⟨y, t, e4, ev⟩
    · cases ek
  have J : Inv X pins σ H { s with heap := h', toks := tk } := I.kept hk
  have hz : acc.toList.length ≤ sizeLine := by rw [hal, List.length_map]; exact Nat.le_trans hn (by decide)
  refine wpAny_bind (wpAny_newList ?_ hz)
  have hoL : (h'.push (seqObj "list" acc.toList.toArray 0)).get? h'.objs.size = some (seqObj "list" acc.toList.toArray 0) := Heap.get?_push_size h' rfl
  refine wpAny_bind (wpAny_holding (wpAny_call_entry PyProof.Rows.slot_list_sort ⟨_, hoL, rfl⟩ PyProof.Rows.entry_list_sort
    (SrtO.list_sort_ord (s := { s with heap := h'.push (seqObj "list" acc.toList.toArray 0), toks := tk }) SrtO.swo_int hoL hz (fun h2 => SrtO.ints_sortable hS h2) fun out g1 g2 => ⟨_, rfl, ?_⟩) (args_list_sort _)))
  obtain ⟨k1, k2, k3⟩ := SrtO.ints_out hS g1 g2
  obtain ⟨ep', he'⟩ := PyProof.Rows.sortedHeap_at (vs := acc.toList) (out := out.toArray) hoL
  have hlen : ((out.map SrtO.iv).map V.int).length ≤ sizeLine := by
    rw [List.length_map, k2.length_eq, List.length_map]
    exact Nat.le_trans hn (by decide)
  have nn := J.hok.fresh (Nat.le_refl _)
  refine wpAny_pure ⟨_, rfl, .ref h'.objs.size, upd H h'.objs.size (.lst ((out.map SrtO.iv).map V.int)), J.laid (t' := tk) (fun b u e => ?_) (Nat.le_refl _)
    (show ObjOk X.prog X.w _ _ _ (.lst ((out.map SrtO.iv).map V.int)) from ⟨hlen, out, ep', vals_of_ints k1, he'⟩), rfl, q _ _ _ k2 k3 nn (.new nn) upd_same⟩
  have hb : b < h'.objs.size := Heap.lt_size e
  rw [sortedHeap_old (Nat.ne_of_lt hb) (by rw [size_push']; exact Nat.lt_succ_of_lt hb)]
  exact Heap.get?_push_of_some _ e
end
section
variable {X : Cx} {σ : L2.St} {H : Hp} {Q : VK} {o : Expr} {apos cpos : Pos}
/-- xs.reverse() -/
theorem we_reverse (h : We X o σ H fun x H1 => ∃ l xs, x = .ref l ∧ H1 l = some (.lst xs) ∧ ∀ H', Kp [l] H1 H' → H' l = some (.lst xs.reverse) → Q .non H')
    (hbase : attributeBase o "reverse" X.env (eval o X.env) = eval o X.env := by rfl) (hline : (apos.endLine == cpos.line) = true := by rfl) : We X (.Call (.Attribute o "reverse" apos) [] [] cpos) σ H Q :=
  we_of (pe_bm0 PySem.F.plainAttrs_list PySem.F.slot_list_reverse PySem.F.type_list_reverse mt_reverse We.pe hbase hline) (by
    refine ⟨fun pins s I => thn (h.run pins s I) fun u s1 ⟨v, H1, I1, r1, l, xs, ev, hl, h2⟩ => ⟨v, H1, I1, r1, ?_, ?_⟩⟩
    · rw [ev]
      exact .inl ⟨rfl, xs, sqL hl⟩
    · exact ⟨l, xs, ev, rfl, hl, h2 _ (.put hl) upd_same⟩)
end
end SL

/-! what is raised: defs that raise, try, what was caught -/
namespace SL
open PySem PySem.Spec PyProof.Rows L2

/-! ### defs that may raise -/
section
variable {P : Program} {w : World} {K : PySem.W.Frag} {mg : Str → Option Value} {base : Heap}
structure DfX (P : Program) (w : World) (K : PySem.W.Frag) (mg : Str → Option Value) (base : Heap) (k : Nat) (x : Str) (sp : Sp) : Prop where
  ex : ∃ f fd ps, FnG P w K mg base (L2.CX P w) k f fd ps sp ∧ mg x = some (.ref f) ∧ PySem.W.keepIn K (.ref f) = true ∧ Binds K fd ps []
theorem dfx_mk {x : Str} {k : Nat} {f : Addr} {fd : FuncData} {ps : List Str} {sp : Sp} (F : FnG P w K mg base (L2.CX P w) k f fd ps sp) (g : mg x = some (.ref f)) (kp : PySem.W.keepIn K (.ref f) = true) (b : Binds K fd ps []) : DfX P w K mg base k x sp := ⟨f, fd, ps, F, g, kp, b⟩
/-- THE RULE for a def that may raise -/
theorem okX {x qual : Str} {st : Stmt} {f : Addr} {fd : FuncData} {N ps : List Str} {k : Nat} {sp : Sp} (F : Fun K x qual st f fd) (S : FnScope N ps (defScope st)) (len : ∀ vs H Q E, sp vs H Q E → vs.length = ps.length)
    (hb : ∀ (cdv : Value) (A : Around) (outer : List Env) (s : Shared) (H : Hp) (vs : List V) (Q : VK) (E : XK), Room k (A.deeper (envOfC qual (defScope st) s.heap.objs.size f cdv)) → (A.deeper (envOfC qual (defScope st) s.heap.objs.size f cdv)).guards = some [] → sp vs H Q E →
      Wss (cxOf (L2.CX P w) P w K mg base N qual (defScope st) f cdv A outer s H E) (defBody st) { nx := fun _ H' => Q .non H', rt := Q } (start N vs) H) : FnG P w K mg base (L2.CX P w) (k + 1) f fd ps sp := by
  obtain ⟨oc, od, kV, doc, pm, an, cdv, ct, osl, rfl, lk, hcd⟩ := F.ex
  refine ⟨len, fun A outer s H args us vs Q E hr hgd e0 hbind r hsp => ?_⟩
  have KX : K.In s.heap := e0.mod.kin.keeps fun b o e => (e0.bs b o e).1
  have lim : s.heap.NoLimit := e0.mod.nolimit.keeps fun b o e => (e0.bs b o e).1
  refine codeAny_call_function hr.depth (KX _ _ lk) rfl S.co S.gen rfl (PySem.W.codeRec_of KX hcd) (hbind _ _ _ _ (wpAny_newFunctionEnv_cells S.kind (fun y hy => ?_) fun env he s1 x => ?_))
  · rcases S.par y.1 (List.of_mem_zip hy).1 with q | q
    · exact .inl q
    · exact .inr ⟨q, PySem.W.cellsFrom_some _ _ _ (.inl q)⟩
  · subst he
    refine ⟨lim.keeps x.toInCall.keep, codeAny_func (wpAny_mono (Wss.pss.run [] s1 (start N vs) H _ (inv_start S hr.hd e0 (len _ _ _ _ hsp) r x) (hb cdv A outer s H vs Q E (hr.deeper _) hgd hsp)) (fun fl s' hs => ?_) fun e s' hs => hs)⟩
    cases fl with
    | ret u => exact let ⟨v, _, H', J, rv, q⟩ := hs; ⟨v, H', J.os, J.bare, J.base, J.hok, rv, q⟩
    | next => exact let ⟨_, H', J, q⟩ := hs; ⟨.non, H', J.os, J.bare, J.base, J.hok, rfl, q⟩
    | brk => exact let ⟨_, _, _, q⟩ := hs; q.elim
    | cont => exact let ⟨_, _, _, q⟩ := hs; q.elim
end
section
variable {X : Cx} {σ : L2.St} {H : Hp} {Q : VK} {W : WX} {e : Expr} {es : List Expr} {p pos : Pos} {x : Str} {k j : Nat} {sp : Sp}
theorem run_fnX {pins : List (Addr × Obj)} {s : Shared} {us : List Value} {vs : List V} {f : Addr} {fd : FuncData} {ps : List Str} (F : FnG X.prog X.w X.K X.mg X.base (L2.CX X.prog X.w) k f fd ps sp) (hr : Room k X.A) (hgd : X.A.guards = some []) (b : Binds X.K fd ps []) (tk : Takes X W)
    (I : Inv X pins σ H s) (r : Vals vs us) (h : sp vs H Q fun cls d H' => W cls d σ H') : wpAny (model X.prog X.w) X.A (call (.ref f) us) (EP X pins σ Q) X.xe s := by
  have hl : us.length = ps.length := r.length.symm.trans (F.len _ _ _ _ h)
  have hb := b s us I.kIn (by rw [List.append_nil]; exact hl)
  rw [List.append_nil] at hb
  refine wpAny_call (codeAny_mono (F.run X.A X.stack s H ⟨us, []⟩ us vs Q _ hr hgd I.env0 hb r h) fun r s' hq => ?_)
  cases r with
  | error e => exact tk e s' (XE.of_call I (fun _ _ _ z => z) hq)
  | ok fl => cases fl with
    | ret u => exact I.after hq
    | next => exact hq.elim
    | brk => exact hq.elim
    | cont => exact hq.elim
/-- f(e, ..), f may raise -/
theorem we_callX (D : DfX X.prog X.w X.K X.mg X.base k x sp) (hr : Room j X.A) (hk : k ≤ j) (hgd : X.A.guards = some []) (hg : Gl X x) (tk : Takes X W) (h : Wa X (e :: es) σ H fun vs H1 => sp vs H1 Q fun cls d H' => W cls d σ H') (hdb : (x == ("__debug__" : Str)) = false := by decide)
    (he : starEach (e :: es) X.env = (false, eval e X.env) :: starEach es X.env := by rfl) (hpl : (backTo pos (starEach es X.env)).any (·.1) = false := by rfl) : We X (.Call (.Name x p) (e :: es) [] pos) σ H Q := by
  obtain ⟨f, fd, ps, F, g, kp, b⟩ := D.ex
  refine ⟨fun pins s I => ?_⟩
  exact wpAny_Call_Name_kw (ld_glob I hg g (PySem.W.callWith_K (h₀ := X.base) I.ok.mod.kin kp (thn (h.run pos pins s I) fun us s1 ⟨vs, H1, I1, r, q⟩ => ⟨I1.kIn, run_fnX F (hr.mono hk) hgd b tk I1 r q⟩) he hpl) hdb)
theorem takes0 {X : Cx} : Takes X (fun _ _ _ _ => False) := fun _ _ ⟨_, _, _, _, _, _, _, _, _, _, _, _, _, _, _, _, z⟩ => z.elim
end

/-! ### own exception classes -/
abbrev veM : List Value := [.type "ValueError", .type "Exception", .type "BaseException", .type "object"]
structure ExK (K : PySem.W.Frag) (mg : Str → Option Value) (x : Str) (C : Addr) : Prop where
  g : mg x = some (.ref C)
  q : PySem.W.excIn K C veM "ValueError.__new__" = true
  kp : PySem.W.keepIn K (.ref C) = true
  b : PySem.W.subIn K (.ref C) (.type "BaseException") = some true
  t : PySem.W.typeIn K (.ref C) = some (.type "type")
  cl : (PySem.W.clsIn K C).isSome = true
  ga : PySem.W.findIn K (.ref C) "__getattribute__" = some (some (.builtin "BaseException.__getattribute__"))
  gt : PySem.W.findIn K (.ref C) "__getattr__" = some none
  ha : PySem.W.findIn K (.ref C) "__class__" = some (some (.builtin "object.__class__"))
  hn : PySem.W.specialIn K (.builtin "object.__class__") "__get__" = some (some (.builtin "getset_descriptor.__get__"))
  tk : PySem.W.takesIn K (.builtin "object.__class__") = some true
  hm : PySem.W.mroIn K C (.type "object") = some true
section
variable {X : Cx} {σ : L2.St} {H : Hp} {Q : VK} {W : WX} {D : Ends} {C a : Addr} {x m : Str} {j : Nat} {p p2 pos pos' : Pos}
/-- raise C("..") -/
theorem ws_raise (hc : X.calm = true) (tk : Takes X W) (T : ExK X.K X.mg x C) (hg : Gl X x) (h : W (.ref C) none σ H) (hdb : (x == ("__debug__" : Str)) = false := by decide) : Ws X (.Raise (some (.Call (.Name x p) [.Constant (.str m) j p2] [] pos)) none pos') D σ H :=
  ws_of (ps_raise hc tk (pmk_own PySem.F.excBase_ValueError T.q T.g T.kp (raises_own T.b T.t) hg hdb)) h
/-- the class itself, by its name -/
theorem we_exc (T : ExK X.K X.mg x C) (hg : Gl X x) (h : Q (.ref C) H) (hd : (x == ("__debug__" : Str)) = false := by decide) : We X (.Name x pos) σ H Q := we_glob (v := .ref C) hg T.g rfl h hd
/-- an exception that was caught, at a -/
def XO (C a : Addr) : HO := .ext fun h => ∃ (oe : Obj) (vs : Array Value), h.get? a = some oe ∧ oe.cls = .ref C ∧ oe.dict = none ∧ oe.data = .fields vs
theorem xo_ok {P : Program} {w : World} {H : Hp} {h : Heap} {oe : Obj} {vs : Array Value} (e : h.get? a = some oe) (z : Zc (.ref C) none oe) (d : oe.data = .fields vs) : ObjOk P w H h a (XO C a) :=
  ⟨⟨oe, vs, e, z.1, z.2, d⟩, ⟨oe, e⟩, fun _ _ ⟨o, v, q, r⟩ k => ⟨o, v, k o q, r⟩⟩
theorem xo_inst {pins : List (Addr × Obj)} {s : Shared} (I : Inv X pins σ H s) (h1 : H a = some (XO C a)) : ∃ ox, PySem.W.InstAt s.heap a ox C none := by
  obtain ⟨⟨oe, vs, e, z1, z2, d⟩, _, _⟩ := (show ObjOk X.prog X.w H s.heap a (XO C a) from I.hok a _ h1)
  refine ⟨oe, e, z1, ?_, ?_⟩
  · unfold PySem.W.notCls
    rw [d]
  · rw [z2]
    trivial
/-- isinstance(e, c) of such -/
theorem k_isiE {c : V} {u : Value} {b : Bool} (h1 : H a = some (XO C a)) (T : ExK X.K X.mg x C) (hcv : ClsV c u) (hk : PySem.W.kitOne X.K (.ref C) u = some b) (h : Q (.bl b) H) : Cal X (.builtin "isinstance") [.ref a, c] H Q := by
  refine ⟨fun xs H Q => xs = [.ref a, c] ∧ H a = some (XO C a) ∧ Q (.bl b) H, ?_, rfl, h1, h⟩
  intro pins s σ H xs us Q I r h
  obtain ⟨rfl, h1, q⟩ := h
  obtain ⟨u1, u2, rfl, r1, r2⟩ := vals2 r
  have e2 := hcv.eq r2
  subst e2
  cases r1
  obtain ⟨ox, J⟩ := xo_inst I h1
  exact PySem.W.kia_one (PySem.W.kitx_exc T.cl T.ga T.gt T.b T.ha T.hn T.tk T.hm) I.kIn J hk (fun z => nomatch z) fun tk => ⟨.bl b, H, I.tok tk, rfl, q⟩
/-- isinstance(e, (c1, c2, ..)) -/
theorem k_isiET {tp : Addr} {cs : List V} {us : List Value} {b : Bool} (h1 : H a = some (XO C a)) (T : ExK X.K X.mg x C) (h2 : H tp = some (.tup cs)) (hcv : Paired ClsV cs us) (hk : PySem.W.kitAny X.K (.ref C) us = some b) (h : Q (.bl b) H) : Cal X (.builtin "isinstance") [.ref a, .ref tp] H Q := by
  refine ⟨fun xs H Q => xs = [.ref a, .ref tp] ∧ H a = some (XO C a) ∧ H tp = some (.tup cs) ∧ Q (.bl b) H, ?_, rfl, h1, h2, h⟩
  intro pins s σ H xs ws Q I r h
  obtain ⟨rfl, h1, h2, q⟩ := h
  obtain ⟨u1, u2, rfl, r1, r2⟩ := vals2 r
  cases r1
  cases r2
  obtain ⟨ox, J⟩ := xo_inst I h1
  obtain ⟨_, its, rv, o, g1, g2, n, g3⟩ := (show ObjOk X.prog X.w H s.heap tp (.tup cs) from I.hok tp _ h2)
  have e3 := ClsV.all hcv rv
  subst e3
  obtain ⟨oc, od, dt, sl⟩ := o
  simp only at g2 g3
  subst g2 g3
  exact PySem.W.kia_tup (PySem.W.kitx_exc T.cl T.ga T.gt T.b T.ha T.hn T.tk T.hm) I.kIn J g1 hk (fun z => nomatch z) fun tk => ⟨.bl b, H, I.tok tk, rfl, q⟩
end

/-! ### try: .. except x as n: .. -/
section
variable {X : Cx} {pins : List (Addr × Obj)} {σ : L2.St} {H : Hp} {s : Shared}
/-- an object of ours that was laid behind our back is tracked from here on -/
theorem inv_track {a : Addr} {o : HO} (I : Inv X pins σ H s) (na : H a = none) (n0 : X.s_0.heap.get? a = none) (nL : a ≠ X.env.locals) (nC : ∀ x c, X.env.cells.lookup x = some c → c ≠ a) (nP : ∀ p ∈ X.pn ++ pins, p.1 ≠ a) (new : ObjOk X.prog X.w (upd H a o) s.heap a o) : Inv X pins σ (upd H a o) s where
  ok := I.ok
  os := I.os
  bare := I.bare
  base := ⟨I.base.keep, I.base.slot, fun b u e n hb => by rw [upd_ne (fun z => by rw [z, n0] at e; cases e)]; exact I.base.free b u e n hb, I.base.there,
    fun b xs e => by rw [upd_ne (ne_of_none (I.base.tups b xs e) na)]; exact I.base.tups b xs e, fun b ob u e => by rw [upd_ne (ne_of_none (I.base.frzs b ob u e) na)]; exact I.base.frzs b ob u e,
    fun b ps e => by
      obtain ⟨more, z⟩ := I.base.tbls b ps e
      exact ⟨more, by rw [upd_ne (ne_of_none z na)]; exact z⟩⟩
  loc := I.loc
  cell := I.cell
  free := by rw [upd_ne (Ne.symm nL)]; exact I.free
  freeC := fun x c e => by rw [upd_ne (nC x c e)]; exact I.freeC x c e
  pin := fun p hp => by
    obtain ⟨e1, e2, e3⟩ := I.pin p hp
    exact ⟨e1, by rw [upd_ne (nP p hp)]; exact e2, e3⟩
  hok := HOk.laidN I.hok (fun _ _ z => z) na new
  len := I.len
/-- the context of a suite in which what was caught is tracked -/
abbrev suT (X : Cx) (a : Addr) : Cx := { X with A := X.A.mark (some (.ref a)), calm := false, xe := fun _ _ => False }
theorem suT_ok {X : Cx} (ok : X.Ok) (a : Addr) : (suT X a).Ok :=
  ⟨ok.mod, ok.kind, ok.glob, ok.blt, ok.above, ok.inj, ok.has, ok.cab, fun z => Bool.noConfusion z, ok.frames, ok.stk, ok.exf, ok.bs, ok.bsz, ok.noex, ok.exfs, ok.funs, ok.frf⟩
theorem inv_toSu (I : Inv X pins σ H s) (a : Addr) : Inv (suT X a) pins σ H s := ⟨suT_ok I.ok a, I.os, I.bare, I.base, I.loc, I.cell, I.free, I.freeC, I.pin, I.hok, I.len⟩
theorem inv_ofSu {a : Addr} (I : Inv (suT X a) pins σ H s) (ok : X.Ok) : Inv X pins σ H s := ⟨ok, I.os, I.bare, I.base, I.loc, I.cell, I.free, I.freeC, I.pin, I.hok, I.len⟩
end
/-- what is wished of what the body raises -/
def TryW (X : Cx) (c : Value) (i : Nat) (suite : List Stmt) (D : Ends) : WX := fun cls d σ H => ∃ C, cls = .ref C ∧ d = none ∧ PySem.W.exmOne X.K cls c = some true ∧
  ∀ a H', H a = none → Kp [] H H' → H' a = some (XO C a) → Wss (suT X a) suite { nx := fun σ' H' => D.nx (σ'.set i none) H', rt := D.rt, bk := fun σ' H' => D.bk (σ'.set i none) H', ct := fun σ' H' => D.ct (σ'.set i none) H' } (σ.set i (some (.ref a))) H'
section
variable {X : Cx} {σ : L2.St} {H : Hp} {D : Ends} {x n : Str} {c : Value} {i : Nat} {body suite : List Stmt} {b₀ : Stmt} {np pos pos' : Pos}
theorem ws_tryAs (hs : X.stack = X.env :: X.outer) (hf : X.env.frame = some X.env.locals) (hex : X.ex = []) (hN : X.N.Nodup) (hi : X.N[i]? = some n) (hln : X.env.kindOf n = some .local) (hc : Names X x c)
    (h : ∀ (pn : List (Addr × Obj)) (xe : Value → Shared → Prop), Takes (X.tr pn xe) (TryW X c i (b₀ :: suite) D) → PassesOwn (model X.prog X.w) X.A X.env xe → Wss (X.tr pn xe) body D σ H) :
    Ws X (.Try body [.ExceptHandler (some (.Name x np)) (some n) (b₀ :: suite) pos'] [] [] pos) D σ H := by
  refine ⟨fun pins s I => ?_⟩
  have ok := I.ok
  have frm : X.A.frames = some (X.env :: X.outer) := ok.frames.trans (congrArg some hs)
  have lc : Loc X.env.scope n := Or.inl hln
  apply wpAny_Try_except
  refine wpAny_mono ((h (X.pn ++ pins) (fun e t1 => wpAny (model X.prog X.w) X.A (noteFrame e X.env) (fun _ t2 => wpAny (model X.prog X.w) X.A (setFlight e none) (fun _ t3 => wpAny (model X.prog X.w) X.A (handleBy e X.env [.ExceptHandler (some (.Name x np)) (some n) (b₀ :: suite) pos']) (SP X pins D) X.xe t3) X.xe t2) X.xe t1)
    (fun v t ht => ?_) PassesOwn.looking).run [] s (I.toTry _)) (fun fl t ht => ?_) (fun _ _ z => z)
  · obtain ⟨a, B, sI, pins', τ, G, cls, d, rfl, J', nb, up, sky, na, os, ag, C, rfl, rfl, hm, hw⟩ := ht
    have J : Inv X pins τ G sI := J'.ofTry ok
    have sk : Sky B (X.env :: X.outer) a (Zc (.ref C) none) X.env.locals t.heap := hs ▸ sky
    refine Sky.land (s := t) Zc.steady frm hf sk fun h3 fl3 up3 => ?_
    have J3 : Inv X pins τ G { t with heap := h3 } := J.landed nb fl3.1 (up.trans up3) os ag
    obtain ⟨o3, v3, he3, hz3, hd3⟩ := HandSPX.FlyingZ.there fl3
    -- what a is not
    have nfr : a ∉ frs (X.env :: X.outer) := fun hm => by
      obtain ⟨_, o', e', hnf⟩ := fl3.2.2.1.mem hm
      rw [he3] at e'
      cases e'
      exact hnf _ hd3
    have nI : sI.heap.get? a = none := by
      cases q : sI.heap.get? a with
      | none => rfl
      | some o =>
        have z := nb a o q (by rw [hs]; exact nfr)
        rw [fl3.2.1] at z
        cases z
    have nL : a ≠ X.env.locals := fun z => nfr (List.mem_filterMap.mpr ⟨X.env, List.mem_cons_self, by rw [hf, z]⟩)
    have n0 : X.s_0.heap.get? a = none := by
      cases q : X.s_0.heap.get? a with
      | none => rfl
      | some o =>
        obtain ⟨o', z⟩ := J.base.there a o q (by rw [hex]; exact List.not_mem_nil)
        rw [nI] at z
        cases z
    have nC : ∀ y c', X.env.cells.lookup y = some c' → c' ≠ a := fun y c' e z => by
      obtain ⟨w', o', e', _⟩ := J.cell y c' e
      rw [z, nI] at e'
      cases e'
    have nP : ∀ p ∈ X.pn ++ pins, p.1 ≠ a := fun p hp z => by
      have e := (J.pin p hp).1
      rw [z, nI] at e
      cases e
    refine wpAny_handleBy_cons (codeAny_handlers_test ?_) (fun q => by cases q)
    have lty : PySem.W.Looks (model X.prog X.w) h3 (typeOf (.ref a)) (.ref C) := fun A Q E s k q => wpAny_typeOf_ref (k _ _ he3) (by rw [hz3.1]; exact q)
    have lmt := PySem.W.exm_one (M := model X.prog X.w) J3.kIn lty hm
    have tst : ∀ {Q : Value → Shared → Prop} {E : Value → Shared → Prop}, Q c { t with heap := h3 } → wpAny (model X.prog X.w) (X.A.mark (some (.ref a))) (eval (.Name x np) X.env) Q E { t with heap := h3 } := fun {Q E} q => by
      obtain ⟨hg, hdb, hm | ⟨hm, hv, hnn⟩⟩ := hc
      · exact ld_glob (X := suT X a) (inv_toSu J3 a) hg hm q hdb
      · exact ld_blt (X := suT X a) (inv_toSu J3 a) hg hm hv q hnn hdb
    refine tst (lmt.here (codeAny_handlers_suite_as (HandSPX.lands_againZ fl3 fun h4 fl4 up4 => ?_)))
    have J4 : Inv X pins τ G { t with heap := h4 } := J.landed nb fl4.1 ((up.trans up3).trans up4) os ag
    obtain ⟨o4, v4, he4, hz4, hd4⟩ := HandSPX.FlyingZ.there fl4
    have K4 : Inv (suT X a) pins τ (upd G a (XO C a)) { t with heap := h4 } := inv_toSu (inv_track J4 na n0 nL nC nP (xo_ok he4 hz4 hd4)) a
    refine store_ok (X := suT X a) (v := .ref a) K4 hN hi lc rfl (fun t5 K5 => ?_) (.inr hln)
    refine wpAny_mono ((hw a _ na (.new na) upd_same).run pins t5 K5) (fun fl t6 z6 => ?_) (fun _ _ z => z.elim)
    have fin : ∀ {τ6 : L2.St} {G6 : Hp} {R : Shared → Prop}, Inv (suT X a) pins τ6 G6 t6 → (∀ t7, Inv X pins (τ6.set i none) G6 t7 → R t7) → wpAny (model X.prog X.w) X.A (do bindName X.env n .none; unbindBehindTheSuite X.env n pos') (fun _ t7 => R t7) X.xe t6 :=
      fun {τ6 G6 R} K6 hq => gone_ok (inv_ofSu K6 ok) hN hi hln hq
    cases fl with
    | next =>
      obtain ⟨τ6, G6, K6, q6⟩ := z6
      exact fin K6 fun t7 J7 => ⟨_, _, J7, q6⟩
    | brk =>
      obtain ⟨τ6, G6, K6, q6⟩ := z6
      exact fin K6 fun t7 J7 => ⟨_, _, J7, q6⟩
    | cont =>
      obtain ⟨τ6, G6, K6, q6⟩ := z6
      exact fin K6 fun t7 J7 => ⟨_, _, J7, q6⟩
    | ret u =>
      obtain ⟨w6, τ6, G6, K6, r6, q6⟩ := z6
      exact fin K6 fun t7 J7 => ⟨_, _, _, J7, r6, q6⟩
  · cases fl with
    | next =>
      obtain ⟨τ, G, J', q⟩ := ht
      exact wpAny_execs_nil ⟨τ, G, J'.ofTry ok, q⟩
    | brk =>
      obtain ⟨τ, G, J', q⟩ := ht
      exact ⟨τ, G, J'.ofTry ok, q⟩
    | cont =>
      obtain ⟨τ, G, J', q⟩ := ht
      exact ⟨τ, G, J'.ofTry ok, q⟩
    | ret u =>
      obtain ⟨w, τ, G, J', r, q⟩ := ht
      exact ⟨w, τ, G, J'.ofTry ok, r, q⟩
end

/-! ### methods that may raise -/
structure MeX (P : Program) (w : World) (K : PySem.W.Frag) (mg : Str → Option Value) (base : Heap) (k : Nat) (C : Addr) (m : Str) (sp : Sp) : Prop where
  ex : ∃ f fd ps, FnG P w K mg base (L2.CX P w) k f fd ps sp ∧ Meth K C m f ∧ Binds K fd ps []
theorem mex_mk {P : Program} {w : World} {K : PySem.W.Frag} {mg : Str → Option Value} {base : Heap} {k : Nat} {C f : Addr} {m : Str} {fd : FuncData} {ps : List Str} {sp : Sp} (F : FnG P w K mg base (L2.CX P w) k f fd ps sp) (h : Meth K C m f) (b : Binds K fd ps []) : MeX P w K mg base k C m sp := ⟨f, fd, ps, F, h, b⟩
section
variable {X : Cx} {σ : L2.St} {H : Hp} {Q : VK} {W : WX} {C a dx : Addr} {fs : List Str} {fv : List (Str × V)} {m : Str} {k j : Nat} {sp : Sp} {o e : Expr} {es : List Expr} {apos pos : Pos}
structure MwX (X : Cx) (a : Addr) (m : Str) (es : List Expr) (σ : L2.St) (H : Hp) (Q : VK) : Prop where
  ex : Mw X a m es σ H Q ∨ ∃ C fs k j sp dx fv W, Kl X.K C fs ∧ MeX X.prog X.w X.K X.mg X.base k C m sp ∧ Room j X.A ∧ k ≤ j ∧ X.A.guards = some [] ∧ H a = some (.ins C dx fv) ∧ fv.lookup m = none ∧ Takes X W ∧ Wa X es σ H fun vs H2 => sp (.ref a :: vs) H2 Q fun cls d H' => W cls d σ H'
theorem mwx_o (h : Mw X a m es σ H Q) : MwX X a m es σ H Q := ⟨.inl h⟩
theorem mwx_r (h1 : H a = some (.ins C dx fv)) (T : Kl X.K C fs) (M : MeX X.prog X.w X.K X.mg X.base k C m sp) (hr : Room j X.A) (hk : k ≤ j) (hgd : X.A.guards = some []) (h2 : fv.lookup m = none) (tk : Takes X W) (h : Wa X es σ H fun vs H2 => sp (.ref a :: vs) H2 Q fun cls d H' => W cls d σ H') : MwX X a m es σ H Q := ⟨.inr ⟨C, fs, k, j, sp, dx, fv, W, T, M, hr, hk, hgd, h1, h2, tk, h⟩⟩
theorem we_methX {pl : Sem Bool} (h : We X o σ H fun x H1 => ∃ a, x = .ref a ∧ MwX X a m (e :: es) σ H1 Q)
    (hst : starEach (e :: es) X.env = (false, eval e X.env) :: starEach es X.env := by rfl) (hpl : (backTo pos (starEach es X.env)).any (·.1) = false := by rfl)
    (ht : eval (.Call (.Attribute o m apos) (e :: es) [] pos) X.env = (do
      let ov ← eval o X.env
      standAt apos.atName
      let (f, first) ← holding [ov] (getMethod ov m pl)
      callWith pos f first (backTo pos (starEach (e :: es) X.env)) (backToKw pos (keywordEach [] X.env))) := by rfl) : We X (.Call (.Attribute o m apos) (e :: es) [] pos) σ H Q := by
  refine ⟨fun pins s I => ?_⟩
  refine PySem.W.methodCall_KW (pl := pl) (thn (h.run pins s I) fun u s1 ⟨x, H1, I1, rx, a, ex, hw⟩ => ?_) ht
  subst ex
  obtain rfl : u = Value.ref a := rx
  rcases hw.ex with hw | ⟨C, fs, k, j, sp, dx, fv, W, T, M, hr, hk, hgd, ea, l, tk, q⟩
  · obtain ⟨C, fs, k, j, sp, dx, fv, T, M, hr, hk, hgd, ea, l, q⟩ := hw.ex
    obtain ⟨f, fd, ps, F, hm, b⟩ := M.ex
    refine getmeth_ok I1 ea T.cl hm l ?_
    refine PySem.W.callWith_K (first := [.ref a]) (h₀ := X.base) I.ok.mod.kin hm.kp (thn (q.run pos pins s1 I1) fun us s2 ⟨vs, H2, I2, r, q2⟩ => ⟨I2.kIn, ?_⟩) hst hpl
    exact run_fnG (us := .ref a :: us) (vs := .ref a :: vs) F (hr.mono hk) hgd b I2 (.cons rfl r) q2
  · obtain ⟨f, fd, ps, F, hm, b⟩ := M.ex
    refine getmeth_ok I1 ea T.cl hm l ?_
    refine PySem.W.callWith_K (first := [.ref a]) (h₀ := X.base) I.ok.mod.kin hm.kp (thn (q.run pos pins s1 I1) fun us s2 ⟨vs, H2, I2, r, q2⟩ => ⟨I2.kIn, ?_⟩) hst hpl
    exact run_fnX (us := .ref a :: us) (vs := .ref a :: vs) F (hr.mono hk) hgd b tk I2 (.cons rfl r) q2
end
section
variable {K : PySem.W.Frag} {A B : Addr} {v : Bool}
theorem cl_of {C : Addr} {c : Value} {b : Bool} (h : PySem.W.mroIn K C c = some b) : (PySem.W.clsIn K C).isSome = true := by
  unfold PySem.W.mroIn at h
  cases e : PySem.W.clsIn K C with
  | none => rw [e] at h; cases h
  | some cd => rfl
theorem kcls_of (s : PySem.W.subIn K (.ref A) (.ref B) = some v) (cl : (PySem.W.clsIn K B).isSome = true) (t : PySem.W.typeIn K (.ref B) = some (.type "type")) : PySem.W.kitCls K (.ref A) (.ref B) = some v := by
  unfold PySem.W.kitCls
  dsimp only
  rw [cl, t, if_pos (by decide)]
  exact s
theorem kit_ofS (s : PySem.W.subIn K (.ref A) (.ref B) = some v) (cl : (PySem.W.clsIn K B).isSome = true) (t : PySem.W.typeIn K (.ref B) = some (.type "type")) (hv : v = true ∨ A ≠ B) : PySem.W.kitOne K (.ref A) (.ref B) = some v := by
  unfold PySem.W.kitOne
  by_cases z : ((Value.ref A) == (Value.ref B)) = true
  · rw [if_pos z]
    rcases hv with h | h
    · rw [h]
    · exact absurd (Value.ref.inj (beq_iff_eq.mp z)) h
  · rw [if_neg z]
    exact kcls_of s cl t
theorem exm_ofS (s : PySem.W.subIn K (.ref A) (.ref B) = some v) (cl : (PySem.W.clsIn K B).isSome = true) (t : PySem.W.typeIn K (.ref B) = some (.type "type")) (b : PySem.W.subIn K (.ref B) (.type "BaseException") = some true) : PySem.W.exmOne K (.ref A) (.ref B) = some v := by
  unfold PySem.W.exmOne
  rw [b, if_pos (by decide)]
  exact kcls_of s cl t
theorem kit_ofV (s : PySem.W.subIn K (.ref A) (.type "ValueError") = some true) : PySem.W.kitOne K (.ref A) (.type "ValueError") = some true := by
  have e : PySem.W.kitCls K (.ref A) (.type "ValueError") = some true := by
    unfold PySem.W.kitCls
    dsimp only
    rw [if_pos (by decide +kernel)]
    exact s
  unfold PySem.W.kitOne
  rw [if_neg (fun z => by have := beq_iff_eq.mp z; cases this)]
  exact e
end
end SL

/-! odd things: what is no whole number -/
namespace SL
open PySem PySem.Spec PyProof.Rows L2

/-- an exception of ValueError itself, at a, as a value -/
def VO (a : Addr) : HO := .ext fun h => ∃ oe : Obj, h.get? a = some oe ∧ oe.cls = .type "ValueError"
theorem vo_ok {P : Program} {w : World} {H : Hp} {h : Heap} {a : Addr} {oe : Obj} (e : h.get? a = some oe) (z : oe.cls = .type "ValueError") : ObjOk P w H h a (VO a) :=
  ⟨⟨oe, e, z⟩, ⟨oe, e⟩, fun _ _ ⟨o, q, r⟩ k => ⟨o, k o q, r⟩⟩
section
variable {X : Cx} {σ : L2.St} {H : Hp} {Q : VK} {a : Addr} {m : Str} {j : Nat} {p p2 pos : Pos}
/-- ValueError("..") -/
theorem we_verr (hg : Gl X "ValueError") (hm : X.mg "ValueError" = none) (h : ∀ a H', H a = none → Kp [] H H' → H' a = some (VO a) → Q (.ref a) H') : We X (.Call (.Name "ValueError" p) [.Constant (.str m) j p2] [] pos) σ H Q := by
  refine ⟨fun pins s I => ?_⟩
  refine wpAny_Call_Name_kw (ld_blt I hg hm L2.boot_ValueError ?_)
  have ha : PA X [.Constant (.str m) j p2] (tCons (tC (.str m)) tNil) := pa_cons pe_str pa_nil
  refine PyProof.Rows.callWith_type1 (thn (ha.run pos pins s σ H (fun vs H1 => vs = [V.str m] ∧ H = H1) I ⟨rfl, rfl⟩) fun us s1 hh => ?_) rfl rfl
  obtain ⟨vs, H1, I1, r1, ev, eH⟩ := hh
  subst ev
  subst eH
  refine PyProof.Rows.call_exc excClass_ValueError (fun h' a mk => ?_) (by rw [← r1.length]; exact Nat.le_trans (show [V.str m].length ≤ 1 from Nat.le_refl 1) (by decide))
  obtain ⟨ob, t0, ha', hcls, hd⟩ := mk.there
  have nn := I1.hok.gone mk.new
  exact ⟨.ref a, upd H a (VO a), I1.laidN (t' := s1.toks) mk.keeps mk.new nn (vo_ok ha' hcls), rfl, h a _ nn (.new nn) upd_same⟩
/-- isinstance(e, T) of such -/
theorem k_isiV {n : String} {b : Bool} (h1 : H a = some (VO a)) (hk : kitB "ValueError" n = some b) (h : Q (.bl b) H) : Cal X (.builtin "isinstance") [.ref a, .ty n] H Q := by
  refine ⟨fun xs H Q => xs = [.ref a, .ty n] ∧ H a = some (VO a) ∧ Q (.bl b) H, ?_, rfl, h1, h⟩
  intro pins s σ H xs us Q I r h
  obtain ⟨rfl, h1, q⟩ := h
  obtain ⟨u1, u2, rfl, r1, r2⟩ := vals2 r
  cases r1
  have e2 := (ClsV.ty n).eq r2
  subst e2
  obtain ⟨⟨oe, e, z⟩, _, _⟩ := (show ObjOk X.prog X.w H s.heap a (VO a) from I.hok a _ h1)
  exact PySem.W.kia_one (PySem.W.kitx_bexc PySem.F.excAttr_ValueError PySem.F.lkClass_ValueError PySem.F.soClass_ValueError (by decide)) I.kIn ⟨oe, e, z⟩ (kit_ty hk) (fun z => nomatch z) fun tk => ⟨.bl b, H, I.tok tk, rfl, q⟩
/-- some item of a list -/
theorem x_memV {i : Int} {xs : List V} (h1 : SqL X.K H a xs) (h0 : 0 ≤ i) (h2 : i < xs.length) (h : ∀ v, v ∈ xs → Q v H) : Ixw X (.ref a) (.int i) H Q := by
  have hl : i.toNat < xs.length := by omega
  exact x_lst h1 (atI_of h0 (List.getElem?_eq_getElem hl)) (h _ (List.getElem_mem hl))
end

/-- what is no whole number: its place, if it has one, is none of F -/
inductive Odd (F : List Addr) (H : Hp) : V → Prop where
  | non : Odd F H .non
  | bl (b : Bool) : Odd F H (.bl b)
  | str (s : Str) : Odd F H (.str s)
  | lst {a : Addr} {xs : List V} (h : H a = some (.lst xs)) (n : a ∉ F) : Odd F H (.ref a)
  | tup {a : Addr} {xs : List V} (h : H a = some (.tup xs)) : Odd F H (.ref a)
  | dict {a : Addr} {ps : List (Int × Int)} (h : H a = some (.dK (encK ps))) (n : a ∉ F) : Odd F H (.ref a)
  | exc {a : Addr} (h : H a = some (VO a)) (n : a ∉ F) : Odd F H (.ref a)
theorem Odd.kp {F M : List Addr} {H H' : Hp} {v : V} (h : Odd F H v) (k : Kp M H H') (hM : ∀ y ∈ M, y ∈ F ∨ H y = none) : Odd F H' v := by
  have no : ∀ {y : Addr} {o : HO}, y ∉ F → H y = some o → y ∉ M := fun {y o} n e z => by
    rcases hM y z with w | w
    · exact n w
    · rw [w] at e; cases e
  cases h with
  | non => exact .non
  | bl b => exact .bl b
  | str s => exact .str s
  | lst h n => exact .lst (k.gM (no n h) h) n
  | tup h => exact .tup (k.gT h)
  | dict h n => exact .dict (k.gM (no n h) h) n
  | exc h n => exact .exc (k.gM (no n h) h) n
theorem Odd.k0 {F : List Addr} {H H' : Hp} {v : V} (h : Odd F H v) (k : Kp [] H H') : Odd F H' v := h.kp k fun _ z => nomatch z
theorem ko_non : kitB "NoneType" "int" = some false := by decide +kernel
theorem ko_str : kitB "str" "int" = some false := by decide +kernel
theorem ko_lst : kitB "list" "int" = some false := by decide +kernel
theorem ko_tup : kitB "tuple" "int" = some false := by decide +kernel
theorem ko_dict : kitB "dict" "int" = some false := by decide +kernel
theorem ko_exc : kitB "ValueError" "int" = some false := by decide +kernel
/-- isinstance(v, int) of an odd thing that is no truth -/
theorem Odd.isi {F : List Addr} {X : Cx} {H : Hp} {Q : VK} {v : V} (h : Odd F H v) (hb : ∀ b, v ≠ .bl b) (q : Q (.bl false) H) : Cal X (.builtin "isinstance") [v, .ty "int"] H Q := by
  cases h with
  | non => exact k_isi (.base .non) (kit_ty ko_non) q
  | bl b => exact absurd rfl (hb b)
  | str s => exact k_isi (.base (.str s)) (kit_ty ko_str) q
  | lst h n => exact k_isiL h ko_lst q
  | tup h => exact k_isiT h ko_tup q
  | dict h n => exact k_isi (.base (.dK h)) (kit_ty ko_dict) q
  | exc h n => exact k_isiV h ko_exc q

/-! ### lists of truths -/
section
variable {X : Cx} {H : Hp} {Q : VK} {p q : Addr} {k : Nat} {K : PySem.W.Frag}
theorem dpAll_bs : ∀ bs : List Bool, DpAll K H (bs.map V.bl) (bs.map PyData.bool)
  | [] => .nil
  | b :: bs => .cons (.bl b) (dpAll_bs bs)
theorem eqv_b (a b : Bool) : PyData.eqv (.bool a) (.bool b) = decide (a = b) := by
  cases a <;> cases b <;> rfl
theorem eqvAll_bs : ∀ xs ys : List Bool, PyData.eqvAll (xs.map PyData.bool) (ys.map PyData.bool) = decide (xs = ys)
  | [], [] => by simp [PyData.eqvAll]
  | [], y :: ys => by simp [PyData.eqvAll]
  | x :: xs, [] => by simp [PyData.eqvAll]
  | x :: xs, y :: ys => by
    simp only [List.map_cons]
    unfold PyData.eqvAll
    rw [eqv_b, eqvAll_bs xs ys]
    by_cases h : x = y <;> by_cases g : xs = ys <;> simp [h, g]
theorem shaped_bs (xs : List Bool) : SeqAt.shaped (.list (xs.map PyData.bool)) = true := by
  have h1 : ∀ ys : List Bool, PyData.canLayAll0 (ys.map PyData.bool) = true := fun ys => by
    induction ys with
    | nil => rfl
    | cons n ns ih => show (PyData.canLay0 (.bool n) && PyData.canLayAll0 (ns.map PyData.bool)) = true; rw [ih]; rfl
  have h2 : ∀ ys : List Bool, PyData.depthAll (ys.map PyData.bool) = 0 := fun ys => by
    induction ys with
    | nil => rfl
    | cons n ns ih => show max (PyData.depth (.bool n)) (PyData.depthAll (ns.map PyData.bool)) = 0; rw [ih]; rfl
  unfold SeqAt.shaped
  have e1 : PyData.canLay0 (.list (xs.map PyData.bool)) = true := h1 xs
  have e2 : PyData.depth (.list (xs.map PyData.bool)) = 1 := by
    show PyData.depthAll (xs.map PyData.bool) + 1 = 1
    rw [h2 xs]
  rw [e1, e2]
  rfl
theorem c_eqBs {xs ys : List Bool} (hr : Room k X.A) (h1 : H p = some (.lst (xs.map V.bl))) (h2 : H q = some (.lst (ys.map V.bl))) (h : Q (.bl (decide (xs = ys))) H) : Cmp X .Eq (.ref p) (.ref q) H Q :=
  c_eqD hr (.lst (sqL h1) (dpAll_bs xs)) (.lst (sqL h2) (dpAll_bs ys)) (shaped_bs _) (shaped_bs _) (by
    have e : PyData.eqv (.list (xs.map PyData.bool)) (.list (ys.map PyData.bool)) = decide (xs = ys) := by
      unfold PyData.eqv
      exact eqvAll_bs xs ys
    rw [e]
    exact h)
end
theorem kany_f {K : PySem.W.Frag} {t c : Value} {cs : List Value} {b : Bool} (h : PySem.W.kitOne K t c = some false) (hr : PySem.W.kitAny K t cs = some b) : PySem.W.kitAny K t (c :: cs) = some b := by
  unfold PySem.W.kitAny
  rw [h]
  exact hr
theorem kany_t {K : PySem.W.Frag} {t c : Value} {cs : List Value} (h : PySem.W.kitOne K t c = some true) : PySem.W.kitAny K t (c :: cs) = some true := by
  unfold PySem.W.kitAny
  rw [h]
theorem kany_0 {K : PySem.W.Frag} {t : Value} : PySem.W.kitAny K t [] = some false := rfl
theorem bs2 {o : Hp} {p : Addr} {a b : Bool} (h : o p = some (.lst [.bl a, .bl b])) : o p = some (.lst ([a, b].map V.bl)) := h
theorem bs3 {o : Hp} {p : Addr} {a b c : Bool} (h : o p = some (.lst [.bl a, .bl b, .bl c])) : o p = some (.lst ([a, b, c].map V.bl)) := h
theorem bs6 {o : Hp} {p : Addr} {a b c d e g : Bool} (h : o p = some (.lst [.bl a, .bl b, .bl c, .bl d, .bl e, .bl g])) : o p = some (.lst ([a, b, c, d, e, g].map V.bl)) := h
/-- {i: v} -/
theorem we_dict1 {X : Cx} {σ : L2.St} {H : Hp} {Q : VK} {i v : Int} {j1 j2 : Nat} {p1 p2 pos : Pos} (h : ∀ d H', H d = none → Kp [] H H' → H' d = some (.dK (encK [(i, v)])) → Q (.ref d) H') : We X (.Dict [some (.Constant (.int i) j1 p1)] [.Constant (.int v) j2 p2] pos) σ H Q := by
  refine we_of (pe_disp (pps_cons pe_int pe_int pps_nil) rfl rfl (by simp) (by simp)) ?_
  intro d nd
  refine ⟨upd_same, [(Sum.inl i, .int v)], rfl, Nat.le_of_ble_eq_true rfl, ?_⟩
  refine h d _ nd (.ext fun b o e => ?_) (by rw [upd_same]; rfl)
  have hb : b ≠ d := ne_of_none e nd
  rw [upd_ne hb, upd_ne hb]
  exact e
/-- f() -/
theorem we_call0 {X : Cx} {σ : L2.St} {H : Hp} {Q : VK} {x : Str} {k j : Nat} {sp : Sp} {p pos : Pos} (D : Df X.prog X.w X.K X.mg X.base k x sp) (hr : Room j X.A) (hk : k ≤ j) (hgd : X.A.guards = some []) (hg : Gl X x) (h : sp [] H Q E0) (hdb : (x == ("__debug__" : Str)) = false := by decide) : We X (.Call (.Name x p) [] [] pos) σ H Q := by
  obtain ⟨f, fd, ps, F, g, kp, b⟩ := D.ex
  refine ⟨fun pins s I => ?_⟩
  exact wpAny_Call_Name_kw (ld_glob I hg g (PySem.W.callWith_K0 (first := []) I.kIn kp (run_fnG (us := []) (vs := []) F (hr.mono hk) hgd b I .nil h)) hdb)
end SL

/-! repr of lists of pairs of odd things -/
namespace SL
open PySem PySem.Spec PyProof.Rows L2
section
variable {X : Cx} {σ : L2.St} {H : Hp} {Q : VK} {es : List Expr} {pos : Pos}
theorem big_ne {pins : List (Addr × Obj)} {s : Shared} (I : Inv X pins σ H s) : s.heap.objs.size ≠ sysModules := Nat.ne_of_gt I.big
/-- [..]: its place is not that of sys.modules -/
theorem we_lstB (h : Wa X es σ H fun xs H1 => xs.length ≤ 1000 ∧ ∀ p H', p ≠ sysModules → H1 p = none → Kp [] H1 H' → H' p = some (.lst xs) → Q (.ref p) H') : We X (.List es pos) σ H Q := by
  refine ⟨fun pins s I => ?_⟩
  refine wpAny_List_spliced (thn (h.run pos pins s I) fun us s1 ⟨xs, H1, J, r, z, q⟩ => ⟨by rw [← r.length]; exact Nat.le_trans z (by decide), ?_⟩)
  have nn : H1 s1.heap.objs.size = none := J.hok.fresh (Nat.le_refl _)
  refine ⟨.ref s1.heap.objs.size, upd H1 s1.heap.objs.size (.lst xs), J.laid (t' := s1.toks) (fun b u e => Heap.get?_push_of_some _ e) (Nat.le_refl _) ?_, rfl, q _ _ (big_ne J) nn (.new nn) upd_same⟩
  exact ⟨Nat.le_trans z (by decide), us, 0, r, Heap.get?_push_size _ rfl⟩
/-- xs + ys likewise -/
theorem b_catB {l b : Addr} {xs zs : List V} (h1 : H l = some (.lst xs)) (h2 : H b = some (.lst zs)) (hz : xs.length + zs.length ≤ 100000) (h : ∀ p H', p ≠ sysModules → H p = none → Kp [] H H' → H' p = some (.lst (xs ++ zs)) → Q (.ref p) H') : Bin X .Add (.ref l) (.ref b) H Q := by
  refine ⟨fun x y H Q => x = .ref l ∧ y = .ref b ∧ H l = some (.lst xs) ∧ H b = some (.lst zs) ∧ ∀ p H', p ≠ sysModules → H p = none → Kp [] H H' → H' p = some (.lst (xs ++ zs)) → Q (.ref p) H', ?_, rfl, rfl, h1, h2, h⟩
  intro pins s σ H x y v u Q I rx ry hh
  obtain ⟨rfl, rfl, g1, g2, q⟩ := hh
  cases rx
  cases ry
  obtain ⟨z, its, n, r, hl, e⟩ := I.lstM g1
  obtain ⟨z2, its2, n2, r2, hl2, e2⟩ := I.lstM g2
  have hs : xs.length + zs.length ≤ sizeLine := Nat.le_trans hz (by decide)
  refine PySem.P.add_list e e2 ?_ (by rw [List.size_toArray, List.size_toArray]; omega)
  rw [show its.toArray ++ its2.toArray = (its ++ its2).toArray from by simp]
  exact ⟨.ref _, _, I.lnew (t' := s.toks) (r.append r2) (by rw [List.length_append]; omega), rfl, q _ _ (big_ne I) I.fresh (.new I.fresh) upd_same⟩
/-- xs[lo:hi] likewise -/
theorem x_slB {p : Addr} {xs : List V} {lo hi : Option Int} (h1 : SqL X.K H p xs) (h : ∀ q H', q ≠ sysModules → H q = none → Kp [] H H' → H' q = some (.lst (cutV xs lo hi)) → Q (.ref q) H') : Slw X (.ref p) lo hi H Q := by
  refine ⟨fun x lo' hi' H Q => x = .ref p ∧ lo' = lo ∧ hi' = hi ∧ SqL X.K H p xs ∧ ∀ q H', q ≠ sysModules → H q = none → Kp [] H H' → H' q = some (.lst (cutV xs lo hi)) → Q (.ref q) H', ?_, rfl, rfl, rfl, h1, h⟩
  intro pins s σ H x v vl vu lo' hi' sl Q I rx hs pl pu hh
  obtain ⟨rfl, rfl, rfl, hx, q⟩ := hh
  cases rx
  obtain ⟨its, r, ht, hz⟩ := I.list hx
  have hlen := r.length
  refine ⟨"list", _, slot_list_getitem.lookup, ht.isList.typeIs, ?_⟩
  refine wpAny_getItem_list_slice ht.isList hs pl pu .none (by simp) ?_ (by rw [List.size_toArray] <;> omega)
  rw [slicePick_cut, ← hlen]
  have nn := I.hok.fresh (Nat.le_refl s.heap.objs.size)
  refine ⟨.ref s.heap.objs.size, _, I.laid (t' := s.toks) (o := .lst (cutV xs lo' hi')) (fun b ob q => Heap.get?_push_of_some _ q) (Nat.le_refl _) ?_, rfl, q _ _ (big_ne I) nn (.new nn) upd_same⟩
  exact ⟨Nat.le_trans (cutV_length xs lo' hi') hz, _, 0, (r.drop (HT.sIx xs.length 0 lo')).take (HT.sIx xs.length xs.length hi' - HT.sIx xs.length 0 lo'), Heap.get?_push_size _ rfl⟩
end

/-- an item and what it reads as -/
inductive Q0 (F : List Addr) (H : Hp) : V → PyData → Prop where
  | non : Q0 F H .non .none
  | bl (b : Bool) : Q0 F H (.bl b) (.bool b)
  | int (i : Int) (h : Szd i) : Q0 F H (.int i) (.int i)
  | str (s : Str) (h : (PyData.str s).shown.length ≤ 1000) : Q0 F H (.str s) (.str s)
  | lst {a : Addr} {ns : List Int} (h : H a = some (.lst (ns.map V.int))) (n : a ∉ F) (b : a ≠ sysModules) (hs : ∀ x ∈ ns, Szd x) (hl : ns.length ≤ 2) : Q0 F H (.ref a) (dI ns)
  | tup {a : Addr} {ns : List Int} (h : H a = some (.tup (ns.map V.int))) (hs : ∀ x ∈ ns, Szd x) (hl : ns.length ≤ 2) : Q0 F H (.ref a) (dT ns)
  | dict {a : Addr} (h : H a = some (.dK (encK []))) (n : a ∉ F) : Q0 F H (.ref a) (.dict [])
theorem Q0.kp {F M : List Addr} {H H' : Hp} {v : V} {d : PyData} (h : Q0 F H v d) (k : Kp M H H') (hM : ∀ y ∈ M, y ∈ F ∨ H y = none) : Q0 F H' v d := by
  have no : ∀ {y : Addr} {o : HO}, y ∉ F → H y = some o → y ∉ M := fun {y o} n e z => by
    rcases hM y z with w | w
    · exact n w
    · rw [w] at e; cases e
  cases h with
  | non => exact .non
  | bl b => exact .bl b
  | int i h => exact .int i h
  | str s h => exact .str s h
  | lst h n b hs hl => exact .lst (k.gM (no n h) h) n b hs hl
  | tup h hs hl => exact .tup (k.gT h) hs hl
  | dict h n => exact .dict (k.gM (no n h) h) n
/-- what is no whole number is odd -/
theorem Q0.odd {F : List Addr} {H : Hp} {v : V} {d : PyData} (h : Q0 F H v d) : (∃ i, v = .int i) ∨ Odd F H v := by
  cases h with
  | non => exact .inr .non
  | bl b => exact .inr (.bl b)
  | int i h => exact .inl ⟨i, rfl⟩
  | str s h => exact .inr (.str s)
  | lst h n b hs hl => exact .inr (.lst h n)
  | tup h hs hl => exact .inr (.tup h)
  | dict h n => exact .inr (.dict h n)
section
variable {X : Cx} {pins : List (Addr × Obj)} {σ : L2.St} {H : Hp} {s : Shared} {F : List Addr}
theorem readsAll_ints {h : Heap} : ∀ {ns : List Int} {us : List Value}, Vals (ns.map V.int) us → ReadsAll h us (ns.map PyData.int) []
  | [], _, .nil => .nil
  | n :: ns, _, .cons r rs => by
    obtain ⟨t, rfl⟩ := r
    exact .cons (as := []) (bs := []) (.int n t) (readsAll_ints rs)
theorem Q0.reads (I : Inv X pins σ H s) {v : V} {d : PyData} {u : Value} (h : Q0 F H v d) (r : RelV v u) : ∃ as, Reads s.heap u d as ∧ sysModules ∉ as := by
  cases h with
  | non => cases r; exact ⟨_, .none, List.not_mem_nil⟩
  | bl b => cases r; exact ⟨_, .bool b, List.not_mem_nil⟩
  | int i h => obtain ⟨t, rfl⟩ := r; exact ⟨_, .int i t, List.not_mem_nil⟩
  | str x h => obtain ⟨t, rfl⟩ := r; exact ⟨_, .str x t, List.not_mem_nil⟩
  | @lst a ns h n b hs hl =>
    cases r
    obtain ⟨its, rv, ⟨o, n, ho, hc, _, hd⟩, _⟩ := I.list (sqL h)
    exact ⟨_, .list ho hc hd (by simpa using readsAll_ints rv), by simp [Ne.symm b]⟩
  | @tup a ns h hs hl =>
    cases r
    obtain ⟨its, rv, ⟨o, ho, hc, n, hd⟩, _⟩ := I.tuple (sqT h)
    exact ⟨_, .tuple ho hc hd (by simpa using readsAll_ints rv), List.not_mem_nil⟩
  | @dict a h n =>
    cases r
    obtain ⟨z, hd, vs, rel, ob, es, ep, ho, hx, hdat, hks, hpr, hnd⟩ := dk_of I.hok h
    have hv : vs = [] := by
      have := Paired.length rel
      cases vs with
      | nil => rfl
      | cons x xs => simp [encK] at this
    subst hv
    have he : es.toList = [] := by
      have := pairs_len hpr
      cases q : es.toList with
      | nil => rfl
      | cons x xs => rw [q] at this; simp at this
    refine ⟨_, .dict (kvs := []) (as := []) (bs := []) ho hx.1 hdat ?_ ?_, ?_⟩
    · rw [he]; exact .nil
    · rw [he]; exact .nil
    · have : a ≠ sysModules := by simpa using hd
      simp [Ne.symm this]
end
/-- pairs of such items -/
def QP (F : List Addr) (H : Hp) (u : V) (d : PyData) : Prop := ∃ t vb ve d1 d2, u = .ref t ∧ H t = some (.tup [vb, ve]) ∧ Q0 F H vb d1 ∧ Q0 F H ve d2 ∧ d = .tuple [d1, d2]
inductive QA (F : List Addr) (H : Hp) : List V → List PyData → Prop where
  | nil : QA F H [] []
  | cons {u : V} {d : PyData} {us : List V} {ds : List PyData} (h : QP F H u d) (r : QA F H us ds) : QA F H (u :: us) (d :: ds)
theorem QA.kp {F M : List Addr} {H H' : Hp} {us : List V} {ds : List PyData} (h : QA F H us ds) (k : Kp M H H') (hM : ∀ y ∈ M, y ∈ F ∨ H y = none) : QA F H' us ds := by
  induction h with
  | nil => exact .nil
  | cons h r ih =>
    obtain ⟨t, vb, ve, d1, d2, e1, e2, e3, e4, e5⟩ := h
    exact .cons ⟨t, vb, ve, d1, d2, e1, k.gT e2, e3.kp k hM, e4.kp k hM, e5⟩ ih
theorem QA.len {F : List Addr} {H : Hp} {us : List V} {ds : List PyData} (h : QA F H us ds) : us.length = ds.length := by
  induction h with
  | nil => rfl
  | cons h r ih => rw [List.length_cons, List.length_cons, ih]
theorem dIs {ns : List Int} : (dI ns).shown = listText (PyData.shownAll (ns.map PyData.int)) := by unfold dI; rw [PyData.shown]
theorem dTs {ns : List Int} : (dT ns).shown = tupleText (PyData.shownAll (ns.map PyData.int)) := by unfold dT; rw [PyData.shown]
theorem ints_few {ns : List Int} (h : ∀ x ∈ ns, Szd x) (hl : ns.length ≤ 2) : ((ns.map fun i => PySem.Str.ofString (toString i)).map fun x => x.length).sum ≤ 3842 := by
  have h1 := sum_le_const (fun i : Int => (PySem.Str.ofString (toString i)).length) 1921 (xs := ns) fun x hx => int_text_len_1921 (by have := h x hx; unfold Szd at this; omega)
  rw [List.map_map]
  have h2 : (ns.map ((fun x : Str => x.length) ∘ fun i : Int => PySem.Str.ofString (toString i))).sum ≤ 1921 * ns.length := h1
  omega
theorem Q0.small {F : List Addr} {H : Hp} {v : V} {d : PyData} (h : Q0 F H v d) : d.showable = true ∧ d.depth ≤ 1 ∧ d.shown.length ≤ 4000 := by
  cases h with
  | non => exact ⟨rfl, Nat.zero_le _, by decide⟩
  | bl b => cases b <;> exact ⟨rfl, Nat.zero_le _, by decide⟩
  | int i h =>
    refine ⟨?_, Nat.zero_le _, ?_⟩
    · show decide (i.natAbs.log2 < 1920) = true
      unfold Szd at h
      exact decide_eq_true (by omega)
    · have := int_text_len_1921 (i := i) (by unfold Szd at h; omega)
      show (PySem.Str.ofString (toString i)).length ≤ 4000
      omega
  | str s h => exact ⟨rfl, Nat.zero_le _, Nat.le_trans h (by decide)⟩
  | @lst a ns h n b hs hl =>
    refine ⟨showable_ints hs, ?_, ?_⟩
    · show PyData.depthAll (ns.map PyData.int) + 1 ≤ 1
      rw [depth_ints]
      exact Nat.le_refl _
    · rw [dIs, shownAll_ints]
      refine Nat.le_trans (listText_len_le _) ?_
      have h1 := ints_few hs hl
      rw [List.length_map]
      omega
  | @tup a ns h hs hl =>
    refine ⟨showable_ints hs, ?_, ?_⟩
    · show PyData.depthAll (ns.map PyData.int) + 1 ≤ 1
      rw [depth_ints]
      exact Nat.le_refl _
    · rw [dTs, shownAll_ints]
      refine Nat.le_trans (tupleText_len_le _) ?_
      have h1 := ints_few hs hl
      rw [List.length_map]
      omega
  | dict h n => exact ⟨rfl, by decide, by decide⟩
theorem QP.small {F : List Addr} {H : Hp} {v : V} {d : PyData} (h : QP F H v d) : d.showable = true ∧ d.depth ≤ 2 ∧ d.shown.length ≤ 8100 := by
  obtain ⟨t, vb, ve, d1, d2, e1, e2, e3, e4, rfl⟩ := h
  obtain ⟨a1, a2, a3⟩ := e3.small
  obtain ⟨b1, b2, b3⟩ := e4.small
  refine ⟨?_, ?_, ?_⟩
  · show (d1.showable && (d2.showable && true)) = true
    rw [a1, b1]
    rfl
  · show max d1.depth (max d2.depth 0) + 1 ≤ 2
    omega
  · have e : (PyData.tuple [d1, d2]).shown = tupleText [d1.shown, d2.shown] := by
      rw [PyData.shown]
      rfl
    rw [e]
    have g3 := tupleText_len_le [d1.shown, d2.shown]
    simp only [List.map_cons, List.map_nil, List.sum_cons, List.sum_nil, List.length_cons, List.length_nil] at g3
    omega
theorem QA.small {F : List Addr} {H : Hp} {us : List V} {ds : List PyData} (h : QA F H us ds) : PyData.showableAll ds = true ∧ PyData.depthAll ds ≤ 2 ∧ ((PyData.shownAll ds).map fun x => x.length).sum ≤ 8100 * ds.length ∧ (PyData.shownAll ds).length = ds.length := by
  induction h with
  | nil => exact ⟨rfl, Nat.zero_le _, Nat.zero_le _, rfl⟩
  | @cons u d us ds h r ih =>
    obtain ⟨a1, a2, a3⟩ := h.small
    obtain ⟨b1, b2, b3, b4⟩ := ih
    refine ⟨?_, ?_, ?_, ?_⟩
    · show (d.showable && PyData.showableAll ds) = true
      rw [a1, b1]
      rfl
    · show max d.depth (PyData.depthAll ds) ≤ 2
      omega
    · show (d.shown.length :: ((PyData.shownAll ds).map fun x => x.length)).sum ≤ _
      rw [List.sum_cons, List.length_cons]
      omega
    · show (PyData.shownAll ds).length + 1 = ds.length + 1
      rw [b4]
section
variable {X : Cx} {pins : List (Addr × Obj)} {σ : L2.St} {H : Hp} {s : Shared} {F : List Addr} {Q : VK}
theorem QA.reads (I : Inv X pins σ H s) : ∀ {us : List V} {ds : List PyData} {ws : List Value}, QA F H us ds → Vals us ws → ∃ as, ReadsAll s.heap ws ds as ∧ sysModules ∉ as
  | _, _, _, .nil, .nil => ⟨_, .nil, List.not_mem_nil⟩
  | _, _, _, .cons h r, .cons rv rs => by
    obtain ⟨t, vb, ve, d1, d2, rfl, e2, e3, e4, rfl⟩ := h
    cases rv
    obtain ⟨bs, q2, n2⟩ := QA.reads I r rs
    obtain ⟨its, rv, ⟨o, ho, hc, n, hd⟩, _⟩ := I.tuple (sqT e2)
    obtain ⟨u1, u2, rfl, r1, r2⟩ := vals2 rv
    obtain ⟨a1, f1, m1⟩ := e3.reads I r1
    obtain ⟨a2, f2, m2⟩ := e4.reads I r2
    refine ⟨_, .cons (.tuple ho hc hd (.cons f1 (.cons f2 .nil))) q2, ?_⟩
    simp [m1, m2, n2]
/-- repr of a list of such pairs -/
theorem k_reprQ {p : Addr} {us : List V} {ds : List PyData} {k : Nat} (hr : Room k X.A) (hgd : X.A.guards = some []) (h1 : H p = some (.lst us)) (hb : p ≠ sysModules) (hq : QA F H us ds) (hl : ds.length ≤ 1000) (h : Q (.str (PyData.list ds).shown) H) : Cal X (.builtin "repr") [.ref p] H Q := by
  refine ⟨fun xs H Q => xs = [.ref p] ∧ H p = some (.lst us) ∧ QA F H us ds ∧ Q (.str (PyData.list ds).shown) H, ?_, rfl, h1, hq, h⟩
  intro pins s σ H xs ws Q I r hh
  obtain ⟨rfl, g1, gq, q⟩ := hh
  obtain ⟨u, rfl, rx⟩ := vals1 r
  cases rx
  obtain ⟨its, rv, ⟨o, n, ho, hc, _, hd⟩, _⟩ := I.list (sqL g1)
  obtain ⟨as, rd, na⟩ := QA.reads I gq rv
  obtain ⟨s1, s2, s3, s4⟩ := gq.small
  have rl : Reads s.heap (.ref p) (.list ds) (p :: as) := .list ho hc hd (by simpa using rd)
  have hdp : (PyData.list ds).depth ≤ 3 := by
    show PyData.depthAll ds + 1 ≤ 3
    omega
  have hz : (PyData.list ds).shown.length ≤ sizeLine := by
    have e : (PyData.list ds).shown = listText (PyData.shownAll ds) := by rw [PyData.shown]
    rw [e]
    refine Nat.le_trans (listText_len_le _) ?_
    have : sizeLine = 16777216 := rfl
    omega
  have hu : X.A.units + ((PyData.list ds).depth + 1) < cLine := by have := hr.un; omega
  exact repr_of_reads' (hsz := hz) rl s1 (fun _ => by simp [Ne.symm hb, na]) hgd hu (fun _ _ e => e) fun h' u tk hk => ⟨.str _, H, I.kept (t' := tk) hk, ⟨_, rfl⟩, q⟩
end
section
variable {X : Cx} {σ : L2.St} {H : Hp} {R : VK} {elt tg : Expr} {scope : Scope} {vs : List Nat}
/-- [.. for i in range(n)], truths -/
theorem lcd_rangeB {n : Nat} (g : Nat → Bool) (hl : n ≤ 99999)
    (he : ∀ i, i < n → ∀ H1, Kp [] H H1 → Bl X scope fun Z => Wg Z tg (.int (i : Int)) (wipe σ vs) H1 fun σ2 H2 => wipe σ2 vs = wipe σ vs ∧ Bl X scope fun Z => We Z elt σ2 H2 fun y H3 => y = .bl (g i) ∧ Kp [] H1 H3)
    (hd : ∀ Dl H', H Dl = none → Kp [] H H' → H' Dl = some (.lst (((List.range n).map g).map V.bl)) → R (.ref Dl) H') :
    LcD X elt tg [] scope vs σ R n (fun _ => True) (YFn fun i => .int ((0 : Int) + (i : Int))) H := by
  intro Dl H1 nD kD hD
  refine ⟨fun i H' => Kp [] H H' ∧ H' Dl = some (.lst (((List.range i).map g).map V.bl)), ⟨kD, hD⟩, fun _ _ _ _ => trivial, ?_, ?_⟩
  · rintro i x H2 H3 hi ⟨k2, hD2⟩ ⟨rfl, rfl⟩
    intro s0 H0 C cl fp
    have e0 : (0 : Int) + (i : Int) = (i : Int) := by omega
    dsimp only
    rw [e0]
    refine wg_mono (he i hi _ k2 s0 H0 C cl fp) fun σ2 H4 ⟨e1, h2⟩ => ⟨e1, fun s0 H0 C cl fp => ?_⟩
    refine wts_nil (iteT fun s0 H0 C cl fp => we_mono (h2 s0 H0 C cl fp) fun y H5 ⟨ey, k5⟩ => ?_)
    subst ey
    refine ⟨_, k5.g0 hD2, by rw [List.length_map, List.length_map, List.length_range]; omega, fun H6 k6 hD6 => ⟨(k2.tr0 k5).trN k6 nD, ?_⟩⟩
    rw [List.range_succ, List.map_append, List.map_append]
    exact hD6
  · rintro H2 ⟨k2, hD2⟩
    exact hd Dl H2 nD k2 hD2
end
/-- the slots written out -/
theorem wss_nf {X : Cx} {sts : List Stmt} {D : Ends} {σ σ' : L2.St} {H : Hp} (e : σ' = σ) (h : Wss X sts D σ' H) : Wss X sts D σ H := e ▸ h
end SL

/-! things of any kind: by their types, by what they read as; repr of them -/
namespace SL
open PySem PySem.Spec PyProof.Rows L2
/-! ### by their types -/
/-- a thing's built-in type; its place, if it can be changed, is none of F -/
inductive Ty0 (F : List Addr) (H : Hp) : V → String → Prop where
  | non : Ty0 F H .non "NoneType"
  | bl (b : Bool) : Ty0 F H (.bl b) "bool"
  | int (i : Int) : Ty0 F H (.int i) "int"
  | str (s : Str) : Ty0 F H (.str s) "str"
  | lst {a : Addr} {xs : List V} (h : H a = some (.lst xs)) (n : a ∉ F) : Ty0 F H (.ref a) "list"
  | tup {a : Addr} {xs : List V} (h : H a = some (.tup xs)) : Ty0 F H (.ref a) "tuple"
  | dict {a : Addr} {ps : List (Key × V)} (h : H a = some (.dK ps)) (n : a ∉ F) : Ty0 F H (.ref a) "dict"
  | exc {a : Addr} (h : H a = some (VO a)) (n : a ∉ F) : Ty0 F H (.ref a) "ValueError"
theorem notM {F M : List Addr} {H : Hp} (hM : ∀ y ∈ M, y ∈ F ∨ H y = none) {y : Addr} {o : HO} (n : y ∉ F) (e : H y = some o) : y ∉ M := fun z => by
  rcases hM y z with w | w
  · exact n w
  · rw [w] at e; cases e
theorem Ty0.kp {F M : List Addr} {H H' : Hp} {v : V} {t : String} (h : Ty0 F H v t) (k : Kp M H H') (hM : ∀ y ∈ M, y ∈ F ∨ H y = none) : Ty0 F H' v t := by
  cases h with
  | non => exact .non
  | bl b => exact .bl b
  | int i => exact .int i
  | str s => exact .str s
  | lst h n => exact .lst (k.gM (notM hM n h) h) n
  | tup h => exact .tup (k.gT h)
  | dict h n => exact .dict (k.gM (notM hM n h) h) n
  | exc h n => exact .exc (k.gM (notM hM n h) h) n
theorem Ty0.k0 {F : List Addr} {H H' : Hp} {v : V} {t : String} (h : Ty0 F H v t) (k : Kp [] H H') : Ty0 F H' v t := h.kp k fun _ z => nomatch z
theorem Ty0.sub {F G : List Addr} {H : Hp} {v : V} {t : String} (h : Ty0 F H v t) (s : ∀ y ∈ G, y ∈ F) : Ty0 G H v t := by
  cases h with
  | non => exact .non
  | bl b => exact .bl b
  | int i => exact .int i
  | str s => exact .str s
  | lst h n => exact .lst h fun z => n (s _ z)
  | tup h => exact .tup h
  | dict h n => exact .dict h fun z => n (s _ z)
  | exc h n => exact .exc h fun z => n (s _ z)
theorem Ty0.nil {F : List Addr} {H : Hp} {v : V} {t : String} (h : Ty0 F H v t) : Ty0 [] H v t := h.sub fun _ z => nomatch z
/-- isinstance(v, T) -/
theorem Ty0.isi {F : List Addr} {X : Cx} {H : Hp} {Q : VK} {v : V} {t n : String} {b : Bool} (h : Ty0 F H v t) (hk : kitB t n = some b) (q : Q (.bl b) H) : Cal X (.builtin "isinstance") [v, .ty n] H Q := by
  cases h with
  | non => exact k_isi (.base .non) (kit_ty hk) q
  | bl b => exact k_isi (.base (.bl b)) (kit_ty hk) q
  | int i => exact k_isi (.base (.int i)) (kit_ty hk) q
  | str s => exact k_isi (.base (.str s)) (kit_ty hk) q
  | lst h n => exact k_isiL h hk q
  | tup h => exact k_isiT h hk q
  | dict h n => exact k_isi (.base (.dK h)) (kit_ty hk) q
  | exc h n => exact k_isiV h hk q
def isI (t : String) : Bool := t == "int" || t == "bool"
def isL (t : String) : Bool := t == "list"
def isW (t : String) : Bool := t == "int"
def isB (t : String) : Bool := t == "bool"
def isT (t : String) : Bool := t == "tuple"
section
variable {F : List Addr} {X : Cx} {H : Hp} {Q : VK} {v : V} {t : String}
theorem Ty0.isi_int (h : Ty0 F H v t) (q : Q (.bl (isI t)) H) : Cal X (.builtin "isinstance") [v, .ty "int"] H Q := h.isi (by cases h <;> decide +kernel) q
theorem Ty0.isi_bool (h : Ty0 F H v t) (q : Q (.bl (isB t)) H) : Cal X (.builtin "isinstance") [v, .ty "bool"] H Q := h.isi (by cases h <;> decide +kernel) q
theorem Ty0.isi_list (h : Ty0 F H v t) (q : Q (.bl (isL t)) H) : Cal X (.builtin "isinstance") [v, .ty "list"] H Q := h.isi (by cases h <;> decide +kernel) q
theorem Ty0.isi_tuple (h : Ty0 F H v t) (q : Q (.bl (isT t)) H) : Cal X (.builtin "isinstance") [v, .ty "tuple"] H Q := h.isi (by cases h <;> decide +kernel) q
theorem Ty0.wh (h : Ty0 F H v t) : (isI t && !isB t) = isW t := by cases h <;> rfl
theorem Ty0.whole (h : Ty0 F H v t) : isW t = true ↔ ∃ i, v = .int i := by
  cases h <;> simp [isW]
theorem Ty0.list (h : Ty0 F H v t) : isL t = true ↔ ∃ a xs, v = .ref a ∧ H a = some (.lst xs) ∧ a ∉ F := by
  cases h with
  | lst h n => exact ⟨fun _ => ⟨_, _, rfl, h, n⟩, fun _ => rfl⟩
  | tup h => exact ⟨fun z => absurd z (by decide), fun ⟨a, xs, e, g, _⟩ => (by cases e; rw [h] at g; cases g)⟩
  | dict h n => exact ⟨fun z => absurd z (by decide), fun ⟨a, xs, e, g, _⟩ => (by cases e; rw [h] at g; cases g)⟩
  | exc h n => exact ⟨fun z => absurd z (by decide), fun ⟨a, xs, e, g, _⟩ => (by cases e; rw [h] at g; cases g)⟩
  | non => exact ⟨fun z => absurd z (by decide), fun ⟨a, xs, e, _⟩ => (by cases e)⟩
  | bl b => exact ⟨fun z => absurd z (by decide), fun ⟨a, xs, e, _⟩ => (by cases e)⟩
  | int i => exact ⟨fun z => absurd z (by decide), fun ⟨a, xs, e, _⟩ => (by cases e)⟩
  | str s => exact ⟨fun z => absurd z (by decide), fun ⟨a, xs, e, _⟩ => (by cases e)⟩
end
/-- all items of a list by their types -/
inductive TyA (F : List Addr) (H : Hp) : List V → List String → Prop where
  | nil : TyA F H [] []
  | cons {v : V} {t : String} {vs : List V} {ts : List String} (h : Ty0 F H v t) (r : TyA F H vs ts) : TyA F H (v :: vs) (t :: ts)
theorem TyA.kp {F M : List Addr} {H H' : Hp} {vs : List V} {ts : List String} (h : TyA F H vs ts) (k : Kp M H H') (hM : ∀ y ∈ M, y ∈ F ∨ H y = none) : TyA F H' vs ts := by
  induction h with
  | nil => exact .nil
  | cons h r ih => exact .cons (h.kp k hM) ih
theorem TyA.k0 {F : List Addr} {H H' : Hp} {vs : List V} {ts : List String} (h : TyA F H vs ts) (k : Kp [] H H') : TyA F H' vs ts := h.kp k fun _ z => nomatch z
theorem TyA.sub {F G : List Addr} {H : Hp} {vs : List V} {ts : List String} (h : TyA F H vs ts) (s : ∀ y ∈ G, y ∈ F) : TyA G H vs ts := by
  induction h with
  | nil => exact .nil
  | cons h r ih => exact .cons (h.sub s) ih
theorem TyA.len {F : List Addr} {H : Hp} {vs : List V} {ts : List String} (h : TyA F H vs ts) : vs.length = ts.length := by
  induction h with
  | nil => rfl
  | cons h r ih => rw [List.length_cons, List.length_cons, ih]
theorem TyA.get {F : List Addr} {H : Hp} {vs : List V} {ts : List String} (h : TyA F H vs ts) : ∀ {i : Nat} {v : V}, vs[i]? = some v → ∃ t, ts[i]? = some t ∧ Ty0 F H v t := by
  induction h with
  | nil => intro i v e; simp at e
  | cons h r ih =>
    intro i v e
    cases i with
    | zero => cases e; exact ⟨_, rfl, h⟩
    | succ i => exact ih (by simpa using e)
theorem TyA.app {F : List Addr} {H : Hp} {vs ws : List V} {ts us : List String} (h : TyA F H vs ts) (g : TyA F H ws us) : TyA F H (vs ++ ws) (ts ++ us) := by
  induction h with
  | nil => exact g
  | cons h r ih => exact .cons h ih
theorem TyA.ints {F : List Addr} {H : Hp} : ∀ ns : List Int, TyA F H (ns.map V.int) (ns.map fun _ => "int")
  | [] => .nil
  | n :: ns => .cons (.int n) (TyA.ints ns)

/-! ### what things read as -/
def enD (ks : List Int) (vs : List V) : List (Key × V) := (ks.zip vs).map fun p => (Sum.inl p.1, p.2)
def dkv (ks : List Int) (ds : List PyData) : List (PyData × PyData) := (ks.zip ds).map fun p => (PyData.int p.1, p.2)
mutual
inductive Tg (F : List Addr) (H : Hp) : V → PyData → Prop where
  | non : Tg F H .non .none
  | bl (b : Bool) : Tg F H (.bl b) (.bool b)
  | int (i : Int) : Tg F H (.int i) (.int i)
  | str (s : Str) : Tg F H (.str s) (.str s)
  | lst {a : Addr} {vs : List V} {ds : List PyData} (h : H a = some (.lst vs)) (n : a ∉ F) (r : TgA F H vs ds) : Tg F H (.ref a) (.list ds)
  | tup {a : Addr} {vs : List V} {ds : List PyData} (h : H a = some (.tup vs)) (r : TgA F H vs ds) : Tg F H (.ref a) (.tuple ds)
  | dict {a : Addr} {ks : List Int} {vs : List V} {ds : List PyData} (h : H a = some (.dK (enD ks vs))) (n : a ∉ F) (l : ks.length = vs.length) (r : TgA F H vs ds) : Tg F H (.ref a) (.dict (dkv ks ds))
inductive TgA (F : List Addr) (H : Hp) : List V → List PyData → Prop where
  | nil : TgA F H [] []
  | cons {v : V} {d : PyData} {vs : List V} {ds : List PyData} (h : Tg F H v d) (r : TgA F H vs ds) : TgA F H (v :: vs) (d :: ds)
end
section
variable {F M G : List Addr} {H H' : Hp}
mutual
theorem Tg.kp (k : Kp M H H') (hM : ∀ y ∈ M, y ∈ F ∨ H y = none) : ∀ {v : V} {d : PyData}, Tg F H v d → Tg F H' v d
  | _, _, .non => .non
  | _, _, .bl b => .bl b
  | _, _, .int i => .int i
  | _, _, .str s => .str s
  | _, _, .lst h n r => .lst (k.gM (notM hM n h) h) n (TgA.kp k hM r)
  | _, _, .tup h r => .tup (k.gT h) (TgA.kp k hM r)
  | _, _, .dict h n l r => .dict (k.gM (notM hM n h) h) n l (TgA.kp k hM r)
theorem TgA.kp (k : Kp M H H') (hM : ∀ y ∈ M, y ∈ F ∨ H y = none) : ∀ {vs : List V} {ds : List PyData}, TgA F H vs ds → TgA F H' vs ds
  | _, _, .nil => .nil
  | _, _, .cons h r => .cons (Tg.kp k hM h) (TgA.kp k hM r)
end
mutual
theorem Tg.sub (s : ∀ y ∈ G, y ∈ F) : ∀ {v : V} {d : PyData}, Tg F H v d → Tg G H v d
  | _, _, .non => .non
  | _, _, .bl b => .bl b
  | _, _, .int i => .int i
  | _, _, .str x => .str x
  | _, _, .lst h n r => .lst h (fun z => n (s _ z)) (TgA.sub s r)
  | _, _, .tup h r => .tup h (TgA.sub s r)
  | _, _, .dict h n l r => .dict h (fun z => n (s _ z)) l (TgA.sub s r)
theorem TgA.sub (s : ∀ y ∈ G, y ∈ F) : ∀ {vs : List V} {ds : List PyData}, TgA F H vs ds → TgA G H vs ds
  | _, _, .nil => .nil
  | _, _, .cons h r => .cons (Tg.sub s h) (TgA.sub s r)
end
theorem Tg.k0 {v : V} {d : PyData} (h : Tg F H v d) (k : Kp [] H H') : Tg F H' v d := h.kp k fun _ z => nomatch z
theorem TgA.k0 {vs : List V} {ds : List PyData} (h : TgA F H vs ds) (k : Kp [] H H') : TgA F H' vs ds := h.kp k fun _ z => nomatch z
theorem Tg.k1 {v : V} {d : PyData} {p : Addr} (h : Tg F H v d) (k : Kp [p] H H') (hp : p ∈ F) : Tg F H' v d := h.kp k fun y z => .inl (by rw [List.mem_singleton.mp z]; exact hp)
theorem TgA.k1 {vs : List V} {ds : List PyData} {p : Addr} (h : TgA F H vs ds) (k : Kp [p] H H') (hp : p ∈ F) : TgA F H' vs ds := h.kp k fun y z => .inl (by rw [List.mem_singleton.mp z]; exact hp)
theorem TgA.len {vs : List V} {ds : List PyData} : TgA F H vs ds → vs.length = ds.length
  | .nil => rfl
  | .cons h r => by rw [List.length_cons, List.length_cons, r.len]
theorem TgA.app {vs ws : List V} {ds es : List PyData} : TgA F H vs ds → TgA F H ws es → TgA F H (vs ++ ws) (ds ++ es)
  | .nil, g => g
  | .cons h r, g => .cons h (r.app g)
theorem TgA.drop : ∀ {vs : List V} {ds : List PyData} (n : Nat), TgA F H vs ds → TgA F H (vs.drop n) (ds.drop n)
  | _, _, 0, h => h
  | _, _, _ + 1, .nil => .nil
  | _, _, n + 1, .cons h r => r.drop n
theorem TgA.take : ∀ {vs : List V} {ds : List PyData} (n : Nat), TgA F H vs ds → TgA F H (vs.take n) (ds.take n)
  | _, _, 0, h => .nil
  | _, _, _ + 1, .nil => .nil
  | _, _, n + 1, .cons h r => .cons h (r.take n)
theorem TgA.get : ∀ {vs : List V} {ds : List PyData} {i : Nat} {v : V}, TgA F H vs ds → vs[i]? = some v → ∃ d, ds[i]? = some d ∧ Tg F H v d
  | _, _, _, _, .nil, e => by simp at e
  | _, _, 0, _, .cons h r, e => by cases e; exact ⟨_, rfl, h⟩
  | _, _, i + 1, _, .cons h r, e => by
    obtain ⟨d, e1, e2⟩ := r.get (i := i) (by simpa using e)
    exact ⟨d, by simpa using e1, e2⟩
theorem TgA.rev : ∀ {vs : List V} {ds : List PyData}, TgA F H vs ds → TgA F H vs.reverse ds.reverse
  | _, _, .nil => .nil
  | _, _, .cons h r => by
    rw [List.reverse_cons, List.reverse_cons]
    exact r.rev.app (.cons h .nil)
theorem TgA.ints : ∀ ns : List Int, TgA F H (ns.map V.int) (ns.map PyData.int)
  | [] => .nil
  | n :: ns => .cons (.int n) (TgA.ints ns)
theorem TgA.one {v : V} {d : PyData} (h : Tg F H v d) : TgA F H [v] [d] := .cons h .nil
/-- the type by what it reads as -/
def tyn : PyData → String
  | .none => "NoneType"
  | .bool _ => "bool"
  | .int _ => "int"
  | .str _ => "str"
  | .list _ => "list"
  | .tuple _ => "tuple"
  | .dict _ => "dict"
theorem Tg.ty {v : V} {d : PyData} (h : Tg F H v d) : Ty0 F H v (tyn d) := by
  cases h with
  | non => exact .non
  | bl b => exact .bl b
  | int i => exact .int i
  | str s => exact .str s
  | lst h n r => exact .lst h n
  | tup h r => exact .tup h
  | dict h n l r => exact .dict h n
theorem TgA.ty : ∀ {vs : List V} {ds : List PyData}, TgA F H vs ds → TyA F H vs (ds.map tyn)
  | _, _, .nil => .nil
  | _, _, .cons h r => .cons h.ty r.ty
end
/-! ### small things -/
mutual
def okD : PyData → Prop
  | .none | .bool _ => True
  | .int i => Szd i
  | .str x => ∀ c ∈ x.cps.toList, c < 16 ^ 8
  | .list xs | .tuple xs => okA xs
  | .dict kvs => okKv kvs
def okA : List PyData → Prop
  | [] => True
  | x :: xs => okD x ∧ okA xs
def okKv : List (PyData × PyData) → Prop
  | [] => True
  | (k, v) :: r => okD k ∧ okD v ∧ okKv r
end
mutual
def wt : PyData → Nat
  | .none | .bool _ | .int _ => 1
  | .str x => x.length + 1
  | .list xs | .tuple xs => wtA xs + 1
  | .dict kvs => wtKv kvs + 1
def wtA : List PyData → Nat
  | [] => 0
  | x :: xs => wt x + wtA xs
def wtKv : List (PyData × PyData) → Nat
  | [] => 0
  | (k, v) :: r => wt k + wt v + wtKv r
end
mutual
theorem shown_wt : ∀ d : PyData, okD d → d.shown.length + 3 ≤ 2000 * wt d
  | .none, _ => by
    have e : (PyData.shown .none).length = 4 := rfl
    show _ ≤ 2000 * 1
    omega
  | .bool b, _ => by
    have e : (PyData.shown (.bool b)).length ≤ 5 := by cases b <;> decide
    show _ ≤ 2000 * 1
    omega
  | .int i, h => by
    have h : Szd i := h
    have := int_text_len_1921 (i := i) (by unfold Szd at h; omega)
    show (PySem.Str.ofString (toString i)).length + 3 ≤ 2000 * 1
    omega
  | .str x, h => by
    have e := StrLaws.reprText_len x h
    have e2 : x.length = x.cps.size := rfl
    show (reprText x).length + 3 ≤ 2000 * (x.length + 1)
    omega
  | .list xs, h => by
    have h1 := shownAll_wt xs h
    have h2 := listText_len_le (PyData.shownAll xs)
    have h3 := PyData.shownAll_length xs
    simp only [PyData.shown, wt]
    omega
  | .tuple xs, h => by
    have h1 := shownAll_wt xs h
    have h2 := tupleText_len_le (PyData.shownAll xs)
    have h3 := PyData.shownAll_length xs
    simp only [PyData.shown, wt]
    omega
  | .dict kvs, h => by
    have h1 := shownKv_wt kvs h
    have h2 := dictText_len_le (PyData.shownKv kvs)
    have h3 := PyData.shownKv_length kvs
    simp only [PyData.shown, wt]
    omega
theorem shownAll_wt : ∀ xs : List PyData, okA xs → ((PyData.shownAll xs).map (·.length)).sum + 3 * xs.length ≤ 2000 * wtA xs
  | [], _ => by simp only [PyData.shownAll, wtA, List.map_nil, List.sum_nil, List.length_nil]; omega
  | x :: xs, h => by
    have h1 := shown_wt x h.1
    have h2 := shownAll_wt xs h.2
    simp only [PyData.shownAll, wtA, List.map_cons, List.sum_cons, List.length_cons]
    omega
theorem shownKv_wt : ∀ kvs : List (PyData × PyData), okKv kvs → ((PyData.shownKv kvs).map (·.length)).sum + 4 * kvs.length ≤ 2000 * wtKv kvs
  | [], _ => by simp only [PyData.shownKv, wtKv, List.map_nil, List.sum_nil, List.length_nil]; omega
  | (k, v) :: r, h => by
    have h1 := shown_wt k h.1
    have h2 := shown_wt v h.2.1
    have h3 := shownKv_wt r h.2.2
    have e2 : (k.shown ++ ": " ++ v.shown).length = k.shown.length + 2 + v.shown.length := by
      rw [strLen_append, strLen_append]; rfl
    simp only [PyData.shownKv, wtKv, List.map_cons, List.sum_cons, List.length_cons]
    omega
end
mutual
theorem okD_showable : ∀ d : PyData, okD d → d.showable = true
  | .none, _ => rfl
  | .bool _, _ => rfl
  | .str _, _ => rfl
  | .int i, h => by
    have h : Szd i := h
    show decide (i.natAbs.log2 < 1920) = true
    unfold Szd at h
    exact decide_eq_true (by omega)
  | .list xs, h => okA_showable xs h
  | .tuple xs, h => okA_showable xs h
  | .dict kvs, h => okKv_showable kvs h
theorem okA_showable : ∀ xs : List PyData, okA xs → PyData.showableAll xs = true
  | [], _ => rfl
  | x :: xs, h => by
    show (x.showable && PyData.showableAll xs) = true
    rw [okD_showable x h.1, okA_showable xs h.2]
    rfl
theorem okKv_showable : ∀ kvs : List (PyData × PyData), okKv kvs → PyData.showableKv kvs = true
  | [], _ => rfl
  | (k, v) :: r, h => by
    show (k.showable && v.showable && PyData.showableKv r) = true
    rw [okD_showable k h.1, okD_showable v h.2.1, okKv_showable r h.2.2]
    rfl
end
mutual
theorem depth_wt : ∀ d : PyData, d.depth ≤ wt d
  | .none => Nat.zero_le _
  | .bool _ => Nat.zero_le _
  | .int _ => Nat.zero_le _
  | .str _ => Nat.zero_le _
  | .list xs => Nat.succ_le_succ (depthAll_wt xs)
  | .tuple xs => Nat.succ_le_succ (depthAll_wt xs)
  | .dict kvs => Nat.succ_le_succ (depthKv_wt kvs)
theorem depthAll_wt : ∀ xs : List PyData, PyData.depthAll xs ≤ wtA xs
  | [] => Nat.zero_le _
  | x :: xs => by
    have h1 := depth_wt x
    have h2 := depthAll_wt xs
    simp only [PyData.depthAll, wtA]
    omega
theorem depthKv_wt : ∀ kvs : List (PyData × PyData), PyData.depthKv kvs ≤ wtKv kvs
  | [] => Nat.zero_le _
  | (k, v) :: r => by
    have h1 := depth_wt k
    have h2 := depth_wt v
    have h3 := depthKv_wt r
    simp only [PyData.depthKv, wtKv]
    omega
end
theorem okA_app {xs ys : List PyData} : okA (xs ++ ys) ↔ okA xs ∧ okA ys := by
  induction xs with
  | nil => simp [okA]
  | cons x xs ih => simp [okA, ih, and_assoc]
theorem okA_mem {xs : List PyData} : okA xs ↔ ∀ d ∈ xs, okD d := by
  induction xs with
  | nil => simp [okA]
  | cons x xs ih => simp [okA, ih]
theorem wtA_app (xs ys : List PyData) : wtA (xs ++ ys) = wtA xs + wtA ys := by
  induction xs with
  | nil => simp [wtA]
  | cons x xs ih => simp only [List.cons_append, wtA, ih]; omega
theorem wtA_take (xs : List PyData) (n : Nat) : wtA (xs.take n) ≤ wtA xs := by
  have h := wtA_app (xs.take n) (xs.drop n)
  rw [List.take_append_drop] at h
  omega
theorem wtA_drop (xs : List PyData) (n : Nat) : wtA (xs.drop n) ≤ wtA xs := by
  have h := wtA_app (xs.take n) (xs.drop n)
  rw [List.take_append_drop] at h
  omega
theorem wtA_rev (xs : List PyData) : wtA xs.reverse = wtA xs := by
  induction xs with
  | nil => rfl
  | cons x xs ih => rw [List.reverse_cons, wtA_app, ih]; simp only [wtA]; omega
theorem wtA_mem {xs : List PyData} {d : PyData} (h : d ∈ xs) : wt d ≤ wtA xs := by
  induction xs with
  | nil => cases h
  | cons x xs ih =>
    rcases List.mem_cons.mp h with rfl | h
    · simp only [wtA]; omega
    · have := ih h
      simp only [wtA]; omega
theorem wt_pos (d : PyData) : 1 ≤ wt d := by
  cases d <;> simp [wt]
theorem len_wt (xs : List PyData) : xs.length ≤ wtA xs := by
  induction xs with
  | nil => exact Nat.le_refl _
  | cons x xs ih =>
    have := wt_pos x
    simp only [wtA, List.length_cons]
    omega
theorem okA_ints {ns : List Int} (h : ∀ x ∈ ns, Szd x) : okA (ns.map PyData.int) := okA_mem.mpr fun d hd => by
  obtain ⟨x, hx, rfl⟩ := List.mem_map.mp hd
  exact h x hx
theorem wtA_ints (ns : List Int) : wtA (ns.map PyData.int) = ns.length := by
  induction ns with
  | nil => rfl
  | cons n ns ih => rw [List.map_cons, wtA, ih, List.length_cons]; simp only [wt]; omega
theorem okKv_dkv {ks : List Int} {ds : List PyData} (h1 : ∀ k ∈ ks, Szd k) (h2 : okA ds) : okKv (dkv ks ds) := by
  induction ks generalizing ds with
  | nil => exact trivial
  | cons k ks ih =>
    cases ds with
    | nil => exact trivial
    | cons d ds => exact ⟨h1 k List.mem_cons_self, h2.1, ih (fun x hx => h1 x (List.mem_cons_of_mem _ hx)) h2.2⟩
theorem wtKv_dkv (ks : List Int) (ds : List PyData) : wtKv (dkv ks ds) ≤ ks.length + wtA ds := by
  induction ks generalizing ds with
  | nil => exact Nat.zero_le _
  | cons k ks ih =>
    cases ds with
    | nil => exact Nat.zero_le _
    | cons d ds =>
      have := ih ds
      show wt (.int k) + wt d + wtKv (dkv ks ds) ≤ _
      simp only [wt, wtA, List.length_cons]
      omega
/-! ### repr -/
/-- the place of sys.modules holds a dict -/
structure SmK (K : PySem.W.Frag) : Prop where
  ex : ∃ o : Obj, K.lookup sysModules = some o ∧ o.cls = .type "dict"
section
variable {X : Cx} {pins : List (Addr × Obj)} {σ : L2.St} {H : Hp} {s : Shared} {F : List Addr}
theorem enD_keys : ∀ {ks : List Int} {vs : List V}, ks.length = vs.length → (enD ks vs).map (·.1) = ks.map Sum.inl
  | [], [], _ => rfl
  | [], _ :: _, h => by simp at h
  | _ :: _, [], h => by simp at h
  | k :: ks, v :: vs, h => by
    show Sum.inl k :: (enD ks vs).map (·.1) = _
    rw [enD_keys (by simpa using h)]
    rfl
theorem dkv_keys : ∀ {ks : List Int} {ds : List PyData}, ks.length = ds.length → (dkv ks ds).map (·.1) = ks.map PyData.int
  | [], [], _ => rfl
  | [], _ :: _, h => by simp at h
  | _ :: _, [], h => by simp at h
  | k :: ks, v :: vs, h => by
    show PyData.int k :: (dkv ks vs).map (·.1) = _
    rw [dkv_keys (by simpa using h)]
    rfl
theorem dkv_vals : ∀ {ks : List Int} {ds : List PyData}, ks.length = ds.length → (dkv ks ds).map (·.2) = ds
  | [], [], _ => rfl
  | [], _ :: _, h => by simp at h
  | _ :: _, [], h => by simp at h
  | k :: ks, v :: vs, h => by
    show v :: (dkv ks vs).map (·.2) = _
    rw [dkv_vals (by simpa using h)]
/-- a dict's entries, key by key -/
theorem readsAll_keys {h : Heap} : ∀ {ks : List Int} {us : List Value}, us.length = ks.length → (∀ (j : Nat) (k : Int) (u : Value), ks[j]? = some k → us[j]? = some u → ∃ t, u = .int k t) → ReadsAll h us (ks.map PyData.int) []
  | [], [], _, _ => .nil
  | [], _ :: _, h, _ => by simp at h
  | _ :: _, [], h, _ => by simp at h
  | k :: ks, u :: us, h, e => by
    obtain ⟨t, rfl⟩ := e 0 k u rfl rfl
    exact .cons (as := []) (bs := []) (.int k t) (readsAll_keys (by simpa using h) fun j k u h1 h2 => e (j + 1) k u (by simpa using h1) (by simpa using h2))
theorem ReadsAll.intsOf {h : Heap} {K : PySem.W.Frag} {pw : Program} {w : World} : ∀ {ks : List Int} {es : List DictEntry} {kvs : List (Key × Value)}, Pairs (mixKind pw w) es kvs → kvs.map (·.1) = ks.map Sum.inl → ReadsAll h (es.map (·.key)) (ks.map PyData.int) []
  | [], _, _, .nil, _ => .nil
  | [], _, _, .cons _ _ _, e => by simp at e
  | _ :: _, _, _, .nil, e => by simp at e
  | k :: ks, _, _, .cons (e := en) (kv := kv) h1 h2 r, e => by
    rw [List.map_cons, List.map_cons] at e
    obtain ⟨e1, e2⟩ := List.cons.inj e
    rw [e1] at h1
    rcases keyIs_shape (show keyIs (Sum.inl k) en.key = true from h1) with ⟨i, t, ek, ev⟩ | ⟨z, t, ek, ev⟩
    · cases ek
      rw [List.map_cons, ev]
      exact .cons (as := []) (bs := []) (.int k t) (ReadsAll.intsOf (K := K) r e2)
    · cases ek
theorem vals_of {pw : Program} {w : World} : ∀ {vs : List V} {ks : List Int} {es : List DictEntry} {kvs : List (Key × Value)}, ks.length = vs.length → KV (enD ks vs) kvs → Pairs (mixKind pw w) es kvs → Vals vs (es.map (·.val))
  | [], [], _, _, _, .nil, .nil => .nil
  | [], _ :: _, _, _, h, _, _ => by simp at h
  | _ :: _, [], _, _, h, _, _ => by simp at h
  | v :: vs, k :: ks, _, _, h, .cons r1 r2, .cons (e := en) h1 h2 r => by
    rw [List.map_cons, h2]
    exact .cons r1.2 (vals_of (by simpa using h) r2 r)
mutual
theorem Tg.reads (S : SmK X.K) (I : Inv X pins σ H s) : ∀ {v : V} {d : PyData} {u : Value}, Tg F H v d → RelV v u → ∃ as, Reads s.heap u d as ∧ sysModules ∉ as
  | _, _, _, .non, r => by cases r; exact ⟨_, .none, List.not_mem_nil⟩
  | _, _, _, .bl b, r => by cases r; exact ⟨_, .bool b, List.not_mem_nil⟩
  | _, _, _, .int i, r => by obtain ⟨t, rfl⟩ := r; exact ⟨_, .int i t, List.not_mem_nil⟩
  | _, _, _, .str x, r => by obtain ⟨t, rfl⟩ := r; exact ⟨_, .str x t, List.not_mem_nil⟩
  | _, _, _, .lst (a := a) h n g, r => by
    cases r
    obtain ⟨its, rv, ⟨o, n, ho, hc, _, hd⟩, _⟩ := I.list (sqL h)
    obtain ⟨as, g1, g2⟩ := TgA.reads S I g rv
    obtain ⟨om, hm1, hm2⟩ := S.ex
    have na : sysModules ≠ a := fun z => by
      have e1 := I.kIn _ _ hm1
      rw [z, ho] at e1
      cases e1
      rw [hc] at hm2
      injection hm2 with hm3
      exact absurd hm3 (by decide)
    exact ⟨_, .list ho hc hd (by simpa using g1), by simp [na, g2]⟩
  | _, _, _, .tup (a := a) h g, r => by
    cases r
    obtain ⟨its, rv, ⟨o, ho, hc, n, hd⟩, _⟩ := I.tuple (sqT h)
    obtain ⟨as, g1, g2⟩ := TgA.reads S I g rv
    exact ⟨_, .tuple ho hc hd (by simpa using g1), g2⟩
  | _, _, _, .dict (a := a) (ks := ks) (vs := vs) (ds := ds) h n l g, r => by
    cases r
    obtain ⟨z, hd, ws, rel, ob, es, ep, ho, hx, hdat, hks, hpr, hnd⟩ := dk_of I.hok h
    have na : a ≠ sysModules := by simpa using hd
    have lD := g.len
    have hk : ws.map (·.1) = ks.map Sum.inl := (KV.keys rel).symm.trans (enD_keys l)
    obtain ⟨as, g1, g2⟩ := TgA.reads S I g (vals_of l rel hpr)
    refine ⟨_, .dict (as := []) (bs := as) ho hx.1 hdat ?_ ?_, ?_⟩
    · rw [dkv_keys (l.trans lD)]
      exact ReadsAll.intsOf (K := X.K) hpr hk
    · rw [dkv_vals (l.trans lD)]
      exact g1
    · simp [Ne.symm na, g2]
theorem TgA.reads (S : SmK X.K) (I : Inv X pins σ H s) : ∀ {vs : List V} {ds : List PyData} {us : List Value}, TgA F H vs ds → Vals vs us → ∃ as, ReadsAll s.heap us ds as ∧ sysModules ∉ as
  | _, _, _, .nil, .nil => ⟨_, .nil, List.not_mem_nil⟩
  | _, _, _, .cons h r, .cons rv rs => by
    obtain ⟨as, q1, q2⟩ := Tg.reads S I h rv
    obtain ⟨bs, q3, q4⟩ := TgA.reads S I r rs
    exact ⟨_, .cons q1 q3, by simp [q2, q4]⟩
end
variable {Q : VK}
/-- repr of a thing -/
theorem k_reprT {v : V} {d : PyData} {k : Nat} (S : SmK X.K) (hr : Room k X.A) (hgd : X.A.guards = some []) (h1 : Tg F H v d) (ho : okD d) (hw : wt d ≤ 8000) (hdp : d.depth ≤ 100) (h : Q (.str d.shown) H) : Cal X (.builtin "repr") [v] H Q := by
  refine ⟨fun xs H Q => xs = [v] ∧ Tg F H v d ∧ Q (.str d.shown) H, ?_, rfl, h1, h⟩
  intro pins s σ H xs us Q I r hh
  obtain ⟨rfl, g1, q⟩ := hh
  obtain ⟨u, rfl, rx⟩ := vals1 r
  have hs := okD_showable d ho
  have hz : d.shown.length ≤ sizeLine := by
    have := shown_wt d ho
    have : sizeLine = 16777216 := rfl
    omega
  have hu : X.A.units + (d.depth + 1) < cLine := by have := hr.un; omega
  obtain ⟨as, rd, na⟩ := g1.reads S I rx
  have fin : ∀ (h' : Heap) (u : Tok) (tk : Nat), (∀ b o, s.heap.get? b = some o → h'.get? b = some o) → EP X pins σ Q (.str d.shown u) { s with heap := h', toks := tk } := fun h' u tk hk => ⟨.str _, H, I.kept (t' := tk) hk, ⟨_, rfl⟩, q⟩
  cases rd with
  | none => exact PySem.P.repr_of_none (fin s.heap _ _ fun _ _ e => e)
  | bool b => exact PySem.P.repr_of_bool (fin s.heap _ _ fun _ _ e => e)
  | int i t => exact PySem.P.repr_of_int (by have : Szd i := ho; unfold Szd at this; omega) (fin s.heap _ _ fun _ _ e => e)
  | str x t => exact PySem.P.repr_of_str (fin s.heap _ _ fun _ _ e => e) hz
  | list e1 e2 e3 e4 => exact repr_of_reads' (hsz := hz) (.list e1 e2 e3 e4) hs (fun _ => na) hgd hu (fun _ _ e => e) fin
  | tuple e1 e2 e3 e4 => exact repr_of_reads' (hsz := hz) (.tuple e1 e2 e3 e4) hs (fun _ => na) hgd hu (fun _ _ e => e) fin
  | dict e1 e2 e3 e4 e5 => exact repr_of_reads' (hsz := hz) (.dict e1 e2 e3 e4 e5) hs (fun _ => na) hgd hu (fun _ _ e => e) fin
end
end SL

/-! rules over things: dict(enumerate(..)), tuple(..), == [], filters -/
namespace SL
open PySem PySem.Spec PyProof.Rows L2
theorem valV_off {κ : Type} [DecidableEq κ] {kvs : List (κ × V)} {k : κ} (h : k ∉ kvs.map (·.1)) : valV kvs k = none := by
  unfold valV
  rw [Option.map_eq_none_iff, List.find?_eq_none]
  intro p hp hk
  exact h (List.mem_map.mpr ⟨p, hp, by simpa using hk⟩)
theorem mergeK_new : ∀ {kvs acc : List (Key × V)}, ((acc ++ kvs).map (·.1)).Nodup → mergeK acc kvs = acc ++ kvs
  | [], acc, _ => by rw [List.append_nil]; rfl
  | (k, v) :: kvs, acc, h => by
    show mergeK (putK acc k v) kvs = _
    have hk : k ∉ acc.map (·.1) := by
      rw [List.map_append, List.nodup_append] at h
      intro hm
      exact h.2.2 k hm k (List.mem_map.mpr ⟨(k, v), List.mem_cons_self, rfl⟩) rfl
    rw [putK_new v (valV_off hk), mergeK_new (by rw [List.append_assoc]; exact h), List.append_assoc]
    rfl
theorem enD_nodup {ks : List Int} {vs : List V} (h : ks.Nodup) (l : ks.length = vs.length) : ((enD ks vs).map (·.1)).Nodup := by
  rw [enD_keys l]
  rw [List.Nodup, List.pairwise_map]
  exact List.Pairwise.imp (fun hn z => hn (Sum.inl.inj z)) h
/-- 0, 1, .. -/
def upI (n : Nat) : List Int := (List.range n).map fun i : Nat => (i : Int)
theorem upI_len (n : Nat) : (upI n).length = n := by unfold upI; rw [List.length_map, List.length_range]
theorem upI_nodup (n : Nat) : (upI n).Nodup := by
  unfold upI
  rw [List.Nodup, List.pairwise_map]
  exact List.Pairwise.imp (fun {a b} hn z => hn (by omega)) (List.nodup_range (n := n))
theorem enD_get {vs : List V} {i : Nat} {v : V} (h : vs[i]? = some v) : (enD (upI vs.length) vs)[i]? = some (Sum.inl (i : Int), v) := by
  have hi := (List.getElem?_eq_some_iff.mp h).1
  unfold enD upI
  rw [List.getElem?_map, List.getElem?_zip_eq_some (z := ((i : Int), v)) |>.mpr ⟨by rw [List.getElem?_map, List.getElem?_range hi]; rfl, h⟩]
  rfl
theorem kv_each : ∀ {kvs : List (Key × V)} {prs : List (Key × Value)}, kvs.length = prs.length → (∀ (i : Nat) (p : Key × V) (q : Key × Value), kvs[i]? = some p → prs[i]? = some q → p.1 = q.1 ∧ RelV p.2 q.2) → KV kvs prs
  | [], [], _, _ => .nil
  | [], _ :: _, h, _ => by simp at h
  | _ :: _, [], h, _ => by simp at h
  | p :: kvs, q :: prs, h, e => .cons (e 0 p q rfl rfl) (kv_each (by simpa using h) fun i p q h1 h2 => e (i + 1) p q (by simpa using h1) (by simpa using h2))
section
variable {X : Cx} {σ : L2.St} {H : Hp} {Q : VK} {e : Expr} {p p2 q pos : Pos} {a b : Addr} {xs : List V}
/-- dict(enumerate(xs)) -/
theorem we_dictEnum (hc : X.calm = true) (hg : Gl X "dict") (hm : X.mg "dict" = none) (hg2 : Gl X "enumerate") (hm2 : X.mg "enumerate" = none) (h : We X e σ H fun v H1 => ∃ a xs, v = .ref a ∧ SqL X.K H1 a xs ∧ xs.length ≤ 100000 ∧ ∀ p H', H1 p = none → Kp [] H1 H' → H' p = some (.dK (enD (upI xs.length) xs)) → Q (.ref p) H')
    (hs : starEach [e] X.env = [(false, eval e X.env)] := by rfl)
    (hs1 : starEach [.Call (.Name "enumerate" p2) [e] [] q] X.env = (false, eval (.Call (.Name "enumerate" p2) [e] [] q) X.env) :: starEach [] X.env := by rfl) :
    We X (.Call (.Name "dict" p) [.Call (.Name "enumerate" p2) [e] [] q] [] pos) σ H Q := by
  refine ⟨fun pins s I => ?_⟩
  refine wpAny_Call_Name_kw (ld_blt I hg hm PyProof.Rows.boot_dict ?_)
  refine PyProof.Rows.callWith_type1 ?_ hs1 rfl
  rw [hs1]
  show wpAny _ _ (spliced ((false, eval (.Call (.Name "enumerate" p2) [e] [] q) X.env) :: backTo pos (starEach [] X.env))) _ _ s
  refine Calls.spliced_cons ?_
  refine Call_ (ld_blt I hg2 hm2 boot_enumerate (PyProof.Rows.callWith_type1 (thn ((pa_cons We.pe pa_nil hs).run q pins s σ H (fun vs H1 => ∃ a xs, vs = [.ref a] ∧ SqL X.K H1 a xs ∧ xs.length ≤ 100000 ∧ ∀ p H', H1 p = none → Kp [] H1 H' → H' p = some (.dK (enD (upI xs.length) xs)) → Q (.ref p) H') I ?_) fun us s1 ⟨vs, H1, I1, r1, a, xs, ex, hq, hl, qq⟩ => ?_) hs rfl))
  · refine ⟨fun pins s I => thn (h.run pins s I) fun u s1 ⟨v, H1, I1, r1, a, xs, e, h1, h2⟩ => ⟨v, H1, I1, r1, a, xs, ?_, h1, h2⟩⟩
    rw [e]
  subst ex
  cases r1 with
  | cons r rr =>
    cases rr
    cases r
    obtain ⟨its, rv, pl, hz⟩ := I1.list hq
    have la : @LT.lt Nat _ a s1.heap.objs.size := pl.lt
    have hlen := rv.length
    refine call_enumerate_list pl.isList fun h' hE hI hsz hk => ?_
    refine Calls.spliced_nil ?_
    have hA : X.A.handled = none := I1.ok.hd hc
    have hbig : @LT.lt Nat _ sysModules s1.heap.objs.size := I1.big
    have nE : @Eq Nat (s1.heap.objs.size + 1) s1.heap.objs.size → False := fun z => by omega
    let prs : List (Key × Value) := (upI its.length).zip its |>.map fun p => (Sum.inl p.1, p.2)
    have hpl : prs.length = its.length := by simp [prs, upI_len]
    have hpg : ∀ (i : Nat) (u : Value), its[i]? = some u → prs[i]? = some (Sum.inl (i : Int), u) := fun i u hu => by
      have hi := (List.getElem?_eq_some_iff.mp hu).1
      show (((upI its.length).zip its).map fun p => ((Sum.inl p.1 : Key), p.2))[i]? = _
      rw [List.getElem?_map, List.getElem?_zip_eq_some (z := ((i : Int), u)) |>.mpr ⟨by unfold upI; rw [List.getElem?_map, List.getElem?_range hi]; rfl, hu⟩]
      rfl
    have rel : KV (enD (upI xs.length) xs) prs := kv_each (by rw [hpl, ← hlen]; unfold enD; rw [List.length_map, List.length_zip, upI_len]; exact Nat.min_self _) fun i p q h1 h2 => by
      have hi : i < its.length := by rw [← hpl]; exact (List.getElem?_eq_some_iff.mp h2).1
      have hx : xs[i]? = some xs[i] := List.getElem?_eq_getElem (by omega)
      obtain ⟨u, hu, ru⟩ := rv.get hx
      rw [hpg i u hu] at h2
      rw [enD_get hx] at h1
      cases h1
      cases h2
      exact ⟨rfl, ru⟩
    refine PySem.call_dict_pairs (s := { s1 with heap := h' }) (knd := mixKind X.prog X.w) (kvs := prs) (PairArg.enumerate (s1.heap.objs.size + 1) s1.heap.objs.size a nE (Nat.ne_of_lt (Nat.lt_succ_of_lt la)) (Nat.ne_of_lt la) its.toArray) hA ⟨⟨_, hE⟩, hI, pl.isList.at fun o e => hk _ o e⟩ ⟨by rw [hpl, List.size_toArray], fun i key v hr => ?_⟩ (by rw [List.size_toArray, ← hlen]; exact Nat.le_trans hl (by decide)) (fun h'' tk hd hk2 => ?_)
    · obtain ⟨⟨t, rfl⟩, hv⟩ := hr
      exact ⟨Sum.inl (i : Int), hpg i v (by simpa using hv), mixKind_int _ _ _ _⟩
    · have nS : H1 h'.objs.size = none := I1.hok.fresh (by omega)
      have e1 : mergeK [] (enD (upI xs.length) xs) = enD (upI xs.length) xs := mergeK_new (enD_nodup (upI_nodup _) (upI_len _))
      have kp : ∀ b o, s1.heap.get? b = some o → h''.get? b = some o := fun b o e => hk2 b o (by
        have hb : @LT.lt Nat _ b s1.heap.objs.size := Heap.lt_size e
        simp only [List.mem_cons, List.not_mem_nil, or_false, not_or]
        exact ⟨adn (by omega), adn (by omega)⟩) (hk b o e)
      have ok : ObjOk X.prog X.w (upd H1 h'.objs.size (.dK (enD (upI xs.length) xs))) h'' h'.objs.size (.dK (enD (upI xs.length) xs)) := by
        refine ⟨?_, beq_eq_false_iff_ne.mpr (adn (.inr (by omega))), merged [] prs, ?_, hd⟩
        · unfold enD
          rw [List.length_map, List.length_zip, upI_len, Nat.min_self]
          exact Nat.le_trans hl (by decide)
        · rw [← e1]
          exact KV.merge rel .nil
      exact ⟨.ref _, _, I1.laid (t' := tk) kp (by show s1.heap.objs.size ≤ h'.objs.size; omega) ok, rfl, qq _ _ nS (.new nS) upd_same⟩
/-- tuple(xs) -/
theorem k_tuple (h1 : SqL X.K H a xs) (h : ∀ p H', H p = none → Kp [] H H' → H' p = some (.tup xs) → Q (.ref p) H') : Cal X (.type "tuple") [.ref a] H Q :=
  ⟨_, call_tuple_of, a, xs, rfl, .inl ⟨h1, fun p n => h p _ n (.new n) upd_same⟩⟩
/-- xs == [], any items -/
theorem c_eqNil {k : Nat} (hr : Room k X.A) (h1 : H a = some (.lst xs)) (h2 : H b = some (.lst [])) (h : Q (.bl xs.isEmpty) H) : Cmp X .Eq (.ref a) (.ref b) H Q := by
  refine ⟨fun x y H Q => x = .ref a ∧ y = .ref b ∧ H a = some (.lst xs) ∧ H b = some (.lst []) ∧ Q (.bl xs.isEmpty) H, ?_, rfl, rfl, h1, h2, h⟩
  intro pins s σ H x y v u Q I rx ry hh
  obtain ⟨rfl, rfl, g1, g2, q⟩ := hh
  cases rx
  cases ry
  obtain ⟨its, rv, pl, hz⟩ := I.list (sqL g1)
  obtain ⟨its2, rv2, pl2, hz2⟩ := I.list (sqL g2)
  cases rv2
  have hlen := rv.length
  have hu : X.A.units < cLine := by have := hr.un; omega
  cases xs with
  | nil =>
    cases rv
    exact SeqAt.eq_listAt (e := fun _ => true) pl.isList pl2.isList rfl hu (fun j h1 _ => absurd h1 (Nat.not_lt_zero j)) ⟨.bl true, H, I, rfl, q⟩
  | cons x xs => exact SeqAt.eq_list_lengthsAt pl.isList pl2.isList (by rw [List.size_toArray, ← hlen]; rfl) hu ⟨.bl false, H, I, rfl, q⟩
theorem c_neNil {k : Nat} (hr : Room k X.A) (h1 : H a = some (.lst xs)) (h2 : H b = some (.lst [])) (h : Q (.bl (!xs.isEmpty)) H) : Cmp X .NotEq (.ref a) (.ref b) H Q := by
  refine ⟨fun x y H Q => x = .ref a ∧ y = .ref b ∧ H a = some (.lst xs) ∧ H b = some (.lst []) ∧ Q (.bl (!xs.isEmpty)) H, ?_, rfl, rfl, h1, h2, h⟩
  intro pins s σ H x y v u Q I rx ry hh
  obtain ⟨rfl, rfl, g1, g2, q⟩ := hh
  cases rx
  cases ry
  obtain ⟨its, rv, pl, hz⟩ := I.list (sqL g1)
  obtain ⟨its2, rv2, pl2, hz2⟩ := I.list (sqL g2)
  cases rv2
  have hlen := rv.length
  have hu : X.A.units < cLine := by have := hr.un; omega
  cases xs with
  | nil =>
    cases rv
    exact SeqAt.RcNeAt.lists (e := fun _ => true) pl.isList pl2.isList rfl hu (fun j h1 _ => absurd h1 (Nat.not_lt_zero j)) X.prog X.w _ _ ⟨.bl false, H, I, rfl, q⟩
  | cons x xs => exact SeqAt.RcNeAt.lists_lengths pl.isList pl2.isList (by rw [List.size_toArray, ← hlen]; rfl) hu X.prog X.w _ _ ⟨.bl true, H, I, rfl, q⟩
end
section
variable {X : Cx} {elt tg c : Expr} {scope : Scope} {vs : List Nat} {σ : L2.St} {R : VK} {q : Addr} {H : Hp} {α : Type}
/-- [x for x in xs if test], things each with what is known of it -/
theorem lcd_selP {ps : List (V × α)} (b : V × α → Bool) (hq : H q = some (.lst (ps.map (·.1)))) (hl : ps.length ≤ 99999)
    (he : ∀ p ∈ ps, ∀ H1, Kp [] H H1 → Bl X scope fun Z => Wg Z tg p.1 (wipe σ vs) H1 fun σ2 H2 => wipe σ2 vs = wipe σ vs ∧ Bl X scope fun Z => Wt Z c σ2 H2 fun k H3 => k = b p ∧ Kp [] H1 H3 ∧ Bl X scope fun Z => We Z elt σ2 H3 fun y H4 => y = p.1 ∧ Kp [] H3 H4)
    (hd : ∀ Dl H', H Dl = none → Kp [] H H' → H' Dl = some (.lst ((ps.filter b).map (·.1))) → R (.ref Dl) H') :
    LcD X elt tg [c] scope vs σ R (ps.map (·.1)).length (fun H => SqL X.K H q (ps.map (·.1))) (YAt (ps.map (·.1))) H := by
  intro Dl H1 nD kD hD
  refine ⟨fun i H' => Kp [] H H' ∧ H' Dl = some (.lst (((ps.take i).filter b).map (·.1))), ⟨kD, hD⟩, fun i H' _ h => sqL (h.1.g0 hq), ?_, ?_⟩
  · rintro i x H2 H3 hi ⟨k2, hD2⟩ ⟨rfl, hx⟩
    rw [List.getElem?_map] at hx
    obtain ⟨p, hv, rfl⟩ := Option.map_eq_some_iff.mp hx
    intro s0 H0 C cl fp
    refine wg_mono (he p (List.mem_of_getElem? hv) _ k2 s0 H0 C cl fp) fun σ2 H4 ⟨e1, h2⟩ => ⟨e1, fun s0 H0 C cl fp => ?_⟩
    refine wts_one (wt_mono (h2 s0 H0 C cl fp) fun k H5 ⟨ek, k5, h3⟩ => ?_)
    subst ek
    have et : (ps.take (i + 1)).filter b = (ps.take i).filter b ++ [p].filter b := by
      rw [List.take_succ, hv, List.filter_append]
      rfl
    cases hp : b p with
    | true =>
      refine iteT fun s0 H0 C cl fp => we_mono (h3 s0 H0 C cl fp) fun y H6 ⟨ey, k6⟩ => ?_
      subst ey
      refine ⟨_, k6.g0 (k5.g0 hD2), by
        rw [List.length_map]
        have h1 := List.length_filter_le b (ps.take i)
        rw [List.length_take] at h1
        omega, fun H7 k7 hD7 => ⟨((k2.tr0 k5).tr0 k6).trN k7 nD, ?_⟩⟩
      rw [hD7, et, List.filter_cons_of_pos hp, List.filter_nil, List.map_append (l₂ := [p])]
      rfl
    | false =>
      refine iteF ⟨k2.tr0 k5, ?_⟩
      rw [et, List.filter_cons_of_neg (by rw [hp]; decide), List.filter_nil, List.append_nil]
      exact k5.g0 hD2
  · rintro H2 ⟨k2, hD2⟩
    rw [List.length_map, List.take_length] at hD2
    exact hd Dl H2 nD k2 hD2
theorem lcd_selV {xs : List V} (b : V → Bool) (hq : H q = some (.lst xs)) (hl : xs.length ≤ 99999)
    (he : ∀ v ∈ xs, ∀ H1, Kp [] H H1 → Bl X scope fun Z => Wg Z tg v (wipe σ vs) H1 fun σ2 H2 => wipe σ2 vs = wipe σ vs ∧ Bl X scope fun Z => Wt Z c σ2 H2 fun k H3 => k = b v ∧ Kp [] H1 H3 ∧ Bl X scope fun Z => We Z elt σ2 H3 fun y H4 => y = v ∧ Kp [] H3 H4)
    (hd : ∀ Dl H', H Dl = none → Kp [] H H' → H' Dl = some (.lst (xs.filter b)) → R (.ref Dl) H') :
    LcD X elt tg [c] scope vs σ R xs.length (fun H => SqL X.K H q xs) (YAt xs) H := by
  have e : (xs.map fun v => (v, ())).map (·.1) = xs := by rw [List.map_map]; exact List.map_id' xs
  have e2 : ((xs.map fun v => (v, ())).filter fun p : V × Unit => b p.1).map (·.1) = xs.filter b := by
    rw [List.filter_map, List.map_map]
    exact List.map_id' _
  have g := lcd_selP (X := X) (elt := elt) (tg := tg) (c := c) (scope := scope) (vs := vs) (σ := σ) (R := R) (q := q) (H := H) (ps := xs.map fun v => (v, ())) (fun p => b p.1) (by rw [e]; exact hq) (by rw [List.length_map]; exact hl)
    (fun p hp => by
      obtain ⟨v, hv, rfl⟩ := List.mem_map.mp hp
      exact he v hv) (by rw [e2]; exact hd)
  rw [e] at g
  exact g
end
/-! ### small things -/
def Gd (F : List Addr) (H : Hp) (v : V) (n k : Nat) : Prop := ∃ d, Tg F H v d ∧ okD d ∧ wt d ≤ n ∧ d.depth ≤ k
def GdA (F : List Addr) (H : Hp) (vs : List V) (n k : Nat) : Prop := ∃ ds, TgA F H vs ds ∧ okA ds ∧ wtA ds ≤ n ∧ PyData.depthAll ds ≤ k
section
variable {F M : List Addr} {H H' : Hp} {v : V} {vs ws : List V} {n m k j : Nat} {a : Addr}
theorem depthAll_app (xs ys : List PyData) : PyData.depthAll (xs ++ ys) = max (PyData.depthAll xs) (PyData.depthAll ys) := by
  induction xs with
  | nil => simp [PyData.depthAll]
  | cons x xs ih => simp only [List.cons_append, PyData.depthAll, ih]; omega
theorem Gd.kp (h : Gd F H v n k) (kk : Kp M H H') (hM : ∀ y ∈ M, y ∈ F ∨ H y = none) : Gd F H' v n k := by
  obtain ⟨d, h1, h2⟩ := h
  exact ⟨d, h1.kp kk hM, h2⟩
theorem Gd.k0 (h : Gd F H v n k) (kk : Kp [] H H') : Gd F H' v n k := h.kp kk fun _ z => nomatch z
theorem Gd.k1 {p : Addr} (h : Gd F H v n k) (kk : Kp [p] H H') (hp : p ∈ F) : Gd F H' v n k := h.kp kk fun y z => .inl (by rw [List.mem_singleton.mp z]; exact hp)
theorem Gd.mono (h : Gd F H v n k) (hn : n ≤ m) (hk : k ≤ j) : Gd F H v m j := by
  obtain ⟨d, h1, h2, h3, h4⟩ := h
  exact ⟨d, h1, h2, Nat.le_trans h3 hn, Nat.le_trans h4 hk⟩
theorem Gd.ty (h : Gd F H v n k) : ∃ t, Ty0 F H v t := by
  obtain ⟨d, h1, _⟩ := h
  exact ⟨_, h1.ty⟩
theorem GdA.kp (h : GdA F H vs n k) (kk : Kp M H H') (hM : ∀ y ∈ M, y ∈ F ∨ H y = none) : GdA F H' vs n k := by
  obtain ⟨d, h1, h2⟩ := h
  exact ⟨d, h1.kp kk hM, h2⟩
theorem GdA.k0 (h : GdA F H vs n k) (kk : Kp [] H H') : GdA F H' vs n k := h.kp kk fun _ z => nomatch z
theorem GdA.k1 {p : Addr} (h : GdA F H vs n k) (kk : Kp [p] H H') (hp : p ∈ F) : GdA F H' vs n k := h.kp kk fun y z => .inl (by rw [List.mem_singleton.mp z]; exact hp)
theorem GdA.mono (h : GdA F H vs n k) (hn : n ≤ m) (hk : k ≤ j) : GdA F H vs m j := by
  obtain ⟨d, h1, h2, h3, h4⟩ := h
  exact ⟨d, h1, h2, Nat.le_trans h3 hn, Nat.le_trans h4 hk⟩
theorem GdA.len (h : GdA F H vs n k) : vs.length ≤ n := by
  obtain ⟨d, h1, h2, h3, h4⟩ := h
  rw [h1.len]
  exact Nat.le_trans (len_wt d) h3
theorem GdA.nil : GdA F H [] 0 k := ⟨[], .nil, trivial, Nat.le_refl _, Nat.zero_le _⟩
theorem GdA.one (h : Gd F H v n k) : GdA F H [v] n k := by
  obtain ⟨d, h1, h2, h3, h4⟩ := h
  exact ⟨[d], .one h1, ⟨h2, trivial⟩, by simp only [wtA]; omega, by simp only [PyData.depthAll]; omega⟩
theorem GdA.app (h : GdA F H vs n k) (g : GdA F H ws m k) : GdA F H (vs ++ ws) (n + m) k := by
  obtain ⟨d, h1, h2, h3, h4⟩ := h
  obtain ⟨e, g1, g2, g3, g4⟩ := g
  exact ⟨d ++ e, h1.app g1, okA_app.mpr ⟨h2, g2⟩, by rw [wtA_app]; omega, by rw [depthAll_app]; omega⟩
theorem GdA.cons (h : Gd F H v n k) (g : GdA F H vs m k) : GdA F H (v :: vs) (n + m) k := (GdA.one h).app g
theorem GdA.take (h : GdA F H vs n k) (i : Nat) : GdA F H (vs.take i) n k := by
  obtain ⟨d, h1, h2, h3, h4⟩ := h
  have e := List.take_append_drop i d
  refine ⟨d.take i, h1.take i, ?_, Nat.le_trans (wtA_take d i) h3, ?_⟩
  · rw [← e] at h2
    exact (okA_app.mp h2).1
  · rw [← e, depthAll_app] at h4
    omega
theorem GdA.drop (h : GdA F H vs n k) (i : Nat) : GdA F H (vs.drop i) n k := by
  obtain ⟨d, h1, h2, h3, h4⟩ := h
  have e := List.take_append_drop i d
  refine ⟨d.drop i, h1.drop i, ?_, Nat.le_trans (wtA_drop d i) h3, ?_⟩
  · rw [← e] at h2
    exact (okA_app.mp h2).2
  · rw [← e, depthAll_app] at h4
    omega
theorem GdA.cut (h : GdA F H vs n k) (lo hi : Option Int) : GdA F H (cutV vs lo hi) n k := by
  unfold cutV
  exact (h.drop _).take _
theorem GdA.rep (h : Gd F H v n k) {c : Int} (hc : c ≤ 1) : GdA F H (List.replicate c.toNat [v]).flatten n k := by
  have : c.toNat = 0 ∨ c.toNat = 1 := by omega
  rcases this with e | e
  · rw [e]
    exact GdA.nil.mono (Nat.zero_le _) (Nat.le_refl _)
  · rw [e]
    exact GdA.one h
theorem GdA.get {i : Nat} (h : GdA F H vs n k) (e : vs[i]? = some v) : Gd F H v n k := by
  obtain ⟨ds, h1, h2, h3, h4⟩ := h
  obtain ⟨d, e1, e2⟩ := h1.get e
  have hm := List.mem_of_getElem? e1
  obtain ⟨s, t, rfl⟩ := List.append_of_mem hm
  refine ⟨d, e2, okA_mem.mp h2 d hm, Nat.le_trans (wtA_mem hm) h3, ?_⟩
  rw [depthAll_app] at h4
  simp only [PyData.depthAll] at h4
  omega
theorem GdA.mem (h : GdA F H vs n k) (e : v ∈ vs) : Gd F H v n k := by
  obtain ⟨i, hi⟩ := List.mem_iff_getElem?.mp e
  exact h.get hi
theorem GdA.ints {ns : List Int} (h : ∀ x ∈ ns, Szd x) : GdA F H (ns.map V.int) ns.length k := ⟨_, .ints ns, okA_ints h, Nat.le_of_eq (wtA_ints ns), by rw [depth_ints]; exact Nat.zero_le _⟩
theorem Gd.items (h : Gd F H (.ref a) n k) (e : H a = some (.lst vs)) : GdA F H vs n k := by
  obtain ⟨d, h1, h2, h3, h4⟩ := h
  cases h1 with
  | lst h nf r =>
    rw [h] at e
    cases e
    exact ⟨_, r, h2, Nat.le_of_succ_le h3, Nat.le_of_succ_le h4⟩
  | tup h r => rw [h] at e; cases e
  | dict h nf l r => rw [h] at e; cases e
theorem Gd.lst (h : GdA F H vs n k) (e : H a = some (.lst vs)) (nf : a ∉ F) : Gd F H (.ref a) (n + 1) (k + 1) := by
  obtain ⟨d, h1, h2, h3, h4⟩ := h
  exact ⟨.list d, .lst e nf h1, h2, Nat.succ_le_succ h3, Nat.succ_le_succ h4⟩
theorem Gd.tup (h : GdA F H vs n k) (e : H a = some (.tup vs)) : Gd F H (.ref a) (n + 1) (k + 1) := by
  obtain ⟨d, h1, h2, h3, h4⟩ := h
  exact ⟨.tuple d, .tup e h1, h2, Nat.succ_le_succ h3, Nat.succ_le_succ h4⟩
theorem depthKv_dkv : ∀ (ks : List Int) (ds : List PyData), PyData.depthKv (dkv ks ds) ≤ PyData.depthAll ds
  | [], _ => Nat.zero_le _
  | _ :: _, [] => Nat.zero_le _
  | k :: ks, d :: ds => by
    have := depthKv_dkv ks ds
    show max (max (PyData.int k).depth d.depth) (PyData.depthKv (dkv ks ds)) ≤ max d.depth (PyData.depthAll ds)
    have e : (PyData.int k).depth = 0 := rfl
    omega
theorem Gd.dict {ks : List Int} (h : GdA F H vs n k) (e : H a = some (.dK (enD ks vs))) (nf : a ∉ F) (l : ks.length = vs.length) (hs : ∀ x ∈ ks, Szd x) : Gd F H (.ref a) (n + n + 1) (k + 1) := by
  have hl := h.len
  obtain ⟨d, h1, h2, h3, h4⟩ := h
  have := wtKv_dkv ks d
  refine ⟨.dict (dkv ks d), .dict e nf l h1, okKv_dkv hs h2, ?_, ?_⟩
  · show wtKv (dkv ks d) + 1 ≤ _
    omega
  · show PyData.depthKv (dkv ks d) + 1 ≤ _
    have := depthKv_dkv ks d
    omega
theorem upI_szd {n : Nat} (h : n ≤ 100000) : ∀ x ∈ upI n, Szd x := fun x hx => by
  obtain ⟨i, hi, rfl⟩ := List.mem_map.mp hx
  have := List.mem_range.mp hi
  exact szd_of (by omega)
theorem Gd.non : Gd F H .non 1 k := ⟨.none, .non, trivial, Nat.le_refl _, Nat.zero_le _⟩
theorem Gd.bl {b : Bool} : Gd F H (.bl b) 1 k := ⟨.bool b, .bl b, trivial, Nat.le_refl _, Nat.zero_le _⟩
theorem Gd.int {i : Int} (h : Szd i) : Gd F H (.int i) 1 k := ⟨.int i, .int i, h, Nat.le_refl _, Nat.zero_le _⟩
theorem Gd.str {s : Str} (h : ∀ c ∈ s.cps.toList, c < 16 ^ 8) (hl : s.length + 1 ≤ n) : Gd F H (.str s) n k := ⟨.str s, .str s, h, hl, Nat.zero_le _⟩
end
/-! ### whole numbers alone, in a list -/
def whV : V → Bool
  | .int _ => true
  | _ => false
theorem Ty0.whV {F : List Addr} {H : Hp} {v : V} {t : String} (h : Ty0 F H v t) : isW t = SL.whV v := by cases h <;> rfl
/-- what is asked whether it is a list of whole numbers, and the answer -/
def Rq (H : Hp) (v : V) (b : Bool) : Prop := (∃ t, Ty0 [] H v t ∧ isL t = false ∧ b = false) ∨ (∃ a xs, v = .ref a ∧ H a = some (.lst xs) ∧ xs.length ≤ 99999 ∧ (∀ x ∈ xs, ∃ t, Ty0 [] H x t) ∧ b = xs.all SL.whV)
theorem Rq.kp {H H' : Hp} {v : V} {b : Bool} (h : Rq H v b) (k : Kp [] H H') : Rq H' v b := by
  rcases h with ⟨t, h1, h2⟩ | ⟨a, xs, h1, h2, h3, h4, h5⟩
  · exact .inl ⟨t, h1.k0 k, h2⟩
  · exact .inr ⟨a, xs, h1, k.g0 h2, h3, fun x hx => (h4 x hx).imp fun _ z => z.k0 k, h5⟩
def rwD : PyData → Bool
  | .list ds => ds.all fun d => isW (tyn d)
  | _ => false
theorem TgA.rw {F : List Addr} {H : Hp} : ∀ {vs : List V} {ds : List PyData}, TgA F H vs ds → (ds.all fun d => isW (tyn d)) = vs.all SL.whV
  | _, _, .nil => rfl
  | _, _, .cons h r => by rw [List.all_cons, List.all_cons, r.rw, h.ty.whV]
theorem TgA.tys {F : List Addr} {H : Hp} {vs : List V} {ds : List PyData} (h : TgA F H vs ds) : ∀ x ∈ vs, ∃ t, Ty0 [] H x t := fun x hx => by
  obtain ⟨i, hi⟩ := List.mem_iff_getElem?.mp hx
  obtain ⟨d, _, e⟩ := h.get hi
  exact ⟨_, e.ty.nil⟩
theorem Tg.rq {F : List Addr} {H : Hp} {v : V} {d : PyData} (h : Tg F H v d) (hw : wt d ≤ 90000) : Rq H v (rwD d) := by
  cases h with
  | lst e n r => exact .inr ⟨_, _, rfl, e, by have := len_wt; rw [r.len]; have := this ‹_›; simp only [wt] at hw; omega, r.tys, r.rw⟩
  | non => exact .inl ⟨_, .non, rfl, rfl⟩
  | bl b => exact .inl ⟨_, .bl b, rfl, rfl⟩
  | int i => exact .inl ⟨_, .int i, rfl, rfl⟩
  | str s => exact .inl ⟨_, .str s, rfl, rfl⟩
  | tup e r => exact .inl ⟨_, .tup e, rfl, rfl⟩
  | dict e n l r => exact .inl ⟨_, .dict e List.not_mem_nil, rfl, rfl⟩
end SL

/-! x in (0, 1), x == 1, str(x), ValueError(..) of things -/
namespace SL
open PySem PySem.Spec PyProof.Rows L2
section
open PySem.SeqAt
theorem dict_eq_declines_int (l : Addr) (es : Array DictEntry) (n : Nat) (dd : Option Addr) (sl : Array (Option Value)) (b : Int) (u : Tok) :
    Meets (Builtin.«dict.__eq__» ⟨[.ref l, .int b u], []⟩) (fun _ R s => s.heap.get? l = some { cls := .type "dict", dict := dd, data := .dict es n, slots := sl } ∧ R (.ok (.ret .notImplemented)) s) :=
  .of_wp fun prog w A R s h => by obtain ⟨hp, g, d, tk, os⟩ := s; obtain ⟨hl, h⟩ := h; have f1 : isSubtype (.type "int") (.type "dict") = pure false := F.sub_int_dict; wp_walk using wpAny_loadPart' hl; exact ⟨_, rfl, h⟩
theorem int_eq_declines_dict (b : Int) (u : Tok) (l : Addr) (c : Value) (es : Array DictEntry) (n : Nat) (dd : Option Addr) (sl : Array (Option Value)) :
    Meets (Builtin.«int.__eq__» ⟨[.int b u, .ref l], []⟩) (fun _ R s => s.heap.get? l = some { cls := c, dict := dd, data := .dict es n, slots := sl } ∧ R (.ok (.ret .notImplemented)) s) :=
  .of_wp fun prog w A R s h => by obtain ⟨hp, g, d, tk, os⟩ := s; obtain ⟨hl, h⟩ := h; wp_walk using wpAny_loadPart' hl, wpAny_load hl; exact ⟨_, rfl, h⟩
theorem RcAt_int_dict {A : Around} {s : Shared} {l : Addr} {o : Obj} {es : Array DictEntry} {n : Nat} (b : Int) (u : Tok) (ho : s.heap.get? l = some o) (hc : o.cls = .type "dict") (hd : o.data = .dict es n) (hu : A.units < cLine) : RcAt A s (.int b u) (.ref l) false := fun prog w E Q h => by
  obtain ⟨cls, dd, data, sl⟩ := o
  simp only at hc hd
  subst hc hd
  exact rc_eq_decline_or (k := false) (typeIs_int s b u) ⟨_, ho, rfl⟩ (by decide) F.sub_dict_int F.slot_int_eq F.slot_dict_eq_refl
    (fun _ hq => call_meets F.slot_int_eq (typeIs_int s b u) F.entry_int_eq (F.args_int_eq_2 _ _) (int_eq_declines_dict b u l (.type "dict") es n dd sl) ⟨ho, hq⟩)
    (fun _ hq => call_meets F.slot_dict_eq_refl ⟨_, ho, rfl⟩ F.entry_dict_eq (F.args_dict_eq_2 _ _) (dict_eq_declines_int l es n dd sl b u) ⟨ho, hq⟩)
    (fun _ hq => wpAny_of_eq (rfl : isSame (.int b u) (.ref l) = pure false) hq) (.inr hu) h
theorem EqAt_int_dict {A : Around} {s : Shared} {l : Addr} {o : Obj} {es : Array DictEntry} {n : Nat} (b : Int) (u : Tok) (ho : s.heap.get? l = some o) (hc : o.cls = .type "dict") (hd : o.data = .dict es n) (hu : A.units < cLine) : EqAt A s (.int b u) (.ref l) false := fun prog w E Q h => by
  unfold eqBool
  refine wpAny_holding ?_
  refine wpAny_ite_split (fun hab => absurd (eq_of_beq hab) nofun) (fun _ => ?_)
  exact wpAny_bind (RcAt_int_dict b u ho hc hd hu prog w E _ (wpAny_truthy_bool h))
end
/-- n == v -/
def eqI (n : Int) : V → Bool
  | .int i => n == i
  | .bl b => n == (if b then 1 else 0)
  | _ => false
section
variable {X : Cx} {pins : List (Addr × Obj)} {σ : L2.St} {H : Hp} {s : Shared} {F : List Addr} {Q : VK} {p : Addr} {k : Nat}
theorem Tg.eqAt {A : Around} (hu : A.units < cLine) (I : Inv X pins σ H s) {v : V} {d : PyData} {u : Value} (h : Tg F H v d) (r : RelV v u) (n : Int) (t : Tok) : SeqAt.EqAt A s (.int n t) u (eqI n v) := by
  cases h with
  | non => cases r; exact SeqAt.EqAt.int_none n t
  | bl b => cases r; exact SeqAt.EqAt.int_bool n t b
  | int i => obtain ⟨t', rfl⟩ := r; exact SeqAt.EqAt.int_int n t i t'
  | str x => obtain ⟨t', rfl⟩ := r; exact SeqAt.EqAt.int_str n t x t'
  | lst h n' g =>
    cases r
    obtain ⟨its, rv, pl, _⟩ := I.list (sqL h)
    exact SeqAt.EqAt.int_list n t pl.isList hu
  | tup h g =>
    cases r
    obtain ⟨its, rv, pl, _⟩ := I.tuple (sqT h)
    exact SeqAt.EqAt.int_tuple n t pl hu
  | dict h n' l g =>
    cases r
    obtain ⟨z, hd, ws, rel, ob, es, ep, ho, hx, hdat, hks, hpr, hnd⟩ := dk_of I.hok h
    exact EqAt_int_dict n t ho hx.1 hdat hu
/-- x in (0, 1) -/
theorem c_in01 {v : V} {d : PyData} (hr : Room k X.A) (h1 : Tg F H v d) (h2 : H p = some (.tup [.int 0, .int 1])) (h : Q (.bl (eqI 0 v || eqI 1 v)) H) : Cmp X .In v (.ref p) H Q := by
  refine ⟨fun x y H Q => x = v ∧ y = .ref p ∧ Tg F H v d ∧ H p = some (.tup [.int 0, .int 1]) ∧ Q (.bl (eqI 0 v || eqI 1 v)) H, ?_, rfl, rfl, h1, h2, h⟩
  intro pins s σ H x y u u' Q I rx ry hh
  obtain ⟨rfl, rfl, g1, g2, q⟩ := hh
  cases ry
  obtain ⟨its, rv, pl, hz⟩ := I.tuple (sqT g2)
  obtain ⟨a, b, rfl, ra, rb⟩ := vals2 rv
  obtain ⟨t1, rfl⟩ := ra
  obtain ⟨t2, rfl⟩ := rb
  have hu : X.A.in1.units < cLine := by
    have := hr.un
    show X.A.units + 1 < cLine
    omega
  refine SeqAt.in_tupleAt (fun y => match y with | .int n _ => eqI n x | _ => false) pl (fun y hy => ?_) ⟨.bl _, H, I, ?_, q⟩
  · have hy0 : y ∈ [Value.int 0 t1, Value.int 1 t2] := List.mem_toArray.mp hy
    have hy' : y = .int 0 t1 ∨ y = .int 1 t2 := by
      rcases List.mem_cons.mp hy0 with e | e
      · exact .inl e
      · exact .inr (List.mem_singleton.mp e)
    rcases hy' with rfl | rfl
    · exact g1.eqAt hu I rx 0 t1
    · exact g1.eqAt hu I rx 1 t2
  · show Value.bool _ = Value.bool _
    rw [List.any_toArray]
    show Value.bool (eqI 0 x || (eqI 1 x || false)) = _
    rw [Bool.or_false]
/-- x == 1, x a number or a truth -/
theorem c_eqI1 {v : V} (h1 : (eqI 0 v || eqI 1 v) = true) (h : Q (.bl (eqI 1 v)) H) : Cmp X .Eq v (.int 1) H Q := by
  cases v with
  | int i =>
    refine c_eqI ?_
    have e : decide (i = 1) = eqI 1 (.int i) := by
      show _ = ((1 : Int) == i)
      by_cases hi : i = 1
      · subst hi
        rfl
      · rw [decide_eq_false hi]
        exact (beq_eq_false_iff_ne.mpr (Ne.symm hi)).symm
    rw [e]
    exact h
  | bl b =>
    refine ⟨fun x y H Q => x = .bl b ∧ y = .int 1 ∧ Q (.bl (eqI 1 (.bl b))) H, ?_, rfl, rfl, h⟩
    intro pins s σ H x y u u' Q I rx ry hh
    obtain ⟨rfl, rfl, q⟩ := hh
    cases rx
    obtain ⟨t, rfl⟩ := ry
    refine SeqAt.RcAt.bool_int b 1 t X.prog X.w _ _ ⟨.bl _, H, I, ?_, q⟩
    cases b <;> rfl
  | non => exact absurd h1 (by decide)
  | _ => exact absurd h1 (by simp [eqI])
/-- str of a list, a tuple, a dict -/
theorem k_strT {d : PyData} (S : SmK X.K) (hr : Room k X.A) (hgd : X.A.guards = some []) (h1 : Tg F H (.ref p) d) (ho : okD d) (hw : wt d ≤ 8000) (hdp : d.depth ≤ 100) (h : Q (.str d.shown) H) : Cal X (.type "str") [.ref p] H Q := by
  refine ⟨fun xs H Q => xs = [.ref p] ∧ Tg F H (.ref p) d ∧ Q (.str d.shown) H, ?_, rfl, h1, h⟩
  intro pins s σ H xs us Q I r hh
  obtain ⟨rfl, g1, q⟩ := hh
  obtain ⟨u, rfl, rx⟩ := vals1 r
  cases rx
  have hs := okD_showable d ho
  have hz : d.shown.length ≤ sizeLine := by
    have := shown_wt d ho
    have : sizeLine = 16777216 := rfl
    omega
  have hu : X.A.units + (d.depth + 3) < cLine := by have := hr.un; omega
  obtain ⟨as, rd, na⟩ := g1.reads S I rfl
  exact str_of_reads (hsz := hz) rd hs (fun _ => na) hgd hu (fun _ _ e => e) fun h' u tk hk => ⟨.str _, H, I.kept (t' := tk) hk, ⟨_, rfl⟩, q⟩
/-- ValueError(e), e a text -/
theorem we_verrE {e : Expr} {pp pos : Pos} (hg : Gl X "ValueError") (hm : X.mg "ValueError" = none) (h : We X e σ H fun v H1 => (∃ s, v = .str s) ∧ ∀ a H', H1 a = none → Kp [] H1 H' → H' a = some (VO a) → Q (.ref a) H')
    (he : starEach [e] X.env = (false, eval e X.env) :: starEach [] X.env := by rfl) : We X (.Call (.Name "ValueError" pp) [e] [] pos) σ H Q := by
  refine ⟨fun pins s I => ?_⟩
  refine wpAny_Call_Name_kw (ld_blt I hg hm L2.boot_ValueError ?_)
  refine PyProof.Rows.callWith_type1 (thn ((pa_cons We.pe pa_nil he).run pos pins s σ H (fun vs H1 => (∃ s, vs = [V.str s]) ∧ ∀ a H', H1 a = none → Kp [] H1 H' → H' a = some (VO a) → Q (.ref a) H') I ?_) fun us s1 hh => ?_) he rfl
  · refine ⟨fun pins s I => thn (h.run pins s I) fun u s1 ⟨v, H1, I1, r1, ⟨x, ex⟩, q⟩ => ⟨v, H1, I1, r1, ⟨x, ?_⟩, q⟩⟩
    rw [ex]
  obtain ⟨vs, H1, I1, r1, ⟨x, ev⟩, q⟩ := hh
  subst ev
  refine PyProof.Rows.call_exc excClass_ValueError (fun h' a mk => ?_) (by rw [← r1.length]; exact Nat.le_trans (show [V.str x].length ≤ 1 from Nat.le_refl 1) (by decide))
  obtain ⟨ob, t0, ha', hcls, hd⟩ := mk.there
  have nn := I1.hok.gone mk.new
  exact ⟨.ref a, upd H1 a (VO a), I1.laidN (t' := s1.toks) mk.keeps mk.new nn (vo_ok ha' hcls), rfl, q a _ nn (.new nn) upd_same⟩
end
section
variable {X : Cx} {elt tg : Expr} {scope : Scope} {vs : List Nat} {σ : L2.St} {R : VK} {q : Addr} {H : Hp} {α β : Type} {enc : α → V} {enc2 : β → V}
/-- [elt for x in xs], values of any kind -/
theorem lcd_mapE {xs : List α} (g : α → β) (hS : SqL X.K H q (xs.map enc)) (hl : xs.length ≤ 10000)
    (he : ∀ x ∈ xs, ∀ H1, Kp [] H H1 → Bl X scope fun Z => Wg Z tg (enc x) (wipe σ vs) H1 fun σ2 H2 => wipe σ2 vs = wipe σ vs ∧ Bl X scope fun Z => We Z elt σ2 H2 fun y H3 => y = enc2 (g x) ∧ Kp [] H1 H3)
    (hd : ∀ Dl H', H Dl = none → Kp [] H H' → H' Dl = some (.lst ((xs.map g).map enc2)) → R (.ref Dl) H') :
    LcD X elt tg [] scope vs σ R (xs.map enc).length (fun H => SqL X.K H q (xs.map enc)) (YAt (xs.map enc)) H := by
  intro Dl H1 nD kD hD
  refine ⟨fun i H' => Kp [] H H' ∧ H' Dl = some (.lst (((xs.take i).map g).map enc2)), ⟨kD, hD⟩, fun i H' _ h => Kp.sqK hS h.1, ?_, fun H2 ⟨k2, hD2⟩ => hd Dl H2 nD k2 (by rw [List.length_map, List.take_length] at hD2; exact hD2)⟩
  rintro i x H2 H3 hi ⟨k2, hD2⟩ ⟨rfl, hx⟩
  rw [List.getElem?_map] at hx
  obtain ⟨v, hv, rfl⟩ := Option.map_eq_some_iff.mp hx
  intro s0 H0 C cl fp
  refine wg_mono (he v (List.mem_of_getElem? hv) _ k2 s0 H0 C cl fp) fun σ2 H4 ⟨e1, h2⟩ => ⟨e1, fun s0 H0 C cl fp => wts_nil (iteT fun s0 H0 C cl fp => we_mono (h2 s0 H0 C cl fp) fun y H5 ⟨ey, k5⟩ => ?_)⟩
  subst ey
  have et : ((xs.take (i + 1)).map g).map enc2 = ((xs.take i).map g).map enc2 ++ [enc2 (g v)] := by rw [List.take_succ, hv, List.map_append, List.map_append]; rfl
  exact appV (k5.g0 hD2) (by rw [List.length_map, List.length_map, List.length_take]; omega) fun H6 k6 hD6 => ⟨(k2.tr0 k5).trN k6 nD, by rw [hD6, et]⟩
end
theorem TgA.o {F : List Addr} {H : Hp} : ∀ os : List (Option Int), TgA F H (os.map oV) (os.map oD)
  | [] => .nil
  | none :: os => .cons .non (TgA.o os)
  | some i :: os => .cons (.int i) (TgA.o os)
theorem Tg.oV {F : List Addr} {H : Hp} {v : V} {d : PyData} {o : Option Int} (h : Tg F H v d) : d = oD o ↔ v = SL.oV o := by
  cases o with
  | none =>
    constructor
    · rintro rfl
      cases h
      rfl
    · rintro rfl
      cases h
      rfl
  | some i =>
    constructor
    · rintro rfl
      cases h
      rfl
    · rintro rfl
      cases h
      rfl
theorem TgA.oV {F : List Addr} {H : Hp} : ∀ {vs : List V} {ds : List PyData} {os : List (Option Int)}, TgA F H vs ds → (ds = os.map oD ↔ vs = os.map SL.oV)
  | _, _, [], .nil => by simp
  | _, _, _ :: _, .nil => by simp
  | _, _, [], .cons _ _ => by simp
  | _, _, o :: os, .cons h r => by
    rw [List.map_cons, List.map_cons, List.cons_eq_cons, List.cons_eq_cons, h.oV (o := o), r.oV (os := os)]
theorem okA_o {os : List (Option Int)} (h : ∀ i, some i ∈ os → Szd i) : okA (os.map oD) := okA_mem.mpr fun d hd => by
  obtain ⟨o, ho, rfl⟩ := List.mem_map.mp hd
  cases o with
  | none => exact trivial
  | some i => exact h i ho
theorem wtA_o (os : List (Option Int)) : wtA (os.map oD) = os.length := by
  induction os with
  | nil => rfl
  | cons o os ih =>
    rw [List.map_cons, wtA, ih, List.length_cons]
    cases o <;> simp only [oD, wt] <;> omega
theorem depth_o (os : List (Option Int)) : PyData.depthAll (os.map oD) = 0 := by
  induction os with
  | nil => rfl
  | cons o os ih =>
    show max (oD o).depth (PyData.depthAll (os.map oD)) = 0
    rw [ih]
    cases o <;> rfl
theorem GdA.o {F : List Addr} {H : Hp} {os : List (Option Int)} {k : Nat} (h : ∀ i, some i ∈ os → Szd i) : GdA F H (os.map SL.oV) os.length k := ⟨_, .o os, okA_o h, Nat.le_of_eq (wtA_o os), by rw [depth_o]; exact Nat.zero_le _⟩
/-! things keep off a new place -/
section
variable {F : List Addr} {H : Hp} {p : Addr}
mutual
theorem Tg.off (n : H p = none) : ∀ {v : V} {d : PyData}, Tg F H v d → Tg (p :: F) H v d
  | _, _, .non => .non
  | _, _, .bl b => .bl b
  | _, _, .int i => .int i
  | _, _, .str s => .str s
  | _, _, .lst h nf r => .lst h (fun z => (List.mem_cons.mp z).elim (fun z => by rw [z, n] at h; cases h) nf) (TgA.off n r)
  | _, _, .tup h r => .tup h (TgA.off n r)
  | _, _, .dict h nf l r => .dict h (fun z => (List.mem_cons.mp z).elim (fun z => by rw [z, n] at h; cases h) nf) l (TgA.off n r)
theorem TgA.off (n : H p = none) : ∀ {vs : List V} {ds : List PyData}, TgA F H vs ds → TgA (p :: F) H vs ds
  | _, _, .nil => .nil
  | _, _, .cons h r => .cons (Tg.off n h) (TgA.off n r)
end
theorem Gd.off {v : V} {m k : Nat} (h : Gd F H v m k) (n : H p = none) : Gd (p :: F) H v m k := by
  obtain ⟨d, h1, h2⟩ := h
  exact ⟨d, h1.off n, h2⟩
theorem GdA.off {vs : List V} {m k : Nat} (h : GdA F H vs m k) (n : H p = none) : GdA (p :: F) H vs m k := by
  obtain ⟨d, h1, h2⟩ := h
  exact ⟨d, h1.off n, h2⟩
theorem Gd.sub {G : List Addr} {v : V} {m k : Nat} (h : Gd F H v m k) (s : ∀ y ∈ G, y ∈ F) : Gd G H v m k := by
  obtain ⟨d, h1, h2⟩ := h
  exact ⟨d, h1.sub s, h2⟩
theorem GdA.rev {vs : List V} {m k : Nat} (h : GdA F H vs m k) : GdA F H vs.reverse m k := by
  obtain ⟨d, h1, h2, h3, h4⟩ := h
  refine ⟨d.reverse, h1.rev, okA_mem.mpr fun x hx => okA_mem.mp h2 x (List.mem_reverse.mp hx), by rw [wtA_rev]; exact h3, ?_⟩
  have : ∀ ds : List PyData, PyData.depthAll ds.reverse = PyData.depthAll ds := fun ds => by
    induction ds with
    | nil => rfl
    | cons x xs ih =>
      rw [List.reverse_cons, depthAll_app, ih]
      simp only [PyData.depthAll]
      omega
  rw [this]
  exact h4
end
/-! the whole numbers of a list -/
def IB (B : Int) (vs : List V) : Prop := ∀ i, V.int i ∈ vs → -B ≤ i ∧ i ≤ B
theorem IB.app {B : Int} {xs ys : List V} (h : IB B xs) (g : IB B ys) : IB B (xs ++ ys) := fun i hi => (List.mem_append.mp hi).elim (h i) (g i)
theorem IB.cut {B : Int} {xs : List V} (h : IB B xs) (lo hi : Option Int) : IB B (cutV xs lo hi) := fun i hi' => h i (by
  unfold cutV at hi'
  exact List.mem_of_mem_drop (List.mem_of_mem_take hi'))
theorem IB.rev {B : Int} {xs : List V} (h : IB B xs) : IB B xs.reverse := fun i hi => h i (List.mem_reverse.mp hi)
theorem IB.one {B : Int} {v : V} (h : ∀ i, v = .int i → -B ≤ i ∧ i ≤ B) : IB B [v] := fun i hi => h i (List.mem_singleton.mp hi).symm
theorem IB.mono {B C : Int} {xs : List V} (h : IB B xs) (hc : B ≤ C) : IB C xs := fun i hi => by have := h i hi; omega
theorem IB.nil {B : Int} : IB B [] := fun i hi => nomatch hi
end SL

/-! tuples of things: cut, turned about, joined; lists of things with a word of each -/
namespace SL
open PySem PySem.Spec PyProof.Rows L2
section
variable {prog : Program} {w : World} {A : Around} {s : Shared} {E : Value → Shared → Prop}
open HT in
/-- t[::-1], t of two -/
theorem getItem_rev2 {t sl : Addr} {x y : Value} {vl vu vs : Value} {Q : Value → Shared → Prop} (ht : IsTup s.heap t #[x, y]) (hs : s.heap.IsSliceOf sl vl vu vs) (pl : IsPart vl none) (pu : IsPart vu none) (ps : IsPart vs (some (-1)))
    (h : Q (.ref s.heap.objs.size) { s with heap := s.heap.push { cls := .type "tuple", data := .seq #[y, x] } }) : wpAny (model prog w) A (getItem (.ref t) (.ref sl)) Q E s := by
  have htake : sizeOk (.seq #[y, x]) := by
    show 2 ≤ sizeLine
    decide
  obtain ⟨os, hos, hcs, hds⟩ := id hs
  have hTs : s.TypeIs (.ref sl) "slice" := ⟨os, hos, hcs⟩
  unfold getItem
  try with_reducible refine wpAny_holding ?_
  first | refine wpAny_bind (wpAny_pure ?_) | skip
  refine wpAny_bind (wpAny_sequenceKey ht.typeIs (by decide) ?_)
  refine wpAny_bind (wpAny_callSpecial?_slot (name := Str.ofString "__getitem__") ht.typeIs PyProof.Rows.slot_tuple_getitem
    (wpAny_call_entry PyProof.Rows.slot_tuple_getitem ht.typeIs entry_tuple_getitem ?_ (args_tuple_getitem _ _)))
  show wpAny _ _ (Builtin.Tuple.tupleItemsOf (.ref t) >>= _) _ _ s
  refine wpAny_bind (tupleItemsOf_ ht ?_)
  refine wpAny_bind (wpAny_typeOf hTs ?_)
  rw [if_pos (by decide)]
  have key : ∀ {Q : Int × Int × Nat → Shared → Prop}, Q ((1 : Int), -1, 2) s → wpAny (model prog w) A.in1 (Builtin.Slice.sliceApplied (.ref sl) (pure ((2 : Nat) : Int))) Q E s := fun {Q} h => by
    unfold Builtin.Slice.sliceApplied Builtin.Slice.sliceFields
    refine wpAny_bind (wpAny_bind (wpAny_field hos hds (x := vl) rfl (wpAny_bind (wpAny_field hos hds (x := vu) rfl (wpAny_bind (wpAny_field hos hds (x := vs) rfl (wpAny_pure ?_)))))))
    refine wpAny_bind (slicePart_ ps ?_)
    show wpAny _ _ (if ((-1 : Int) == 0) = true then _ else _) _ _ s
    rw [if_neg (by decide)]
    refine wpAny_bind (slicePart_ pl (wpAny_bind (slicePart_ pu (wpAny_bind (wpAny_pure ?_)))))
    exact wpAny_pure h
  refine wpAny_bind (key ?_)
  show wpAny _ _ (if ((1 : Int) == 0 && (-1 : Int) == 1 && (2 : Nat) == 2) = true then _ else _) _ _ s
  rw [if_neg (by decide)]
  show wpAny _ _ (Builtin.Tuple.tupleExact #[y, x] >>= _) _ _ s
  first
    | exact wpAny_bind (m := Builtin.Tuple.tupleExact _) (wpAny_newObj_type (wpAny_pure ⟨_, rfl, wpAny_pure h⟩) htake)
    | exact wpAny_bind (m := Builtin.Tuple.tupleExact _) (wpAny_newObj_type (wpAny_bind (wpAny_pure (wpAny_pure ⟨_, rfl, wpAny_pure h⟩))) htake)
    | exact wpAny_bind (wpAny_bind (m := Builtin.Tuple.tupleExact _) (wpAny_newObj_type (wpAny_pure (wpAny_pure ⟨_, rfl, wpAny_pure h⟩)) htake))
    | exact wpAny_bind (wpAny_bind (m := Builtin.Tuple.tupleExact _) (wpAny_newObj_type (wpAny_pure ⟨_, rfl, wpAny_pure h⟩) htake))
end
section
variable {X : Cx} {σ : L2.St} {H : Hp} {Q : VK} {e : Expr} {k : Nat} {p1 p2 p3 pos : Pos} {a b : Addr} {xs ys : List V} {x y : V}
theorem we_revT2 (h : We X e σ H fun v H1 => ∃ a x y, v = .ref a ∧ SqT X.K H1 a [x, y] ∧ ∀ p H', H1 p = none → Kp [] H1 H' → H' p = some (.tup [y, x]) → Q (.ref p) H') :
    We X (.Subscript e (.Slice none none (some (.UnaryOp .USub (.Constant (.int 1) k p1) p2)) p3) pos) σ H Q := by
  refine ⟨fun pins s I => ?_⟩
  refine Subscript_ (thn (h.run pins s I) fun v s1 ⟨x, H1, I1, r1, q1⟩ => ?_)
  obtain ⟨a, x, y, ex, hx, q⟩ := q1
  subst ex
  cases r1
  have hst : PO X (some (.UnaryOp .USub (.Constant (.int 1) k p1) p2)) (tPart (tUn (rU fun i => .int (-i)) (tC (.int 1)))) := po_some (pe_un un_neg pe_int)
  refine wpAny_Slice (thn (po_none.run pins s1 σ H1 (fun o H2 => o = none ∧ H2 = H1) I1 ⟨rfl, rfl⟩) fun vl s2 ⟨l, H2, I2, pl, el, e2⟩ => ?_)
  subst el e2
  refine thn (po_none.run pins s2 σ H2 (fun o H3 => o = none ∧ H3 = H2) I2 ⟨rfl, rfl⟩) fun vu s3 ⟨u, H3, I3, pu, eu, e3⟩ => ?_
  subst eu e3
  refine thn (hst.run pins s3 σ H3 (fun o H4 => o = some (-1) ∧ H4 = H3) I3 ⟨1, rfl, -1, rfl, rfl, rfl⟩) fun vs s4 ⟨o, H4, I4, ps, eo, e4⟩ => ?_
  subst eo e4
  have I5 : Inv X pins σ H4 { s4 with heap := s4.heap.push { cls := .type "slice", data := .fields #[vl, vu, vs] } } := I4.kept (t' := s4.toks) fun b ob q => Heap.get?_push_of_some _ q
  obtain ⟨its, r, ht, hz⟩ := I5.tuple hx
  obtain ⟨u1, u2, rfl, ru1, ru2⟩ := vals2 r
  show wpAny (model X.prog X.w) X.A (subscriptTail e (.Slice none none (some (.UnaryOp .USub (.Constant (.int 1) k p1) p2)) p3) (.ref a) (.ref s4.heap.objs.size)) (EP X pins σ Q) X.xe { s4 with heap := s4.heap.push { cls := .type "slice", data := .fields #[vl, vu, vs] } }
  refine tail_any (ops := [.ref a, .ref s4.heap.objs.size]) ht.typeIs (PyProof.Rows.slot_tuple_getitem.lookup) ?_ (by with_unfolding_all rfl)
  refine getItem_rev2 ht (Heap.IsSliceOf.new _ vl vu vs) pl pu ps ?_
  have nn := I5.hok.fresh (Nat.le_refl _)
  refine ⟨.ref _, _, I5.laid (t' := s4.toks) (o := .tup [y, x]) (fun b ob q => Heap.get?_push_of_some _ q) (Nat.le_refl _) ?_, rfl, q _ _ nn (.new nn) upd_same⟩
  exact ⟨by show 2 ≤ sizeLine; decide, [u2, u1], .cons ru2 (.cons ru1 .nil), IsTup.new _ _⟩
/-- t[lo:hi], not the whole -/
theorem x_slT {lo hi : Option Int} (h1 : SqT X.K H a xs) (hw : ¬ (HT.sIx xs.length 0 lo = 0 ∧ HT.sIx xs.length xs.length hi = xs.length)) (h : ∀ p H', H p = none → Kp [] H H' → H' p = some (.tup (cutV xs lo hi)) → Q (.ref p) H') : Slw X (.ref a) lo hi H Q :=
  ⟨_, sl_tup, a, xs, rfl, h1, hw, fun p n => h p _ n (.new n) upd_same⟩
/-- t + u -/
theorem b_catT (h1 : SqT X.K H a xs) (h2 : SqT X.K H b ys) (hx : xs ≠ []) (hy : ys ≠ []) (hz : xs.length + ys.length ≤ 100000) (h : ∀ p H', H p = none → Kp [] H H' → H' p = some (.tup (xs ++ ys)) → Q (.ref p) H') : Bin X .Add (.ref a) (.ref b) H Q :=
  ⟨_, op_catT, a, b, xs, ys, rfl, rfl, h1, h2, hx, Nat.le_trans hz (by decide), fun z => absurd z hy, fun _ p n => h p _ n (.new n) upd_same⟩
end
/-! ### things with a word of each -/
def GdQ (P : PyData → Prop) (F : List Addr) (H : Hp) (v : V) (n k : Nat) : Prop := ∃ d, Tg F H v d ∧ okD d ∧ wt d ≤ n ∧ d.depth ≤ k ∧ P d
def GdP (P : PyData → Prop) (F : List Addr) (H : Hp) (vs : List V) (n k : Nat) : Prop := ∃ ds, TgA F H vs ds ∧ okA ds ∧ wtA ds ≤ n ∧ PyData.depthAll ds ≤ k ∧ ∀ d ∈ ds, P d
section
variable {P P' : PyData → Prop} {F M : List Addr} {H H' : Hp} {v : V} {vs ws : List V} {n m k j : Nat} {a : Addr}
theorem GdQ.gd (h : GdQ P F H v n k) : Gd F H v n k := by
  obtain ⟨d, h1, h2, h3, h4, _⟩ := h
  exact ⟨d, h1, h2, h3, h4⟩
theorem GdQ.k0 (h : GdQ P F H v n k) (kk : Kp [] H H') : GdQ P F H' v n k := by
  obtain ⟨d, h1, h2⟩ := h
  exact ⟨d, h1.k0 kk, h2⟩
theorem GdQ.k1 {p : Addr} (h : GdQ P F H v n k) (kk : Kp [p] H H') (hp : p ∈ F) : GdQ P F H' v n k := by
  obtain ⟨d, h1, h2⟩ := h
  exact ⟨d, h1.k1 kk hp, h2⟩
theorem GdQ.mono (h : GdQ P F H v n k) (hn : n ≤ m) (hk : k ≤ j) : GdQ P F H v m j := by
  obtain ⟨d, h1, h2, h3, h4, h5⟩ := h
  exact ⟨d, h1, h2, Nat.le_trans h3 hn, Nat.le_trans h4 hk, h5⟩
theorem GdQ.imp (h : GdQ P F H v n k) (i : ∀ d, P d → P' d) : GdQ P' F H v n k := by
  obtain ⟨d, h1, h2, h3, h4, h5⟩ := h
  exact ⟨d, h1, h2, h3, h4, i d h5⟩
theorem GdP.gd (h : GdP P F H vs n k) : GdA F H vs n k := by
  obtain ⟨d, h1, h2, h3, h4, _⟩ := h
  exact ⟨d, h1, h2, h3, h4⟩
theorem GdP.k0 (h : GdP P F H vs n k) (kk : Kp [] H H') : GdP P F H' vs n k := by
  obtain ⟨d, h1, h2⟩ := h
  exact ⟨d, h1.k0 kk, h2⟩
theorem GdP.k1 {p : Addr} (h : GdP P F H vs n k) (kk : Kp [p] H H') (hp : p ∈ F) : GdP P F H' vs n k := by
  obtain ⟨d, h1, h2⟩ := h
  exact ⟨d, h1.k1 kk hp, h2⟩
theorem GdP.mono (h : GdP P F H vs n k) (hn : n ≤ m) (hk : k ≤ j) : GdP P F H vs m j := by
  obtain ⟨d, h1, h2, h3, h4, h5⟩ := h
  exact ⟨d, h1, h2, Nat.le_trans h3 hn, Nat.le_trans h4 hk, h5⟩
theorem GdP.imp (h : GdP P F H vs n k) (i : ∀ d, P d → P' d) : GdP P' F H vs n k := by
  obtain ⟨d, h1, h2, h3, h4, h5⟩ := h
  exact ⟨d, h1, h2, h3, h4, fun x hx => i x (h5 x hx)⟩
theorem GdP.nil : GdP P F H [] 0 k := ⟨[], .nil, trivial, Nat.le_refl _, Nat.zero_le _, fun _ z => nomatch z⟩
theorem GdP.one (h : GdQ P F H v n k) : GdP P F H [v] n k := by
  obtain ⟨d, h1, h2, h3, h4, h5⟩ := h
  exact ⟨[d], .one h1, ⟨h2, trivial⟩, by simp only [wtA]; omega, by simp only [PyData.depthAll]; omega, fun x hx => by rw [List.mem_singleton.mp hx]; exact h5⟩
theorem GdP.app (h : GdP P F H vs n k) (g : GdP P F H ws m k) : GdP P F H (vs ++ ws) (n + m) k := by
  obtain ⟨d, h1, h2, h3, h4, h5⟩ := h
  obtain ⟨e, g1, g2, g3, g4, g5⟩ := g
  exact ⟨d ++ e, h1.app g1, okA_app.mpr ⟨h2, g2⟩, by rw [wtA_app]; omega, by rw [depthAll_app]; omega, fun x hx => (List.mem_append.mp hx).elim (h5 x) (g5 x)⟩
theorem GdP.take (h : GdP P F H vs n k) (i : Nat) : GdP P F H (vs.take i) n k := by
  obtain ⟨d, h1, h2, h3, h4, h5⟩ := h
  have e := List.take_append_drop i d
  refine ⟨d.take i, h1.take i, ?_, Nat.le_trans (wtA_take d i) h3, ?_, fun x hx => h5 x (List.mem_of_mem_take hx)⟩
  · rw [← e] at h2
    exact (okA_app.mp h2).1
  · rw [← e, depthAll_app] at h4
    omega
theorem GdP.drop (h : GdP P F H vs n k) (i : Nat) : GdP P F H (vs.drop i) n k := by
  obtain ⟨d, h1, h2, h3, h4, h5⟩ := h
  have e := List.take_append_drop i d
  refine ⟨d.drop i, h1.drop i, ?_, Nat.le_trans (wtA_drop d i) h3, ?_, fun x hx => h5 x (List.mem_of_mem_drop hx)⟩
  · rw [← e] at h2
    exact (okA_app.mp h2).2
  · rw [← e, depthAll_app] at h4
    omega
theorem GdP.cut (h : GdP P F H vs n k) (lo hi : Option Int) : GdP P F H (cutV vs lo hi) n k := by
  unfold cutV
  exact (h.drop _).take _
theorem GdP.rev (h : GdP P F H vs n k) : GdP P F H vs.reverse n k := by
  obtain ⟨d, h1, h2, h3, h4, h5⟩ := h
  refine ⟨d.reverse, h1.rev, okA_mem.mpr fun x hx => okA_mem.mp h2 x (List.mem_reverse.mp hx), by rw [wtA_rev]; exact h3, ?_, fun x hx => h5 x (List.mem_reverse.mp hx)⟩
  have : ∀ ds : List PyData, PyData.depthAll ds.reverse = PyData.depthAll ds := fun ds => by
    induction ds with
    | nil => rfl
    | cons x xs ih =>
      rw [List.reverse_cons, depthAll_app, ih]
      simp only [PyData.depthAll]
      omega
  rw [this]
  exact h4
theorem GdP.mem (h : GdP P F H vs n k) (e : v ∈ vs) : GdQ P F H v n k := by
  obtain ⟨ds, h1, h2, h3, h4, h5⟩ := h
  obtain ⟨i, hi⟩ := List.mem_iff_getElem?.mp e
  obtain ⟨d, e1, e2⟩ := h1.get hi
  have hm := List.mem_of_getElem? e1
  have hp := h5 d hm
  obtain ⟨s, t, rfl⟩ := List.append_of_mem hm
  refine ⟨d, e2, okA_mem.mp h2 d hm, Nat.le_trans (wtA_mem hm) h3, ?_, hp⟩
  rw [depthAll_app] at h4
  simp only [PyData.depthAll] at h4
  omega
end
/-! ### reaches among things -/
def dR : PyData → Option (Int × Int)
  | .tuple [.int x, .int y] => some (x, y)
  | _ => none
theorem dR_some {d : PyData} {p : Int × Int} : dR d = some p ↔ d = .tuple [.int p.1, .int p.2] := by
  constructor
  · intro h
    unfold dR at h
    split at h
    · cases h; rfl
    · cases h
  · rintro rfl
    rfl
/-- what a thing tells as a reach -/
inductive RI (H : Hp) : V → Option (Int × Int) → Prop where
  | ty {v : V} {t : String} (h : Ty0 [] H v t) (e : isT t = false) : RI H v none
  | len {u : Addr} {xs : List V} (h : H u = some (.tup xs)) (e : xs.length ≠ 2) : RI H (.ref u) none
  | odd {u : Addr} {x y : V} {t1 t2 : String} (h : H u = some (.tup [x, y])) (h1 : Ty0 [] H x t1) (h2 : Ty0 [] H y t2) (e : ¬ (whV x = true ∧ whV y = true)) : RI H (.ref u) none
  | some {u : Addr} {p : Int × Int} (h : H u = some (.tup [.int p.1, .int p.2])) : RI H (.ref u) (some p)
theorem RI.k0 {H H' : Hp} {v : V} {o : Option (Int × Int)} (h : RI H v o) (k : Kp [] H H') : RI H' v o := by
  cases h with
  | ty h e => exact .ty (h.k0 k) e
  | len h e => exact .len (k.gT h) e
  | odd h h1 h2 e => exact .odd (k.gT h) (h1.k0 k) (h2.k0 k) e
  | some h => exact .some (k.gT h)
theorem Tg.ri {F : List Addr} {H : Hp} {v : V} {d : PyData} (h : Tg F H v d) : RI H v (dR d) := by
  cases h with
  | non => exact .ty .non rfl
  | bl b => exact .ty (.bl b) rfl
  | int i => exact .ty (.int i) rfl
  | str s => exact .ty (.str s) rfl
  | lst h n r => exact .ty (.lst h List.not_mem_nil) rfl
  | dict h n l r => exact .ty (.dict h List.not_mem_nil) rfl
  | tup h r =>
    rename_i a vs ds
    match vs, ds, r with
    | [], [], .nil => exact .len h (by decide)
    | [v], [d], .cons g .nil =>
      have e : dR (.tuple [d]) = none := by cases d <;> rfl
      rw [e]
      exact .len h (by show 1 ≠ 2; decide)
    | [v1, v2], [d1, d2], .cons g1 (.cons g2 .nil) =>
      cases g1 with
      | int i =>
        cases g2 with
        | int j => exact .some (p := (i, j)) h
        | non => exact .odd h (.int i) .non (by simp [whV])
        | bl b => exact .odd h (.int i) (.bl b) (by simp [whV])
        | str s => exact .odd h (.int i) (.str s) (by simp [whV])
        | lst e n r => exact .odd h (.int i) (.lst e List.not_mem_nil) (by simp [whV])
        | tup e r => exact .odd h (.int i) (.tup e) (by simp [whV])
        | dict e n l r => exact .odd h (.int i) (.dict e List.not_mem_nil) (by simp [whV])
      | non => exact .odd h .non g2.ty.nil (by simp [whV])
      | bl b => exact .odd h (.bl b) g2.ty.nil (by simp [whV])
      | str s => exact .odd h (.str s) g2.ty.nil (by simp [whV])
      | lst e n r => exact .odd h (.lst e List.not_mem_nil) g2.ty.nil (by simp [whV])
      | tup e r => exact .odd h (.tup e) g2.ty.nil (by simp [whV])
      | dict e n l r => exact .odd h (.dict e List.not_mem_nil) g2.ty.nil (by simp [whV])
    | v1 :: v2 :: v3 :: vs, d1 :: d2 :: d3 :: ds, r =>
      have e : dR (.tuple (d1 :: d2 :: d3 :: ds)) = none := by cases d1 <;> cases d2 <;> rfl
      rw [e]
      exact .len h (by simp only [List.length_cons]; omega)
inductive RIA (H : Hp) : List V → List (Option (Int × Int)) → Prop where
  | nil : RIA H [] []
  | cons {v : V} {o : Option (Int × Int)} {vs : List V} {os : List (Option (Int × Int))} (h : RI H v o) (r : RIA H vs os) : RIA H (v :: vs) (o :: os)
theorem RIA.k0 {H H' : Hp} {vs : List V} {os : List (Option (Int × Int))} (h : RIA H vs os) (k : Kp [] H H') : RIA H' vs os := by
  induction h with
  | nil => exact .nil
  | cons h r ih => exact .cons (h.k0 k) ih
theorem RIA.len {H : Hp} {vs : List V} {os : List (Option (Int × Int))} (h : RIA H vs os) : vs.length = os.length := by
  induction h with
  | nil => rfl
  | cons h r ih => rw [List.length_cons, List.length_cons, ih]
theorem RIA.get {H : Hp} {vs : List V} {os : List (Option (Int × Int))} (h : RIA H vs os) : ∀ {i : Nat} {v : V}, vs[i]? = some v → ∃ o, os[i]? = some o ∧ RI H v o := by
  induction h with
  | nil => intro i v e; simp at e
  | cons h r ih =>
    intro i v e
    cases i with
    | zero => cases e; exact ⟨_, rfl, h⟩
    | succ i => exact ih (by simpa using e)
theorem RIA.app {H : Hp} {vs ws : List V} {os us : List (Option (Int × Int))} (h : RIA H vs os) (g : RIA H ws us) : RIA H (vs ++ ws) (os ++ us) := by
  induction h with
  | nil => exact g
  | cons h r ih => exact .cons h ih
theorem TgA.ria {F : List Addr} {H : Hp} : ∀ {vs : List V} {ds : List PyData}, TgA F H vs ds → RIA H vs (ds.map dR)
  | _, _, .nil => .nil
  | _, _, .cons h r => .cons h.ri r.ria
end SL

/-! finite sums, leasts of stretches, reaches: plain -/
namespace SL

def sm : Nat → (Nat → Int) → Int
  | 0, _ => 0
  | n + 1, f => sm n f + f n
theorem sm_congr {f g : Nat → Int} : ∀ {n : Nat}, (∀ i, i < n → f i = g i) → sm n f = sm n g
  | 0, _ => rfl
  | n + 1, h => by
    show sm n f + f n = sm n g + g n
    rw [sm_congr (n := n) (fun i hi => h i (by omega)), h n (by omega)]
theorem sm_add (f g : Nat → Int) : ∀ n : Nat, sm n (fun i => f i + g i) = sm n f + sm n g
  | 0 => rfl
  | n + 1 => by
    show sm n (fun i => f i + g i) + (f n + g n) = (sm n f + f n) + (sm n g + g n)
    rw [sm_add f g n]; omega
theorem sm_sub (f g : Nat → Int) : ∀ n : Nat, sm n (fun i => f i - g i) = sm n f - sm n g
  | 0 => rfl
  | n + 1 => by
    show sm n (fun i => f i - g i) + (f n - g n) = (sm n f + f n) - (sm n g + g n)
    rw [sm_sub f g n]; omega
theorem sm_neg (f : Nat → Int) : ∀ n : Nat, sm n (fun i => - f i) = - sm n f
  | 0 => rfl
  | n + 1 => by
    show sm n (fun i => - f i) + (- f n) = - (sm n f + f n)
    rw [sm_neg f n]; omega
theorem sm_mul (c : Int) (f : Nat → Int) : ∀ n : Nat, sm n (fun i => c * f i) = c * sm n f
  | 0 => by show (0 : Int) = c * 0; rw [Int.mul_zero]
  | n + 1 => by
    show sm n (fun i => c * f i) + c * f n = c * (sm n f + f n)
    rw [sm_mul c f n, Int.mul_add]
theorem sm_zero : ∀ n : Nat, sm n (fun _ => 0) = 0
  | 0 => rfl
  | n + 1 => by
    show sm n (fun _ => 0) + 0 = 0
    rw [sm_zero n]; rfl
theorem sm_const (c : Int) : ∀ n : Nat, sm n (fun _ => c) = (n : Int) * c
  | 0 => by show (0 : Int) = ((0 : Nat) : Int) * c; simp
  | n + 1 => by
    show sm n (fun _ => c) + c = ((n + 1 : Nat) : Int) * c
    rw [sm_const c n, Int.natCast_add, Int.add_mul]; simp
theorem sm_swap (f : Nat → Nat → Int) (m : Nat) : ∀ n : Nat, sm n (fun i => sm m (fun j => f i j)) = sm m (fun j => sm n (fun i => f i j))
  | 0 => by
    show (0 : Int) = sm m (fun _ => 0)
    rw [sm_zero]
  | n + 1 => by
    show sm n (fun i => sm m (fun j => f i j)) + sm m (fun j => f n j) = sm m (fun j => sm n (fun i => f i j) + f n j)
    rw [sm_swap f m n, sm_add]
theorem sm_split (f : Nat → Int) (a : Nat) : ∀ b : Nat, sm (a + b) f = sm a f + sm b (fun i => f (a + i))
  | 0 => by show sm a f = sm a f + 0; omega
  | b + 1 => by
    show sm (a + b) f + f (a + b) = sm a f + (sm b (fun i => f (a + i)) + f (a + b))
    rw [sm_split f a b]; omega
theorem sm_one {f : Nat → Int} {n k : Nat} (hk : k < n) (h : ∀ i, i < n → i ≠ k → f i = 0) : sm n f = f k := by
  induction n with
  | zero => omega
  | succ n ih =>
    show sm n f + f n = f k
    by_cases e : k = n
    · subst e
      rw [sm_congr (g := fun _ => 0) (fun i hi => h i (by omega) (by omega)), sm_zero]; omega
    · rw [ih (by omega) (fun i hi hn => h i (by omega) hn), h n (by omega) (fun z => e z.symm)]; omega
/-- over a range -/
theorem sm_range (c : Int) {lo hi : Nat} (h : lo ≤ hi) : ∀ {n : Nat}, hi ≤ n → sm n (fun a => if lo ≤ a ∧ a < hi then c else 0) = c * ((hi : Int) - lo) := by
  intro n hn
  have e : n = lo + ((hi - lo) + (n - hi)) := by omega
  rw [e, sm_split, sm_split]
  rw [sm_congr (n := lo) (g := fun _ => 0) (fun i hi' => if_neg (by omega)), sm_zero]
  rw [sm_congr (n := hi - lo) (g := fun _ => c) (fun i hi' => if_pos (by omega)), sm_const]
  rw [sm_congr (n := n - hi) (g := fun _ => 0) (fun i hi' => if_neg (by omega)), sm_zero]
  rw [Int.mul_comm, show ((hi - lo : Nat) : Int) = (hi : Int) - lo from by omega]
  omega
theorem sm_from (g : Nat → Int) {a n : Nat} (h : a ≤ n) : sm n (fun b => if a ≤ b then g b else 0) = sm (n - a) (fun k => g (a + k)) := by
  have e : n = a + (n - a) := by omega
  rw [e, sm_split, Nat.add_sub_cancel_left, sm_congr (n := a) (g := fun _ => 0) (fun i hi' => if_neg (by omega)), sm_zero,
    sm_congr (n := n - a) (f := fun i => if a ≤ a + i then g (a + i) else 0) (g := fun k => g (a + k)) (fun i _ => if_pos (by omega))]
  omega

/-! ### leasts, greatests -/
/-- the least of f a .. f (a + k) -/
def mn (f : Nat → Int) (a : Nat) : Nat → Int
  | 0 => f a
  | k + 1 => min (mn f a k) (f (a + (k + 1)))
def mx (f : Nat → Int) (a : Nat) : Nat → Int
  | 0 => f a
  | k + 1 => max (mx f a k) (f (a + (k + 1)))
theorem mx_mn (f : Nat → Int) (a : Nat) : ∀ k, mx f a k = - mn (fun i => 0 - f i) a k
  | 0 => by show f a = -(0 - f a); omega
  | k + 1 => by
    show max (mx f a k) (f (a + (k + 1))) = - min (mn (fun i => 0 - f i) a k) (0 - f (a + (k + 1)))
    rw [mx_mn f a k]; omega
theorem mn_le (f : Nat → Int) (a : Nat) : ∀ k j, a ≤ j → j ≤ a + k → mn f a k ≤ f j
  | 0, j, h1, h2 => by
    have : j = a := by omega
    subst this; exact Int.le_refl _
  | k + 1, j, h1, h2 => by
    show min (mn f a k) (f (a + (k + 1))) ≤ f j
    by_cases e : j = a + (k + 1)
    · subst e; omega
    · have := mn_le f a k j h1 (by omega); omega
theorem mn_at (f : Nat → Int) (a : Nat) : ∀ k, ∃ j, a ≤ j ∧ j ≤ a + k ∧ f j = mn f a k
  | 0 => ⟨a, by omega, by omega, rfl⟩
  | k + 1 => by
    obtain ⟨j, h1, h2, h3⟩ := mn_at f a k
    show ∃ j, a ≤ j ∧ j ≤ a + (k + 1) ∧ f j = min (mn f a k) (f (a + (k + 1)))
    by_cases e : mn f a k ≤ f (a + (k + 1))
    · exact ⟨j, h1, by omega, by omega⟩
    · exact ⟨a + (k + 1), by omega, by omega, by omega⟩
theorem mn_is {f : Nat → Int} {a k : Nat} {v : Int} (h1 : ∀ j, a ≤ j → j ≤ a + k → v ≤ f j) (h2 : ∃ j, a ≤ j ∧ j ≤ a + k ∧ f j = v) : mn f a k = v := by
  obtain ⟨j, j1, j2, j3⟩ := h2
  obtain ⟨i, i1, i2, i3⟩ := mn_at f a k
  have := mn_le f a k j j1 j2
  have := h1 i i1 i2
  omega
theorem mn_congr {f g : Nat → Int} {a : Nat} : ∀ {k : Nat}, (∀ j, a ≤ j → j ≤ a + k → f j = g j) → mn f a k = mn g a k
  | 0, h => h a (by omega) (by omega)
  | k + 1, h => by
    show min (mn f a k) (f (a + (k + 1))) = min (mn g a k) (g (a + (k + 1)))
    rw [mn_congr (k := k) (fun j h1 h2 => h j h1 (by omega)), h (a + (k + 1)) (by omega) (by omega)]
/-- the sum of G of the least over all stretches within n places -/
def LS (G : Int → Int) (f : Nat → Int) (n : Nat) : Int := sm n (fun a => sm (n - a) (fun k => G (mn f a k)))
def GS (G : Int → Int) (f : Nat → Int) (n : Nat) : Int := sm n (fun a => sm (n - a) (fun k => G (mx f a k)))
/-- the place i is the first least one from a to b -/
structure FL (f : Nat → Int) (a b i : Nat) : Prop where
  lo : a ≤ i
  hi : i ≤ b
  ahead : ∀ j, a ≤ j → j < i → f i < f j
  behind : ∀ j, i < j → j ≤ b → f i ≤ f j
theorem FL.ex (f : Nat → Int) (a : Nat) : ∀ k, ∃ i, FL f a (a + k) i
  | 0 => ⟨a, by omega, by omega, fun j _ _ => by omega, fun j _ _ => by omega⟩
  | k + 1 => by
    obtain ⟨i, h⟩ := FL.ex f a k
    by_cases e : f i ≤ f (a + (k + 1))
    · refine ⟨i, h.lo, by have := h.hi; omega, h.ahead, fun j h1 h2 => ?_⟩
      by_cases z : j = a + (k + 1)
      · subst z; exact e
      · exact h.behind j h1 (by omega)
    · refine ⟨a + (k + 1), by omega, by omega, fun j h1 h2 => ?_, fun j _ _ => by omega⟩
      rcases Nat.lt_trichotomy j i with z | z | z
      · have := h.ahead j h1 z; omega
      · subst z; omega
      · have := h.behind j z (by omega); omega
theorem FL.un {f : Nat → Int} {a b i j : Nat} (h : FL f a b i) (g : FL f a b j) : i = j := by
  rcases Nat.lt_trichotomy i j with z | z | z
  · have := g.ahead i h.lo z; have := h.behind j z g.hi; omega
  · exact z
  · have := h.ahead j g.lo z; have := g.behind i z h.hi; omega
theorem FL.mn {f : Nat → Int} {a k i : Nat} (h : FL f a (a + k) i) : mn f a k = f i := mn_is (fun j h1 h2 => by
  rcases Nat.lt_trichotomy j i with z | z | z
  · have := h.ahead j h1 z; omega
  · subst z; omega
  · have := h.behind j z h2; omega) ⟨i, h.lo, h.hi, rfl⟩
/-- where the stretches begin and end whose least stands first at i -/
structure IsR (f : Nat → Int) (n i b e : Nat) : Prop where
  bi : b ≤ i
  ie : i < e
  en : e ≤ n
  ahead : ∀ j, b ≤ j → j < i → f i < f j
  first : b = 0 ∨ f (b - 1) ≤ f i
  behind : ∀ j, i < j → j < e → f i ≤ f j
  last : e = n ∨ f e < f i
theorem IsR.fl {f : Nat → Int} {n i lo hi a b : Nat} (h : IsR f n i lo hi) (hb : b < n) : ((lo ≤ a ∧ a < i + 1) ∧ (i ≤ b ∧ b < hi)) ↔ FL f a b i := by
  constructor
  · intro z
    exact ⟨by omega, by omega, fun j h1 h2 => h.ahead j (by omega) h2, fun j h1 h2 => h.behind j h1 (by omega)⟩
  · intro z
    have hl := z.lo
    have hh := z.hi
    refine ⟨⟨?_, by omega⟩, z.hi, ?_⟩
    · rcases h.first with q | q
      · omega
      · rcases Nat.lt_or_ge a lo with w | w
        · have := z.ahead (lo - 1) (by omega) (by have := h.bi; omega); omega
        · exact w
    · rcases h.last with q | q
      · omega
      · rcases Nat.lt_or_ge b hi with w | w
        · exact w
        · have := z.behind hi (by have := h.ie; omega) w; omega
theorem IsR.un {f : Nat → Int} {n i b e b' e' : Nat} (h : IsR f n i b e) (g : IsR f n i b' e') : b = b' ∧ e = e' := by
  have h1 := h.bi; have h2 := h.ie; have h3 := h.en; have g1 := g.bi; have g2 := g.ie; have g3 := g.en
  constructor
  · rcases Nat.lt_trichotomy b b' with z | z | z
    · have := h.ahead (b' - 1) (by omega) (by omega)
      rcases g.first with q | q <;> omega
    · exact z
    · have := g.ahead (b - 1) (by omega) (by omega)
      rcases h.first with q | q <;> omega
  · rcases Nat.lt_trichotomy e e' with z | z | z
    · have := g.behind e (by omega) z
      rcases h.last with q | q <;> omega
    · exact z
    · have := h.behind e' (by omega) z
      rcases g.last with q | q <;> omega
theorem ite_and2 (p q : Prop) [Decidable p] [Decidable q] (c : Int) : (if p ∧ q then c else 0) = (if p then (if q then c else 0) else 0) := by
  by_cases h1 : p <;> by_cases h2 : q <;> simp [h1, h2]
/-- THE LAW of sums: each number as often as it is the first least one -/
theorem sum_by_reaches (G : Int → Int) (f : Nat → Int) (n : Nat) (lo hi : Nat → Nat) (h : ∀ i, i < n → IsR f n i (lo i) (hi i)) :
    sm n (fun i => G (f i) * ((i : Int) - lo i + 1) * ((hi i : Int) - i)) = LS G f n := by
  have e1 : ∀ i, i < n → G (f i) * ((i : Int) - lo i + 1) * ((hi i : Int) - i) = sm n (fun a => sm n (fun b => if ((lo i ≤ a ∧ a < i + 1) ∧ (i ≤ b ∧ b < hi i)) then G (f i) else 0)) := by
    intro i hi'
    have R := h i hi'
    have h1 := R.bi; have h2 := R.ie; have h3 := R.en
    have s1 : ∀ a, a < n → sm n (fun b => if ((lo i ≤ a ∧ a < i + 1) ∧ (i ≤ b ∧ b < hi i)) then G (f i) else 0) = if lo i ≤ a ∧ a < i + 1 then G (f i) * ((hi i : Int) - i) else 0 := by
      intro a _
      by_cases z : lo i ≤ a ∧ a < i + 1
      · rw [if_pos z, ← sm_range (G (f i)) (lo := i) (hi := hi i) (by omega) (n := n) h3]
        exact sm_congr fun b _ => by
          by_cases w : i ≤ b ∧ b < hi i
          · rw [if_pos ⟨z, w⟩, if_pos w]
          · rw [if_neg (fun q => w q.2), if_neg w]
      · rw [if_neg z]
        refine Eq.trans ?_ (sm_zero n)
        exact sm_congr fun b _ => if_neg (fun (q : (lo i ≤ a ∧ a < i + 1) ∧ (i ≤ b ∧ b < hi i)) => z q.1)
    rw [sm_congr s1, sm_range _ (by omega) (by omega)]
    rw [Int.mul_assoc, Int.mul_assoc, Int.mul_comm ((i : Int) - lo i + 1)]
    congr 2
    omega
  rw [sm_congr e1, sm_swap]
  refine sm_congr fun a ha => ?_
  have e2 := sm_from (fun b => G (mn f a (b - a))) (Nat.le_of_lt ha)
  rw [sm_congr (n := n - a) (g := fun k => G (mn f a k)) (fun k _ => by rw [Nat.add_sub_cancel_left])] at e2
  rw [← e2, sm_swap]
  refine sm_congr fun b hb => ?_
  by_cases z : a ≤ b
  · rw [if_pos z]
    obtain ⟨i, hi'⟩ := FL.ex f a (b - a)
    rw [hi'.mn]
    rw [show a + (b - a) = b from by omega] at hi'
    have hn : i < n := by have := hi'.hi; omega
    rw [sm_one (k := i) hn (fun j hj hne => if_neg fun q => hne (((h j hj).fl hb).mp q |>.un hi'))]
    exact if_pos (((h i hn).fl hb).mpr hi')
  · rw [if_neg z]
    refine Eq.trans ?_ (sm_zero n)
    exact sm_congr fun i _ => if_neg fun (q : (lo i ≤ a ∧ a < i + 1) ∧ (i ≤ b ∧ b < hi i)) => z (by omega)
theorem GS_LS (f : Nat → Int) (n : Nat) : GS id f n = - LS id (fun i => 0 - f i) n := by
  unfold GS LS
  rw [← sm_neg]
  refine sm_congr fun a _ => ?_
  rw [← sm_neg]
  exact sm_congr fun k _ => mx_mn f a k
theorem LS_congr {G : Int → Int} {f g : Nat → Int} {n : Nat} (h : ∀ i, i < n → f i = g i) : LS G f n = LS G g n := sm_congr fun a ha => sm_congr fun k hk => by
  rw [mn_congr fun j _ h2 => h j (by omega)]
/-- the running least, greatest -/
theorem mn_run {f : Nat → Int} {i j : Nat} {l x : Int} (h0 : j = 0 → l = f i) (h1 : ∀ j', j = j' + 1 → l = mn f i j') (hx : x = f (i + j)) : (if x < l then x else l) = mn f i j := by
  cases j with
  | zero =>
    rw [h0 rfl, hx]
    show (if f i < f i then f i else f i) = f i
    rw [if_neg (by omega)]
  | succ j =>
    rw [h1 j rfl, hx]
    show (if f (i + (j + 1)) < mn f i j then f (i + (j + 1)) else mn f i j) = min (mn f i j) (f (i + (j + 1)))
    split <;> omega
theorem mx_run {f : Nat → Int} {i j : Nat} {l x : Int} (h0 : j = 0 → l = f i) (h1 : ∀ j', j = j' + 1 → l = mx f i j') (hx : x = f (i + j)) : (if x > l then x else l) = mx f i j := by
  cases j with
  | zero =>
    rw [h0 rfl, hx]
    show (if f i > f i then f i else f i) = f i
    rw [if_neg (by omega)]
  | succ j =>
    rw [h1 j rfl, hx]
    show (if f (i + (j + 1)) > mx f i j then f (i + (j + 1)) else mx f i j) = max (mx f i j) (f (i + (j + 1)))
    split <;> omega
theorem FL.more {f : Nat → Int} {a b i : Nat} (h : FL f a b i) (hle : f i ≤ f (b + 1)) : FL f a (b + 1) i := ⟨h.lo, by have := h.hi; omega, h.ahead, fun j h1 h2 => by
  by_cases z : j = b + 1
  · rw [z]; exact hle
  · exact h.behind j h1 (by omega)⟩
theorem FL.next {f : Nat → Int} {a b i : Nat} (h : FL f a b i) (hlt : f (b + 1) < f i) : FL f a (b + 1) (b + 1) := ⟨by have := h.lo; have := h.hi; omega, Nat.le_refl _, fun j h1 h2 => by
  rcases Nat.lt_trichotomy j i with z | z | z
  · have := h.ahead j h1 z; omega
  · rw [z]; exact hlt
  · have := h.behind j z (by omega); omega, fun j h1 h2 => by omega⟩
theorem FL.one (f : Nat → Int) (a : Nat) : FL f a a a := ⟨Nat.le_refl _, Nat.le_refl _, fun j h1 h2 => by omega, fun j h1 h2 => by omega⟩
/-- a search for the first least place, turn by turn -/
theorem fl_run {f : Nat → Int} {a j i i' : Nat} {l l' g g' : Int} (h0 : j = 0 → i = a ∧ l = f a ∧ g = f a) (h1 : ∀ j', j = j' + 1 → FL f a (a + j') i ∧ l = f i ∧ g = mx f a j')
    (q1 : f (a + j) < l → i' = a + j ∧ l' = f (a + j)) (q2 : ¬ f (a + j) < l → i' = i ∧ l' = l) (q3 : g < f (a + j) → g' = f (a + j)) (q4 : ¬ g < f (a + j) → g' = g) : FL f a (a + j) i' ∧ l' = f i' ∧ g' = mx f a j := by
  cases j with
  | zero =>
    obtain ⟨e1, e2, e3⟩ := h0 rfl
    rw [Nat.add_zero] at *
    obtain ⟨e4, e5⟩ := q2 (by omega)
    have e6 := q4 (by omega)
    rw [e4, e1]
    exact ⟨FL.one f a, by rw [e5, e2], by rw [e6, e3]; rfl⟩
  | succ j =>
    obtain ⟨e1, e2, e3⟩ := h1 j rfl
    have em : mx f a (j + 1) = max (mx f a j) (f (a + (j + 1))) := rfl
    have e7 : g' = mx f a (j + 1) := by
      rw [em]
      by_cases z : g < f (a + (j + 1))
      · rw [q3 z]; omega
      · rw [q4 z]; omega
    refine ⟨?_, ?_, e7⟩
    · by_cases z : f (a + (j + 1)) < l
      · rw [(q1 z).1]; exact e1.next (by rw [← e2]; exact z)
      · rw [(q2 z).1]
        have z' : ¬ f (a + j + 1) < l := z
        exact e1.more (by omega)
    · by_cases z : f (a + (j + 1)) < l
      · rw [(q1 z).1, (q1 z).2]
      · rw [(q2 z).1, (q2 z).2, e2]
end SL

/-! the open places of reaches: plain -/
namespace SL
structure IsLo (f : Nat → Int) (i b : Nat) : Prop where
  bi : b ≤ i
  ahead : ∀ j, b ≤ j → j < i → f i < f j
  first : b = 0 ∨ f (b - 1) ≤ f i
structure IsHi (f : Nat → Int) (n i e : Nat) : Prop where
  ie : i < e
  en : e ≤ n
  behind : ∀ j, i < j → j < e → f i ≤ f j
  last : e = n ∨ f e < f i
theorem isR_of {f : Nat → Int} {n i b e : Nat} (h : IsLo f i b) (g : IsHi f n i e) : IsR f n i b e := ⟨h.bi, g.ie, g.en, h.ahead, h.first, g.behind, g.last⟩
def nx : List Nat → Nat
  | [] => 0
  | s :: _ => s + 1
def Chn (f : Nat → Int) : List Nat → Prop
  | [] => True
  | s :: S => IsLo f s (nx S) ∧ Chn f S
theorem Chn.below {f : Nat → Int} : ∀ {S : List Nat}, Chn f S → ∀ i ∈ S, i < nx S
  | s :: S, h, i, hi => by
    rcases List.mem_cons.mp hi with e | e
    · subst e; exact Nat.lt_succ_self _
    · have h1 := Chn.below h.2 i e
      have h2 := h.1.bi
      show i < s + 1
      omega
theorem Chn.le {f : Nat → Int} : ∀ {S : List Nat} {s : Nat}, Chn f (s :: S) → ∀ i ∈ s :: S, f i ≤ f s
  | [], s, h, i, hi => by
    rw [List.mem_singleton.mp hi]; exact Int.le_refl _
  | t :: S, s, h, i, hi => by
    rcases List.mem_cons.mp hi with e | e
    · rw [e]; exact Int.le_refl _
    · have h1 := Chn.le h.2 i e
      have h2 : (t + 1 = 0) ∨ f (t + 1 - 1) ≤ f s := h.1.first
      rcases h2 with h2 | h2
      · omega
      · rw [Nat.add_sub_cancel] at h2; omega
/-- at the place p, some open places closed -/
structure RW (f : Nat → Int) (n p : Nat) (S : List Nat) (es : List Int) : Prop where
  ch : Chn f S
  np : nx S ≤ p
  gap : ∀ j, nx S ≤ j → j < p → f p < f j
  len : es.length = n
  out : ∀ i, i < p → i ∉ S → ∃ e : Nat, es[i]? = some (e : Int) ∧ IsHi f n i e
  top : ∀ i, p ≤ i → i < n → es[i]? = some (n : Int)
  inn : ∀ i ∈ S, es[i]? = some (n : Int) ∧ ∀ j, i < j → j < p → f i ≤ f j
/-- ahead of the place p -/
structure RO (f : Nat → Int) (n p : Nat) (S : List Nat) (es : List Int) : Prop where
  ch : Chn f S
  np : nx S = p
  len : es.length = n
  out : ∀ i, i < p → i ∉ S → ∃ e : Nat, es[i]? = some (e : Int) ∧ IsHi f n i e
  top : ∀ i, p ≤ i → i < n → es[i]? = some (n : Int)
  inn : ∀ i ∈ S, es[i]? = some (n : Int) ∧ ∀ j, i < j → j < p → f i ≤ f j
theorem RO.start {f : Nat → Int} {n : Nat} {es : List Int} (h : es = List.replicate n (n : Int)) : RO f n 0 [] es :=
  ⟨trivial, rfl, by rw [h, List.length_replicate], fun i hi => absurd hi (Nat.not_lt_zero i), fun i _ hi => by rw [h, List.getElem?_replicate, if_pos hi], fun i hi => by cases hi⟩
theorem RO.rw {f : Nat → Int} {n p : Nat} {S : List Nat} {es : List Int} (h : RO f n p S es) : RW f n p S es := ⟨h.ch, Nat.le_of_eq h.np, fun j h1 h2 => absurd h1 (by have := h.np; omega), h.len, h.out, h.top, h.inn⟩
theorem RW.pop {f : Nat → Int} {n p s : Nat} {S : List Nat} {es : List Int} (h : RW f n p (s :: S) es) (hp : p < n) (hv : f p < f s) : RW f n p S (es.set s (p : Int)) := by
  have hs : s < p := h.np
  have hb := Chn.below h.ch.2
  have h1 := h.ch.1.bi
  refine ⟨h.ch.2, by omega, fun j j1 j2 => ?_, by rw [List.length_set]; exact h.len, fun i i1 i2 => ?_, fun i i1 i2 => ?_, fun i hi => ?_⟩
  · rcases Nat.lt_trichotomy j s with z | z | z
    · have := h.ch.1.ahead j j1 z; omega
    · rw [z]; exact hv
    · exact h.gap j z j2
  · by_cases e : i = s
    · subst e
      exact ⟨p, by rw [List.getElem?_set_self (by have := h.len; omega)], hs, Nat.le_of_lt hp, (h.inn i List.mem_cons_self).2, .inr hv⟩
    · rw [List.getElem?_set_ne (fun z => e z.symm)]
      exact h.out i i1 fun z => by
        rcases List.mem_cons.mp z with z | z
        · exact e z
        · exact i2 z
  · rw [List.getElem?_set_ne (by omega)]
    exact h.top i i1 i2
  · have := hb i hi
    rw [List.getElem?_set_ne (by omega)]
    exact h.inn i (List.mem_cons_of_mem _ hi)
theorem RW.done {f : Nat → Int} {n p : Nat} {S : List Nat} {es : List Int} (h : RW f n p S es) (hp : p < n) (hq : ∀ s ∈ S.head?, f s ≤ f p) : IsLo f p (nx S) ∧ RO f n (p + 1) (p :: S) es := by
  have hle : ∀ i ∈ S, f i ≤ f p := fun i hi => by
    cases S with
    | nil => cases hi
    | cons s S =>
      have h1 := Chn.le h.ch i hi
      have h2 := hq s rfl
      omega
  have hlo : IsLo f p (nx S) := ⟨h.np, h.gap, by
    cases S with
    | nil => exact .inl rfl
    | cons s S =>
      refine .inr ?_
      show f (s + 1 - 1) ≤ f p
      rw [Nat.add_sub_cancel]
      exact hle s List.mem_cons_self⟩
  refine ⟨hlo, ⟨hlo, h.ch⟩, rfl, h.len, fun i i1 i2 => ?_, fun i i1 i2 => h.top i (by omega) i2, fun i hi => ?_⟩
  · have hne : i ≠ p := fun z => i2 (by rw [z]; exact List.mem_cons_self)
    exact h.out i (by omega) fun z => i2 (List.mem_cons_of_mem _ z)
  · rcases List.mem_cons.mp hi with e | e
    · rw [e]
      exact ⟨h.top p (Nat.le_refl _) hp, fun j j1 j2 => by omega⟩
    · refine ⟨(h.inn i e).1, fun j j1 j2 => ?_⟩
      by_cases z : j = p
      · rw [z]; exact hle i e
      · exact (h.inn i e).2 j j1 (by omega)
theorem RO.fin {f : Nat → Int} {n : Nat} {S : List Nat} {es : List Int} (h : RO f n n S es) (i : Nat) (hi : i < n) : ∃ e : Nat, es[i]? = some (e : Int) ∧ IsHi f n i e := by
  by_cases hs : i ∈ S
  · exact ⟨n, (h.inn i hs).1, hi, Nat.le_refl _, (h.inn i hs).2, .inl rfl⟩
  · exact h.out i hi hs
theorem RW.pos {f : Nat → Int} {n p s : Nat} {S : List Nat} {es : List Int} (h : RW f n p (s :: S) es) : s < p := h.np
/-- begins and ends told as lists -/
structure Rs (f : Nat → Int) (n : Nat) (bs es : List Int) : Prop where
  lb : bs.length = n
  le : es.length = n
  r : ∀ i, i < n → ∃ b e : Nat, bs[i]? = some (b : Int) ∧ es[i]? = some (e : Int) ∧ IsR f n i b e
/-- open places as a list of whole numbers, the last one at its end -/
def toI (S : List Nat) : List Int := S.reverse.map Int.ofNat
theorem toI_cons (s : Nat) (S : List Nat) : toI (s :: S) = toI S ++ [(s : Int)] := by simp [toI]
theorem toI_last (s : Nat) (S : List Nat) : (toI (s :: S)).getLast? = some (s : Int) := by rw [toI_cons]; simp
theorem toI_drop (s : Nat) (S : List Nat) : (toI (s :: S)).dropLast = toI S := by rw [toI_cons]; simp
theorem toI_ne (s : Nat) (S : List Nat) : toI (s :: S) ≠ [] := by rw [toI_cons]; simp
theorem toI_len (S : List Nat) : (toI S).length = S.length := by simp [toI]
theorem Chn.len {f : Nat → Int} : ∀ {S : List Nat}, Chn f S → S.length ≤ nx S
  | [], _ => Nat.le_refl _
  | s :: S, h => by
    have h1 := Chn.len h.2
    have h2 := h.1.bi
    show S.length + 1 ≤ s + 1
    omega
/-- the number at a place -/
def gd (ns : List Int) : Nat → Int := fun i => ns.getD i 0
theorem gd_some {ns : List Int} {i : Nat} {x : Int} (h : ns[i]? = some x) : gd ns i = x := by
  unfold gd
  rw [List.getD_eq_getElem?_getD, h]; rfl
theorem gd_get {ns : List Int} {i : Nat} (h : i < ns.length) : ns[i]? = some (gd ns i) := by
  unfold gd
  rw [List.getD_eq_getElem?_getD, List.getElem?_eq_getElem h]; rfl
theorem Rs.fn {f : Nat → Int} {n : Nat} {bs es : List Int} (h : Rs f n bs es) : ∃ lo hi : Nat → Nat, ∀ i, i < n → bs[i]? = some (lo i : Int) ∧ es[i]? = some (hi i : Int) ∧ IsR f n i (lo i) (hi i) := by
  refine ⟨fun i => (bs.getD i 0).toNat, fun i => (es.getD i 0).toNat, fun i hi => ?_⟩
  obtain ⟨b, e, h1, h2, h3⟩ := h.r i hi
  have e1 : (bs.getD i 0).toNat = b := by rw [List.getD_eq_getElem?_getD, h1]; rfl
  have e2 : (es.getD i 0).toNat = e := by rw [List.getD_eq_getElem?_getD, h2]; rfl
  dsimp only
  rw [e1, e2]
  exact ⟨h1, h2, h3⟩
theorem gd_drop {ns : List Int} {i j : Nat} {x : Int} (h : (ns.drop i)[j]? = some x) : x = gd ns (i + j) := by
  rw [List.getElem?_drop] at h
  exact (gd_some h).symm
theorem gd_map (g : Int → Int) {ns : List Int} {i : Nat} (h : i < ns.length) : gd (ns.map g) i = g (gd ns i) := gd_some (by rw [List.getElem?_map, gd_get h]; rfl)
/-- reaches told as a list of pairs -/
structure Rp (f : Nat → Int) (n : Nat) (ps : List (Int × Int)) : Prop where
  len : ps.length = n
  r : ∀ i, i < n → ∃ b e : Nat, ps[i]? = some ((b : Int), (e : Int)) ∧ IsR f n i b e
theorem Rs.rp {f : Nat → Int} {n : Nat} {bs es : List Int} (h : Rs f n bs es) : Rp f n (bs.zip es) := by
  refine ⟨by rw [List.length_zip, h.lb, h.le]; exact Nat.min_self n, fun i hi => ?_⟩
  obtain ⟨b, e, h1, h2, h3⟩ := h.r i hi
  exact ⟨b, e, by rw [List.getElem?_zip_eq_some]; exact ⟨h1, h2⟩, h3⟩
theorem Rp.fn {f : Nat → Int} {n : Nat} {ps : List (Int × Int)} (h : Rp f n ps) : ∃ lo hi : Nat → Nat, ∀ i, i < n → ps[i]? = some ((lo i : Int), (hi i : Int)) ∧ IsR f n i (lo i) (hi i) := by
  refine ⟨fun i => (ps.getD i (0, 0)).1.toNat, fun i => (ps.getD i (0, 0)).2.toNat, fun i hi => ?_⟩
  obtain ⟨b, e, h1, h3⟩ := h.r i hi
  dsimp only
  rw [List.getD_eq_getElem?_getD, h1]
  exact ⟨rfl, h3⟩
theorem Rp.un {f : Nat → Int} {n : Nat} {ps qs : List (Int × Int)} (h : Rp f n ps) (g : Rp f n qs) : ps = qs := by
  apply List.ext_getElem?
  intro i
  by_cases hi : i < n
  · obtain ⟨b, e, h1, h2⟩ := h.r i hi
    obtain ⟨b', e', g1, g2⟩ := g.r i hi
    obtain ⟨z1, z2⟩ := h2.un g2
    rw [h1, g1, z1, z2]
  · rw [List.getElem?_eq_none (by rw [h.len]; omega), List.getElem?_eq_none (by rw [g.len]; omega)]
theorem Rp.bd {f : Nat → Int} {n : Nat} {ps : List (Int × Int)} (h : Rp f n ps) : ∀ x ∈ ps, (0 ≤ x.1 ∧ x.1 ≤ n) ∧ (0 ≤ x.2 ∧ x.2 ≤ n) := fun x hx => by
  obtain ⟨i, hi⟩ := List.mem_iff_getElem?.mp hx
  have hl := (List.getElem?_eq_some_iff.mp hi).1
  obtain ⟨b, e, h1, h2⟩ := h.r i (by rw [← h.len]; exact hl)
  rw [hi] at h1
  cases h1
  have := h2.bi; have := h2.ie; have := h2.en
  dsimp only
  omega
def isRb (ns : List Int) (i b e : Nat) : Bool := decide (b ≤ i ∧ i < e ∧ e ≤ ns.length ∧ (∀ j, j < i → b ≤ j → gd ns i < gd ns j) ∧ (b = 0 ∨ gd ns (b - 1) ≤ gd ns i) ∧ (∀ j, j < e → i < j → gd ns i ≤ gd ns j) ∧ (e = ns.length ∨ gd ns e < gd ns i))
theorem isRb_ok {ns : List Int} {i b e : Nat} (h : isRb ns i b e = true) : IsR (gd ns) ns.length i b e := by
  obtain ⟨h1, h2, h3, h4, h5, h6, h7⟩ := of_decide_eq_true h
  exact ⟨h1, h2, h3, fun j a b => h4 j b a, h5, fun j a b => h6 j b a, h7⟩
/-- the reaches of a written row -/
theorem Rp.lit {ns : List Int} {ps : List (Int × Int)} (bs : List (Nat × Nat)) (h : Rp (gd ns) ns.length ps) (hl : bs.length = ns.length) (hc : ∀ i, i < ns.length → isRb ns i (bs.getD i (0, 0)).1 (bs.getD i (0, 0)).2 = true) : ps = bs.map fun p => ((p.1 : Int), (p.2 : Int)) := by
  refine h.un ⟨by rw [List.length_map, hl], fun i hi => ⟨_, _, ?_, isRb_ok (hc i hi)⟩⟩
  rw [List.getElem?_map, List.getD_eq_getElem?_getD, List.getElem?_eq_getElem (by omega)]
  rfl
theorem IsR.congr {f g : Nat → Int} {n i b e : Nat} (h : IsR f n i b e) (hg : ∀ j, j < n → f j = g j) : IsR g n i b e := by
  have h1 := h.bi; have h2 := h.ie; have h3 := h.en
  have ei := hg i (by omega)
  refine ⟨h1, h2, h3, fun j a b => ?_, ?_, fun j a b => ?_, ?_⟩
  · have := h.ahead j a b; have := hg j (by omega); omega
  · rcases h.first with z | z
    · exact .inl z
    · have := hg (b - 1) (by omega); exact .inr (by omega)
  · have := h.behind j a b; have := hg j (by omega); omega
  · rcases h.last with z | z
    · exact .inl z
    · by_cases en : e = n
      · exact .inl en
      · have := hg e (by omega); exact .inr (by omega)
theorem Rp.congr {f g : Nat → Int} {n : Nat} {ps : List (Int × Int)} (h : Rp f n ps) (hg : ∀ j, j < n → f j = g j) : Rp g n ps := ⟨h.len, fun i hi => let ⟨b, e, h1, h2⟩ := h.r i hi; ⟨b, e, h1, h2.congr hg⟩⟩
/-- the numbers with their signs exchanged -/
def gn (ns : List Int) : Nat → Int := fun i => 0 - gd ns i
theorem gn_map {ns : List Int} {i : Nat} (h : i < ns.length) : gd (ns.map fun x => 0 - x) i = gn ns i := gd_map _ h
/-- the least, the greatest number of a stretch -/
def lsI (ns : List Int) (b e : Int) : Int := mn (gd ns) b.toNat (e.toNat - b.toNat - 1)
def gsI (ns : List Int) (b e : Int) : Int := mx (gd ns) b.toNat (e.toNat - b.toNat - 1)
theorem mx_is {f : Nat → Int} {a k : Nat} {v : Int} (h1 : ∀ j, a ≤ j → j ≤ a + k → f j ≤ v) (h2 : ∃ j, a ≤ j ∧ j ≤ a + k ∧ f j = v) : mx f a k = v := by
  rw [mx_mn, mn_is (v := 0 - v)]
  · omega
  · intro j a b; have := h1 j a b; omega
  · obtain ⟨j, a, b, c⟩ := h2; exact ⟨j, a, b, by omega⟩
theorem mem_cut {ns : List Int} {b e : Nat} {x : Int} (h1 : b < e) (h2 : e ≤ ns.length) : x ∈ (ns.drop b).take (e - b) ↔ ∃ j, b ≤ j ∧ j ≤ b + (e - b - 1) ∧ gd ns j = x := by
  constructor
  · intro h
    obtain ⟨j, hj⟩ := List.mem_iff_getElem?.mp h
    rw [List.getElem?_take] at hj
    split at hj
    · rw [List.getElem?_drop] at hj
      exact ⟨b + j, by omega, by omega, gd_some hj⟩
    · cases hj
  · rintro ⟨j, j1, j2, rfl⟩
    refine List.mem_iff_getElem?.mpr ⟨j - b, ?_⟩
    rw [List.getElem?_take, if_pos (by omega), List.getElem?_drop, show b + (j - b) = j from by omega]
    exact gd_get (by omega)
theorem min_cut {ns : List Int} {b e m : Int} (h0 : 0 ≤ b) (h1 : b < e) (h2 : e ≤ ns.length) (hm : m ∈ (ns.drop b.toNat).take (e.toNat - b.toNat)) (hle : ∀ y ∈ (ns.drop b.toNat).take (e.toNat - b.toNat), m ≤ y) : m = lsI ns b e :=
  (mn_is (fun j j1 j2 => hle _ ((mem_cut (by omega) (by omega)).mpr ⟨j, j1, j2, rfl⟩)) ((mem_cut (by omega) (by omega)).mp hm)).symm
theorem max_cut {ns : List Int} {b e m : Int} (h0 : 0 ≤ b) (h1 : b < e) (h2 : e ≤ ns.length) (hm : m ∈ (ns.drop b.toNat).take (e.toNat - b.toNat)) (hle : ∀ y ∈ (ns.drop b.toNat).take (e.toNat - b.toNat), y ≤ m) : m = gsI ns b e :=
  (mx_is (fun j j1 j2 => hle _ ((mem_cut (by omega) (by omega)).mpr ⟨j, j1, j2, rfl⟩)) ((mem_cut (by omega) (by omega)).mp hm)).symm
theorem len_cut {ns : List Int} {b e : Int} (h0 : 0 ≤ b) (h1 : b < e) (h2 : e ≤ ns.length) : ((ns.drop b.toNat).take (e.toNat - b.toNat)).length = e.toNat - b.toNat := by
  rw [List.length_take, List.length_drop]
  omega
end SL

/-! stretches: plain -/
namespace SL
theorem mn_map {g : Int → Int} (hg : ∀ x y, x ≤ y → g x ≤ g y) (f : Nat → Int) (a k : Nat) : mn (fun i => g (f i)) a k = g (mn f a k) := by
  obtain ⟨j, h1, h2, h3⟩ := mn_at f a k
  exact mn_is (fun i i1 i2 => hg _ _ (mn_le f a k i i1 i2)) ⟨j, h1, h2, by rw [h3]⟩
theorem mx_le (f : Nat → Int) (a k j : Nat) (h1 : a ≤ j) (h2 : j ≤ a + k) : f j ≤ mx f a k := by
  have h := mn_le (fun i => 0 - f i) a k j h1 h2
  rw [mx_mn]
  omega
theorem mx_at (f : Nat → Int) (a k : Nat) : ∃ j, a ≤ j ∧ j ≤ a + k ∧ f j = mx f a k := by
  obtain ⟨j, h1, h2, h3⟩ := mn_at (fun i => 0 - f i) a k
  exact ⟨j, h1, h2, by rw [mx_mn]; omega⟩
theorem mx_map {g : Int → Int} (hg : ∀ x y, x ≤ y → g x ≤ g y) (f : Nat → Int) (a k : Nat) : mx (fun i => g (f i)) a k = g (mx f a k) := by
  obtain ⟨j, h1, h2, h3⟩ := mx_at f a k
  exact mx_is (fun i i1 i2 => hg _ _ (mx_le f a k i i1 i2)) ⟨j, h1, h2, by rw [h3]⟩
theorem mx_congr {f g : Nat → Int} {a k : Nat} (h : ∀ j, a ≤ j → j ≤ a + k → f j = g j) : mx f a k = mx g a k := by
  rw [mx_mn, mx_mn, mn_congr (f := fun i => 0 - f i) (g := fun i => 0 - g i) fun j a b => by rw [h j a b]]
section
variable {ns : List Int} {b e : Int}
theorem lsI_map {g : Int → Int} (hg : ∀ x y, x ≤ y → g x ≤ g y) (h0 : 0 ≤ b ∧ b < e ∧ e ≤ ns.length) : lsI (ns.map g) b e = g (lsI ns b e) := by
  unfold lsI
  rw [mn_congr (g := fun i => g (gd ns i)) fun j a b => gd_map g (by omega), mn_map hg]
theorem gsI_map {g : Int → Int} (hg : ∀ x y, x ≤ y → g x ≤ g y) (h0 : 0 ≤ b ∧ b < e ∧ e ≤ ns.length) : gsI (ns.map g) b e = g (gsI ns b e) := by
  unfold gsI
  rw [mx_congr (g := fun i => g (gd ns i)) fun j a b => gd_map g (by omega), mx_map hg]
theorem gsI_neg (h0 : 0 ≤ b ∧ b < e ∧ e ≤ ns.length) : gsI (ns.map fun x => 0 - x) b e = 0 - lsI ns b e := by
  unfold gsI lsI
  rw [mx_mn, mn_congr (g := gd ns) fun j a b => by rw [gd_map (fun x => 0 - x) (by omega)]; omega]
  omega
theorem lsI_neg (h0 : 0 ≤ b ∧ b < e ∧ e ≤ ns.length) : lsI (ns.map fun x => 0 - x) b e = 0 - gsI ns b e := by
  unfold gsI lsI
  rw [mx_mn, mn_congr (g := fun i => 0 - gd ns i) fun j a b => gd_map (fun x => 0 - x) (by omega)]
  omega
theorem gd_rev {i : Nat} (h : i < ns.length) : gd ns.reverse i = gd ns (ns.length - 1 - i) := gd_some (by rw [List.getElem?_reverse h]; exact gd_get (by omega))
theorem lsI_rev (h0 : 0 ≤ b ∧ b < e ∧ e ≤ ns.length) : lsI ns.reverse (ns.length - e) (ns.length - b) = lsI ns b e := by
  unfold lsI
  obtain ⟨j, h1, h2, h3⟩ := mn_at (gd ns) b.toNat (e.toNat - b.toNat - 1)
  refine mn_is (fun i i1 i2 => ?_) ⟨ns.length - 1 - j, by omega, by omega, ?_⟩
  · rw [gd_rev (by omega)]
    exact mn_le _ _ _ _ (by omega) (by omega)
  · rw [gd_rev (by omega), ← h3]
    congr 1
    omega
theorem gsI_rev (h0 : 0 ≤ b ∧ b < e ∧ e ≤ ns.length) : gsI ns.reverse (ns.length - e) (ns.length - b) = gsI ns b e := by
  unfold gsI
  obtain ⟨j, h1, h2, h3⟩ := mx_at (gd ns) b.toNat (e.toNat - b.toNat - 1)
  refine mx_is (fun i i1 i2 => ?_) ⟨ns.length - 1 - j, by omega, by omega, ?_⟩
  · rw [gd_rev (by omega)]
    exact mx_le _ _ _ _ (by omega) (by omega)
  · rw [gd_rev (by omega), ← h3]
    congr 1
    omega
theorem ls_le_gs : lsI ns b e ≤ gsI ns b e := Int.le_trans (mn_le _ _ _ b.toNat (by omega) (by omega)) (mx_le _ _ _ b.toNat (by omega) (by omega))
theorem lsI_part {m : Int} (h0 : 0 ≤ b ∧ b < m ∧ m < e) : lsI ns b e = min (lsI ns b m) (lsI ns m e) := by
  unfold lsI
  obtain ⟨i, i1, i2, i3⟩ := mn_at (gd ns) b.toNat (m.toNat - b.toNat - 1)
  obtain ⟨j, j1, j2, j3⟩ := mn_at (gd ns) m.toNat (e.toNat - m.toNat - 1)
  refine mn_is (fun k k1 k2 => ?_) ?_
  · by_cases z : k < m.toNat
    · have := mn_le (gd ns) b.toNat (m.toNat - b.toNat - 1) k (by omega) (by omega); omega
    · have := mn_le (gd ns) m.toNat (e.toNat - m.toNat - 1) k (by omega) (by omega); omega
  · by_cases z : mn (gd ns) b.toNat (m.toNat - b.toNat - 1) ≤ mn (gd ns) m.toNat (e.toNat - m.toNat - 1)
    · exact ⟨i, by omega, by omega, by omega⟩
    · exact ⟨j, by omega, by omega, by omega⟩
theorem gsI_part {m : Int} (h0 : 0 ≤ b ∧ b < m ∧ m < e) : gsI ns b e = max (gsI ns b m) (gsI ns m e) := by
  unfold gsI
  obtain ⟨i, i1, i2, i3⟩ := mx_at (gd ns) b.toNat (m.toNat - b.toNat - 1)
  obtain ⟨j, j1, j2, j3⟩ := mx_at (gd ns) m.toNat (e.toNat - m.toNat - 1)
  refine mx_is (fun k k1 k2 => ?_) ?_
  · by_cases z : k < m.toNat
    · have := mx_le (gd ns) b.toNat (m.toNat - b.toNat - 1) k (by omega) (by omega); omega
    · have := mx_le (gd ns) m.toNat (e.toNat - m.toNat - 1) k (by omega) (by omega); omega
  · by_cases z : mx (gd ns) m.toNat (e.toNat - m.toNat - 1) ≤ mx (gd ns) b.toNat (m.toNat - b.toNat - 1)
    · exact ⟨i, by omega, by omega, by omega⟩
    · exact ⟨j, by omega, by omega, by omega⟩
theorem FL.ls {i : Nat} (h0 : 0 ≤ b ∧ b < e) (h : FL (gd ns) b.toNat (e.toNat - 1) i) : lsI ns b e = gd ns i := by
  unfold lsI
  exact FL.mn (by rwa [show b.toNat + (e.toNat - b.toNat - 1) = e.toNat - 1 from by omega])
theorem FL.smap {f : Nat → Int} {g : Int → Int} (hg : ∀ x y, x < y → g x < g y) {a b i : Nat} (h : FL f a b i) : FL (fun i => g (f i)) a b i := by
  refine ⟨h.lo, h.hi, fun j h1 h2 => hg _ _ (h.ahead j h1 h2), fun j h1 h2 => ?_⟩
  have := h.behind j h1 h2
  show g (f i) ≤ g (f j)
  by_cases z : f i = f j
  · rw [z]; exact Int.le_refl _
  · exact Int.le_of_lt (hg _ _ (by omega))
theorem FL.congr {f g : Nat → Int} {a b i : Nat} (h : FL f a b i) (hg : ∀ j, a ≤ j → j ≤ b → f j = g j) : FL g a b i := by
  have h1 := h.lo; have h2 := h.hi
  have ei := hg i h1 h2
  refine ⟨h1, h2, fun j a b => ?_, fun j a b => ?_⟩
  · have := h.ahead j a b; have := hg j (by omega) (by omega); omega
  · have := h.behind j a b; have := hg j (by omega) (by omega); omega
theorem FL.part {f : Nat → Int} {a m b i j k : Nat} (h1 : FL f a (m - 1) i) (h2 : FL f m b j) (h : FL f a b k) (ham : a < m) (hmb : m ≤ b) : (f i ≤ f j → k = i) ∧ (¬ f i ≤ f j → k = j) := by
  have a1 := h1.lo; have a2 := h1.hi; have b1 := h2.lo; have b2 := h2.hi
  constructor
  · intro z
    refine h.un ⟨a1, by omega, h1.ahead, fun l l1 l2 => ?_⟩
    by_cases w : l < m
    · exact h1.behind l l1 (by omega)
    · rcases Nat.lt_trichotomy l j with y | y | y
      · have := h2.ahead l (by omega) y; omega
      · rw [y]; exact z
      · have := h2.behind l y l2; omega
  · intro z
    refine h.un ⟨by omega, b2, fun l l1 l2 => ?_, h2.behind⟩
    by_cases w : l < m
    · rcases Nat.lt_trichotomy l i with y | y | y
      · have := h1.ahead l l1 y; omega
      · rw [y]; omega
      · have := h1.behind l y (by omega); omega
    · exact h2.ahead l (by omega) l2
theorem ls_one (h0 : 0 ≤ b ∧ b < e ∧ e - b ≤ 1) : gsI ns b e - lsI ns b e = 0 := by
  unfold gsI lsI
  rw [show e.toNat - b.toNat - 1 = 0 from by omega]
  show gd ns b.toNat - gd ns b.toNat = 0
  omega
end
theorem FL.fresh {ns : List Int} {b i e : Nat} (h : FL (gd ns) b e i) (hi : i ≤ ns.length) : ¬ gd ns i ∈ (ns.drop b).take (i - b) := fun z => by
  obtain ⟨j, hj⟩ := List.mem_iff_getElem?.mp z
  rw [List.getElem?_take] at hj
  split at hj
  · rw [List.getElem?_drop] at hj
    have := h.ahead (b + j) (by omega) (by omega)
    have := gd_some hj
    omega
  · cases hj
end SL

/-! counts of stretches: plain -/
namespace SL
theorem LS_succ (G : Int → Int) (f : Nat → Int) (n : Nat) : LS G f (n + 1) = LS G f n + sm (n + 1) (fun a => G (mn f a (n - a))) := by
  unfold LS
  have e : sm (n + 1) (fun a => sm (n + 1 - a) (fun k => G (mn f a k))) = sm (n + 1) (fun a => sm (n - a) (fun k => G (mn f a k)) + G (mn f a (n - a))) := sm_congr fun a ha => by
    rw [show n + 1 - a = (n - a) + 1 from by omega]
    rfl
  rw [e, sm_add]
  congr 1
  show sm n _ + sm (n - n) _ = _
  rw [Nat.sub_self]
  show _ + 0 = _
  omega
/-- of the stretches that end at p -/
def En (G : Int → Int) (f : Nat → Int) (p : Nat) : Int := sm (p + 1) (fun a => G (mn f a (p - a)))
theorem mn_end (f : Nat → Int) {a p : Nat} (h : a ≤ p) : mn f a (p + 1 - a) = min (mn f a (p - a)) (f (p + 1)) := by
  rw [show p + 1 - a = (p - a) + 1 from by omega]
  show min (mn f a (p - a)) (f (a + (p - a + 1))) = _
  rw [show a + (p - a + 1) = p + 1 from by omega]
def geI (x : Int) : Int → Int := fun v => if x ≤ v then 1 else 0
theorem En_ge (x : Int) (f : Nat → Int) (p : Nat) : En (geI x) f (p + 1) = (En (geI x) f p + 1) * (if x ≤ f (p + 1) then 1 else 0) := by
  unfold En
  show sm (p + 1) _ + geI x (mn f (p + 1) (p + 1 - (p + 1))) = _
  rw [Nat.sub_self]
  show sm (p + 1) _ + geI x (f (p + 1)) = _
  by_cases h : x ≤ f (p + 1)
  · rw [if_pos h, Int.mul_one]
    congr 1
    · refine sm_congr fun a ha => ?_
      rw [mn_end f (by omega)]
      unfold geI
      by_cases z : x ≤ mn f a (p - a)
      · rw [if_pos z, if_pos (by omega)]
      · rw [if_neg z, if_neg (by omega)]
    · unfold geI; rw [if_pos h]
  · rw [if_neg h, Int.mul_zero]
    have e : sm (p + 1) (fun a => geI x (mn f a (p + 1 - a))) = sm (p + 1) (fun _ => 0) := sm_congr fun a ha => by
      rw [mn_end f (by omega)]
      unfold geI
      rw [if_neg (by omega)]
    rw [e, sm_zero]
    unfold geI
    rw [if_neg h]; rfl
theorem En_ge0 (x : Int) (f : Nat → Int) : En (geI x) f 0 = (0 + 1) * (if x ≤ f 0 then 1 else 0) := by
  unfold En
  show 0 + geI x (f 0) = _
  unfold geI
  omega
/-- all stretches -/
theorem LS_one (f : Nat → Int) : ∀ n : Nat, LS (fun _ => 1) f n * 2 = (n : Int) * ((n : Int) + 1)
  | 0 => by show (0 : Int) * 2 = ((0 : Nat) : Int) * _; simp
  | n + 1 => by
    rw [LS_succ, sm_const, Int.add_mul, LS_one f n]
    have e : ((n + 1 : Nat) : Int) = (n : Int) + 1 := by omega
    rw [e, Int.mul_one, Int.mul_comm (n : Int) ((n : Int) + 1), ← Int.mul_add]
    congr 1
theorem LS_add (G G' : Int → Int) (f : Nat → Int) (n : Nat) : LS (fun v => G v + G' v) f n = LS G f n + LS G' f n := by
  unfold LS
  rw [← sm_add]
  exact sm_congr fun a _ => sm_add _ _ _
theorem LS_sub (G G' : Int → Int) (f : Nat → Int) (n : Nat) : LS (fun v => G v - G' v) f n = LS G f n - LS G' f n := by
  unfold LS
  rw [← sm_sub]
  exact sm_congr fun a _ => sm_sub _ _ _
theorem LS_cg {G G' : Int → Int} (h : ∀ v, G v = G' v) (f : Nat → Int) (n : Nat) : LS G f n = LS G' f n := sm_congr fun a _ => sm_congr fun k _ => h _
theorem all_half (n : Nat) (f : Nat → Int) : (n : Int) * ((n : Int) + 1) / 2 = LS (fun _ => 1) f n := by
  rw [← LS_one f n]
  omega
/-- as a list: the leasts of all stretches -/
def LL (f : Nat → Int) (n : Nat) : List Int := (List.range n).flatMap fun a => (List.range (n - a)).map fun k => mn f a k
theorem sum_range (g : Nat → Int) : ∀ n : Nat, ((List.range n).map g).sum = sm n g
  | 0 => rfl
  | n + 1 => by
    rw [List.range_succ, List.map_append, List.sum_append, sum_range g n]
    show sm n g + (g n + 0) = sm n g + g n
    omega
theorem sum_flat (g : Nat → List Int) : ∀ n : Nat, ((List.range n).flatMap g).sum = sm n fun a => (g a).sum
  | 0 => rfl
  | n + 1 => by
    rw [List.range_succ, List.flatMap_append, List.sum_append, sum_flat g n]
    show (sm n fun a => (g a).sum) + ([n].flatMap g).sum = (sm n fun a => (g a).sum) + (g n).sum
    simp
theorem LL_sum (G : Int → Int) (f : Nat → Int) (n : Nat) : ((LL f n).map G).sum = LS G f n := by
  unfold LL LS
  rw [List.map_flatMap, sum_flat]
  refine sm_congr fun a _ => ?_
  rw [List.map_map, ← sum_range]
  rfl
theorem cnt_sum (P : Int → Prop) [DecidablePred P] : ∀ xs : List Int, ((xs.filter fun x => decide (P x)).length : Int) = (xs.map fun v => if P v then (1 : Int) else 0).sum
  | [] => rfl
  | x :: xs => by
    rw [List.map_cons, List.sum_cons, ← cnt_sum P xs]
    by_cases h : P x
    · rw [List.filter_cons_of_pos (by exact decide_eq_true h), if_pos h, List.length_cons]
      omega
    · rw [List.filter_cons_of_neg (by rw [decide_eq_false h]; decide), if_neg h]
      omega
theorem LL_cnt (P : Int → Prop) [DecidablePred P] (f : Nat → Int) (n : Nat) : (((LL f n).filter fun x => decide (P x)).length : Int) = LS (fun v => if P v then 1 else 0) f n := by
  rw [cnt_sum, LL_sum]
theorem LL_len (f : Nat → Int) (n : Nat) : ((LL f n).length : Int) = LS (fun _ => 1) f n := by
  rw [← LL_sum]
  induction LL f n with
  | nil => rfl
  | cons x xs ih =>
    rw [List.map_cons, List.sum_cons, ← ih, List.length_cons]
    omega
/-- all stretches with their leasts, begin by begin -/
def A3i (f : Nat → Int) (n i : Nat) : List (Int × Int × Int) := (List.range i).flatMap fun a => (List.range (n - a)).map fun k => (mn f a k, (a : Int), ((a + k + 1 : Nat) : Int))
def A3 (f : Nat → Int) (n : Nat) : List (Int × Int × Int) := A3i f n n
theorem A3i_succ (f : Nat → Int) (n i : Nat) : A3i f n (i + 1) = A3i f n i ++ (List.range (n - i)).map fun k => (mn f i k, (i : Int), ((i + k + 1 : Nat) : Int)) := by
  unfold A3i
  rw [List.range_succ, List.flatMap_append]
  simp
theorem A3i_len (f : Nat → Int) (n : Nat) : ∀ i : Nat, (A3i f n i).length ≤ i * n
  | 0 => Nat.zero_le _
  | i + 1 => by
    rw [A3i_succ, List.length_append, List.length_map, List.length_range, Nat.succ_mul]
    have := A3i_len f n i
    omega
theorem A3_fst (f : Nat → Int) (n : Nat) : (A3 f n).map (·.1) = LL f n := by
  unfold A3 A3i LL
  rw [List.map_flatMap]
  congr 1
  funext a
  rw [List.map_map]
  rfl
end SL

/-! small spreads: plain -/
namespace SL
/-- places from b, below p, less than all behind -/
structure Lw (f : Nat → Int) (b p : Nat) (L : List Nat) : Prop where
  srt : L.Pairwise (· < ·)
  mem : ∀ j ∈ L, b ≤ j ∧ j < p ∧ ∀ k, j < k → k < p → f j < f k
  all : ∀ j, b ≤ j → j < p → (∀ k, j < k → k < p → f j < f k) → j ∈ L
structure Lp (f : Nat → Int) (b p : Nat) (L : List Nat) : Prop where
  srt : L.Pairwise (· < ·)
  mem : ∀ j ∈ L, b ≤ j ∧ j < p ∧ ∀ k, j < k → k < p → f j < f k
  all : ∀ j, b ≤ j → j < p → (∀ k, j < k → k < p → f j < f k) → f j < f p → j ∈ L
theorem Lw.start (f : Nat → Int) : Lw f 0 0 [] := ⟨List.Pairwise.nil, (fun j hj => nomatch hj), (fun j _ h => absurd h (Nat.not_lt_zero j))⟩
theorem Lw.lp {f : Nat → Int} {b p : Nat} {L : List Nat} (h : Lw f b p L) : Lp f b p L := ⟨h.srt, h.mem, fun j a b c _ => h.all j a b c⟩
theorem Lp.pop {f : Nat → Int} {b p s : Nat} {L : List Nat} (h : Lp f b p (L ++ [s])) (hs : f p ≤ f s) : Lp f b p L := by
  refine ⟨(List.pairwise_append.mp h.srt).1, fun j hj => h.mem j (List.mem_append_left _ hj), fun j a b c d => ?_⟩
  rcases List.mem_append.mp (h.all j a b c d) with z | z
  · exact z
  · rw [List.mem_singleton.mp z] at d; omega
theorem Lp.done {f : Nat → Int} {b p : Nat} {L : List Nat} (h : Lp f b p L) (hb : b ≤ p) (hl : ∀ s, L.getLast? = some s → f s < f p) : Lw f b (p + 1) (L ++ [p]) := by
  have key : ∀ j ∈ L, f j < f p := fun j hj => by
    rcases List.eq_nil_or_concat L with e | ⟨M, s, e⟩
    · rw [e] at hj; cases hj
    · have e' : L = M ++ [s] := by rw [e, List.concat_eq_append]
      have hs := hl s (by rw [e']; simp)
      rw [e'] at hj
      rcases List.mem_append.mp hj with z | z
      · have hjs : j < s := by
          have := h.srt
          rw [e'] at this
          exact (List.pairwise_append.mp this).2.2 j z s (List.mem_singleton.mpr rfl)
        have hsm := (h.mem s (by rw [e']; simp)).2.1
        have := (h.mem j (by rw [e']; exact List.mem_append_left _ z)).2.2 s hjs hsm
        omega
      · rw [List.mem_singleton.mp z]; exact hs
  refine ⟨List.pairwise_append.mpr ⟨h.srt, List.pairwise_singleton _ _, fun j hj k hk => ?_⟩, fun j hj => ?_, fun j a c d => ?_⟩
  · rw [List.mem_singleton.mp hk]; exact (h.mem j hj).2.1
  · rcases List.mem_append.mp hj with z | z
    · obtain ⟨h1, h2, h3⟩ := h.mem j z
      refine ⟨h1, by omega, fun k k1 k2 => ?_⟩
      by_cases e : k = p
      · rw [e]; exact key j z
      · exact h3 k k1 (by omega)
    · rw [List.mem_singleton.mp z]
      exact ⟨hb, Nat.lt_succ_self p, fun k k1 k2 => by omega⟩
  · by_cases e : j = p
    · rw [e]; simp
    · exact List.mem_append_left _ (h.all j a (by omega) (fun k k1 k2 => d k k1 (by omega)) (d p (by omega) (Nat.lt_succ_self p)))
theorem Lw.ne {f : Nat → Int} {b p : Nat} {L : List Nat} (h : Lw f b (p + 1) L) (hb : b ≤ p) : L ≠ [] := fun e => by
  have := h.all p hb (Nat.lt_succ_self p) fun k k1 k2 => by omega
  rw [e] at this
  cases this
theorem last_min (f : Nat → Int) (a : Nat) : ∀ k, ∃ i, a ≤ i ∧ i ≤ a + k ∧ f i = mn f a k ∧ ∀ j, i < j → j ≤ a + k → f i < f j
  | 0 => ⟨a, by omega, by omega, rfl, fun j _ _ => by omega⟩
  | k + 1 => by
    obtain ⟨i, h1, h2, h3, h4⟩ := last_min f a k
    show ∃ i, a ≤ i ∧ i ≤ a + (k + 1) ∧ f i = min (mn f a k) (f (a + (k + 1))) ∧ ∀ j, i < j → j ≤ a + (k + 1) → f i < f j
    by_cases e : mn f a k < f (a + (k + 1))
    · refine ⟨i, h1, by omega, by omega, fun j j1 j2 => ?_⟩
      by_cases z : j = a + (k + 1)
      · rw [z]; omega
      · exact h4 j j1 (by omega)
    · exact ⟨a + (k + 1), by omega, by omega, by omega, fun j _ _ => by omega⟩
theorem Lw.head {f : Nat → Int} {b p h : Nat} {T : List Nat} (w : Lw f b (p + 1) (h :: T)) (hb : b ≤ p) : f h = mn f b (p - b) := by
  obtain ⟨i, h1, h2, h3, h4⟩ := last_min f b (p - b)
  have hi : i ∈ h :: T := w.all i h1 (by omega) fun k k1 k2 => h4 k k1 (by omega)
  obtain ⟨g1, g2, g3⟩ := w.mem h List.mem_cons_self
  rcases List.mem_cons.mp hi with e | e
  · rw [← e]; exact h3
  · have hlt := (List.pairwise_cons.mp w.srt).1 i e
    have := g3 i hlt (by omega)
    have := mn_le f b (p - b) h g1 (by omega)
    omega
theorem Lw.adv1 {f : Nat → Int} {b p h : Nat} {T : List Nat} (w : Lw f b p (h :: T)) (hh : h < b + 1) : Lw f (b + 1) p T := by
  have hp := List.pairwise_cons.mp w.srt
  refine ⟨hp.2, fun j hj => ?_, fun j a c d => ?_⟩
  · obtain ⟨g1, g2, g3⟩ := w.mem j (List.mem_cons_of_mem _ hj)
    have := hp.1 j hj
    have := (w.mem h List.mem_cons_self).1
    exact ⟨by omega, g2, g3⟩
  · rcases List.mem_cons.mp (w.all j (by omega) c d) with e | e
    · omega
    · exact e
theorem Lw.adv2 {f : Nat → Int} {b p h : Nat} {T : List Nat} (w : Lw f b p (h :: T)) (hh : ¬ h < b + 1) : Lw f (b + 1) p (h :: T) := by
  have hp := List.pairwise_cons.mp w.srt
  refine ⟨w.srt, fun j hj => ?_, fun j a c d => w.all j (by omega) c d⟩
  obtain ⟨g1, g2, g3⟩ := w.mem j hj
  rcases List.mem_cons.mp hj with e | e
  · exact ⟨by omega, g2, g3⟩
  · have := hp.1 j e
    exact ⟨by omega, g2, g3⟩
/-- the spread from a to p -/
def sp (f : Nat → Int) (a p : Nat) : Int := mx f a (p - a) - mn f a (p - a)
theorem sp_mono {f : Nat → Int} {a b p : Nat} (h1 : a ≤ b) (h2 : b ≤ p) : sp f b p ≤ sp f a p := by
  unfold sp
  obtain ⟨i, i1, i2, i3⟩ := mn_at f b (p - b)
  obtain ⟨j, j1, j2, j3⟩ := mx_at f b (p - b)
  have := mn_le f a (p - a) i (by omega) (by omega)
  have := mx_le f a (p - a) j (by omega) (by omega)
  omega
theorem sp_more {f : Nat → Int} {a p : Nat} (h : a ≤ p) : sp f a p ≤ sp f a (p + 1) := by
  unfold sp
  obtain ⟨i, i1, i2, i3⟩ := mn_at f a (p - a)
  obtain ⟨j, j1, j2, j3⟩ := mx_at f a (p - a)
  have := mn_le f a (p + 1 - a) i (by omega) (by omega)
  have := mx_le f a (p + 1 - a) j (by omega) (by omega)
  omega
theorem sp_self (f : Nat → Int) (p : Nat) : sp f p p = 0 := by
  unfold sp
  rw [Nat.sub_self]
  show f p - f p = 0
  omega
/-- how many numbers the longest stretch to p has -/
structure Bg (f : Nat → Int) (s : Int) (p b : Nat) : Prop where
  bp : b ≤ p
  ok : sp f b p ≤ s
  no : ∀ a, a < b → s < sp f a p
theorem tri_swap (G : Nat → Nat → Int) : ∀ n : Nat, sm n (fun a => sm (n - a) (fun k => G a (a + k))) = sm n (fun p => sm (p + 1) (fun a => G a p))
  | 0 => rfl
  | n + 1 => by
    have e : sm (n + 1) (fun a => sm (n + 1 - a) (fun k => G a (a + k))) = sm (n + 1) (fun a => sm (n - a) (fun k => G a (a + k)) + G a n) := sm_congr fun a ha => by
      rw [show n + 1 - a = (n - a) + 1 from by omega]
      show sm (n - a) _ + G a (a + (n - a)) = _
      rw [show a + (n - a) = n from by omega]
    rw [e, sm_add]
    show sm n _ + sm (n - n) _ + sm (n + 1) (fun a => G a n) = sm n _ + sm (n + 1) (fun a => G a n)
    rw [Nat.sub_self, tri_swap G n]
    show _ + 0 + _ = _
    omega
/-- the count of stretches of a small spread -/
def WS (s : Int) (f : Nat → Int) (n : Nat) : Int := sm n (fun a => sm (n - a) (fun k => if mx f a k - mn f a k ≤ s then 1 else 0))
theorem kept_sum {f : Nat → Int} {s : Int} {n : Nat} {ks : List Int} (hl : ks.length = n) (h : ∀ i, i < n → ∃ b : Nat, ks[i]? = some ((i : Int) + 1 - b) ∧ Bg f s i b) : ks.sum = WS s f n := by
  have e1 : WS s f n = sm n (fun p => sm (p + 1) (fun a => if sp f a p ≤ s then 1 else 0)) := by
    rw [← tri_swap (fun a p => if sp f a p ≤ s then 1 else 0)]
    unfold WS
    refine sm_congr fun a _ => sm_congr fun k _ => ?_
    unfold sp
    rw [Nat.add_sub_cancel_left]
  have e2 : ∀ p, p < n → sm (p + 1) (fun a => if sp f a p ≤ s then 1 else 0) = gd ks p := fun p hp => by
    obtain ⟨b, h1, h2⟩ := h p hp
    rw [gd_some h1]
    have := sm_range 1 (lo := b) (hi := p + 1) (by have := h2.bp; omega) (n := p + 1) (Nat.le_refl _)
    rw [sm_congr (g := fun a => if b ≤ a ∧ a < p + 1 then 1 else 0), this]
    · omega
    · intro a ha
      by_cases z : b ≤ a
      · exact (if_pos (Int.le_trans (sp_mono z (by omega)) h2.ok)).trans (if_pos ⟨z, ha⟩).symm
      · exact (if_neg (by have := h2.no a (by omega); omega)).trans (if_neg (fun w => z w.1)).symm
  rw [e1, sm_congr e2, ← sum_range]
  congr 1
  apply List.ext_getElem?
  intro i
  rw [List.getElem?_map]
  by_cases hi : i < n
  · rw [List.getElem?_range hi, gd_get (by omega)]
    rfl
  · rw [List.getElem?_eq_none (by omega), List.getElem?_eq_none (by rw [List.length_range]; omega)]
    rfl
/-- spreads of all stretches, as a list -/
def SLs (f : Nat → Int) (n i : Nat) : List Int := (List.range i).flatMap fun a => (List.range (n - a)).map fun k => mx f a k - mn f a k
theorem SLs_succ (f : Nat → Int) (n i : Nat) : SLs f n (i + 1) = SLs f n i ++ (List.range (n - i)).map fun k => mx f i k - mn f i k := by
  unfold SLs
  rw [List.range_succ, List.flatMap_append]
  simp
theorem SLs_len (f : Nat → Int) (n : Nat) : ∀ i : Nat, (SLs f n i).length ≤ i * n
  | 0 => Nat.zero_le _
  | i + 1 => by
    rw [SLs_succ, List.length_append, List.length_map, List.length_range, Nat.succ_mul]
    have := SLs_len f n i
    omega
theorem SLs_cnt (s : Int) (f : Nat → Int) (n : Nat) : (((SLs f n n).filter fun v => decide (v ≤ s)).length : Int) = WS s f n := by
  rw [cnt_sum (fun v => v ≤ s)]
  unfold SLs WS
  rw [List.map_flatMap, sum_flat]
  refine sm_congr fun a _ => ?_
  rw [List.map_map, ← sum_range]
  rfl
theorem WS_neg {s : Int} (h : s < 0) (f : Nat → Int) (n : Nat) : WS s f n = 0 := by
  unfold WS
  rw [sm_congr (g := fun _ => 0), sm_zero]
  intro a _
  rw [sm_congr (g := fun _ => 0), sm_zero]
  intro k _
  have h1 := mn_le f a k a (Nat.le_refl _) (by omega)
  have h2 := mx_le f a k a (Nat.le_refl _) (by omega)
  exact if_neg (by omega)
/-- places as whole numbers -/
def up (L : List Nat) : List Int := L.map Int.ofNat
theorem up_app (L : List Nat) (s : Nat) : up (L ++ [s]) = up L ++ [(s : Int)] := by simp [up]
theorem up_last (L : List Nat) (s : Nat) : (up (L ++ [s])).getLast? = some (s : Int) := by rw [up_app]; simp
theorem up_drop (L : List Nat) (s : Nat) : (up (L ++ [s])).dropLast = up L := by rw [up_app]; simp
theorem up_ne (L : List Nat) (s : Nat) : up (L ++ [s]) ≠ [] := by rw [up_app]; simp
theorem up_len (L : List Nat) : (up L).length = L.length := by simp [up]
theorem Lw.len {f : Nat → Int} {b p : Nat} {L : List Nat} (h : Lw f b p L) : L.length ≤ p := by
  have nd : L.Nodup := List.Pairwise.imp (fun h => Nat.ne_of_lt h) h.srt
  have := List.Nodup.length_le_of_subset (l₁ := L) (l₂ := List.range p) nd fun j hj => List.mem_range.mpr (h.mem j hj).2.1
  rwa [List.length_range] at this
theorem Lp.len {f : Nat → Int} {b p : Nat} {L : List Nat} (h : Lp f b p L) : L.length ≤ p := by
  have nd : L.Nodup := List.Pairwise.imp (fun h => Nat.ne_of_lt h) h.srt
  have := List.Nodup.length_le_of_subset (l₁ := L) (l₂ := List.range p) nd fun j hj => List.mem_range.mpr (h.mem j hj).2.1
  rwa [List.length_range] at this
theorem last_app {T : List Nat} {u z : Nat} (h : (T ++ [u]).getLast? = some z) : z = u := by
  rw [List.getLast?_concat] at h
  exact (Option.some.inj h).symm
theorem up_cut (h : Nat) (T : List Nat) : (up (h :: T)).drop 1 = up T := rfl
theorem up_head (h : Nat) (T : List Nat) : up (h :: T) = (h : Int) :: up T := rfl
end SL

/-! sums over parts: plain -/
namespace SL
/-- the sum of leasts of all stretches within b, e -/
def Lr (f : Nat → Int) (b e : Nat) : Int := LS id (fun i => f (b + i)) (e - b)
def Gr (f : Nat → Int) (b e : Nat) : Int := GS id (fun i => f (b + i)) (e - b)
theorem Gr_Lr (f : Nat → Int) (b e : Nat) : Gr f b e = - Lr (fun i => 0 - f i) b e := GS_LS _ _
theorem mn_shift (f : Nat → Int) (b a : Nat) : ∀ k, mn (fun i => f (b + i)) a k = mn f (b + a) k
  | 0 => rfl
  | k + 1 => by
    show min (mn (fun i => f (b + i)) a k) (f (b + (a + (k + 1)))) = min (mn f (b + a) k) (f (b + a + (k + 1)))
    rw [mn_shift f b a k, Nat.add_assoc]
/-- of all stretches from b on that end with the number at e the leasts -/
def Er (f : Nat → Int) (b e : Nat) : Int := sm (e + 1 - b) (fun i => mn f (b + i) (e - (b + i)))
theorem Lr_end (f : Nat → Int) {b e : Nat} (h : b ≤ e) : Lr f b (e + 1) = Lr f b e + Er f b e := by
  unfold Lr Er
  rw [show e + 1 - b = (e - b) + 1 from by omega, LS_succ]
  congr 1
  refine sm_congr fun i hi => ?_
  show mn (fun i => f (b + i)) i (e - b - i) = _
  rw [mn_shift]
  congr 1
  omega
theorem sm_head (f : Nat → Int) : ∀ n : Nat, sm (n + 1) f = f 0 + sm n (fun i => f (i + 1))
  | 0 => by show 0 + f 0 = f 0 + 0; omega
  | n + 1 => by
    show sm (n + 1) f + f (n + 1) = f 0 + (sm n (fun i => f (i + 1)) + f (n + 1))
    rw [sm_head f n]
    omega
theorem Er_head (f : Nat → Int) {b e : Nat} (h : b ≤ e) : Er f b e = mn f b (e - b) + Er f (b + 1) e := by
  unfold Er
  rw [show e + 1 - b = (e - b) + 1 from by omega, sm_head]
  congr 1
  rw [show e + 1 - (b + 1) = e - b from by omega]
  refine sm_congr fun i hi => ?_
  rw [show b + (i + 1) = b + 1 + i from by omega]
theorem Lr_nil (f : Nat → Int) {b e : Nat} (h : e ≤ b) : Lr f b e = 0 := by
  unfold Lr
  rw [show e - b = 0 from by omega]
  rfl
/-- a part less both ends -/
theorem Lr_own (f : Nat → Int) {b e : Nat} (h : b < e) : Lr f b e - Lr f (b + 1) e - Lr f b (e - 1) + Lr f (b + 1) (e - 1) = mn f b (e - b - 1) := by
  obtain ⟨e, rfl⟩ : ∃ e', e = e' + 1 := ⟨e - 1, by omega⟩
  rw [Lr_end f (show b ≤ e from by omega), Nat.add_sub_cancel, Er_head f (by omega), show e + 1 - b - 1 = e - b from by omega]
  by_cases q : b + 1 ≤ e
  · rw [Lr_end f q]
    omega
  · rw [Lr_nil f (show e + 1 ≤ b + 1 from by omega), Lr_nil f (show e ≤ b + 1 from by omega)]
    have : Er f (b + 1) e = 0 := by
      unfold Er
      rw [show e + 1 - (b + 1) = 0 from by omega]
      rfl
    omega
theorem Gr_own (f : Nat → Int) {b e : Nat} (h : b < e) : Gr f b e - Gr f (b + 1) e - Gr f b (e - 1) + Gr f (b + 1) (e - 1) = mx f b (e - b - 1) := by
  rw [Gr_Lr, Gr_Lr, Gr_Lr, Gr_Lr, mx_mn, ← Lr_own _ h]
  omega
/-- parted by the first least -/
theorem Lr_part {f : Nat → Int} {b e i : Nat} (h : FL f b (e - 1) i) (hbe : b < e) : Lr f b i + Lr f (i + 1) e + ((i : Int) - b + 1) * ((e : Int) - i) * f i = Lr f b e := by
  have h1 := h.lo
  have h2 := h.hi
  unfold Lr
  generalize hp : i - b = p
  have ep : i = b + p := by omega
  generalize hn : e - b = n
  have hpn : p < n := by omega
  have e1 : LS id (fun j => f (b + j)) n = sm (p + 1) (fun a => sm (n - a) (fun k => mn (fun j => f (b + j)) a k)) + sm (n - p - 1) (fun a => sm (n - (p + 1 + a)) (fun k => mn (fun j => f (b + j)) (p + 1 + a) k)) := by
    have hs := sm_split (fun a => sm (n - a) (fun k => mn (fun j => f (b + j)) a k)) (p + 1) (n - p - 1)
    rw [show (p + 1) + (n - p - 1) = n from by omega] at hs
    exact hs
  have e2 : sm (n - p - 1) (fun a => sm (n - (p + 1 + a)) (fun k => mn (fun j => f (b + j)) (p + 1 + a) k)) = LS id (fun j => f (i + 1 + j)) (e - (i + 1)) := by
    show _ = sm _ _
    rw [show e - (i + 1) = n - p - 1 from by omega]
    refine sm_congr fun a _ => ?_
    rw [show n - (p + 1 + a) = n - p - 1 - a from by omega]
    refine sm_congr fun k _ => ?_
    show mn (fun j => f (b + j)) (p + 1 + a) k = mn (fun j => f (i + 1 + j)) a k
    rw [mn_shift, mn_shift, ep, show b + (p + 1 + a) = b + p + 1 + a from by omega]
  have e3 : ∀ a, a < p + 1 → sm (n - a) (fun k => mn (fun j => f (b + j)) a k) = sm (p - a) (fun k => mn (fun j => f (b + j)) a k) + ((n : Int) - p) * f i := fun a ha => by
    rw [show n - a = (p - a) + (n - p) from by omega, sm_split]
    congr 1
    have : sm (n - p) (fun k => mn (fun j => f (b + j)) a (p - a + k)) = sm (n - p) (fun _ => f i) := sm_congr fun k hk => by
      rw [mn_shift]
      refine mn_is (fun j h3 h4 => ?_) ⟨i, by omega, by omega, rfl⟩
      rcases Nat.lt_trichotomy j i with q | q | q
      · have := h.ahead j (by omega) q; omega
      · rw [q]; omega
      · exact h.behind j q (by omega)
    rw [this, sm_const]
    congr 1
    omega
  rw [e1, e2, sm_congr e3, sm_add, sm_const]
  have e4 : sm (p + 1) (fun a => sm (p - a) (fun k => mn (fun j => f (b + j)) a k)) = LS id (fun j => f (b + j)) p := by
    show sm p _ + sm (p - p) _ = sm p _
    rw [Nat.sub_self]
    show sm p _ + 0 = _
    rw [Int.add_zero]
    rfl
  rw [e4, Int.mul_assoc, show ((p + 1 : Nat) : Int) = (i : Int) - b + 1 from by omega, show (n : Int) - p = (e : Int) - i from by omega]
  omega
theorem ct_gd {ns : List Int} {b e : Nat} {i : Nat} (h : i < e - b) (he : e ≤ ns.length) : gd ((ns.drop b).take (e - b)) i = gd ns (b + i) := gd_some (by
  rw [List.getElem?_take, if_pos h, List.getElem?_drop]
  exact gd_get (by omega))
theorem ct_Lr {ns : List Int} {b e : Nat} (he : e ≤ ns.length) : LS id (gd ((ns.drop b).take (e - b))) ((ns.drop b).take (e - b)).length = Lr (gd ns) b e := by
  have hl : ((ns.drop b).take (e - b)).length = e - b := by rw [List.length_take, List.length_drop]; omega
  rw [hl]
  exact LS_congr fun i hi => ct_gd hi he
theorem GS_congr {G : Int → Int} {f g : Nat → Int} {n : Nat} (h : ∀ i, i < n → f i = g i) : GS G f n = GS G g n := sm_congr fun a ha => sm_congr fun k hk => by
  rw [mx_congr fun j h1 h2 => h j (by omega)]
theorem ct_Gr {ns : List Int} {b e : Nat} (he : e ≤ ns.length) : GS id (gd ((ns.drop b).take (e - b))) ((ns.drop b).take (e - b)).length = Gr (gd ns) b e := by
  have hl : ((ns.drop b).take (e - b)).length = e - b := by rw [List.length_take, List.length_drop]; omega
  rw [hl]
  exact GS_congr fun i hi => ct_gd hi he
/-- two rising lists of the same numbers are the same -/
theorem sorted_un : ∀ {xs ys : List Int}, xs.Perm ys → xs.Pairwise (· ≤ ·) → ys.Pairwise (· ≤ ·) → xs = ys
  | [], ys, h, _, _ => (List.nil_perm.mp h).symm
  | x :: xs, [], h, _, _ => nomatch List.perm_nil.mp h
  | x :: xs, y :: ys, h, h1, h2 => by
    have e : x = y := by
      have a1 : x ∈ y :: ys := h.mem_iff.mp List.mem_cons_self
      have a2 : y ∈ x :: xs := h.mem_iff.mpr List.mem_cons_self
      have b1 : y ≤ x := by
        rcases List.mem_cons.mp a1 with q | q
        · omega
        · exact (List.pairwise_cons.mp h2).1 x q
      have b2 : x ≤ y := by
        rcases List.mem_cons.mp a2 with q | q
        · omega
        · exact (List.pairwise_cons.mp h1).1 y q
      omega
    subst e
    rw [sorted_un (List.perm_cons _ |>.mp h) (List.pairwise_cons.mp h1).2 (List.pairwise_cons.mp h2).2]
end SL

/-! sums from behind, parted, moved: plain -/
namespace SL
theorem sm_rev (f : Nat → Int) : ∀ n : Nat, sm n (fun i => f (n - 1 - i)) = sm n f
  | 0 => rfl
  | n + 1 => by
    rw [sm_head]
    show f (n + 1 - 1 - 0) + sm n (fun i => f (n + 1 - 1 - (i + 1))) = sm n f + f n
    have e : sm n (fun i => f (n + 1 - 1 - (i + 1))) = sm n (fun i => f (n - 1 - i)) := sm_congr fun i _ => by rw [show n + 1 - 1 - (i + 1) = n - 1 - i from by omega]
    rw [e, sm_rev f n, show n + 1 - 1 - 0 = n from by omega]
    omega
theorem tri_succ (H : Nat → Nat → Int) (n : Nat) : sm (n + 1) (fun a => sm (n + 1 - a) (fun k => H a k)) = sm n (fun a => sm (n - a) (fun k => H a k)) + sm (n + 1) (fun a => H a (n - a)) := by
  have e : sm (n + 1) (fun a => sm (n + 1 - a) (fun k => H a k)) = sm (n + 1) (fun a => sm (n - a) (fun k => H a k) + H a (n - a)) := sm_congr fun a ha => by
    rw [show n + 1 - a = (n - a) + 1 from by omega]
    rfl
  rw [e, sm_add]
  congr 1
  show sm n _ + sm (n - n) _ = _
  rw [Nat.sub_self]
  show _ + 0 = _
  omega
theorem tri_sym (H : Nat → Nat → Int) : ∀ n : Nat, sm n (fun a => sm (n - a) (fun k => H a k)) = sm n (fun k => sm (n - k) (fun a => H a k))
  | 0 => rfl
  | n + 1 => by
    rw [tri_succ H n, tri_succ (fun k a => H a k) n, tri_sym H n]
    congr 1
    have := sm_rev (fun a => H a (n - a)) (n + 1)
    rw [← this]
    refine sm_congr fun i hi => ?_
    rw [show n + 1 - 1 - i = n - i from by omega, show n - (n - i) = i from by omega]
theorem mn_rev {f g : Nat → Int} {n a k : Nat} (h : ∀ i, i < n → g i = f (n - 1 - i)) (hk : a + k < n) : mn g a k = mn f (n - 1 - a - k) k := by
  refine mn_is (fun j h1 h2 => ?_) ?_
  · rw [h j (by omega)]
    exact mn_le f _ _ _ (by omega) (by omega)
  · obtain ⟨j, h1, h2, h3⟩ := mn_at f (n - 1 - a - k) k
    refine ⟨n - 1 - j, by omega, by omega, ?_⟩
    rw [h _ (by omega), show n - 1 - (n - 1 - j) = j from by omega]
    exact h3
theorem LS_rev {G : Int → Int} {f g : Nat → Int} {n : Nat} (h : ∀ i, i < n → g i = f (n - 1 - i)) : LS G g n = LS G f n := by
  unfold LS
  have e1 : sm n (fun a => sm (n - a) (fun k => G (mn g a k))) = sm n (fun a => sm (n - a) (fun k => G (mn f (n - 1 - a - k) k))) := sm_congr fun a ha => sm_congr fun k hk => by rw [mn_rev h (by omega)]
  rw [e1, tri_sym (fun a k => G (mn f (n - 1 - a - k) k)), tri_sym (fun a k => G (mn f a k))]
  refine sm_congr fun k hk => ?_
  have := sm_rev (fun a => G (mn f a k)) (n - k)
  rw [← this]
  refine sm_congr fun i hi => ?_
  rw [show n - k - 1 - i = n - 1 - i - k from by omega]
theorem GS_rev {G : Int → Int} {f g : Nat → Int} {n : Nat} (h : ∀ i, i < n → g i = f (n - 1 - i)) : GS id g n = GS id f n := by
  rw [GS_LS, GS_LS, LS_rev (f := fun i => 0 - f i) fun i hi => by rw [h i hi]]
theorem LS_mapM {G : Int → Int} {g : Int → Int} (hg : ∀ x y, x ≤ y → g x ≤ g y) (f : Nat → Int) (n : Nat) : LS G (fun i => g (f i)) n = LS (fun v => G (g v)) f n := sm_congr fun a _ => sm_congr fun k _ => by rw [mn_map hg]
theorem LS_mul (c : Int) (G : Int → Int) (f : Nat → Int) (n : Nat) : LS (fun v => c * G v) f n = c * LS G f n := by
  unfold LS
  rw [← sm_mul]
  exact sm_congr fun a _ => sm_mul _ _ _
/-- parted by the first least, any G -/
theorem LS_part {G : Int → Int} {f : Nat → Int} {n p : Nat} (h : FL f 0 (n - 1) p) (hp : p < n) : LS G f n = LS G f p + LS G (fun i => f (p + 1 + i)) (n - p - 1) + ((p : Int) + 1) * ((n : Int) - p) * G (f p) := by
  have e1 : LS G f n = sm (p + 1) (fun a => sm (n - a) (fun k => G (mn f a k))) + sm (n - p - 1) (fun a => sm (n - (p + 1 + a)) (fun k => G (mn f (p + 1 + a) k))) := by
    have hs := sm_split (fun a => sm (n - a) (fun k => G (mn f a k))) (p + 1) (n - p - 1)
    rw [show (p + 1) + (n - p - 1) = n from by omega] at hs
    exact hs
  have e2 : sm (n - p - 1) (fun a => sm (n - (p + 1 + a)) (fun k => G (mn f (p + 1 + a) k))) = LS G (fun i => f (p + 1 + i)) (n - p - 1) := by
    refine sm_congr fun a _ => ?_
    rw [show n - (p + 1 + a) = n - p - 1 - a from by omega]
    refine sm_congr fun k _ => ?_
    rw [mn_shift]
  have e3 : ∀ a, a < p + 1 → sm (n - a) (fun k => G (mn f a k)) = sm (p - a) (fun k => G (mn f a k)) + ((n : Int) - p) * G (f p) := fun a ha => by
    rw [show n - a = (p - a) + (n - p) from by omega, sm_split]
    congr 1
    have : sm (n - p) (fun k => G (mn f a (p - a + k))) = sm (n - p) (fun _ => G (f p)) := sm_congr fun k hk => by
      congr 1
      refine mn_is (fun j h3 h4 => ?_) ⟨p, by omega, by omega, rfl⟩
      rcases Nat.lt_trichotomy j p with q | q | q
      · have := h.ahead j (by omega) q; omega
      · rw [q]; omega
      · exact h.behind j q (by omega)
    rw [this, sm_const]
    congr 1
    omega
  rw [e1, e2, sm_congr e3, sm_add, sm_const]
  have e4 : sm (p + 1) (fun a => sm (p - a) (fun k => G (mn f a k))) = LS G f p := by
    show sm p _ + sm (p - p) _ = sm p _
    rw [Nat.sub_self]
    show sm p _ + 0 = _
    rw [Int.add_zero]
  rw [e4, Int.mul_assoc, show ((p + 1 : Nat) : Int) = (p : Int) + 1 from by omega]
  omega
end SL

/-! the sums of all stretches: plain laws -/
namespace SL
theorem sm_nn {f : Nat → Int} : ∀ {n : Nat}, (∀ i, i < n → 0 ≤ f i) → 0 ≤ sm n f
  | 0, _ => Int.le_refl 0
  | n + 1, h => by
    have := sm_nn (n := n) fun i hi => h i (by omega)
    have := h n (by omega)
    show 0 ≤ sm n f + f n
    omega
theorem w_le (f : Nat → Int) (n : Nat) : LS id f n ≤ GS id f n := by
  have e : 0 ≤ sm n (fun a => sm (n - a) (fun k => id (mx f a k)) - sm (n - a) (fun k => id (mn f a k))) := sm_nn fun a ha => by
    rw [← sm_sub]
    refine sm_nn fun k hk => ?_
    show 0 ≤ mx f a k - mn f a k
    have := mn_le f a k a (by omega) (by omega)
    have := mx_le f a k a (by omega) (by omega)
    omega
  rw [sm_sub] at e
  show sm n _ ≤ sm n _
  omega
theorem w_neg1 (ns : List Int) : LS id (gd (ns.map fun x => 0 - x)) (ns.map fun x => 0 - x).length = 0 - GS id (gd ns) ns.length := by
  rw [GS_LS, List.length_map, LS_congr (g := fun i => 0 - gd ns i) fun i hi => gd_map _ hi]
  omega
theorem w_neg2 (ns : List Int) : GS id (gd (ns.map fun x => 0 - x)) (ns.map fun x => 0 - x).length = 0 - LS id (gd ns) ns.length := by
  rw [GS_LS, List.length_map, LS_congr (g := gd ns) fun i hi => by rw [gd_map (fun x => 0 - x) hi]; omega]
  omega
theorem w_rev1 (ns : List Int) : LS id (gd ns.reverse) ns.reverse.length = LS id (gd ns) ns.length := by
  rw [List.length_reverse]
  exact LS_rev fun i hi => gd_rev hi
theorem w_rev2 (ns : List Int) : GS id (gd ns.reverse) ns.reverse.length = GS id (gd ns) ns.length := by
  rw [List.length_reverse]
  exact GS_rev (G := id) fun i hi => gd_rev hi
theorem w_mv (c : Int) (f : Nat → Int) (n : Nat) : LS id (fun i => f i * 3 + c) n = 3 * LS id f n + c * LS (fun _ => 1) f n := by
  rw [LS_mapM (G := id) (g := fun x => x * 3 + c) (fun x y h => by omega) f n]
  rw [← LS_mul, ← LS_mul, ← LS_add]
  exact LS_cg (fun v => by show v * 3 + c = 3 * v + c * 1; omega) f n
theorem w_mov1 (c : Int) (ns : List Int) : LS id (gd (ns.map fun x => x * 3 + c)) (ns.map fun x => x * 3 + c).length = 3 * LS id (gd ns) ns.length + c * ((ns.length : Int) * ((ns.length : Int) + 1) / 2) := by
  rw [List.length_map, LS_congr (g := fun i => gd ns i * 3 + c) fun i hi => gd_map _ hi, w_mv, all_half ns.length (gd ns)]
theorem w_mov2 (c : Int) (ns : List Int) : GS id (gd (ns.map fun x => x * 3 + c)) (ns.map fun x => x * 3 + c).length = 3 * GS id (gd ns) ns.length + c * ((ns.length : Int) * ((ns.length : Int) + 1) / 2) := by
  rw [List.length_map, GS_LS, GS_LS, LS_congr (g := fun i => (0 - gd ns i) * 3 + (0 - c)) fun i hi => by rw [gd_map _ hi]; omega]
  rw [w_mv, all_half ns.length (fun i => 0 - gd ns i), Int.zero_sub, Int.neg_mul]
  omega
theorem w_ov (f : Nat → Int) {n p : Nat} (h : p ≤ n) : LS id f p + sm p (fun a => sm (n - p) fun j => mn f a (p - a + j)) + LS id (fun i => f (p + i)) (n - p) = LS id f n := by
  have e1 : LS id f n = sm p (fun a => sm (n - a) (fun k => mn f a k)) + sm (n - p) (fun a => sm (n - (p + a)) (fun k => mn f (p + a) k)) := by
    have hs := sm_split (fun a => sm (n - a) (fun k => mn f a k)) p (n - p)
    rw [show p + (n - p) = n from by omega] at hs
    exact hs
  have e2 : sm (n - p) (fun a => sm (n - (p + a)) (fun k => mn f (p + a) k)) = LS id (fun i => f (p + i)) (n - p) := by
    refine sm_congr fun a _ => ?_
    rw [show n - (p + a) = n - p - a from by omega]
    refine sm_congr fun k _ => ?_
    rw [mn_shift]
    rfl
  have e3 : sm p (fun a => sm (n - a) (fun k => mn f a k)) = sm p (fun a => sm (p - a) (fun k => mn f a k) + sm (n - p) fun j => mn f a (p - a + j)) := sm_congr fun a ha => by
    rw [show n - a = (p - a) + (n - p) from by omega, sm_split]
  rw [e1, e2, e3, sm_add]
  rfl
theorem gd_take {ns : List Int} {p i : Nat} (h : i < p) (hp : p ≤ ns.length) : gd (ns.take p) i = gd ns i := gd_some (by rw [List.getElem?_take_of_lt h]; exact gd_get (by omega))
theorem gd_dropn {ns : List Int} {p i : Nat} (h : i < ns.length - p) : gd (ns.drop p) i = gd ns (p + i) := gd_some (by rw [List.getElem?_drop]; exact gd_get (by omega))
theorem w_over1 (ns : List Int) {p : Nat} (h : p ≤ ns.length) : LS id (gd (ns.take p)) (ns.take p).length + sm p (fun a => sm (ns.length - p) fun j => mn (gd ns) a (p - a + j)) + LS id (gd (ns.drop p)) (ns.drop p).length = LS id (gd ns) ns.length := by
  rw [← w_ov (gd ns) h, List.length_drop, show (ns.take p).length = p from by rw [List.length_take]; omega]
  rw [LS_congr (f := gd (ns.take p)) (g := gd ns) fun i hi => gd_take hi h, LS_congr (f := gd (ns.drop p)) (g := fun i => gd ns (p + i)) fun i hi => gd_dropn hi]
theorem w_over2 (ns : List Int) {p : Nat} (h : p ≤ ns.length) : GS id (gd (ns.take p)) (ns.take p).length + sm p (fun a => sm (ns.length - p) fun j => mx (gd ns) a (p - a + j)) + GS id (gd (ns.drop p)) (ns.drop p).length = GS id (gd ns) ns.length := by
  rw [GS_LS, GS_LS, GS_LS, ← w_ov (fun i => 0 - gd ns i) h, List.length_drop, show (ns.take p).length = p from by rw [List.length_take]; omega]
  rw [LS_congr (f := fun i => 0 - gd (ns.take p) i) (g := fun i => 0 - gd ns i) fun i hi => by rw [gd_take hi h], LS_congr (f := fun i => 0 - gd (ns.drop p) i) (g := fun i => 0 - gd ns (p + i)) fun i hi => by rw [gd_dropn hi]]
  have e : sm p (fun a => sm (ns.length - p) fun j => mx (gd ns) a (p - a + j)) = - sm p (fun a => sm (ns.length - p) fun j => mn (fun i => 0 - gd ns i) a (p - a + j)) := by
    rw [← sm_neg]
    refine sm_congr fun a _ => ?_
    rw [← sm_neg]
    exact sm_congr fun j _ => mx_mn _ _ _
  rw [e]
  omega
theorem w_rch {f : Nat → Int} {n : Nat} {ps : List (Int × Int)} (h : Rp f n ps) : sm n (fun i => f i * ((i : Int) - (ps.getD i (0, 0)).1 + 1) * ((ps.getD i (0, 0)).2 - i)) = LS id f n := by
  obtain ⟨lo, hi, hr⟩ := h.fn
  have := sum_by_reaches id f n lo hi fun i hi => (hr i hi).2
  rw [← this]
  refine sm_congr fun i hi' => ?_
  have e := (hr i hi').1
  have e2 : ps.getD i (0, 0) = ((lo i : Int), (hi i : Int)) := by rw [List.getD_eq_getElem?_getD, e]; rfl
  rw [e2]
  show f i * ((i : Int) - lo i + 1) * ((hi i : Int) - i) = _
  first
  | rfl
  | (simp only [id]; rw [Int.mul_comm, Int.mul_assoc])
  | (simp only [id]; ac_rfl)
theorem w_rch2 {ns : List Int} {ps : List (Int × Int)} (h : Rp (gn ns) ns.length ps) : sm ns.length (fun i => gd ns i * ((i : Int) - (ps.getD i (0, 0)).1 + 1) * ((ps.getD i (0, 0)).2 - i)) = GS id (gd ns) ns.length := by
  rw [GS_LS]
  show _ = - LS id (gn ns) ns.length
  rw [← w_rch h, ← sm_neg]
  refine sm_congr fun i _ => ?_
  show _ = - ((0 - gd ns i) * _ * _)
  rw [Int.zero_sub, Int.neg_mul, Int.neg_mul, Int.neg_neg]
end SL

/-! sums over planted rows: plain -/
namespace SL
/-- every stretch counted -/
def Ev (n : Nat) : Int := (n : Int) * ((n : Int) + 1) / 2
theorem Ev_LS (n : Nat) (f : Nat → Int) : Ev n = LS (fun _ => 1) f n := all_half n f
theorem Ev_sm (n : Nat) : Ev n = sm n (fun a => sm (n - a) (fun _ => 1)) := Ev_LS n (fun _ => 0)
theorem LS_cst {f : Nat → Int} {n : Nat} {c : Int} (h : ∀ i, i < n → f i = c) : LS id f n = c * Ev n := by
  rw [LS_congr h, Ev_LS n (fun _ => c), ← LS_mul]
  refine sm_congr fun a ha => sm_congr fun k hk => ?_
  show mn _ a k = c * 1
  rw [mn_is (v := c) (fun j _ _ => Int.le_refl c) ⟨a, by omega, by omega, rfl⟩, Int.mul_one]
theorem GS_cst {f : Nat → Int} {n : Nat} {c : Int} (h : ∀ i, i < n → f i = c) : GS id f n = c * Ev n := by
  rw [GS_LS, LS_cst (c := 0 - c) fun i hi => by rw [h i hi], Int.zero_sub, Int.neg_mul]
  omega
theorem LS_rise {f : Nat → Int} {n : Nat} (h : ∀ i j, i ≤ j → j < n → f i ≤ f j) : LS id f n = sm n (fun a => f a * ((n : Int) - a)) := by
  refine sm_congr fun a ha => ?_
  have e : sm (n - a) (fun k => id (mn f a k)) = sm (n - a) (fun _ => f a) := sm_congr fun k hk => mn_is (fun j h1 h2 => h a j h1 (by omega)) ⟨a, by omega, by omega, rfl⟩
  rw [e, sm_const, Int.mul_comm, show ((n - a : Nat) : Int) = (n : Int) - a from by omega]
theorem GS_rise {f : Nat → Int} {n : Nat} (h : ∀ i j, i ≤ j → j < n → f i ≤ f j) : GS id f n = sm n (fun a => f a * ((a : Int) + 1)) := by
  have e : GS id f n = sm n (fun a => sm (n - a) (fun k => f (a + k))) := sm_congr fun a ha => sm_congr fun k hk => by
    show mx f a k = f (a + k)
    rw [mx_mn, mn_is (v := 0 - f (a + k)) (fun j h1 h2 => by have := h j (a + k) (by omega) (by omega); show 0 - f (a + k) ≤ 0 - f j; omega) ⟨a + k, by omega, by omega, rfl⟩]
    omega
  rw [e, tri_swap (fun _ p => f p)]
  refine sm_congr fun a ha => ?_
  rw [sm_const, Int.mul_comm]
  congr 1
/-- one less at p -/
theorem LS_hole {f : Nat → Int} {n p : Nat} {c d : Int} (hp : p < n) (hd : 0 < d) (h : ∀ i, i < n → i ≠ p → f i = c) (hf : f p = c - d) : LS id f n = c * Ev n - d * (((p : Int) + 1) * ((n : Int) - p)) := by
  have hF : FL f 0 (n - 1) p := ⟨by omega, by omega, fun j h1 h2 => by rw [h j (by omega) (by omega), hf]; omega, fun j h1 h2 => by rw [h j (by omega) (by omega), hf]; omega⟩
  have h1 := LS_part (G := id) hF hp
  have h2 := LS_part (G := fun _ => 1) hF hp
  rw [h1, Ev_LS n f, h2, LS_cst (n := p) (c := c) fun i hi => h i (by omega) (by omega), LS_cst (n := n - p - 1) (c := c) fun i hi => h (p + 1 + i) (by omega) (by omega)]
  rw [← Ev_LS, ← Ev_LS]
  show _ + _ + _ * f p = _
  rw [hf, Int.mul_one, Int.mul_add, Int.mul_add, Int.mul_comm _ (c - d), Int.sub_mul]
  omega
theorem GS_hole {f : Nat → Int} {n p : Nat} {c d : Int} (hp : p < n) (hd : 0 < d) (h : ∀ i, i < n → i ≠ p → f i = c) (hf : f p = c - d) : GS id f n = c * Ev n - d := by
  have hle : ∀ i, i < n → f i ≤ c := fun i hi => by
    by_cases z : i = p
    · rw [z, hf]; omega
    · rw [h i hi z]; omega
  have e : GS id f n = sm n (fun a => sm (n - a) (fun k => c * 1 + (if a = p then (if k = 0 then 0 - d else 0) else 0))) := sm_congr fun a ha => sm_congr fun k hk => by
    show mx f a k = _
    rw [mx_mn]
    by_cases z : a = p ∧ k = 0
    · rw [if_pos z.1, if_pos z.2, z.1, z.2]
      show - (0 - f p) = _
      rw [hf]; omega
    · have hj : ∃ j, a ≤ j ∧ j ≤ a + k ∧ j ≠ p := by
        by_cases y : a = p
        · exact ⟨a + 1, by omega, by omega, by omega⟩
        · exact ⟨a, by omega, by omega, y⟩
      obtain ⟨j, j1, j2, j3⟩ := hj
      rw [mn_is (v := 0 - c) (fun i h1 h2 => by have := hle i (by omega); show 0 - c ≤ 0 - f i; omega) ⟨j, j1, j2, by show 0 - f j = 0 - c; rw [h j (by omega) j3]⟩]
      by_cases y : a = p
      · rw [if_pos y, if_neg fun q => z ⟨y, q⟩]; omega
      · rw [if_neg y]; omega
  have e2 : sm n (fun a => sm (n - a) (fun k => c * 1 + (if a = p then (if k = 0 then 0 - d else 0) else 0))) = c * Ev n + sm n (fun a => if a = p then 0 - d else 0) := by
    rw [Ev_sm, ← sm_mul, ← sm_add]
    refine sm_congr fun a ha => ?_
    rw [sm_add, sm_mul]
    congr 1
    by_cases z : a = p
    · rw [if_pos z, sm_congr (g := fun k => if k = 0 then 0 - d else 0) fun k _ => if_pos z]
      rw [sm_one (k := 0) (by omega) fun i _ hi => if_neg hi]
      rfl
    · rw [if_neg z, sm_congr (g := fun _ => 0) fun k _ => if_neg z, sm_zero]
  rw [e, e2, sm_one (k := p) hp fun i _ hi => if_neg hi, if_pos rfl]
  omega
/-- turn by turn -/
theorem LS_turn {f : Nat → Int} {n : Nat} {c : Int} (hle : ∀ i, i < n → c ≤ f i) (hn : ∀ i, i + 1 < n → f i = c ∨ f (i + 1) = c) : LS id f n = sm n f + (Ev n - n) * c := by
  have e : LS id f n = sm n (fun a => f a + c * (sm (n - a) (fun _ => 1) - 1)) := sm_congr fun a ha => by
    obtain ⟨m, hm⟩ : ∃ m, n - a = m + 1 := ⟨n - a - 1, by omega⟩
    rw [hm, sm_head]
    have e1 : sm m (fun i => id (mn f a (i + 1))) = sm m (fun _ => c) := sm_congr fun i hi => by
      refine mn_is (fun j h1 h2 => hle j (by omega)) ?_
      rcases hn a (by omega) with z | z
      · exact ⟨a, by omega, by omega, z⟩
      · exact ⟨a + 1, by omega, by omega, z⟩
    rw [e1, sm_const, sm_const, show ((m + 1 : Nat) : Int) * 1 - 1 = m from by omega, Int.mul_comm c]
    rfl
  rw [e, sm_add, sm_mul, sm_sub, ← Ev_sm, sm_const, Int.mul_one, Int.mul_comm c]
theorem GS_turn {f : Nat → Int} {n : Nat} {c : Int} (hle : ∀ i, i < n → f i ≤ c) (hn : ∀ i, i + 1 < n → f i = c ∨ f (i + 1) = c) : GS id f n = sm n f + (Ev n - n) * c := by
  rw [GS_LS, LS_turn (c := 0 - c) (fun i hi => by have := hle i hi; omega) (fun i hi => by rcases hn i hi with z | z <;> omega)]
  have e : sm n (fun i => 0 - f i) = - sm n f := by
    rw [← sm_neg]
    exact sm_congr fun i _ => by omega
  rw [e, Int.zero_sub, Int.mul_neg]
  omega
end SL

/-! papers: plain -/
namespace SL
theorem lo_ex (f : Nat → Int) (i : Nat) : ∀ b, b ≤ i → (∀ j, b ≤ j → j < i → f i < f j) → ∃ c, IsLo f i c
  | 0, h, g => ⟨0, Nat.zero_le _, g, .inl rfl⟩
  | b + 1, h, g => by
    by_cases z : f b ≤ f i
    · exact ⟨b + 1, h, g, .inr z⟩
    · refine lo_ex f i b (by omega) fun j h1 h2 => ?_
      by_cases y : j = b
      · rw [y]; omega
      · exact g j (by omega) h2
theorem hi_ex (f : Nat → Int) (n i : Nat) : ∀ m e, m = n - e → i < e → e ≤ n → (∀ j, i < j → j < e → f i ≤ f j) → ∃ c, IsHi f n i c
  | 0, e, hm, h1, h2, g => ⟨e, h1, h2, g, .inl (by omega)⟩
  | m + 1, e, hm, h1, h2, g => by
    by_cases z : f e < f i
    · exact ⟨e, h1, h2, g, .inr z⟩
    · refine hi_ex f n i m (e + 1) (by omega) (by omega) (by omega) fun j j1 j2 => ?_
      by_cases y : j = e
      · rw [y]; omega
      · exact g j j1 (by omega)
theorem isR_ex (f : Nat → Int) (n i : Nat) (h : i < n) : ∃ b e, IsR f n i b e := by
  obtain ⟨b, hb⟩ := lo_ex f i i (Nat.le_refl i) fun j h1 h2 => by omega
  obtain ⟨e, he⟩ := hi_ex f n i _ (i + 1) rfl (by omega) (by omega) fun j h1 h2 => by omega
  exact ⟨b, e, isR_of hb he⟩
theorem sm_eq_of {f g : Nat → Int} : ∀ {n : Nat}, (∀ i, i < n → f i ≤ g i) → sm n f = sm n g → ∀ i, i < n → f i = g i
  | 0, _, _, i, hi => by omega
  | n + 1, h, e, i, hi => by
    have hle : ∀ {m : Nat}, (∀ i, i < m → f i ≤ g i) → sm m f ≤ sm m g := fun {m} => by
      induction m with
      | zero => intro _; exact Int.le_refl 0
      | succ m ih =>
        intro hh
        have h1 := ih fun i hi => hh i (by omega)
        have h2 := hh m (by omega)
        show sm m f + f m ≤ sm m g + g m
        omega
    have e' : sm n f + f n = sm n g + g n := e
    have h1 := hle (m := n) fun i hi => h i (by omega)
    have h2 := h n (by omega)
    by_cases z : i = n
    · rw [z]; omega
    · exact sm_eq_of (n := n) (fun i hi => h i (by omega)) (by omega) i (by omega)
def isRc (ns : List Int) (i : Nat) (p : Int × Int) : Prop := (0 ≤ p.1 ∧ p.1 ≤ i ∧ (i : Int) < p.2 ∧ p.2 ≤ ns.length) ∧ (∀ j, j < i → p.1.toNat ≤ j → gd ns i < gd ns j) ∧ (∀ j, j < p.2.toNat → i ≤ j → gd ns i ≤ gd ns j)
instance (ns : List Int) (i : Nat) (p : Int × Int) : Decidable (isRc ns i p) := by unfold isRc; exact inferInstance
def hld (ps : List (Int × Int)) (i : Nat) : Int := ((i : Int) - (ps.getD i (0, 0)).1 + 1) * ((ps.getD i (0, 0)).2 - i)
theorem Rp.gD {f : Nat → Int} {n : Nat} {ps : List (Int × Int)} (h : Rp f n ps) {i : Nat} (hi : i < n) : ∃ b e : Nat, ps.getD i (0, 0) = ((b : Int), (e : Int)) ∧ IsR f n i b e := by
  obtain ⟨b, e, h1, h2⟩ := h.r i hi
  exact ⟨b, e, by rw [List.getD_eq_getElem?_getD, h1]; rfl, h2⟩
theorem Rp.rc {ns : List Int} {ps : List (Int × Int)} (h : Rp (gd ns) ns.length ps) {i : Nat} (hi : i < ns.length) : isRc ns i (ps.getD i (0, 0)) := by
  obtain ⟨b, e, h1, h2⟩ := h.gD hi
  have g1 := h2.bi
  have g2 := h2.ie
  have g3 := h2.en
  rw [h1]
  refine ⟨⟨by show (0 : Int) ≤ (b : Int); omega, by show (b : Int) ≤ i; omega, by show (i : Int) < (e : Int); omega, by show (e : Int) ≤ _; omega⟩, fun j j1 j2 => ?_, fun j j1 j2 => ?_⟩
  · exact h2.ahead j (by have : ((b : Int), (e : Int)).1.toNat = b := rfl; omega) j1
  · by_cases z : j = i
    · rw [z]; exact Int.le_refl _
    · exact h2.behind j (by omega) (by have : ((b : Int), (e : Int)).2.toNat = e := rfl; omega)
theorem Rp.cnt {f : Nat → Int} {n : Nat} {ps : List (Int × Int)} (h : Rp f n ps) : sm n (hld ps) = Ev n := by
  obtain ⟨lo, hi, hf⟩ := h.fn
  rw [Ev_LS n f, ← sum_by_reaches (fun _ => 1) f n lo hi fun i hi => (hf i hi).2]
  refine sm_congr fun i hi' => ?_
  unfold hld
  rw [List.getD_eq_getElem?_getD, (hf i hi').1, Int.one_mul]
  rfl
theorem Rp.tot {ns : List Int} {ps : List (Int × Int)} (h : Rp (gd ns) ns.length ps) : sm ns.length (fun i => hld ps i * gd ns i) = LS id (gd ns) ns.length := by
  rw [← w_rch h]
  refine sm_congr fun i hi => ?_
  unfold hld
  rw [Int.mul_comm, Int.mul_assoc]
theorem mul_sq {x y X Y : Int} (h1 : 1 ≤ x) (h2 : x ≤ X) (h3 : 1 ≤ y) (h4 : y ≤ Y) : x * y ≤ X * Y ∧ (x * y = X * Y → x = X ∧ y = Y) := by
  have h5 : x * y ≤ X * Y := Int.mul_le_mul h2 h4 (by omega) (by omega)
  refine ⟨h5, fun e => ?_⟩
  have a1 : x * y ≤ X * y := Int.mul_le_mul_of_nonneg_right h2 (by omega)
  have a2 : X * y ≤ X * Y := Int.mul_le_mul_of_nonneg_left h4 (by omega)
  have e1 : x * y = X * y := by omega
  have e2 : X * y = X * Y := by omega
  exact ⟨Int.eq_of_mul_eq_mul_right (by omega) e1, Int.eq_of_mul_eq_mul_left (by omega) e2⟩
theorem paper_is {ns : List Int} {ps : List (Int × Int)} (hl : ps.length = ns.length) (hc : ∀ i, i < ns.length → isRc ns i (ps.getD i (0, 0))) (hs : sm ns.length (hld ps) = Ev ns.length) : Rp (gd ns) ns.length ps := by
  have hex : ∀ i, ∃ be : Nat × Nat, i < ns.length → IsR (gd ns) ns.length i be.1 be.2 := fun i => by
    by_cases z : i < ns.length
    · obtain ⟨b, e, h⟩ := isR_ex (gd ns) ns.length i z
      exact ⟨(b, e), fun _ => h⟩
    · exact ⟨(0, 0), fun h => absurd h z⟩
  have hR : ∀ i, i < ns.length → IsR (gd ns) ns.length i (Classical.choose (hex i)).1 (Classical.choose (hex i)).2 := fun i => Classical.choose_spec (hex i)
  generalize hlo : (fun i => (Classical.choose (hex i)).1) = lo at *
  generalize hhi : (fun i => (Classical.choose (hex i)).2) = hi at *
  have hR' : ∀ i, i < ns.length → IsR (gd ns) ns.length i (lo i) (hi i) := fun i h => by rw [← hlo, ← hhi]; exact hR i h
  have hE : sm ns.length (fun i => ((i : Int) - lo i + 1) * ((hi i : Int) - i)) = Ev ns.length := by
    rw [Ev_LS ns.length (gd ns), ← sum_by_reaches (fun _ => 1) (gd ns) ns.length lo hi hR']
    refine sm_congr fun i hi' => ?_
    rw [Int.one_mul]
  have hb : ∀ i, i < ns.length → (1 ≤ (i : Int) - (ps.getD i (0, 0)).1 + 1 ∧ (i : Int) - (ps.getD i (0, 0)).1 + 1 ≤ (i : Int) - lo i + 1) ∧ (1 ≤ (ps.getD i (0, 0)).2 - i ∧ (ps.getD i (0, 0)).2 - i ≤ (hi i : Int) - i) := fun i hi' => by
    obtain ⟨⟨c1, c2, c3, c4⟩, c5, c6⟩ := hc i hi'
    have r := hR' i hi'
    have r1 := r.bi
    have r2 := r.ie
    have r3 := r.en
    refine ⟨⟨by omega, ?_⟩, by omega, ?_⟩
    · rcases r.first with z | z
      · omega
      · by_cases y : (lo i : Int) ≤ (ps.getD i (0, 0)).1
        · omega
        · have := c5 (lo i - 1) (by omega) (by omega)
          omega
    · rcases r.last with z | z
      · omega
      · by_cases y : (ps.getD i (0, 0)).2 ≤ (hi i : Int)
        · omega
        · have := c6 (hi i) (by omega) (by omega)
          omega
  have heq := sm_eq_of (n := ns.length) (f := hld ps) (g := fun i => ((i : Int) - lo i + 1) * ((hi i : Int) - i)) (fun i hi' => by
    obtain ⟨⟨a1, a2⟩, a3, a4⟩ := hb i hi'
    exact (mul_sq a1 a2 a3 a4).1) (hs.trans hE.symm)
  refine ⟨hl, fun i hi' => ⟨lo i, hi i, ?_, hR' i hi'⟩⟩
  obtain ⟨⟨a1, a2⟩, a3, a4⟩ := hb i hi'
  obtain ⟨e1, e2⟩ := (mul_sq a1 a2 a3 a4).2 (heq i hi')
  have hg : ps[i]? = some (ps.getD i (0, 0)) := by
    rw [List.getD_eq_getElem?_getD, List.getElem?_eq_getElem (by omega)]
    rfl
  rw [hg]
  congr 1
  refine Prod.ext ?_ ?_
  · show (ps.getD i (0, 0)).1 = (lo i : Int)
    omega
  · show (ps.getD i (0, 0)).2 = (hi i : Int)
    omega
end SL

/-! what is shown tells the data -/
namespace SL
open PySem PySem.Spec PyProof.Rows L2
/-- the signs of a whole number -/
def intL (i : Int) : List Nat := if i < 0 then 45 :: TL.numL i.natAbs else TL.numL i.natAbs
theorem tl_int (i : Int) : TL.tl (PySem.Str.ofString (toString i)) = intL i := by
  cases i with
  | ofNat m =>
    show TL.tl (PySem.Str.ofString (toString ((m : Nat) : Int))) = _
    rw [TL.tl_num]
    unfold intL
    rw [if_neg (by show ¬ ((m : Nat) : Int) < 0; omega)]
    rfl
  | negSucc m =>
    unfold intL
    rw [if_pos (Int.negSucc_lt_zero m)]
    have h := TL.tl_num (m + 1)
    rw [TL.tl_ofString] at h ⊢
    show ("-" ++ toString (m + 1)).toList.map Char.toNat = _
    rw [String.toList_append, List.map_append]
    show 45 :: (toString (m + 1)).toList.map Char.toNat = _
    rw [show (toString (m + 1)).toList.map Char.toNat = TL.numL (m + 1) from h]
    rfl
def nd (c : Nat) : Bool := c == 45 || (decide (48 ≤ c) && decide (c ≤ 57))
theorem nd_num {n c : Nat} (h : c ∈ TL.numL n) : nd c = true := by
  have := TL.numL_digits n c h
  unfold nd
  rw [Bool.or_eq_true, Bool.and_eq_true, decide_eq_true_eq, decide_eq_true_eq]
  exact .inr this
theorem intL_nd (i : Int) : ∀ c ∈ intL i, nd c = true := fun c hc => by
  unfold intL at hc
  split at hc
  · rcases List.mem_cons.mp hc with rfl | hc
    · rfl
    · exact nd_num hc
  · exact nd_num hc
theorem intL_ne (i : Int) : intL i ≠ [] := by
  unfold intL
  split
  · exact List.cons_ne_nil _ _
  · exact TL.numL_ne _
theorem numL_head {n c : Nat} {r : List Nat} (h : TL.numL n = c :: r) : c ≠ 45 := fun z => by
  have := TL.numL_digits n c (by rw [h]; exact List.mem_cons_self)
  omega
theorem intL_inj {i j : Int} (h : intL i = intL j) : i = j := by
  unfold intL at h
  split at h <;> split at h
  · have := TL.numL_inj (List.cons.inj h).2
    omega
  · exact absurd rfl (numL_head h.symm)
  · exact absurd rfl (numL_head h)
  · have := TL.numL_inj h
    omega
/-! ### the signs of what is shown -/
abbrev tx (d : PyData) : List Nat := TL.tl d.shown
abbrev jn : List (List Nat) → List Nat := TL.joinL [44, 32]
theorem txA (ds : List PyData) : (PyData.shownAll ds).map TL.tl = ds.map tx := by
  induction ds with
  | nil => rfl
  | cons d ds ih => rw [PyData.shownAll, List.map_cons, List.map_cons, ih]
theorem tl_comma : TL.tl ((", " : String) : Str) = [44, 32] := by decide
theorem tx_list (ds : List PyData) : tx (.list ds) = 91 :: (jn (ds.map tx) ++ [93]) := by
  unfold tx
  rw [PyData.shown, listText_eq_join]
  rw [TL.tl_append, TL.tl_append, TL.tl_join, txA, tl_comma]
  rfl
theorem tx_tuple (ds : List PyData) : tx (.tuple ds) = 40 :: (jn (ds.map tx) ++ (if ds.length = 1 then [44, 41] else [41])) := by
  unfold tx
  rw [PyData.shown]
  unfold tupleText
  rw [TL.tl_append, TL.tl_append, TL.tl_join, txA, tl_comma, PyData.shownAll_length]
  by_cases h : ds.length = 1
  · rw [if_pos h, if_pos (by simp [h])]
    rfl
  · rw [if_neg h, if_neg (by simpa using h)]
    rfl
theorem repr_fold_hd (f : Nat → Array Nat) (q : Nat) : ∀ (cs : List Nat) (a : Array Nat), (∃ r, a.toList = q :: r) → ∃ r, (cs.foldl (fun out c => out ++ f c) a).toList = q :: r
  | [], a, h => h
  | c :: cs, a, h => by
    rw [List.foldl_cons]
    obtain ⟨r, e⟩ := h
    exact repr_fold_hd f q cs _ ⟨r ++ (f c).toList, by rw [Array.toList_append, e]; rfl⟩
theorem tx_str (x : Str) : ∃ r, tx (.str x) = reprQuote x :: r := by
  unfold tx
  rw [PyData.shown]
  unfold reprText
  show ∃ r, ((x.cps.foldl (fun out c => out ++ (Builtin.Str.reprChar (reprQuote x) c).toArray) #[reprQuote x]).push (reprQuote x)).toList = reprQuote x :: r
  rw [← Array.foldl_toList]
  obtain ⟨r, e⟩ := repr_fold_hd (fun c => (Builtin.Str.reprChar (reprQuote x) c).toArray) (reprQuote x) x.cps.toList #[reprQuote x] ⟨[], rfl⟩
  exact ⟨r ++ [reprQuote x], by rw [Array.toList_push, e]; rfl⟩
theorem quote_is (x : Str) : reprQuote x = 39 ∨ reprQuote x = 34 := by
  unfold reprQuote
  split
  · exact .inr rfl
  · exact .inl rfl
/-- the first sign -/
def hk : PyData → Nat → Prop
  | .none, c => c = 78
  | .bool _, c => c = 84 ∨ c = 70
  | .int _, c => nd c = true
  | .str _, c => c = 39 ∨ c = 34
  | .list _, c => c = 91
  | .tuple _, c => c = 40
  | .dict _, c => c = 123
theorem tx_hd (d : PyData) : ∃ c r, tx d = c :: r ∧ hk d c := by
  cases d with
  | none => exact ⟨78, _, rfl, rfl⟩
  | bool b => cases b with
    | true => exact ⟨84, _, rfl, .inl rfl⟩
    | false => exact ⟨70, _, rfl, .inr rfl⟩
  | int i =>
    have e : tx (.int i) = intL i := tl_int i
    cases h : intL i with
    | nil => exact absurd h (intL_ne i)
    | cons c r => exact ⟨c, r, e.trans h, intL_nd i c (by rw [h]; exact List.mem_cons_self)⟩
  | str x =>
    obtain ⟨r, e⟩ := tx_str x
    exact ⟨_, r, e, quote_is x⟩
  | list xs => exact ⟨91, _, tx_list xs, rfl⟩
  | tuple xs => exact ⟨40, _, tx_tuple xs, rfl⟩
  | dict kvs => exact ⟨123, TL.tl (PySem.Str.join ", " (PyData.shownKv kvs)) ++ TL.tl "}", by
      unfold tx
      rw [PyData.shown_dict, TL.tl_append, TL.tl_append]
      rfl, rfl⟩
theorem hk_nd {d : PyData} {c : Nat} (h : hk d c) : c ≠ 44 ∧ c ≠ 93 ∧ c ≠ 41 := by
  cases d <;> simp only [hk] at h
  case int i =>
    refine ⟨?_, ?_, ?_⟩ <;> (rintro rfl; exact absurd h (by decide))
  all_goals omega
/-- the heads tell the kinds -/
def kd : PyData → Nat
  | .none => 0
  | .bool _ => 1
  | .int _ => 2
  | .str _ => 3
  | .list _ => 4
  | .tuple _ => 5
  | .dict _ => 6
theorem hk_kd {d e : PyData} {c : Nat} (h : hk d c) (g : hk e c) : kd d = kd e := by
  have n1 : nd 78 = false := rfl
  have n2 : nd 84 = false := rfl
  have n3 : nd 70 = false := rfl
  have n4 : nd 39 = false := rfl
  have n5 : nd 34 = false := rfl
  have n6 : nd 91 = false := rfl
  have n7 : nd 40 = false := rfl
  have n8 : nd 123 = false := rfl
  cases d <;> cases e <;> simp only [hk] at h g <;> first
    | rfl
    | (exfalso; omega)
    | (exfalso; subst h; simp_all)
    | (exfalso; subst g; simp_all)
    | (exfalso; rcases h with rfl | rfl <;> simp_all)
    | (exfalso; rcases g with rfl | rfl <;> simp_all)
def Dlm (r : List Nat) : Prop := r = [] ∨ ∃ c t, r = c :: t ∧ (c = 44 ∨ c = 93 ∨ c = 41)
def Cls (s : List Nat) : Prop := ∃ t, s = 93 :: t ∨ s = 41 :: t ∨ s = 44 :: 41 :: t
theorem Cls.dlm {s : List Nat} (h : Cls s) : Dlm s := by
  obtain ⟨t, rfl | rfl | rfl⟩ := h
  · exact .inr ⟨_, _, rfl, .inr (.inl rfl)⟩
  · exact .inr ⟨_, _, rfl, .inr (.inr rfl)⟩
  · exact .inr ⟨_, _, rfl, .inl rfl⟩
mutual
def su : PyData → Bool
  | .none | .int _ => true
  | .list xs | .tuple xs => suA xs
  | .bool _ | .str _ | .dict _ => false
def suA : List PyData → Bool
  | [] => true
  | x :: xs => su x && suA xs
end
theorem tw_app {p : Nat → Bool} {a r : List Nat} (h : ∀ c ∈ a, p c = true) (hr : ∀ c t, r = c :: t → p c = false) : (a ++ r).takeWhile p = a := by
  induction a with
  | nil =>
    cases r with
    | nil => rfl
    | cons c t => simp [hr c t rfl]
  | cons c a ih =>
    rw [List.cons_append, List.takeWhile_cons, h c List.mem_cons_self, if_pos rfl, ih fun x hx => h x (List.mem_cons_of_mem _ hx)]
theorem Dlm.nd {r : List Nat} (h : Dlm r) : ∀ c t, r = c :: t → nd c = false := fun c t e => by
  rcases h with rfl | ⟨c', t', rfl, h⟩
  · cases e
  · cases e
    rcases h with rfl | rfl | rfl <;> rfl
theorem kind_eq {d e : PyData} {r r' : List Nat} (h : tx d ++ r = tx e ++ r') : kd d = kd e := by
  obtain ⟨c, s, e1, h1⟩ := tx_hd d
  obtain ⟨c', s', e2, h2⟩ := tx_hd e
  rw [e1, e2] at h
  have := (List.cons.inj h).1
  subst this
  exact hk_kd h1 h2
theorem jn_cons (d : PyData) (ds : List PyData) (s : List Nat) : jn ((d :: ds).map tx) ++ s = tx d ++ (match ds with | [] => s | x :: xs => 44 :: 32 :: (jn ((x :: xs).map tx) ++ s)) := by
  cases ds with
  | nil => rfl
  | cons x xs =>
    show (tx d ++ ([44, 32] ++ jn ((x :: xs).map tx))) ++ s = _
    rw [List.append_assoc, List.append_assoc]
    rfl
theorem rest_dlm {ds : List PyData} {s : List Nat} (h : Cls s) : Dlm (match ds with | [] => s | x :: xs => 44 :: 32 :: (jn ((x :: xs).map tx) ++ s)) := by
  cases ds with
  | nil => exact h.dlm
  | cons x xs => exact .inr ⟨_, _, rfl, .inl rfl⟩
theorem cls_hd {d : PyData} {s r : List Nat} (h : Cls s) (e : s = tx d ++ r) : False := by
  obtain ⟨c, t, e1, h1⟩ := tx_hd d
  have := hk_nd h1
  rw [e1] at e
  obtain ⟨u, rfl | rfl | rfl⟩ := h
  · have := (List.cons.inj e).1; omega
  · have := (List.cons.inj e).1; omega
  · have := (List.cons.inj e).1; omega
theorem cls_32 {s r : List Nat} (h : Cls s) (e : s = 44 :: 32 :: r) : False := by
  obtain ⟨u, rfl | rfl | rfl⟩ := h
  · have := (List.cons.inj e).1; omega
  · have := (List.cons.inj e).1; omega
  · have := (List.cons.inj (List.cons.inj e).2).1; omega
mutual
theorem su_inj : ∀ (e : PyData), su e = true → ∀ (d : PyData) (r r' : List Nat), tx d ++ r = tx e ++ r' → Dlm r → Dlm r' → d = e ∧ r = r'
  | .none, _, d, r, r', h, _, _ => by
    have k := kind_eq h
    cases d <;> simp only [kd] at k <;> first | (exfalso; omega) | skip
    exact ⟨rfl, List.append_cancel_left h⟩
  | .int i, _, d, r, r', h, h1, h2 => by
    have k := kind_eq h
    cases d <;> simp only [kd] at k <;> first | (exfalso; omega) | skip
    rename_i j
    have e1 : tx (.int j) = intL j := tl_int j
    have e2 : tx (.int i) = intL i := tl_int i
    rw [e1, e2] at h
    have t1 := tw_app (r := r) (intL_nd j) h1.nd
    have t2 := tw_app (r := r') (intL_nd i) h2.nd
    rw [h, t2] at t1
    have := intL_inj t1
    subst this
    exact ⟨rfl, List.append_cancel_left h⟩
  | .list es, hs, d, r, r', h, h1, h2 => by
    have k := kind_eq h
    cases d <;> simp only [kd] at k <;> first | (exfalso; omega) | skip
    rename_i ds
    rw [tx_list, tx_list, List.cons_append, List.cons_append, List.append_assoc, List.append_assoc] at h
    obtain ⟨g1, g2⟩ := suA_inj es hs ds _ _ (List.cons.inj h).2 ⟨_, .inl rfl⟩ ⟨_, .inl rfl⟩
    subst g1
    exact ⟨rfl, (List.cons.inj g2).2⟩
  | .tuple es, hs, d, r, r', h, h1, h2 => by
    have k := kind_eq h
    cases d <;> simp only [kd] at k <;> first | (exfalso; omega) | skip
    rename_i ds
    rw [tx_tuple, tx_tuple, List.cons_append, List.cons_append, List.append_assoc, List.append_assoc] at h
    have c : ∀ (n : Nat) (r : List Nat), Cls ((if n = 1 then [44, 41] else [41]) ++ r) := fun n r => by
      split
      · exact ⟨_, .inr (.inr rfl)⟩
      · exact ⟨_, .inr (.inl rfl)⟩
    obtain ⟨g1, g2⟩ := suA_inj es hs ds _ _ (List.cons.inj h).2 (c _ _) (c _ _)
    subst g1
    exact ⟨rfl, List.append_cancel_left g2⟩
  | .bool _, h, _, _, _, _, _, _ => by cases h
  | .str _, h, _, _, _, _, _, _ => by cases h
  | .dict _, h, _, _, _, _, _, _ => by cases h
theorem suA_inj : ∀ (es : List PyData), suA es = true → ∀ (ds : List PyData) (s s' : List Nat), jn (ds.map tx) ++ s = jn (es.map tx) ++ s' → Cls s → Cls s' → ds = es ∧ s = s'
  | [], _, ds, s, s', h, h1, h2 => by
    cases ds with
    | nil => exact ⟨rfl, h⟩
    | cons d ds =>
      rw [jn_cons] at h
      exact (cls_hd h2 h.symm).elim
  | e :: es, hs, ds, s, s', h, h1, h2 => by
    have hs' : su e = true ∧ suA es = true := by simpa [suA] using hs
    cases ds with
    | nil =>
      rw [jn_cons] at h
      exact (cls_hd h1 h).elim
    | cons d ds =>
      rw [jn_cons, jn_cons] at h
      obtain ⟨g1, g2⟩ := su_inj e hs'.1 d _ _ h (rest_dlm h1) (rest_dlm h2)
      subst g1
      cases ds with
      | nil =>
        cases es with
        | nil => exact ⟨rfl, g2⟩
        | cons x xs => exact (cls_32 h1 g2).elim
      | cons y ys =>
        cases es with
        | nil => exact (cls_32 h2 g2.symm).elim
        | cons x xs =>
          obtain ⟨g3, g4⟩ := suA_inj (x :: xs) hs'.2 (y :: ys) s s' (List.cons.inj (List.cons.inj g2).2).2 h1 h2
          exact ⟨by rw [g3], g4⟩
end
/-- THE LAW: what is shown as sure data is these data -/
theorem shown_inj {d e : PyData} (he : su e = true) : d.shown = e.shown ↔ d = e := by
  constructor
  · intro h
    exact (su_inj e he d [] [] (by rw [List.append_nil, List.append_nil]; exact congrArg TL.tl h) (.inl rfl) (.inl rfl)).1
  · rintro rfl
    rfl
end SL

/-! the text of a list of pairs: how long, which signs -/
namespace SL
open PySem PySem.Spec PyProof.Rows L2
theorem intL_len {i : Int} {k : Nat} (hk : 0 < k) (h0 : 0 ≤ i) (h : i < 10 ^ k) : (intL i).length ≤ k := by
  unfold intL
  rw [if_neg (by omega)]
  refine TL.numL_len hk ?_
  have e : ((10 : Int) ^ k) = ((10 ^ k : Nat) : Int) := (Int.natCast_pow 10 k).symm
  rw [e] at h
  omega
theorem tx_int (i : Int) : tx (.int i) = intL i := by
  unfold tx
  rw [PyData.shown]
  exact tl_int i
theorem tx_pair (x y : Int) : tx (.tuple [.int x, .int y]) = 40 :: (intL x ++ (44 :: 32 :: (intL y ++ [41]))) := by
  rw [tx_tuple]
  show 40 :: ((tx (.int x) ++ ([44, 32] ++ tx (.int y))) ++ [41]) = _
  rw [tx_int, tx_int, List.append_assoc, List.append_assoc]
  rfl
theorem jn_len {n : Nat} : ∀ ds : List PyData, (∀ d ∈ ds, (tx d).length ≤ n) → (jn (ds.map tx)).length ≤ ds.length * (n + 2)
  | [], _ => Nat.zero_le _
  | [d], h => by
    have := h d List.mem_cons_self
    show (tx d).length ≤ 1 * (n + 2)
    omega
  | d :: e :: ds, h => by
    have h1 := h d List.mem_cons_self
    have h2 := jn_len (e :: ds) fun x hx => h x (List.mem_cons_of_mem _ hx)
    show (tx d ++ ([44, 32] ++ jn ((e :: ds).map tx))).length ≤ _
    rw [List.length_append, List.length_append, List.length_cons (as := e :: ds), Nat.succ_mul]
    show _ + (2 + _) ≤ _
    omega
theorem jn_all {P : Nat → Prop} (p1 : P 44) (p2 : P 32) : ∀ ds : List PyData, (∀ d ∈ ds, ∀ c ∈ tx d, P c) → ∀ c ∈ jn (ds.map tx), P c
  | [], _, c, hc => nomatch hc
  | [d], h, c, hc => h d List.mem_cons_self c hc
  | d :: e :: ds, h, c, hc => by
    have hc : c ∈ tx d ++ ([44, 32] ++ jn ((e :: ds).map tx)) := hc
    rcases List.mem_append.mp hc with hc | hc
    · exact h d List.mem_cons_self c hc
    · rcases List.mem_append.mp hc with hc | hc
      · rcases List.mem_cons.mp hc with rfl | hc
        · exact p1
        · rw [List.mem_singleton.mp hc]; exact p2
      · exact jn_all p1 p2 (e :: ds) (fun x hx => h x (List.mem_cons_of_mem _ hx)) c hc
theorem tx_pair_lt (x y : Int) : ∀ c ∈ tx (.tuple [.int x, .int y]), c < 128 := fun c hc => by
  rw [tx_pair] at hc
  have hn : ∀ i : Int, c ∈ intL i → c < 128 := fun i hi => by
    have := intL_nd i c hi
    unfold nd at this
    rw [Bool.or_eq_true, Bool.and_eq_true, decide_eq_true_eq, decide_eq_true_eq, beq_iff_eq] at this
    omega
  simp only [List.mem_cons, List.mem_append, List.not_mem_nil, or_false] at hc
  rcases hc with rfl | hc | rfl | rfl | hc | rfl
  · decide
  · exact hn _ hc
  · decide
  · decide
  · exact hn _ hc
  · decide
theorem tx_pair_len {x y : Int} (h : (0 ≤ x ∧ x < 1000) ∧ (0 ≤ y ∧ y < 1000)) : (tx (.tuple [.int x, .int y])).length ≤ 10 := by
  rw [tx_pair]
  have h1 := intL_len (i := x) (k := 3) (by decide) h.1.1 (by omega)
  have h2 := intL_len (i := y) (k := 3) (by decide) h.2.1 (by omega)
  simp only [List.length_cons, List.length_append, List.length_nil]
  omega
theorem dP_text {ps : List (Int × Int)} (hb : ∀ x ∈ ps, (0 ≤ x.1 ∧ x.1 < 1000) ∧ (0 ≤ x.2 ∧ x.2 < 1000)) (f : Int × Int → PyData) (hf : ∀ p, f p = .tuple [.int p.1, .int p.2]) : (∀ c ∈ (PyData.list (ps.map f)).shown.cps.toList, c < 16 ^ 8) ∧ (PyData.list (ps.map f)).shown.length ≤ 12 * ps.length + 2 := by
  constructor
  · intro c hc
    have hc : c ∈ tx (.list (ps.map f)) := hc
    rw [tx_list] at hc
    have : c < 128 := by
      rcases List.mem_cons.mp hc with rfl | hc
      · decide
      · rcases List.mem_append.mp hc with hc | hc
        · refine jn_all (P := fun c => c < 128) (by decide) (by decide) _ (fun d hd c hc => ?_) c hc
          obtain ⟨p, hp, rfl⟩ := List.mem_map.mp hd
          rw [hf] at hc
          exact tx_pair_lt _ _ c hc
        · rw [List.mem_singleton.mp hc]; decide
    omega
  · rw [TL.len_tl]
    show (tx (.list (ps.map f))).length ≤ _
    rw [tx_list, List.length_cons, List.length_append]
    have := jn_len (n := 10) (ps.map f) (fun d hd => by
      obtain ⟨p, hp, rfl⟩ := List.mem_map.mp hd
      rw [hf]
      exact tx_pair_len (hb p hp))
    rw [List.length_map] at this
    simp only [List.length_cons, List.length_nil]
    omega
theorem suA_p : ∀ ps : List (Int × Int), suA (ps.map fun p => .tuple [.int p.1, .int p.2]) = true
  | [] => rfl
  | _ :: ps => suA_p ps
theorem su_p (ps : List (Int × Int)) : su (dP ps) = true := suA_p ps
theorem pr_inj : ∀ {ps qs : List (Int × Int)}, (qs.map fun p => PyData.tuple [.int p.1, .int p.2]) = ps.map (fun p => PyData.tuple [.int p.1, .int p.2]) → qs = ps
  | [], [], _ => rfl
  | [], _ :: _, h => nomatch h
  | _ :: _, [], h => nomatch h
  | (a, b) :: ps, (c, d) :: qs, h => by
    injection h with h1 h2
    rw [pr_inj h2]
    injection h1 with h1
    injection h1 with h1 h3
    injection h3 with h3
    injection h1 with h1
    injection h3 with h3
    dsimp only at h1 h3
    rw [h1, h3]
end SL

namespace SL
open PySem PySem.Spec PyProof.Rows L2
local macro_rules | `(tactic| fail "vis") => `(tactic| first | exact Or.inl rfl | exact Or.inr (Or.inl rfl) | exact Or.inr (Or.inr rfl))
local macro_rules | `(tactic| fail "loc") => `(tactic| first | exact Or.inl rfl | exact Or.inr rfl)
local macro_rules | `(tactic| fail "th") => `(tactic| first | exact ⟨_, by assumption⟩ | exact PL.th (by assumption) | exact RL.th (by assumption) | (refine Kp.th (by assumption) ?_; fail "th"))
local macro_rules | `(tactic| fail "ne") => `(tactic| first
  | assumption
  | exact Ne.symm (by assumption)
  | exact ne_th (by assumption) (by fail "th")
  | exact Ne.symm (ne_th (by assumption) (by fail "th")))
local macro_rules | `(tactic| fail "notin") => `(tactic| (simp only [List.mem_cons, List.not_mem_nil, or_false, not_or]; (repeat' apply And.intro) <;> fail "ne"))
local macro_rules | `(tactic| fail "side") => `(tactic| first | exact Or.inl List.not_mem_nil | exact Or.inl (nin1 (by fail "ne")) | exact Or.inr trivial | exact Or.inl (by assumption) | exact Or.inl (by fail "notin"))
local macro_rules | `(tactic| fail "side1") => `(tactic| first | exact List.not_mem_nil | exact nin1 (by fail "ne") | assumption | fail "notin")
local macro_rules | `(tactic| fail "look") => `(tactic| first
  | assumption
  | exact Kp.gX (by assumption) (by fail "look") (by fail "side"))
local macro_rules | `(tactic| fail "nn") => `(tactic| first | assumption | (refine Kp.nn (by assumption) ?_; fail "nn"))
local macro_rules | `(tactic| fail "mem") => `(tactic| first | exact List.mem_cons_self | (refine List.mem_cons_of_mem _ ?_; fail "mem"))
local macro_rules | `(tactic| fail "sub") => `(tactic| first | exact sub0 | exact sub1 (Or.inl (by fail "mem")) | exact sub1 (Or.inr (by fail "nn")) | exact subS | exact subT | exact subT2 | (refine subC ?_ ?_; (first | exact Or.inl (by fail "mem") | exact Or.inr (by fail "nn")); fail "sub"))
local macro_rules | `(tactic| fail "kp") => `(tactic| first
  | exact Kp.refl
  | assumption
  | exact Kp.trX (by assumption) (by fail "kp") (by fail "sub"))
local macro_rules | `(tactic| fail "sq") => `(tactic| first | assumption | exact sqL (by fail "look") | exact sqT (by fail "look") | exact Kp.sqK (by assumption) (by fail "kp") | exact Kp.stK (by assumption) (by fail "kp"))
local macro_rules | `(tactic| fail "pl") => `(tactic| first
  | assumption
  | exact PL.kX (by assumption) (by fail "pl") (by fail "side1"))
local macro_rules | `(tactic| fail "rl") => `(tactic| first
  | assumption
  | exact RL.kX (by assumption) (by fail "rl") (by fail "side1"))
local macro_rules | `(tactic| fail "num") => `(tactic| first | omega | decide | (simp only [List.length_cons, List.length_nil, List.length_map, List.length_append]; omega))
local macro_rules | `(tactic| fail "fn") => `(tactic| first | exact Or.inl rfl | exact Or.inr rfl)
local macro_rules | `(tactic| fail "bltn") => `(tactic| first
  | refine we_bltn rfl (Blt.int (by assumption)) boot_int (v := .ty "int") rfl ?_ | refine we_bltn rfl (Blt.bool (by assumption)) boot_bool (v := .ty "bool") rfl ?_ | refine we_bltn rfl (Blt.list (by assumption)) boot_list (v := .ty "list") rfl ?_ | refine we_bltn rfl (Blt.tuple (by assumption)) boot_tuple (v := .ty "tuple") rfl ?_ | refine we_bltn rfl (Blt.str (by assumption)) boot_str (v := .ty "str") rfl ?_ | refine we_bltn rfl (Blt.ValueError (by assumption)) L2.boot_ValueError (v := .ty "ValueError") rfl ?_ | refine we_exc (by assumption) rfl ?_)
local macro_rules | `(tactic| fail "lookI") => `(tactic| first | fail "look" | exact ints0 (by fail "look") | exact ints1 (by fail "look") | exact ints2 (by fail "look") | exact ints3 (by fail "look") | exact ints4 (by fail "look") | exact ints5 (by fail "look") | exact ints6 (by fail "look"))
local macro_rules | `(tactic| fail "sqI") => `(tactic| first | assumption | exact sqL (by fail "lookI") | exact Kp.sqK (by assumption) (by fail "kp"))
local macro_rules | `(tactic| fail "tqI") => `(tactic| first | assumption | exact sqT (by fail "look") | exact sqT (tup2 (by fail "look")) | exact sqT (tup3 (by fail "look")))
local macro_rules | `(tactic| fail "tk") => `(tactic| first | assumption | exact takes0)
local macro_rules | `(tactic| fail "call") => `(tactic| first
  | refine we_call (by assumption) (by assumption) (by decide) (by assumption) rfl ?_
  | refine we_callX (by assumption) (by assumption) (by decide) (by assumption) rfl (by fail "tk") ?_
  | refine we_listEnum rfl rfl (Blt.list (by assumption)) rfl (Blt.enumerate (by assumption)) ?_
  | refine we_listZip rfl rfl (Blt.list (by assumption)) rfl (Blt.zip (by assumption)) ?_
  | refine we_listRange rfl rfl (Blt.list (by assumption)) rfl (Blt.range (by assumption)) ?_
  | refine we_callB rfl (Blt.len (by assumption)) boot_len ?_
  | refine we_callB rfl (Blt.min (by assumption)) boot_min ?_
  | refine we_callB rfl (Blt.max (by assumption)) boot_max ?_
  | refine we_callB rfl (Blt.isinstance (by assumption)) boot_isinstance ?_
  | refine we_callB rfl (Blt.repr (by assumption)) boot_repr ?_
  | refine we_sortedItems rfl rfl (Blt.sorted (by assumption)) ?_
  | refine we_callB rfl (Blt.sorted (by assumption)) boot_sorted ?_
  | refine we_callB rfl (Blt.sum (by assumption)) boot_sum ?_
  | refine we_callB rfl (Blt.abs (by assumption)) boot_abs ?_
  | refine we_callT rfl (Blt.list (by assumption)) boot_list ?_
  | refine we_callT rfl (Blt.int (by assumption)) boot_int ?_
  | refine we_callT rfl (Blt.str (by assumption)) boot_str ?_
  | refine we_callT rfl (Blt.set (by assumption)) boot_set ?_
  | refine we_verr rfl (Blt.ValueError (by assumption)) ?_
  | refine we_append ?_ | refine we_extend ?_ | refine we_pop ?_ | refine we_popAt ?_ | refine we_index ?_ | refine we_countN ?_
  | refine we_dget2 (by assumption) ?_
  | refine we_make (by assumption) (by assumption) (by decide) (by assumption) rfl ?_
  | refine we_methM ?_ | refine we_methM0 ?_
  | refine we_call0 (by assumption) (by assumption) (by decide) (by assumption) rfl ?_
  | refine we_make0 (by assumption) (by assumption) (by decide) (by assumption) rfl ?_)
local macro_rules | `(tactic| fail "we") => `(tactic| first
  | refine we_int ?_ | refine we_bl ?_ | refine we_non ?_ | refine we_str ?_
  | fail "name"
  | refine we_bin ?_ | refine we_not ?_ | refine we_un ?_ | refine we_cmp rfl ?_ | refine we_chain rfl ?_ | refine we_and ?_ | refine we_or ?_ | refine we_one ?_ | refine we_ifExp ?_
  | refine we_revI ?_ | refine we_stepI (by decide) ?_ | refine we_sl ?_ | refine we_ix ?_ | refine we_tupK ?_ | refine we_lstK ?_
  | fail "bltn"
  | refine we_fldF ?_ | refine we_dict0 ?_ | refine we_dict1 ?_
  | fail "call")
local macro_rules | `(tactic| fail "wt") => `(tactic| first
  | refine wt_cmp rfl ?_ | refine wt_chain rfl ?_ | refine wt_not ?_
  | refine wt_ww (ww_and ?_) | refine wt_ww (ww_or ?_) | refine wt_val ?_)
local macro_rules | `(tactic| fail "ww") => `(tactic| first | refine ww_and ?_ | refine ww_or ?_ | refine ww_and1 ?_ | refine ww_or1 ?_)
local macro_rules | `(tactic| fail "ws") => `(tactic| first
  | refine ws_ret ?_ | refine ws_if ?_ | refine ws_expr ?_ | refine ws_fldS ?_
  | fail "asg"
  | refine ws_raise (by exact rfl) (by fail "tk") (by assumption) rfl ?_
  | refine ws_asg ?_ | refine ws_pass ?_ | refine ws_break ?_ | refine ws_cont ?_)
local macro_rules | `(tactic| fail "bin") => `(tactic| first
  | refine b_add ?_ | refine b_sub ?_ | refine b_mulL (by omega) ?_ | refine b_mulR (by omega) ?_ | refine b_fdiv (by omega) ?_ | refine b_mod (by omega) ?_ | refine b_p8 ?_ | refine b_p12 ?_ | refine b_p18 ?_ | refine b_p6 ?_ | refine b_p9 ?_ | refine b_p11 ?_ | refine b_p27 ?_ | refine b_p30 ?_ | refine b_p39 ?_ | refine b_p3 ?_ | refine b_p4 ?_ | refine b_p5 ?_ | refine b_p7 ?_ | refine b_p10 ?_ | refine b_p13 ?_ | refine b_p15 ?_ | refine b_p16 ?_ | refine b_p17 ?_ | refine b_p24 ?_ | refine b_p29 ?_
  | refine b_catI (by fail "lookI") (by fail "lookI") (by fail "num") ?_ | refine b_repI (by fail "lookI") (by omega) (by fail "num") ?_ | refine b_catP (by fail "pl") (by fail "pl") (by fail "num") ?_ | refine b_cat (by fail "look") (by fail "look") (by fail "num") ?_)
local macro_rules | `(tactic| fail "cmp") => `(tactic| first
  | refine c_lt ?_ | refine c_le ?_ | refine c_gt ?_ | refine c_ge ?_ | refine c_eqI ?_ | refine c_neI ?_ | refine c_eqS ?_ | refine c_neS ?_ | refine c_eqB ?_ | refine c_neB ?_ | refine c_isN ?_ | refine c_notN ?_ | refine c_isB ?_ | refine c_notB ?_
  | refine c_eqL (by assumption) (by fail "sqI") (by fail "sqI") ?_ | refine c_neL (by assumption) (by fail "sqI") (by fail "sqI") ?_ | refine c_inI (by fail "sqI") ?_ | refine c_ninI (by fail "sqI") ?_ | refine c_eqP (by assumption) (by fail "pl") (by fail "pl") ?_ | refine c_neP (by assumption) (by fail "pl") (by fail "pl") ?_
  | refine c_eqO (by assumption) (by fail "look") (by first | fail "look" | exact o0 (by fail "look")) ?_ | refine c_neO (by assumption) (by fail "look") (by first | fail "look" | exact o0 (by fail "look")) ?_
  | refine c_eqBs (by assumption) (by fail "bsl") (by fail "bsl") ?_
  | refine c_eqT (by assumption) (by fail "tqI") (by fail "tqI") ?_ | refine c_neT (by assumption) (by fail "tqI") (by fail "tqI") ?_)
local macro_rules | `(tactic| fail "cls") => `(tactic| first | exact .nil | exact .cons (.own _) (by fail "cls"))
local macro_rules | `(tactic| fail "kany") => `(tactic| first | exact kany_0 | exact kany_t (by assumption) | exact kany_f (by assumption) (by fail "kany"))
local macro_rules | `(tactic| fail "bsl") => `(tactic| first | exact bs2 (by fail "look") | exact bs3 (by fail "look") | exact bs6 (by fail "look"))
local macro_rules | `(tactic| fail "cal") => `(tactic| first
  | refine k_len (by fail "sq") ?_ | refine k_lenT (by fail "sq") ?_ | refine k_max2 rfl ?_ | refine k_min2 rfl ?_ | refine k_intI ?_ | refine k_intD ?_ | refine k_intN ?_ | refine k_intB ?_ | refine k_abs ?_
  | refine k_isiN in_int ?_ | refine k_isiI ii_int ?_ | refine k_isiI ii_bool ?_ | refine k_isiL (by fail "look") il_list ?_
  | refine k_reprI (by assumption) (by assumption) (by fail "sqI") (by assumption) (by fail "num") ?_
  | refine k_isiP (by fail "pl") il_list ?_ | refine k_reprP (by assumption) (by assumption) (by fail "pl") (by assumption) (by fail "num") ?_ | refine k_lenP (by fail "pl") ?_ | refine k_listP (by fail "pl") ?_
  | refine k_min rfl (by fail "sqI") (by fail "num") ?_ | refine k_max rfl (by fail "sqI") (by fail "num") ?_
  | refine k_sum rfl (by fail "sqI") ?_ | refine k_sorted (by fail "sqI") ?_ | refine k_list (.inl (by fail "sq")) ?_ | refine k_isiTu (by fail "look") it_tup ?_ | refine k_lenR (by fail "rl") ?_ | refine k_listR (by fail "rl") ?_ | refine k_strI (by assumption) ?_ | refine k_setI rfl (by fail "sqI") (by fail "num") ?_ | refine k_lenSet (by fail "look") (by omega) ?_ | refine k_sortedSet rfl (by fail "look") ?_
  | refine k_isiE (by fail "look") (by assumption) (ClsV.ty _) (by assumption) ?_ | refine k_isiE (by fail "look") (by assumption) (ClsV.own _) (by assumption) ?_ | refine k_isiET (by fail "look") (by assumption) (by fail "look") (by fail "cls") (by fail "kany") ?_)
local macro_rules | `(tactic| fail "dec") => `(tactic| first | assumption | omega | with_reducible exact rfl | exact ref_non | exact int_non | exact Rp.un (by assumption) (by assumption) | (simp only [List.length_cons, List.length_nil]; omega))
local macro_rules | `(tactic| fail "last") => `(tactic| assumption)
local macro_rules | `(tactic| fail "stepE") => `(tactic| first
  | (with_reducible show Wss _ [] _ _ _); refine wss_nil ?_
  | (with_reducible show We _ _ _ _ _); fail "we"
  | (with_reducible show Wa _ _ _ _ _); first | refine wa_nil ?_ | refine wa_cons ?_
  | (with_reducible show Wt _ _ _ _ _); fail "wt"
  | (with_reducible show Ww _ _ _ _ _); fail "ww"
  | (with_reducible show Ws _ _ _ _ _); fail "ws"
  | (with_reducible show Bin _ _ _ _ _ _); fail "bin"
  | (with_reducible show Cmp _ _ _ _ _ _); fail "cmp"
  | (with_reducible show Una _ _ _ _ _); refine u_neg ?_
  | (with_reducible show Ixw _ _ _ _ _); first | refine x_lastI (by fail "sqI") (by fail "last") ?_ | refine x_headI (by fail "look") ?_ | refine x_ints (by fail "sq") (by omega) (by fail "num") ?_ | refine x_lst (by fail "sq") rfl ?_ | refine x_m2 (by fail "look") (by omega) ?_ | refine x_m3 (by fail "look") (by omega) ?_ | refine x_m4 (by fail "look") (by omega) ?_ | refine x_m5 (by fail "look") (by omega) ?_ | refine x_m6 (by fail "look") (by omega) ?_ | refine x_tup (by fail "sq") rfl ?_ | refine x_ixO (by fail "look") (by omega) (by assumption) ?_
  | (with_reducible show Setw _ _ _ _ _ _); first | refine x_setI (by fail "look") (by omega) (by fail "num") ?_ | refine x_setD (by assumption) (by fail "look") (by fail "num") ?_ | refine x_set (by fail "look") rfl ?_ | refine x_set (by fail "look") (ixN_of (by omega) (by fail "num")) ?_
  | (with_reducible show Cal _ _ _ _ _); fail "cal"
  | (with_reducible show Fw _ _ _ _ _); refine fw_of (by fail "look") (by assumption) (by fail "mem") rfl ?_
  | (with_reducible show Sw _ _ _ _ _ _); refine sw_of (by fail "look") (by assumption) (by fail "mem") (Nat.le_of_ble_eq_true rfl) rfl ?_
  | (with_reducible show Mw _ _ _ _ _ _ _); refine mw_of (by fail "look") (by assumption) (by assumption) (by assumption) (by decide) (by assumption) rfl ?_
  | (with_reducible show Mw0 _ _ _ _ _); refine mw0_of (by fail "look") (by assumption) (by assumption) (by assumption) (by decide) (by assumption) rfl ?_
  | (with_reducible show V.non = V.non ∧ _); refine ⟨rfl, ?_⟩
  | (with_reducible show (∃ ps, _ = some (HO.dK (encK ps))) ∧ _); refine ⟨⟨_, by fail "look"⟩, ?_⟩
  | (with_reducible show ∃ ps i d, _ = some (HO.dK (encK ps)) ∧ _); refine ⟨_, _, _, by fail "look", rfl, rfl, ?_⟩
  | (with_reducible show ∃ d ps, V.ref _ = V.ref d ∧ _ = some (HO.dK (encK ps)) ∧ _); refine ⟨_, _, rfl, by fail "look", ?_⟩
  | (with_reducible show Wch _ _ _ _ _ _ _); first | refine wch_last ?_ | refine wch_link ?_
  | (with_reducible show Wct _ _ _ _ _ _ _); first | refine wct_last ?_ | refine wct_link ?_
  | (with_reducible show Wp _ _ _ _ _); first | refine wp_none ?_ | refine wp_some ?_
  | (with_reducible show TB _ _ _); refine tb ?_
  | (with_reducible show Ipw _ _ _ _ _ _); first | refine p_add ?_ | refine p_sub ?_
  | (with_reducible show Slw _ _ _ _ _ _); first | refine x_slI (by fail "sqI") ?_ | refine x_sl (by fail "sq") ?_
  | (with_reducible show Wg _ _ _ _ _ _); first | fail "tgt" | refine wg_cut ?_ | refine wg_sub ?_ | refine wg_tup rfl (by fail "sq") rfl ?_
  | (with_reducible show Wgs _ _ _ _ _ _); first | refine wgs_nil ?_ | refine wgs_cons ?_
  | (with_reducible show List.length _ ≤ _ ∧ _); refine ⟨Nat.le_of_ble_eq_true rfl, ?_⟩
  | (with_reducible show Body _ _ _ _ _ _ _); unfold Body
  | (with_reducible show ∃ i, V.int _ = V.int i ∧ _); refine ⟨_, rfl, ?_⟩
  | (with_reducible show ∃ i, V.ref _ = V.ref i ∧ _); refine ⟨_, rfl, ?_⟩
  | (with_reducible show (∃ xs, _ = some (HO.lst xs)) ∧ _); first | refine ⟨⟨_, by fail "look"⟩, ?_⟩ | refine ⟨appRx (by fail "rl"), ?_⟩
  | (with_reducible show ∃ xs, _ = some (HO.lst xs) ∧ _); first | refine appI (by fail "look") (by fail "num") ?_ | refine appI (by fail "lookI") (by fail "num") ?_ | refine appV (by fail "look") (by fail "num") ?_ | refine appR (by fail "rl") (by fail "look") (by fail "num") ?_
  | (with_reducible show ∃ l xs y, V.ref _ = V.ref l ∧ _); refine popI (by fail "look") (by fail "last") ?_
  | (with_reducible show ∃ xs i v, V.int _ = V.int i ∧ _); refine popAtI (by fail "look") (by omega) (by fail "num") (by fail "num") ?_
  | (with_reducible show ∃ ns, SqL _ _ _ _ ∧ _); refine ⟨_, by fail "sqI", ?_⟩
  | (with_reducible show Elt _ _ _ _ _ _ _ _ _ _ _); intro _ _ _ _ _
  | (with_reducible show Bl _ _ _); intro _ _ _ _ _
  | (with_reducible show wipe _ _ = wipe _ _ ∧ _); refine ⟨rfl, ?_⟩
  | (with_reducible show Wts _ _ _ _ _); first | refine wts_nil ?_ | refine wts_one ?_
  | fail "sp"
  | intro _
  | (with_reducible show @ite Prop _ _ _ _); first
    | with_reducible refine iteT ?_
    | with_reducible refine iteF ?_
    | with_reducible refine iteNT ?_
    | with_reducible refine iteNF ?_
    | refine iteP (by fail "dec") ?_ | refine iteN (by fail "dec") ?_ | refine itePn (by fail "dec") ?_ | refine iteNn (by fail "dec") ?_
    | refine iteP (by decide) ?_ | refine iteN (by decide) ?_ | refine itePn (by decide) ?_ | refine iteNn (by decide) ?_
    | (with_reducible show @ite Prop ((!@decide _ (_ : Decidable _)) = true) _ _ _); refine iteDn (fun _ => ?_) (fun _ => ?_)
    | (with_reducible show @ite Prop (@decide _ (_ : Decidable _) = true) _ _ _); refine iteD (fun _ => ?_) (fun _ => ?_)
    | refine iteT ?_
    | refine iteF ?_
    | refine iteB (fun _ => ?_) (fun _ => ?_))
local macro_rules | `(tactic| fail "step") => `(tactic| first
  | (with_reducible show Wss _ _ _ _ _); first | refine wss_nil ?_ | refine wss_one ?_ | refine wss_cons ?_
  | fail "stepE")
local macro_rules | `(tactic| fail "goE") => `(tactic| repeat' fail "stepE")
local macro_rules | `(tactic| fail "st") => `(tactic| ((first | refine wss_nil ?_ | refine wss_one ?_ | refine wss_cons ?_); repeat' fail "stepE"))
local macro_rules | `(tactic| fail "nf") => `(tactic| fail_if_success skip)
local macro_rules | `(tactic| fail "sn") => `(tactic| ((try fail "nf"); (first | refine wss_nil ?_ | refine wss_one ?_ | refine wss_cons ?_); repeat' fail "stepE"))
local macro_rules | `(tactic| fail "go") => `(tactic| repeat' fail "step")
def topS (i : Nat) : Stmt := PySem.Challenge.pw_stretchleast_k44_papers_of_anything.main.body.getD i (.Pass ⟨0, 0, 0, 0⟩)

section
variable {P : Program} {w : World} {K : PySem.W.Frag} {mg : Str → Option Value} {base : Heap} {f : Addr} {fd : FuncData}
abbrev sdraws : Stmt := topS 5
theorem scdraws : FnScope ["script", "draws", "k", "rest", "stir", "many"] ["script"] (defScope sdraws) := ⟨rfl, rfl, rfl, by decide +kernel, rfl, by decide +kernel, by decide +kernel⟩
local macro_rules | `(tactic| fail "name") => `(tactic| first
  | ((with_reducible apply we_var_at 0 "script"); exact rfl; fail "vis"; exact rfl; decide; decide)
  | ((with_reducible apply we_var_at 1 "draws"); exact rfl; fail "vis"; exact rfl; decide; decide)
  | ((with_reducible apply we_var_at 2 "k"); exact rfl; fail "vis"; exact rfl; decide; decide)
  | ((with_reducible apply we_var_at 3 "rest"); exact rfl; fail "vis"; exact rfl; decide; decide)
  | ((with_reducible apply we_var_at 4 "stir"); exact rfl; fail "vis"; exact rfl; decide; decide)
  | ((with_reducible apply we_var_at 5 "many"); exact rfl; fail "vis"; exact rfl; decide; decide))
local macro_rules | `(tactic| fail "nf") => `(tactic| refine wss_nf (σ' := [_, _, _, _, _, _]) rfl ?_)
local macro_rules | `(tactic| fail "asg") => `(tactic| first
  | ((with_reducible refine ws_name_at 0 "script" ?_ ?_ ?_ ?_ ?_ ?_); assumption; exact rfl; fail "loc"; exact rfl; fail "fn")
  | ((with_reducible apply ws_aug_at 0 "script"); assumption; exact rfl; fail "loc"; fail "fn"; exact rfl)
  | ((with_reducible refine ws_name_at 1 "draws" ?_ ?_ ?_ ?_ ?_ ?_); assumption; exact rfl; fail "loc"; exact rfl; fail "fn")
  | ((with_reducible apply ws_aug_at 1 "draws"); assumption; exact rfl; fail "loc"; fail "fn"; exact rfl)
  | ((with_reducible refine ws_name_at 2 "k" ?_ ?_ ?_ ?_ ?_ ?_); assumption; exact rfl; fail "loc"; exact rfl; fail "fn")
  | ((with_reducible apply ws_aug_at 2 "k"); assumption; exact rfl; fail "loc"; fail "fn"; exact rfl)
  | ((with_reducible refine ws_name_at 3 "rest" ?_ ?_ ?_ ?_ ?_ ?_); assumption; exact rfl; fail "loc"; exact rfl; fail "fn")
  | ((with_reducible apply ws_aug_at 3 "rest"); assumption; exact rfl; fail "loc"; fail "fn"; exact rfl)
  | ((with_reducible refine ws_name_at 4 "stir" ?_ ?_ ?_ ?_ ?_ ?_); assumption; exact rfl; fail "loc"; exact rfl; fail "fn")
  | ((with_reducible apply ws_aug_at 4 "stir"); assumption; exact rfl; fail "loc"; fail "fn"; exact rfl)
  | ((with_reducible refine ws_name_at 5 "many" ?_ ?_ ?_ ?_ ?_ ?_); assumption; exact rfl; fail "loc"; exact rfl; fail "fn")
  | ((with_reducible apply ws_aug_at 5 "many"); assumption; exact rfl; fail "loc"; fail "fn"; exact rfl))
local macro_rules | `(tactic| fail "tgt") => `(tactic| first
  | ((with_reducible refine wg_name_at 0 "script" ?_ ?_ ?_ ?_ ?_); assumption; exact rfl; fail "loc"; fail "fn")
  | ((with_reducible refine wg_name_at 1 "draws" ?_ ?_ ?_ ?_ ?_); assumption; exact rfl; fail "loc"; fail "fn")
  | ((with_reducible refine wg_name_at 2 "k" ?_ ?_ ?_ ?_ ?_); assumption; exact rfl; fail "loc"; fail "fn")
  | ((with_reducible refine wg_name_at 3 "rest" ?_ ?_ ?_ ?_ ?_); assumption; exact rfl; fail "loc"; fail "fn")
  | ((with_reducible refine wg_name_at 4 "stir" ?_ ?_ ?_ ?_ ?_); assumption; exact rfl; fail "loc"; fail "fn")
  | ((with_reducible refine wg_name_at 5 "many" ?_ ?_ ?_ ?_ ?_); assumption; exact rfl; fail "loc"; fail "fn"))
def spdraws (K : PySem.W.Frag) : Sp := fun vs H Q _ => ∃ (a : Addr) (ns : List Int), vs = [.ref a] ∧ SqL K H a (ns.map V.int) ∧ ns.length ≤ 63 ∧
  ∀ p (ds : List Int) H', H p = none → Kp [] H H' → H' p = some (.lst (ds.map V.int)) → ds.length ≤ 240 → Q (.ref p) H'
theorem c_draws {K : PySem.W.Frag} {H : Hp} {Q : VK} {E : XK} {a : Addr} {ns : List Int} (h1 : SqL K H a (ns.map V.int)) (hl : ns.length ≤ 63)
    (q : ∀ p (ds : List Int) H', H p = none → Kp [] H H' → H' p = some (.lst (ds.map V.int)) → ds.length ≤ 240 → Q (.ref p) H') : spdraws K [.ref a] H Q E := ⟨a, ns, rfl, h1, hl, q⟩
theorem ok_draws (F : Fun K "_law_draws" "_law_draws" sdraws f fd) (B : Blt mg)     : FnG P w K mg base CX0 1 f fd ["script"] (spdraws K) := by
  have nd := scdraws.nd
  refine okG F scdraws (fun vs H Q E h => ?_) (fun cdv A outer s H vs Q E hr hgd h => ?_)
  · obtain ⟨a, ns, rfl, _⟩ := h
    rfl
  · obtain ⟨a, ns, rfl, hS, hl, q⟩ := h
    have hm := mapI_len ns
    fail "st"
    rename_i pd H0 npd k0 hpd
    have kH0 : Kp [] H H0 := k0
    refine wss_cons ?_
    refine ws_forR (by exact rfl) B.range ?_ PassesOwn.never (by exact rfl)
    fail "goE"
    have hmin : ∀ j : Int, j = (if 80 < ((ns.map V.int).length : Int) then 80 else ((ns.map V.int).length : Int)) → j = ns.length := fun j hj => by
      rw [hj, hm, if_neg (by omega)]
    have hj := hmin _ rfl
    rw [hj]
    refine ⟨by omega, by omega, fun i σ' H' => ∃ (x1 x2 x3 x4 : Option V) (ds : List Int), σ' = [some (.ref a), some (.ref pd), x1, x2, x3, x4] ∧ Kp [] H H' ∧ H' pd = some (.lst (ds.map V.int)) ∧ ds.length ≤ 60 * i, ⟨_, _, _, _, [], rfl, k0, ints0 hpd, by simp⟩, ?_, ?_⟩
    · clear k0 hpd kH0
      rintro i σ' H1 hi ⟨x1, x2, x3, x4, ds, rfl, k1, hp1, hdl⟩
      have hi' : i < ns.length := by omega
      fail "goE"
      fail "st"
      generalize (if ns.getD (i : Int).toNat 0 < 0 then -ns.getD (i : Int).toNat 0 else ns.getD (i : Int).toNat 0) = rest
      fail "st"
      · fail "go"
        refine ⟨_, _, _, _, _, rfl, by fail "kp", by fail "look", ?_⟩
        simp only [List.length_append, List.length_cons, List.length_nil]
        omega
      · fail "st"
        refine wss_one ?_
        refine ws_while (fun m σ1 H2 => ∃ (r n : Int) (ds : List Int), m = (60 - n).toNat ∧ σ1 = [some (.ref a), some (.ref pd), some (.int (i : Int)), some (.int r), x3, some (.int n)] ∧ Kp [] H H2 ∧ H2 pd = some (.lst (ds.map V.int)) ∧ (0 ≤ n ∧ n ≤ 60) ∧ (ds.length : Int) ≤ 60 * i + n) ⟨_, rest, 0, ds, rfl, rfl, k1, hp1, by omega, by omega⟩ ?_ PassesOwn.never
        clear k1 hp1 hdl
        rintro m σ1 H2 ⟨r, n, ds, rfl, rfl, k2, hp2, hn, hdl⟩
        fail "goE"
        · fail "go"
          refine ⟨(60 - (n + 1)).toNat, by omega, _, _, _, rfl, rfl, by fail "kp", by fail "look", by omega, ?_⟩
          simp only [List.length_append, List.length_cons, List.length_nil]
          omega
        all_goals exact ⟨_, _, _, _, ds, rfl, k2, hp2, by omega⟩
    · rintro σ' H1 ⟨x1, x2, x3, x4, ds, rfl, k1, hp1, hdl⟩
      fail "go"
      rename_i p2 H2 np2 k2 hp2
      refine q p2 _ H2 (by fail "nn") (by fail "kp") hp2 ?_
      rw [cutI_to _ _ (by omega), List.length_take]
      omega
end

section
variable {P : Program} {w : World} {K : PySem.W.Frag} {mg : Str → Option Value} {base : Heap} {f : Addr} {fd : FuncData}
abbrev stake : Stmt := topS 6
theorem sctake : FnScope ["draws", "many"] ["draws", "many"] (defScope stake) := ⟨rfl, rfl, rfl, by decide +kernel, rfl, by decide +kernel, by decide +kernel⟩
local macro_rules | `(tactic| fail "name") => `(tactic| first
  | ((with_reducible apply we_var_at 0 "draws"); exact rfl; fail "vis"; exact rfl; decide; decide)
  | ((with_reducible apply we_var_at 1 "many"); exact rfl; fail "vis"; exact rfl; decide; decide))
local macro_rules | `(tactic| fail "nf") => `(tactic| refine wss_nf (σ' := [_, _]) rfl ?_)
local macro_rules | `(tactic| fail "asg") => `(tactic| first
  | ((with_reducible refine ws_name_at 0 "draws" ?_ ?_ ?_ ?_ ?_ ?_); assumption; exact rfl; fail "loc"; exact rfl; fail "fn")
  | ((with_reducible apply ws_aug_at 0 "draws"); assumption; exact rfl; fail "loc"; fail "fn"; exact rfl)
  | ((with_reducible refine ws_name_at 1 "many" ?_ ?_ ?_ ?_ ?_ ?_); assumption; exact rfl; fail "loc"; exact rfl; fail "fn")
  | ((with_reducible apply ws_aug_at 1 "many"); assumption; exact rfl; fail "loc"; fail "fn"; exact rfl))
local macro_rules | `(tactic| fail "tgt") => `(tactic| first
  | ((with_reducible refine wg_name_at 0 "draws" ?_ ?_ ?_ ?_ ?_); assumption; exact rfl; fail "loc"; fail "fn")
  | ((with_reducible refine wg_name_at 1 "many" ?_ ?_ ?_ ?_ ?_); assumption; exact rfl; fail "loc"; fail "fn"))
def sptake (K : PySem.W.Frag) : Sp := fun vs H Q _ => ∃ (a : Addr) (ds : List Int) (n : Int), vs = [.ref a, .int n] ∧ H a = some (.lst (ds.map V.int)) ∧ ds.length ≤ 240 ∧ 0 < n ∧
  ∀ (v : Int) (ds' : List Int) H', Kp [a] H H' → H' a = some (.lst (ds'.map V.int)) → ds'.length ≤ 240 → (0 ≤ v ∧ v < n) → Q (.int v) H'
theorem c_take {K : PySem.W.Frag} {H : Hp} {Q : VK} {E : XK} {a : Addr} {ds : List Int} {n : Int} (h1 : H a = some (.lst (ds.map V.int))) (hl : ds.length ≤ 240) (hn : 0 < n)
    (q : ∀ (v : Int) (ds' : List Int) H', Kp [a] H H' → H' a = some (.lst (ds'.map V.int)) → ds'.length ≤ 240 → (0 ≤ v ∧ v < n) → Q (.int v) H') : sptake K [.ref a, .int n] H Q E := ⟨a, ds, n, rfl, h1, hl, hn, q⟩
theorem ok_take (F : Fun K "_law_take" "_law_take" stake f fd) (B : Blt mg)     : FnG P w K mg base CX0 1 f fd ["draws", "many"] (sptake K) := by
  have nd := sctake.nd
  refine okG F sctake (fun vs H Q E h => ?_) (fun cdv A outer s H vs Q E hr hgd h => ?_)
  · obtain ⟨a, ds, n, rfl, _⟩ := h
    rfl
  · obtain ⟨a, ds, n, rfl, ha, hl, hn, q⟩ := h
    have hm := mapI_len ds
    fail "st"
    · fail "go"
      exact q 0 ds _ (by fail "kp") (by fail "look") hl ⟨by omega, hn⟩
    rename_i p1 H1 np1 k1 hp1 hne
    cases ds with
    | nil => exact absurd rfl hne
    | cons d ds =>
    have hl' : ds.length ≤ 240 := by rw [List.length_cons] at hl; omega
    fail "go"
    exact q _ _ _ (by fail "kp") (by fail "look") (Nat.le_trans (List.length_eraseIdx_le _ _) hl) ⟨Int.emod_nonneg _ (by omega), Int.emod_lt_of_pos _ hn⟩
end

section
variable {P : Program} {w : World} {K : PySem.W.Frag} {mg : Str → Option Value} {base : Heap} {f : Addr} {fd : FuncData}
abbrev srow : Stmt := topS 7
theorem scrow : FnScope ["draws", "most", "many", "bases", "base", "mixed", "wide", "top", "low", "one", "other", "third", "free", "likes", "found", "k", "at", "turn", "number", "shape"] ["draws", "most"] (defScope srow) := ⟨rfl, rfl, rfl, by decide +kernel, rfl, by decide +kernel, by decide +kernel⟩
local macro_rules | `(tactic| fail "name") => `(tactic| first
  | ((with_reducible apply we_var_at 0 "draws"); exact rfl; fail "vis"; exact rfl; decide; decide)
  | ((with_reducible apply we_var_at 1 "most"); exact rfl; fail "vis"; exact rfl; decide; decide)
  | ((with_reducible apply we_var_at 2 "many"); exact rfl; fail "vis"; exact rfl; decide; decide)
  | ((with_reducible apply we_var_at 3 "bases"); exact rfl; fail "vis"; exact rfl; decide; decide)
  | ((with_reducible apply we_var_at 4 "base"); exact rfl; fail "vis"; exact rfl; decide; decide)
  | ((with_reducible apply we_var_at 5 "mixed"); exact rfl; fail "vis"; exact rfl; decide; decide)
  | ((with_reducible apply we_var_at 6 "wide"); exact rfl; fail "vis"; exact rfl; decide; decide)
  | ((with_reducible apply we_var_at 7 "top"); exact rfl; fail "vis"; exact rfl; decide; decide)
  | ((with_reducible apply we_var_at 8 "low"); exact rfl; fail "vis"; exact rfl; decide; decide)
  | ((with_reducible apply we_var_at 9 "one"); exact rfl; fail "vis"; exact rfl; decide; decide)
  | ((with_reducible apply we_var_at 10 "other"); exact rfl; fail "vis"; exact rfl; decide; decide)
  | ((with_reducible apply we_var_at 11 "third"); exact rfl; fail "vis"; exact rfl; decide; decide)
  | ((with_reducible apply we_var_at 12 "free"); exact rfl; fail "vis"; exact rfl; decide; decide)
  | ((with_reducible apply we_var_at 13 "likes"); exact rfl; fail "vis"; exact rfl; decide; decide)
  | ((with_reducible apply we_var_at 14 "found"); exact rfl; fail "vis"; exact rfl; decide; decide)
  | ((with_reducible apply we_var_at 15 "k"); exact rfl; fail "vis"; exact rfl; decide; decide)
  | ((with_reducible apply we_var_at 16 "at"); exact rfl; fail "vis"; exact rfl; decide; decide)
  | ((with_reducible apply we_var_at 17 "turn"); exact rfl; fail "vis"; exact rfl; decide; decide)
  | ((with_reducible apply we_var_at 18 "number"); exact rfl; fail "vis"; exact rfl; decide; decide)
  | ((with_reducible apply we_var_at 19 "shape"); exact rfl; fail "vis"; exact rfl; decide; decide))
local macro_rules | `(tactic| fail "nf") => `(tactic| refine wss_nf (σ' := [_, _, _, _, _, _, _, _, _, _, _, _, _, _, _, _, _, _, _, _]) rfl ?_)
local macro_rules | `(tactic| fail "asg") => `(tactic| first
  | ((with_reducible refine ws_name_at 0 "draws" ?_ ?_ ?_ ?_ ?_ ?_); assumption; exact rfl; fail "loc"; exact rfl; fail "fn")
  | ((with_reducible apply ws_aug_at 0 "draws"); assumption; exact rfl; fail "loc"; fail "fn"; exact rfl)
  | ((with_reducible refine ws_name_at 1 "most" ?_ ?_ ?_ ?_ ?_ ?_); assumption; exact rfl; fail "loc"; exact rfl; fail "fn")
  | ((with_reducible apply ws_aug_at 1 "most"); assumption; exact rfl; fail "loc"; fail "fn"; exact rfl)
  | ((with_reducible refine ws_name_at 2 "many" ?_ ?_ ?_ ?_ ?_ ?_); assumption; exact rfl; fail "loc"; exact rfl; fail "fn")
  | ((with_reducible apply ws_aug_at 2 "many"); assumption; exact rfl; fail "loc"; fail "fn"; exact rfl)
  | ((with_reducible refine ws_name_at 3 "bases" ?_ ?_ ?_ ?_ ?_ ?_); assumption; exact rfl; fail "loc"; exact rfl; fail "fn")
  | ((with_reducible apply ws_aug_at 3 "bases"); assumption; exact rfl; fail "loc"; fail "fn"; exact rfl)
  | ((with_reducible refine ws_name_at 4 "base" ?_ ?_ ?_ ?_ ?_ ?_); assumption; exact rfl; fail "loc"; exact rfl; fail "fn")
  | ((with_reducible apply ws_aug_at 4 "base"); assumption; exact rfl; fail "loc"; fail "fn"; exact rfl)
  | ((with_reducible refine ws_name_at 5 "mixed" ?_ ?_ ?_ ?_ ?_ ?_); assumption; exact rfl; fail "loc"; exact rfl; fail "fn")
  | ((with_reducible apply ws_aug_at 5 "mixed"); assumption; exact rfl; fail "loc"; fail "fn"; exact rfl)
  | ((with_reducible refine ws_name_at 6 "wide" ?_ ?_ ?_ ?_ ?_ ?_); assumption; exact rfl; fail "loc"; exact rfl; fail "fn")
  | ((with_reducible apply ws_aug_at 6 "wide"); assumption; exact rfl; fail "loc"; fail "fn"; exact rfl)
  | ((with_reducible refine ws_name_at 7 "top" ?_ ?_ ?_ ?_ ?_ ?_); assumption; exact rfl; fail "loc"; exact rfl; fail "fn")
  | ((with_reducible apply ws_aug_at 7 "top"); assumption; exact rfl; fail "loc"; fail "fn"; exact rfl)
  | ((with_reducible refine ws_name_at 8 "low" ?_ ?_ ?_ ?_ ?_ ?_); assumption; exact rfl; fail "loc"; exact rfl; fail "fn")
  | ((with_reducible apply ws_aug_at 8 "low"); assumption; exact rfl; fail "loc"; fail "fn"; exact rfl)
  | ((with_reducible refine ws_name_at 9 "one" ?_ ?_ ?_ ?_ ?_ ?_); assumption; exact rfl; fail "loc"; exact rfl; fail "fn")
  | ((with_reducible apply ws_aug_at 9 "one"); assumption; exact rfl; fail "loc"; fail "fn"; exact rfl)
  | ((with_reducible refine ws_name_at 10 "other" ?_ ?_ ?_ ?_ ?_ ?_); assumption; exact rfl; fail "loc"; exact rfl; fail "fn")
  | ((with_reducible apply ws_aug_at 10 "other"); assumption; exact rfl; fail "loc"; fail "fn"; exact rfl)
  | ((with_reducible refine ws_name_at 11 "third" ?_ ?_ ?_ ?_ ?_ ?_); assumption; exact rfl; fail "loc"; exact rfl; fail "fn")
  | ((with_reducible apply ws_aug_at 11 "third"); assumption; exact rfl; fail "loc"; fail "fn"; exact rfl)
  | ((with_reducible refine ws_name_at 12 "free" ?_ ?_ ?_ ?_ ?_ ?_); assumption; exact rfl; fail "loc"; exact rfl; fail "fn")
  | ((with_reducible apply ws_aug_at 12 "free"); assumption; exact rfl; fail "loc"; fail "fn"; exact rfl)
  | ((with_reducible refine ws_name_at 13 "likes" ?_ ?_ ?_ ?_ ?_ ?_); assumption; exact rfl; fail "loc"; exact rfl; fail "fn")
  | ((with_reducible apply ws_aug_at 13 "likes"); assumption; exact rfl; fail "loc"; fail "fn"; exact rfl)
  | ((with_reducible refine ws_name_at 14 "found" ?_ ?_ ?_ ?_ ?_ ?_); assumption; exact rfl; fail "loc"; exact rfl; fail "fn")
  | ((with_reducible apply ws_aug_at 14 "found"); assumption; exact rfl; fail "loc"; fail "fn"; exact rfl)
  | ((with_reducible refine ws_name_at 15 "k" ?_ ?_ ?_ ?_ ?_ ?_); assumption; exact rfl; fail "loc"; exact rfl; fail "fn")
  | ((with_reducible apply ws_aug_at 15 "k"); assumption; exact rfl; fail "loc"; fail "fn"; exact rfl)
  | ((with_reducible refine ws_name_at 16 "at" ?_ ?_ ?_ ?_ ?_ ?_); assumption; exact rfl; fail "loc"; exact rfl; fail "fn")
  | ((with_reducible apply ws_aug_at 16 "at"); assumption; exact rfl; fail "loc"; fail "fn"; exact rfl)
  | ((with_reducible refine ws_name_at 17 "turn" ?_ ?_ ?_ ?_ ?_ ?_); assumption; exact rfl; fail "loc"; exact rfl; fail "fn")
  | ((with_reducible apply ws_aug_at 17 "turn"); assumption; exact rfl; fail "loc"; fail "fn"; exact rfl)
  | ((with_reducible refine ws_name_at 18 "number" ?_ ?_ ?_ ?_ ?_ ?_); assumption; exact rfl; fail "loc"; exact rfl; fail "fn")
  | ((with_reducible apply ws_aug_at 18 "number"); assumption; exact rfl; fail "loc"; fail "fn"; exact rfl)
  | ((with_reducible refine ws_name_at 19 "shape" ?_ ?_ ?_ ?_ ?_ ?_); assumption; exact rfl; fail "loc"; exact rfl; fail "fn")
  | ((with_reducible apply ws_aug_at 19 "shape"); assumption; exact rfl; fail "loc"; fail "fn"; exact rfl))
local macro_rules | `(tactic| fail "tgt") => `(tactic| first
  | ((with_reducible refine wg_name_at 0 "draws" ?_ ?_ ?_ ?_ ?_); assumption; exact rfl; fail "loc"; fail "fn")
  | ((with_reducible refine wg_name_at 1 "most" ?_ ?_ ?_ ?_ ?_); assumption; exact rfl; fail "loc"; fail "fn")
  | ((with_reducible refine wg_name_at 2 "many" ?_ ?_ ?_ ?_ ?_); assumption; exact rfl; fail "loc"; fail "fn")
  | ((with_reducible refine wg_name_at 3 "bases" ?_ ?_ ?_ ?_ ?_); assumption; exact rfl; fail "loc"; fail "fn")
  | ((with_reducible refine wg_name_at 4 "base" ?_ ?_ ?_ ?_ ?_); assumption; exact rfl; fail "loc"; fail "fn")
  | ((with_reducible refine wg_name_at 5 "mixed" ?_ ?_ ?_ ?_ ?_); assumption; exact rfl; fail "loc"; fail "fn")
  | ((with_reducible refine wg_name_at 6 "wide" ?_ ?_ ?_ ?_ ?_); assumption; exact rfl; fail "loc"; fail "fn")
  | ((with_reducible refine wg_name_at 7 "top" ?_ ?_ ?_ ?_ ?_); assumption; exact rfl; fail "loc"; fail "fn")
  | ((with_reducible refine wg_name_at 8 "low" ?_ ?_ ?_ ?_ ?_); assumption; exact rfl; fail "loc"; fail "fn")
  | ((with_reducible refine wg_name_at 9 "one" ?_ ?_ ?_ ?_ ?_); assumption; exact rfl; fail "loc"; fail "fn")
  | ((with_reducible refine wg_name_at 10 "other" ?_ ?_ ?_ ?_ ?_); assumption; exact rfl; fail "loc"; fail "fn")
  | ((with_reducible refine wg_name_at 11 "third" ?_ ?_ ?_ ?_ ?_); assumption; exact rfl; fail "loc"; fail "fn")
  | ((with_reducible refine wg_name_at 12 "free" ?_ ?_ ?_ ?_ ?_); assumption; exact rfl; fail "loc"; fail "fn")
  | ((with_reducible refine wg_name_at 13 "likes" ?_ ?_ ?_ ?_ ?_); assumption; exact rfl; fail "loc"; fail "fn")
  | ((with_reducible refine wg_name_at 14 "found" ?_ ?_ ?_ ?_ ?_); assumption; exact rfl; fail "loc"; fail "fn")
  | ((with_reducible refine wg_name_at 15 "k" ?_ ?_ ?_ ?_ ?_); assumption; exact rfl; fail "loc"; fail "fn")
  | ((with_reducible refine wg_name_at 16 "at" ?_ ?_ ?_ ?_ ?_); assumption; exact rfl; fail "loc"; fail "fn")
  | ((with_reducible refine wg_name_at 17 "turn" ?_ ?_ ?_ ?_ ?_); assumption; exact rfl; fail "loc"; fail "fn")
  | ((with_reducible refine wg_name_at 18 "number" ?_ ?_ ?_ ?_ ?_); assumption; exact rfl; fail "loc"; fail "fn")
  | ((with_reducible refine wg_name_at 19 "shape" ?_ ?_ ?_ ?_ ?_); assumption; exact rfl; fail "loc"; fail "fn"))
local macro_rules | `(tactic| fail "sp") => `(tactic| ((with_reducible apply c_take); (fail "look"); (omega); (omega)))
def Rw (ns : List Int) : Prop := ∀ x ∈ ns, -10000000000000 ≤ x ∧ x ≤ 10000000000000
def bsL : List Int := [1, 2, 3, 10, 1000, 100000, 1000000000, 2000000000001]
theorem bs_bd (i : Int) (h : 0 ≤ i ∧ i < 8) : 1 ≤ bsL.getD i.toNat 0 ∧ bsL.getD i.toNat 0 ≤ 2000000000001 := by
  obtain ⟨n, rfl⟩ : ∃ n : Nat, i = (n : Int) := ⟨i.toNat, by omega⟩
  have : ∀ n : Nat, n < 8 → 1 ≤ bsL.getD n 0 ∧ bsL.getD n 0 ≤ 2000000000001 := by decide
  exact this n (by omega)
theorem ediv_bd {k l : Int} (h : 0 ≤ k) (hl : 1 ≤ l) : 0 ≤ k / l ∧ k / l ≤ k := ⟨Int.ediv_nonneg h (by omega), Int.ediv_le_self _ h⟩
theorem mul_bd {a b A B : Int} (ha : 0 ≤ a ∧ a ≤ A) (hb : 0 ≤ b ∧ b ≤ B) : 0 ≤ a * b ∧ a * b ≤ A * B := ⟨Int.mul_nonneg ha.1 hb.1, Int.mul_le_mul ha.2 hb.2 hb.1 (by omega)⟩
def sprow (K : PySem.W.Frag) : Sp := fun vs H Q _ => ∃ (a : Addr) (ds : List Int) (n : Int), vs = [.ref a, .int n] ∧ H a = some (.lst (ds.map V.int)) ∧ ds.length ≤ 240 ∧ (0 ≤ n ∧ n ≤ 300) ∧
  ∀ (p : Addr) (ns ds' : List Int) H', Kp [a] H H' → H p = none → H' a = some (.lst (ds'.map V.int)) → ds'.length ≤ 240 → H' p = some (.lst (ns.map V.int)) → ns.length ≤ n.toNat → Rw ns → Q (.ref p) H'
theorem c_row {K : PySem.W.Frag} {H : Hp} {Q : VK} {E : XK} {a : Addr} {ds : List Int} {n : Int} (h1 : H a = some (.lst (ds.map V.int))) (hl : ds.length ≤ 240) (hn : 0 ≤ n ∧ n ≤ 300)
    (q : ∀ (p : Addr) (ns ds' : List Int) H', Kp [a] H H' → H p = none → H' a = some (.lst (ds'.map V.int)) → ds'.length ≤ 240 → H' p = some (.lst (ns.map V.int)) → ns.length ≤ n.toNat → Rw ns → Q (.ref p) H') : sprow K [.ref a, .int n] H Q E := ⟨a, ds, n, rfl, h1, hl, hn, q⟩
theorem ok_row (F : Fun K "_law_row" "_law_row" srow f fd) (B : Blt mg)    (D_take : Df P w K mg base 1 "_law_take" (sptake K)) : FnG P w K mg base CX0 2 f fd ["draws", "most"] (sprow K) := by
  have nd := scrow.nd
  refine okG F scrow (fun vs H Q E h => ?_) (fun cdv A outer s H vs Q E hr hgd h => ?_)
  · obtain ⟨a, ds, n, rfl, _⟩ := h
    rfl
  · obtain ⟨a, ds, n, rfl, ha, hl, hn, q⟩ := h
    have hbl : bsL.length = 8 := rfl
    fail "st"
    rename_i v1 ds1 H1 k1 ha1 hl1 hv1
    refine wss_cut (fun σ1 H2 => ∃ (m : Int) (ds : List Int), σ1 = [some (.ref a), some (.int n), some (.int m), none, none, none, none, none, none, none, none, none, none, none, none, none, none, none, none, none] ∧ Kp [a] H H2 ∧ H2 a = some (.lst (ds.map V.int)) ∧ ds.length ≤ 240 ∧ (0 ≤ m ∧ m ≤ n)) ?_ ?_
    · have hif : 0 ≤ (if v1 < n then v1 else n) ∧ (if v1 < n then v1 else n) ≤ n := by split <;> omega
      fail "go"
      all_goals exact ⟨_, _, rfl, by fail "kp", by fail "look", by omega, by omega⟩
    clear k1 ha1 hl1
    rintro σ1 H2 ⟨m, ds2, rfl, k2, ha2, hl2, hm2⟩
    fail "st"
    rename_i pb H3 npb k3 hpb
    have hpb' : H3 pb = some (.lst (bsL.map V.int)) := hpb
    have npbH : H pb = none := by fail "nn"
    have dpb : pb ≠ a := by fail "ne"
    have ha3 : H3 a = some (.lst (ds2.map V.int)) := by fail "look"
    have kH3 : Kp [a] H H3 := by fail "kp"
    clear hpb k3 npb k2 ha2
    fail "st"
    rename_i v4 ds4 H4 k4 ha4 hl4 hv4
    have hb4 := bs_bd v4 hv4
    generalize bsL.getD v4.toNat 0 = b4 at hb4
    fail "st"
    rename_i v5 ds5 H5 k5 ha5 hl5 hv5
    have hp5 : H5 pb = some (.lst (bsL.map V.int)) := by fail "look"
    have kH5 : Kp [a] H H5 := by fail "kp"
    clear k4 ha4 hl4 k5 kH3 ha3 hpb'
    have hb7 := bs_bd 7 (by omega)
    refine wss_cut (fun σ1 H2 => ∃ (wd : Int), σ1 = [some (.ref a), some (.int n), some (.int m), some (.ref pb), some (.int b4), some (.bl (decide (v5 = 1))), some (.int wd), none, none, none, none, none, none, none, none, none, none, none, none, none] ∧ Kp [a] H H2 ∧ H2 a = some (.lst (ds5.map V.int)) ∧ H2 pb = some (.lst (bsL.map V.int)) ∧ (1 ≤ wd ∧ wd ≤ 2000000000001)) ?_ ?_
    · fail "goE"
      all_goals exact ⟨_, rfl, by fail "kp", by fail "look", by fail "look", by omega⟩
    clear kH5 ha5 hp5 hb7
    rintro σ1 H2 ⟨wd, rfl, k2, ha2, hp2, hwd⟩
    generalize decide (v5 = 1) = mx
    fail "st"
    have hif : -2000000000001 ≤ (if 1000000000000 - wd + 1 < 0 then 1000000000000 - wd + 1 else 0) ∧ (if 1000000000000 - wd + 1 < 0 then 1000000000000 - wd + 1 else 0) ≤ 0 := by split <;> omega
    refine wss_cut (fun σ1 H2 => ∃ (lw : Int) (ds5 : List Int), σ1 = [some (.ref a), some (.int n), some (.int m), some (.ref pb), some (.int b4), some (.bl mx), some (.int wd), some (.int (1000000000000 - wd + 1)), some (.int lw), none, none, none, none, none, none, none, none, none, none, none] ∧ Kp [a] H H2 ∧ H2 a = some (.lst (ds5.map V.int)) ∧ ds5.length ≤ 240 ∧ H2 pb = some (.lst (bsL.map V.int)) ∧ (-2000000000001 ≤ lw ∧ lw ≤ 1000000000000)) ?_ ?_
    · fail "goE"
      all_goals exact ⟨_, _, rfl, by fail "kp", by fail "look", by omega, by fail "look", by omega⟩
    clear k2 ha2 hp2 hl5 hif
    rintro σ1 H2 ⟨lw, ds2, rfl, k2, ha2, hl2, hp2, hlw⟩
    fail "st"
    fail "st"
    fail "st"
    rename_i o1 ds3 H3 k3 ha3 hl3 ho1 o2 ds4 H4 k4 ha4 hl4 ho2 o3 ds5 H5 k5 ha5 hl5 ho3
    fail "st"
    rename_i o4 ds6 H6 k6 ha6 hl6 ho4
    generalize decide (o4 = 1) = fr
    have hp6 : H6 pb = some (.lst (bsL.map V.int)) := by fail "look"
    have kH6 : Kp [a] H H6 := by fail "kp"
    clear k2 ha2 hl2 hp2 k3 ha3 hl3 k4 ha4 hl4 k5 ha5 hl5 k6
    refine wss_cut (fun σ1 H2 => ∃ (lk : Int) (ds5 : List Int), σ1 = [some (.ref a), some (.int n), some (.int m), some (.ref pb), some (.int b4), some (.bl mx), some (.int wd), some (.int (1000000000000 - wd + 1)), some (.int lw), some (.int o1), some (.int (1 + o2)), some (.int o3), some (.bl fr), some (.int lk), none, none, none, none, none, none] ∧ Kp [a] H H2 ∧ H2 a = some (.lst (ds5.map V.int)) ∧ ds5.length ≤ 240 ∧ H2 pb = some (.lst (bsL.map V.int)) ∧ (1 ≤ lk ∧ lk ≤ 20)) ?_ ?_
    · fail "goE"
      all_goals exact ⟨_, _, rfl, by fail "kp", by fail "look", by omega, by fail "look", by omega⟩
    clear kH6 ha6 hl6 hp6
    rintro σ1 H2 ⟨lk, ds2, rfl, k2, ha2, hl2, hp2, hlk⟩
    fail "st"
    rename_i pf H3 npf k3 hpf
    have dpf : pf ≠ a := by fail "ne"
    have dpfb : pf ≠ pb := by fail "ne"
    have npfH : H pf = none := by fail "nn"
    refine wss_cons ?_
    refine ws_forR (by exact rfl) B.range ?_ PassesOwn.never (by exact rfl)
    fail "goE"
    refine ⟨by omega, by omega, fun i σ' H' => ∃ (bs : Int) (x1 x2 x3 x4 : Option V) (fs ds : List Int), σ' = [some (.ref a), some (.int n), some (.int m), some (.ref pb), some (.int bs), some (.bl mx), some (.int wd), some (.int (1000000000000 - wd + 1)), some (.int lw), some (.int o1), some (.int (1 + o2)), some (.int o3), some (.bl fr), some (.int lk), some (.ref pf), x1, x2, x3, x4, none] ∧ Kp [a] H H' ∧ H' a = some (.lst (ds.map V.int)) ∧ ds.length ≤ 240 ∧ H' pb = some (.lst (bsL.map V.int)) ∧ H' pf = some (.lst (fs.map V.int)) ∧ fs.length = i ∧ Rw fs ∧ (1 ≤ bs ∧ bs ≤ 2000000000001), ⟨_, _, _, _, _, [], _, rfl, by fail "kp", by fail "look", by omega, by fail "look", ints0 (by fail "look"), rfl, (fun x hx => nomatch hx), hb4⟩, ?_, ?_⟩
    · clear k3 hpf npf k2 ha2 hl2 hp2 hb4
      rintro i σ' H4 hi ⟨bs, x1, x2, x3, x4, fs, ds4, rfl, k4, ha4, hl4, hp4, hf4, hfl, hRw, hbs⟩
      fail "goE"
      fail "st"
      have hat := ediv_bd (k := (i : Int)) (l := lk) (by omega) hlk.1
      generalize (i : Int) / lk = att at hat
      have haa := mul_bd (A := 300) (B := 300) (a := att) (b := att) ⟨hat.1, by omega⟩ ⟨hat.1, by omega⟩
      fail "st"
      have htn : ∀ z : Int, 0 ≤ z % 9973 ∧ z % 9973 < 9973 := fun z => by omega
      have htt := htn (att * att * o1 + att * (1 + o2) + att / 7 * 31 + o3)
      generalize (att * att * o1 + att * (1 + o2) + att / 7 * 31 + o3) % 9973 = tn at htt
      clear htn
      refine wss_cut (fun σ1 H2 => ∃ (bs : Int), σ1 = [some (.ref a), some (.int n), some (.int m), some (.ref pb), some (.int bs), some (.bl mx), some (.int wd), some (.int (1000000000000 - wd + 1)), some (.int lw), some (.int o1), some (.int (1 + o2)), some (.int o3), some (.bl fr), some (.int lk), some (.ref pf), some (.int (i : Int)), some (.int att), some (.int tn), x4, none] ∧ H2 = H4 ∧ (1 ≤ bs ∧ bs ≤ 2000000000001)) ?_ ?_
      · fail "goE"
        · fail "go"
          exact ⟨_, rfl, rfl, bs_bd _ (by omega)⟩
        · exact ⟨_, rfl, rfl, hbs⟩
      clear hbs
      rintro σ1 H2 ⟨b5, rfl, rfl, hbs⟩
      refine wss_cut (fun σ1 H5 => ∃ (tn : Int) (ds4 : List Int), σ1 = [some (.ref a), some (.int n), some (.int m), some (.ref pb), some (.int b5), some (.bl mx), some (.int wd), some (.int (1000000000000 - wd + 1)), some (.int lw), some (.int o1), some (.int (1 + o2)), some (.int o3), some (.bl fr), some (.int lk), some (.ref pf), some (.int (i : Int)), some (.int att), some (.int tn), x4, none] ∧ Kp [a] H H5 ∧ H5 a = some (.lst (ds4.map V.int)) ∧ ds4.length ≤ 240 ∧ H5 pb = some (.lst (bsL.map V.int)) ∧ H5 pf = some (.lst (fs.map V.int)) ∧ (0 ≤ tn ∧ tn < 9973)) ?_ ?_
      · fail "go"
        all_goals exact ⟨_, _, rfl, by fail "kp", by fail "look", by omega, by fail "look", by fail "look", by omega⟩
      clear k4 ha4 hl4 hp4 hf4 htt tn haa hat
      rintro σ1 H4 ⟨tn, ds4, rfl, k4, ha4, hl4, hp4, hf4, htt⟩
      have hm1 : 0 ≤ tn % b5 ∧ tn % b5 < b5 := ⟨Int.emod_nonneg _ (by omega), Int.emod_lt_of_pos _ (by omega)⟩
      have hm2' : 0 ≤ b5 / 9973 ∧ b5 / 9973 ≤ 200541463 := by omega
      have hm3 := mul_bd (A := 9973) (B := 200541463) (a := tn) (b := b5 / 9973) ⟨htt.1, by omega⟩ hm2'
      refine wss_cut (fun σ1 H5 => ∃ (nb : Int), σ1 = [some (.ref a), some (.int n), some (.int m), some (.ref pb), some (.int b5), some (.bl mx), some (.int wd), some (.int (1000000000000 - wd + 1)), some (.int lw), some (.int o1), some (.int (1 + o2)), some (.int o3), some (.bl fr), some (.int lk), some (.ref pf), some (.int (i : Int)), some (.int att), some (.int tn), some (.int nb), none] ∧ Kp [a] H H5 ∧ H5 a = some (.lst (ds4.map V.int)) ∧ H5 pb = some (.lst (bsL.map V.int)) ∧ H5 pf = some (.lst (fs.map V.int)) ∧ (0 ≤ nb ∧ nb ≤ 3000000000000)) ?_ ?_
      · fail "goE"
        all_goals exact ⟨_, rfl, by fail "kp", by fail "look", by fail "look", by fail "look", by omega⟩
      clear k4 ha4 hp4 hf4 hm1 hm2' hm3
      rintro σ1 H4 ⟨nb, rfl, k4, ha4, hp4, hf4, hnb⟩
      fail "go"
      rename_i p5 H5 np5 k5 hp5 o5 ho51 ho50 ho5 x5 hx5 H6 k6 hp6
      refine ⟨b5, _, _, _, _, _, ds4, rfl, by fail "kp", by fail "look", hl4, by fail "look", hp6, by rw [List.length_append, hfl]; rfl, fun x hx => ?_, hbs⟩
      rcases List.mem_append.mp hx with hx | hx
      · exact hRw x hx
      · rw [List.mem_singleton.mp hx]
        omega
    · clear k3 hpf npf k2 ha2 hl2 hp2 hb4
      rintro σ' H4 ⟨bs, x1, x2, x3, x4, fs, ds4, rfl, k4, ha4, hl4, hp4, hf4, hfl, hRw, hbs⟩
      have hm0 : m.toNat ≤ n.toNat := by omega
      have hRp : ∀ ms : List Int, ms.Perm fs → Rw ms := fun ms hp x hx => hRw x (hp.mem_iff.mp hx)
      have hRl : ∀ ms : List Int, ms.Perm fs → ms.length ≤ n.toNat := fun ms hp => by rw [hp.length_eq, hfl]; exact hm0
      fail "st"
      rename_i v5 ds5 H5 k5 ha5 hl5 hv5
      clear ha4 hl4 hp4 hbs
      fail "go"
      · rename_i hz ms pm Hm hpm hsm npm km hm
        exact q pm ms ds5 _ (by fail "kp") (by fail "nn") (by fail "look") hl5 hm (hRl ms hpm) (hRp ms hpm)
      · rename_i hz1 hz ms pm Hm hpm hsm npm km hm pn Hn npn kn hpn
        exact q pn ms.reverse ds5 _ (by fail "kp") (by fail "nn") (by fail "look") hl5 hpn (hRl _ ((List.reverse_perm ms).trans hpm)) (hRp _ ((List.reverse_perm ms).trans hpm))
      · rename_i hz1 hz2 hz3 pe He mse npe ke hpe eme hle hse ms pm Hm hpm hsm npm km hm po Ho mso npo ko hpo emo hlo hso mt pt Ht hpt hst npt kt ht pu Hu npu ku hpu
        have e1 := hpm.length_eq
        have e2 := hpt.length_eq
        have e3 := pick_ev fs
        have e4 := pick_od fs
        rw [← eme] at e3
        rw [← emo] at e4
        have e5 : mt.reverse.length = mt.length := List.length_reverse
        refine b_catI (by fail "look") (by fail "look") (by omega) ?_
        intro pv Hv npv kv hpv
        refine q pv _ ds5 _ (by fail "kp") (by fail "nn") (by fail "look") hl5 hpv ?_ ?_
        · rw [List.length_append]
          omega
        · intro x hx
          rcases List.mem_append.mp hx with hx | hx
          · exact hRw x (hse x (hpm.mem_iff.mp hx))
          · exact hRw x (hso x (hpt.mem_iff.mp (List.mem_reverse.mp hx)))
      · exact q pf fs ds5 _ (by fail "kp") npfH (by fail "look") hl5 (by fail "look") (by rw [hfl]; exact hm0) hRw
end

section
variable {P : Program} {w : World} {K : PySem.W.Frag} {mg : Str → Option Value} {base : Heap} {f : Addr} {fd : FuncData}
abbrev siswh : Stmt := topS 1
theorem sciswh : FnScope ["thing"] ["thing"] (defScope siswh) := ⟨rfl, rfl, rfl, by decide +kernel, rfl, by decide +kernel, by decide +kernel⟩
local macro_rules | `(tactic| fail "name") => `(tactic| first
  | ((with_reducible apply we_var_at 0 "thing"); exact rfl; fail "vis"; exact rfl; decide; decide))
local macro_rules | `(tactic| fail "nf") => `(tactic| refine wss_nf (σ' := [_]) rfl ?_)
local macro_rules | `(tactic| fail "asg") => `(tactic| first
  | ((with_reducible refine ws_name_at 0 "thing" ?_ ?_ ?_ ?_ ?_ ?_); assumption; exact rfl; fail "loc"; exact rfl; fail "fn")
  | ((with_reducible apply ws_aug_at 0 "thing"); assumption; exact rfl; fail "loc"; fail "fn"; exact rfl))
local macro_rules | `(tactic| fail "tgt") => `(tactic| first
  | ((with_reducible refine wg_name_at 0 "thing" ?_ ?_ ?_ ?_ ?_); assumption; exact rfl; fail "loc"; fail "fn"))
theorem ib_bool : kitB "bool" "bool" = some true := by decide +kernel
theorem ib_int : kitB "bool" "int" = some true := by decide +kernel
def spiswh (K : PySem.W.Frag) : Sp := fun vs H Q _ => ∃ (v : V) (t : String), vs = [v] ∧ Ty0 [] H v t ∧ Q (.bl (whV v)) H
theorem c_iswh {K : PySem.W.Frag} {H : Hp} {Q : VK} {E : XK} {v : V} {t : String} (h : Ty0 [] H v t) (q : Q (.bl (whV v)) H) : spiswh K [v] H Q E := ⟨v, t, rfl, h, q⟩
theorem ok_iswh (F : Fun K "is_whole" "is_whole" siswh f fd) (B : Blt mg)     : FnG P w K mg base CX0 1 f fd ["thing"] (spiswh K) := by
  have nd := sciswh.nd
  refine okG F sciswh (fun vs H Q E h => ?_) (fun cdv A outer s H vs Q E hr hgd h => ?_)
  · obtain ⟨v, t, rfl, _⟩ := h
    rfl
  · obtain ⟨v, t, rfl, ht, q⟩ := h
    have h3 : (∃ i, v = .int i) ∨ (∃ c, v = .bl c) ∨ (isI t = false ∧ whV v = false) := by
      cases ht with
      | int i => exact .inl ⟨i, rfl⟩
      | bl b => exact .inr (.inl ⟨b, rfl⟩)
      | _ => exact .inr (.inr ⟨by decide, rfl⟩)
    rcases h3 with ⟨i, rfl⟩ | ⟨c, rfl⟩ | ⟨e1, e2⟩
    · fail "go"
      all_goals exact q
    · refine wss_one ?_
      refine ws_ret ?_
      fail "goE"
      refine k_isiB ib_int ?_
      fail "goE"
      refine k_isiB ib_bool ?_
      fail "goE"
      exact q
    · refine wss_one ?_
      refine ws_ret ?_
      fail "goE"
      refine ht.isi_int ?_
      rw [e1]
      fail "goE"
      rw [e2] at q
      exact q
end

section
variable {P : Program} {w : World} {K : PySem.W.Frag} {mg : Str → Option Value} {base : Heap} {f : Addr} {fd : FuncData}
abbrev sisreach : Stmt := topS 2
theorem scisreach : FnScope ["row", "place", "thing", "begin", "end", "number"] ["row", "place", "thing"] (defScope sisreach) := ⟨rfl, rfl, rfl, by decide +kernel, rfl, by decide +kernel, by decide +kernel⟩
local macro_rules | `(tactic| fail "name") => `(tactic| first
  | ((with_reducible apply we_var_at 0 "row"); exact rfl; fail "vis"; exact rfl; decide; decide)
  | ((with_reducible apply we_var_at 1 "place"); exact rfl; fail "vis"; exact rfl; decide; decide)
  | ((with_reducible apply we_var_at 2 "thing"); exact rfl; fail "vis"; exact rfl; decide; decide)
  | ((with_reducible apply we_var_at 3 "begin"); exact rfl; fail "vis"; exact rfl; decide; decide)
  | ((with_reducible apply we_var_at 4 "end"); exact rfl; fail "vis"; exact rfl; decide; decide)
  | ((with_reducible apply we_var_at 5 "number"); exact rfl; fail "vis"; exact rfl; decide; decide))
local macro_rules | `(tactic| fail "nf") => `(tactic| refine wss_nf (σ' := [_, _, _, _, _, _]) rfl ?_)
local macro_rules | `(tactic| fail "asg") => `(tactic| first
  | ((with_reducible refine ws_name_at 0 "row" ?_ ?_ ?_ ?_ ?_ ?_); assumption; exact rfl; fail "loc"; exact rfl; fail "fn")
  | ((with_reducible apply ws_aug_at 0 "row"); assumption; exact rfl; fail "loc"; fail "fn"; exact rfl)
  | ((with_reducible refine ws_name_at 1 "place" ?_ ?_ ?_ ?_ ?_ ?_); assumption; exact rfl; fail "loc"; exact rfl; fail "fn")
  | ((with_reducible apply ws_aug_at 1 "place"); assumption; exact rfl; fail "loc"; fail "fn"; exact rfl)
  | ((with_reducible refine ws_name_at 2 "thing" ?_ ?_ ?_ ?_ ?_ ?_); assumption; exact rfl; fail "loc"; exact rfl; fail "fn")
  | ((with_reducible apply ws_aug_at 2 "thing"); assumption; exact rfl; fail "loc"; fail "fn"; exact rfl)
  | ((with_reducible refine ws_name_at 3 "begin" ?_ ?_ ?_ ?_ ?_ ?_); assumption; exact rfl; fail "loc"; exact rfl; fail "fn")
  | ((with_reducible apply ws_aug_at 3 "begin"); assumption; exact rfl; fail "loc"; fail "fn"; exact rfl)
  | ((with_reducible refine ws_name_at 4 "end" ?_ ?_ ?_ ?_ ?_ ?_); assumption; exact rfl; fail "loc"; exact rfl; fail "fn")
  | ((with_reducible apply ws_aug_at 4 "end"); assumption; exact rfl; fail "loc"; fail "fn"; exact rfl)
  | ((with_reducible refine ws_name_at 5 "number" ?_ ?_ ?_ ?_ ?_ ?_); assumption; exact rfl; fail "loc"; exact rfl; fail "fn")
  | ((with_reducible apply ws_aug_at 5 "number"); assumption; exact rfl; fail "loc"; fail "fn"; exact rfl))
local macro_rules | `(tactic| fail "tgt") => `(tactic| first
  | ((with_reducible refine wg_name_at 0 "row" ?_ ?_ ?_ ?_ ?_); assumption; exact rfl; fail "loc"; fail "fn")
  | ((with_reducible refine wg_name_at 1 "place" ?_ ?_ ?_ ?_ ?_); assumption; exact rfl; fail "loc"; fail "fn")
  | ((with_reducible refine wg_name_at 2 "thing" ?_ ?_ ?_ ?_ ?_); assumption; exact rfl; fail "loc"; fail "fn")
  | ((with_reducible refine wg_name_at 3 "begin" ?_ ?_ ?_ ?_ ?_); assumption; exact rfl; fail "loc"; fail "fn")
  | ((with_reducible refine wg_name_at 4 "end" ?_ ?_ ?_ ?_ ?_); assumption; exact rfl; fail "loc"; fail "fn")
  | ((with_reducible refine wg_name_at 5 "number" ?_ ?_ ?_ ?_ ?_); assumption; exact rfl; fail "loc"; fail "fn"))
local macro_rules | `(tactic| fail "sp") => `(tactic| ((with_reducible apply c_iswh); (assumption)))
def rcO (ns : List Int) (i : Nat) : Option (Int × Int) → Bool
  | none => false
  | some p => decide (isRc ns i p)
def spisreach (K : PySem.W.Frag) : Sp := fun vs H Q _ => ∃ (a : Addr) (ns : List Int) (i : Nat) (v : V) (o : Option (Int × Int)), vs = [.ref a, .int (i : Int), v] ∧ SqL K H a (ns.map V.int) ∧ ns.length ≤ 1000 ∧ i < ns.length ∧ RI H v o ∧ ∀ H', Kp [] H H' → Q (.bl (rcO ns i o)) H'
theorem c_isreach {K : PySem.W.Frag} {H : Hp} {Q : VK} {E : XK} {a : Addr} {ns : List Int} {i : Nat} {v : V} {o : Option (Int × Int)} (h1 : SqL K H a (ns.map V.int)) (hl : ns.length ≤ 1000) (hi : i < ns.length) (hv : RI H v o) (q : ∀ H', Kp [] H H' → Q (.bl (rcO ns i o)) H') : spisreach K [.ref a, .int (i : Int), v] H Q E := ⟨a, ns, i, v, o, rfl, h1, hl, hi, hv, q⟩
theorem filt_nil {ns : List Int} {P : Int → Prop} [DecidablePred P] : (ns.filter fun x => decide (P x)).map (fun v => v) = [] ↔ ∀ x ∈ ns, ¬ P x := by
  rw [List.map_eq_nil_iff, List.filter_eq_nil_iff]
  constructor
  · intro h x hx z
    exact h x hx (decide_eq_true z)
  · intro h x hx z
    exact h x hx (of_decide_eq_true z)
theorem in_cut {ns : List Int} {b e : Int} {P : Int → Prop} (h0 : 0 ≤ b) (h2 : e ≤ ns.length) : (∀ x ∈ (ns.drop b.toNat).take (e.toNat - b.toNat), ¬ P x) ↔ ∀ j, j < e.toNat → b.toNat ≤ j → ¬ P (gd ns j) := by
  by_cases h1 : b.toNat < e.toNat
  · constructor
    · intro h j j1 j2
      exact h _ ((mem_cut h1 (by omega)).mpr ⟨j, j2, by omega, rfl⟩)
    · intro h x hx
      obtain ⟨j, j1, j2, rfl⟩ := (mem_cut h1 (by omega)).mp hx
      exact h j (by omega) j1
  · rw [show e.toNat - b.toNat = 0 from by omega, List.take_zero]
    exact ⟨fun _ j j1 j2 => by omega, fun _ x hx => nomatch hx⟩
theorem ok_isreach (F : Fun K "is_reach" "is_reach" sisreach f fd) (B : Blt mg)    (D_iswh : Df P w K mg base 1 "is_whole" (spiswh K)) : FnG P w K mg base CX0 2 f fd ["row", "place", "thing"] (spisreach K) := by
  have nd := scisreach.nd
  refine okG F scisreach (fun vs H Q E h => ?_) (fun cdv A outer s H vs Q E hr hgd h => ?_)
  · obtain ⟨a, ns, i, v, o, rfl, _⟩ := h
    rfl
  · obtain ⟨a, ns, i, v, o, rfl, hS, hl, hi, hv, q⟩ := h
    have hm := mapI_len ns
    cases hv with
    | ty ht e1 =>
      refine wss_cons ?_
      refine ws_if ?_
      fail "goE"
      refine ht.isi_tuple ?_
      rw [e1]
      fail "go"
      exact q _ Kp.refl
    | len hu e1 =>
      refine wss_cons ?_
      refine ws_if ?_
      fail "goE"
      all_goals first
        | (fail "go"; exact q _ Kp.refl; done)
        | (exfalso; omega)
    | odd hu h1 h2 e1 =>
      rename_i u x y t1 t2
      refine wss_cons ?_
      refine ws_if ?_
      fail "goE"
      all_goals first
        | (fail "go"; exact q _ Kp.refl; done)
        | (exfalso; refine e1 ⟨?_, ?_⟩ <;> simp_all)
    | some hu =>
      rename_i u p
      obtain ⟨b, e⟩ := p
      have hu' : H u = some (.tup [.int b, .int e]) := hu
      clear hu
      have wb : Ty0 [] H (.int b) "int" := .int b
      have we : Ty0 [] H (.int e) "int" := .int e
      fail "st"
      fail "st"
      refine wss_cut (fun σ1 H1 => σ1 = [some (.ref a), some (.int (i : Int)), some (.ref u), some (.int b), some (.int e), none] ∧ H1 = H ∧ (0 ≤ b ∧ b ≤ i ∧ (i : Int) < e ∧ e ≤ ns.length)) ?_ ?_
      · fail "go"
        all_goals first
          | exact ⟨rfl, rfl, by omega⟩
          | (have z : decide (isRc ns i (b, e)) = false := decide_eq_false (fun z => by obtain ⟨⟨z1, z2, z3, z4⟩, _⟩ := z; simp only [] at z1 z2 z3 z4; omega)
             rw [← z]
             exact q _ Kp.refl)
      rintro σ1 H1 ⟨rfl, rfl, hb0, hbi, hie, hen⟩
      have ec1 := cutI_both ns b i hb0 hbi (by omega)
      have ec2 := cutI_both ns i e (by omega) (by omega) hen
      have hc1 := cutI_len ns (some b) (some (i : Int))
      have hc2 := cutI_len ns (some (i : Int)) (some e)
      refine wss_cut (fun σ1 H2 => σ1 = [some (.ref a), some (.int (i : Int)), some (.ref u), some (.int b), some (.int e), none] ∧ Kp [] H1 H2 ∧ (∀ j, j < i → b.toNat ≤ j → gd ns i < gd ns j)) ?_ ?_
      · fail "goE"
        refine we_lc (own := [("number", 5)]) (by exact rfl) nd (blkOk_by (N := ["row", "place", "thing", "begin", "end", "number"]) (sc := defScope sisreach) (by decide +kernel)) ?_
        refine lc_L ?_
        fail "goE"
        rename_i p2 H2 np2 k2 hp2
        refine ⟨p2, _, rfl, by fail "sq", lcd_filter (fun v => v ≤ gd ns i) (fun v => v) (by fail "sq") (by omega) (fun v hv H3 k3 => ?_) ?_⟩
        · fail "goE"
          exact ⟨rfl, Kp.refl, by fail "goE"; exact ⟨rfl, Kp.refl⟩⟩
        intro p4 H4 np4 k4 hp4
        fail "goE"
        · rename_i p5 H5 np5 k5 hp5 hne
          fail "go"
          have z : decide (isRc ns i (b, e)) = false := decide_eq_false (fun z => hne (filt_nil.mpr (by
            rw [ec1]
            refine (in_cut hb0 (by omega)).mpr fun j j1 j2 j3 => ?_
            have := z.2.1 j (by omega) j2
            omega)))
          rw [← z]
          exact q _ (by fail "kp")
        · rename_i p5 H5 np5 k5 hp5 heq
          refine ⟨rfl, by fail "kp", fun j j1 j2 => ?_⟩
          have := filt_nil.mp heq
          rw [ec1] at this
          have := (in_cut hb0 (by omega)).mp this j (by omega) j2
          omega
      rintro σ1 H2 ⟨rfl, k2, hA⟩
      fail "st"
      refine we_lc (own := [("number", 5)]) (by exact rfl) nd (blkOk_by (N := ["row", "place", "thing", "begin", "end", "number"]) (sc := defScope sisreach) (by decide +kernel)) ?_
      refine lc_L ?_
      fail "goE"
      rename_i p3 H3 np3 k3 hp3
      refine ⟨p3, _, rfl, by fail "sq", lcd_filter (fun v => v < gd ns i) (fun v => v) (by fail "sq") (by omega) (fun v hv H3 k3 => ?_) ?_⟩
      · fail "goE"
        exact ⟨rfl, Kp.refl, by fail "goE"; exact ⟨rfl, Kp.refl⟩⟩
      intro p4 H4 np4 k4 hp4
      fail "goE"
      rename_i p5 H5 np5 k5 hp5
      have z : decide (List.map (fun v => v) (List.filter (fun x => decide (x < gd ns i)) (cutI ns (some (i : Int)) (some e))) = []) = decide (isRc ns i (b, e)) := decide_eq_decide.mpr (filt_nil.trans (by
        rw [ec2]
        refine (in_cut (P := fun v => v < gd ns i) (by omega) hen).trans ⟨fun h => ⟨⟨hb0, hbi, hie, hen⟩, hA, fun j j1 j2 => ?_⟩, fun h j j1 j2 => ?_⟩
        · have := h j j1 (by omega)
          omega
        · have := h.2.2 j j1 (by omega)
          omega))
      rw [z]
      exact q _ (by fail "kp")
end

section
variable {P : Program} {w : World} {K : PySem.W.Frag} {mg : Str → Option Value} {base : Heap} {f : Addr} {fd : FuncData}
abbrev sshows : Stmt := topS 3
theorem scshows : FnScope ["row", "thing", "total", "many", "place", "reach", "held"] ["row", "thing"] (defScope sshows) := ⟨rfl, rfl, rfl, by decide +kernel, rfl, by decide +kernel, by decide +kernel⟩
local macro_rules | `(tactic| fail "name") => `(tactic| first
  | ((with_reducible apply we_var_at 0 "row"); exact rfl; fail "vis"; exact rfl; decide; decide)
  | ((with_reducible apply we_var_at 1 "thing"); exact rfl; fail "vis"; exact rfl; decide; decide)
  | ((with_reducible apply we_var_at 2 "total"); exact rfl; fail "vis"; exact rfl; decide; decide)
  | ((with_reducible apply we_var_at 3 "many"); exact rfl; fail "vis"; exact rfl; decide; decide)
  | ((with_reducible apply we_var_at 4 "place"); exact rfl; fail "vis"; exact rfl; decide; decide)
  | ((with_reducible apply we_var_at 5 "reach"); exact rfl; fail "vis"; exact rfl; decide; decide)
  | ((with_reducible apply we_var_at 6 "held"); exact rfl; fail "vis"; exact rfl; decide; decide))
local macro_rules | `(tactic| fail "nf") => `(tactic| refine wss_nf (σ' := [_, _, _, _, _, _, _]) rfl ?_)
local macro_rules | `(tactic| fail "asg") => `(tactic| first
  | ((with_reducible refine ws_name_at 0 "row" ?_ ?_ ?_ ?_ ?_ ?_); assumption; exact rfl; fail "loc"; exact rfl; fail "fn")
  | ((with_reducible apply ws_aug_at 0 "row"); assumption; exact rfl; fail "loc"; fail "fn"; exact rfl)
  | ((with_reducible refine ws_name_at 1 "thing" ?_ ?_ ?_ ?_ ?_ ?_); assumption; exact rfl; fail "loc"; exact rfl; fail "fn")
  | ((with_reducible apply ws_aug_at 1 "thing"); assumption; exact rfl; fail "loc"; fail "fn"; exact rfl)
  | ((with_reducible refine ws_name_at 2 "total" ?_ ?_ ?_ ?_ ?_ ?_); assumption; exact rfl; fail "loc"; exact rfl; fail "fn")
  | ((with_reducible apply ws_aug_at 2 "total"); assumption; exact rfl; fail "loc"; fail "fn"; exact rfl)
  | ((with_reducible refine ws_name_at 3 "many" ?_ ?_ ?_ ?_ ?_ ?_); assumption; exact rfl; fail "loc"; exact rfl; fail "fn")
  | ((with_reducible apply ws_aug_at 3 "many"); assumption; exact rfl; fail "loc"; fail "fn"; exact rfl)
  | ((with_reducible refine ws_name_at 4 "place" ?_ ?_ ?_ ?_ ?_ ?_); assumption; exact rfl; fail "loc"; exact rfl; fail "fn")
  | ((with_reducible apply ws_aug_at 4 "place"); assumption; exact rfl; fail "loc"; fail "fn"; exact rfl)
  | ((with_reducible refine ws_name_at 5 "reach" ?_ ?_ ?_ ?_ ?_ ?_); assumption; exact rfl; fail "loc"; exact rfl; fail "fn")
  | ((with_reducible apply ws_aug_at 5 "reach"); assumption; exact rfl; fail "loc"; fail "fn"; exact rfl)
  | ((with_reducible refine ws_name_at 6 "held" ?_ ?_ ?_ ?_ ?_ ?_); assumption; exact rfl; fail "loc"; exact rfl; fail "fn")
  | ((with_reducible apply ws_aug_at 6 "held"); assumption; exact rfl; fail "loc"; fail "fn"; exact rfl))
local macro_rules | `(tactic| fail "tgt") => `(tactic| first
  | ((with_reducible refine wg_name_at 0 "row" ?_ ?_ ?_ ?_ ?_); assumption; exact rfl; fail "loc"; fail "fn")
  | ((with_reducible refine wg_name_at 1 "thing" ?_ ?_ ?_ ?_ ?_); assumption; exact rfl; fail "loc"; fail "fn")
  | ((with_reducible refine wg_name_at 2 "total" ?_ ?_ ?_ ?_ ?_); assumption; exact rfl; fail "loc"; fail "fn")
  | ((with_reducible refine wg_name_at 3 "many" ?_ ?_ ?_ ?_ ?_); assumption; exact rfl; fail "loc"; fail "fn")
  | ((with_reducible refine wg_name_at 4 "place" ?_ ?_ ?_ ?_ ?_); assumption; exact rfl; fail "loc"; fail "fn")
  | ((with_reducible refine wg_name_at 5 "reach" ?_ ?_ ?_ ?_ ?_); assumption; exact rfl; fail "loc"; fail "fn")
  | ((with_reducible refine wg_name_at 6 "held" ?_ ?_ ?_ ?_ ?_); assumption; exact rfl; fail "loc"; fail "fn"))
local macro_rules | `(tactic| fail "sp") => `(tactic| ((with_reducible apply c_isreach); (fail "sqI"); (fail "num"); (fail "num"); (assumption)))
/-- whether a thing is the paper -/
def Pv (H : Hp) (ns : List Int) (v : V) (b : Bool) : Prop := (∃ t, Ty0 [] H v t ∧ isL t = false ∧ b = false) ∨ (∃ t xs os, v = .ref t ∧ H t = some (.lst xs) ∧ RIA H xs os ∧ (b = true ↔ ∃ ps : List (Int × Int), os = ps.map some ∧ Rp (gd ns) ns.length ps))
theorem Pv.kp {H H' : Hp} {ns : List Int} {v : V} {b : Bool} (h : Pv H ns v b) (k : Kp [] H H') : Pv H' ns v b := by
  rcases h with ⟨t, h1, h2⟩ | ⟨t, xs, os, h1, h2, h3, h4⟩
  · exact .inl ⟨t, h1.k0 k, h2⟩
  · exact .inr ⟨t, xs, os, h1, k.g0 h2, h3.k0 k, h4⟩
def pvA (ns : List Int) (b : Bool) : V := if b = true then .int (LS id (gd ns) ns.length) else .non
def spshows (K : PySem.W.Frag) : Sp := fun vs H Q _ => ∃ (a : Addr) (ns : List Int) (v : V) (b : Bool), vs = [.ref a, v] ∧ SqL K H a (ns.map V.int) ∧ ns.length ≤ 1000 ∧ Pv H ns v b ∧ ∀ H', Kp [] H H' → Q (pvA ns b) H'
theorem c_shows {K : PySem.W.Frag} {H : Hp} {Q : VK} {E : XK} {a : Addr} {ns : List Int} {v : V} {b : Bool} (h1 : SqL K H a (ns.map V.int)) (hl : ns.length ≤ 1000) (h2 : Pv H ns v b) (q : ∀ H', Kp [] H H' → Q (pvA ns b) H') : spshows K [.ref a, v] H Q E := ⟨a, ns, v, b, rfl, h1, hl, h2, q⟩
theorem ok_shows (F : Fun K "shows" "shows" sshows f fd) (B : Blt mg)    (D_isreach : Df P w K mg base 2 "is_reach" (spisreach K)) : FnG P w K mg base CX0 3 f fd ["row", "thing"] (spshows K) := by
  have nd := scshows.nd
  refine okG F scshows (fun vs H Q E h => ?_) (fun cdv A outer s H vs Q E hr hgd h => ?_)
  · obtain ⟨a, ns, v, b, rfl, _⟩ := h
    rfl
  · obtain ⟨a, ns, v, b, rfl, hS, hl, hv, q⟩ := h
    have hm := mapI_len ns
    rcases hv with ⟨t, ht, e1, rfl⟩ | ⟨p, xs, os, rfl, hp, hO, hb⟩
    · refine wss_cons ?_
      refine ws_if ?_
      fail "goE"
      refine ht.isi_list ?_
      rw [e1]
      fail "go"
      exact q _ Kp.refl
    have hol := hO.len
    have qn : (∀ ps : List (Int × Int), os = ps.map some → ¬ Rp (gd ns) ns.length ps) → ∀ H', Kp [] H H' → Q .non H' := fun hn H' k => by
      have e : b = false := by
        cases b with
        | false => rfl
        | true =>
          obtain ⟨ps, h1, h2⟩ := hb.mp rfl
          exact absurd h2 (hn ps h1)
      rw [e] at q
      exact q H' k
    refine wss_cut (fun σ1 H1 => σ1 = [some (.ref a), some (.ref p), none, none, none, none, none] ∧ H1 = H ∧ xs.length = ns.length) ?_ ?_
    · fail "go"
      · refine qn (fun ps e z => ?_) _ Kp.refl
        have h1 := z.len
        rw [e, List.length_map] at hol
        omega
      · exact ⟨rfl, rfl, by omega⟩
    rintro σ1 H1 ⟨rfl, rfl, hpl⟩
    generalize hps : os.map (fun o => o.getD (0, 0)) = ps
    have hpsl : ps.length = ns.length := by rw [← hps, List.length_map]; omega
    fail "st"
    fail "st"
    refine wss_cons ?_
    refine ws_forE (by exact rfl) B.enumerate ?_ PassesOwn.never (by exact rfl)
    fail "goE"
    refine ⟨p, _, rfl, by fail "sq", fun i σ' H' => ∃ (x y z : Option V), σ' = [some (.ref a), some (.ref p), some (.int (sm i fun j => hld ps j * gd ns j)), some (.int (sm i (hld ps))), x, y, z] ∧ Kp [] H1 H' ∧ ∀ j, j < i → os[j]? = some (some (ps.getD j (0, 0))) ∧ isRc ns j (ps.getD j (0, 0)), ⟨_, _, _, rfl, Kp.refl, fun j hj => by omega⟩, ?_, ?_, ?_⟩
    · rintro i σ' H' hi ⟨x, y, z, rfl, kk, _⟩
      exact sqL (kk.g0 hp)
    · rintro i w σ' H2 t H3 hx ⟨x0, y0, z0, rfl, k2, hc⟩ nt' kt ht'
      obtain ⟨o, ho, hro⟩ := hO.get hx
      have hil : i < ns.length := by
        have := (List.getElem?_eq_some_iff.mp hx).1
        omega
      have kH3 : Kp [] H1 H3 := by fail "kp"
      have hro3 := hro.k0 kH3
      have hg : ps.getD i (0, 0) = o.getD (0, 0) := by rw [← hps, List.getD_eq_getElem?_getD, List.getElem?_map, ho]; rfl
      fail "goE"
      refine wss_cut (fun σ1 H4 => σ1 = [some (.ref a), some (.ref p), some (.int (sm i fun j => hld ps j * gd ns j)), some (.int (sm i (hld ps))), some (.int (i : Int)), some w, z0] ∧ Kp [] H1 H4 ∧ Kp [] H3 H4 ∧ rcO ns i o = true) ?_ ?_
      · fail "go"
        · rename_i H4 k4 hn
          refine qn (fun ps' e z => ?_) _ (by fail "kp")
          rw [e, List.getElem?_map] at ho
          obtain ⟨pr, e1, e2⟩ := Option.map_eq_some_iff.mp ho
          subst e2
          have hrc := z.rc hil
          rw [List.getD_eq_getElem?_getD, e1] at hrc
          have : rcO ns i (some pr) = true := decide_eq_true hrc
          simp_all
        · rename_i H4 k4 hn
          exact ⟨rfl, by fail "kp", k4, by simp_all⟩
      rintro σ1 H4 ⟨rfl, k4, k34, hrc⟩
      cases hro with
      | ty _ _ => exact nomatch hrc
      | len _ _ => exact nomatch hrc
      | odd _ _ _ _ => exact nomatch hrc
      | some hu =>
      rename_i u pr
      have hrc : isRc ns i pr := of_decide_eq_true hrc
      have hg : ps.getD i (0, 0) = pr := hg
      have hu4 : H4 u = some (.tup [.int pr.1, .int pr.2]) := k4.g0 hu
      have hbb := hrc.1
      clear k2 kt kH3 k34 ht' nt' hro3 hu
      have hmb : -(2 ^ 64) < ((i : Int) - pr.1 + 1) * (pr.2 - (i : Int)) ∧ ((i : Int) - pr.1 + 1) * (pr.2 - (i : Int)) < 2 ^ 64 := by
        have h1 : ((i : Int) - pr.1 + 1) * (pr.2 - (i : Int)) ≤ 2000 * 2000 := Int.mul_le_mul (by omega) (by omega) (by omega) (by omega)
        have h2 : 0 ≤ ((i : Int) - pr.1 + 1) * (pr.2 - (i : Int)) := Int.mul_nonneg (by omega) (by omega)
        omega
      fail "go"
      have hh : hld ps i = ((i : Int) - pr.1 + 1) * (pr.2 - (i : Int)) := by unfold hld; rw [hg]
      have e1 : (sm (i + 1) fun j => hld ps j * gd ns j) = (sm i fun j => hld ps j * gd ns j) + ((i : Int) - pr.1 + 1) * (pr.2 - (i : Int)) * gd ns i := by
        show (sm i fun j => hld ps j * gd ns j) + hld ps i * gd ns i = _
        rw [hh]
      have e2 : sm (i + 1) (hld ps) = sm i (hld ps) + ((i : Int) - pr.1 + 1) * (pr.2 - (i : Int)) := by
        show sm i (hld ps) + hld ps i = _
        rw [hh]
      refine ⟨some (.int (i : Int)), some (.ref u), some (.int (((i : Int) - pr.1 + 1) * (pr.2 - (i : Int)))), ?_, k4, fun j hj => ?_⟩
      · rw [e1, e2]
        rfl
      · by_cases z : j = i
        · rw [z, hg]; exact ⟨ho, hrc⟩
        · exact hc j (by omega)
    · rintro σ' H2 ⟨x0, y0, z0, rfl, k2, hc⟩
      rw [hpl] at hc
      rw [hpl]
      have hos : os = ps.map some := by
        refine List.ext_getElem? fun j => ?_
        by_cases hj : j < ns.length
        · rw [(hc j hj).1, List.getElem?_map, List.getD_eq_getElem?_getD, List.getElem?_eq_getElem (by omega)]
          rfl
        · rw [List.getElem?_eq_none (by omega), List.getElem?_eq_none (by rw [List.length_map]; omega)]
      fail "go"
      · rename_i hne
        refine qn (fun ps' e z => ?_) _ (by fail "kp")
        have : ps' = ps := by
          rw [hos] at e
          exact (List.map_inj_right (fun x y h => Option.some.inj h)).mp e.symm
        subst this
        exact absurd (by rw [hm]; exact z.cnt) hne
      · rename_i heq
        rw [hm] at heq
        have hR := paper_is hpsl (fun i hi => (hc i hi).2) heq
        rw [show b = true from hb.mpr ⟨ps, hos, hR⟩] at q
        rw [show sm ns.length (fun j => hld ps j * gd ns j) = LS id (gd ns) ns.length from hR.tot]
        exact q _ (by fail "kp")
end

section
variable {P : Program} {w : World} {K : PySem.W.Frag} {mg : Str → Option Value} {base : Heap} {f : Addr} {fd : FuncData}
abbrev slreach : Stmt := topS 9
theorem sclreach : FnScope ["row", "found", "place", "number", "begin", "end"] ["row"] (defScope slreach) := ⟨rfl, rfl, rfl, by decide +kernel, rfl, by decide +kernel, by decide +kernel⟩
local macro_rules | `(tactic| fail "name") => `(tactic| first
  | ((with_reducible apply we_var_at 0 "row"); exact rfl; fail "vis"; exact rfl; decide; decide)
  | ((with_reducible apply we_var_at 1 "found"); exact rfl; fail "vis"; exact rfl; decide; decide)
  | ((with_reducible apply we_var_at 2 "place"); exact rfl; fail "vis"; exact rfl; decide; decide)
  | ((with_reducible apply we_var_at 3 "number"); exact rfl; fail "vis"; exact rfl; decide; decide)
  | ((with_reducible apply we_var_at 4 "begin"); exact rfl; fail "vis"; exact rfl; decide; decide)
  | ((with_reducible apply we_var_at 5 "end"); exact rfl; fail "vis"; exact rfl; decide; decide))
local macro_rules | `(tactic| fail "nf") => `(tactic| refine wss_nf (σ' := [_, _, _, _, _, _]) rfl ?_)
local macro_rules | `(tactic| fail "asg") => `(tactic| first
  | ((with_reducible refine ws_name_at 0 "row" ?_ ?_ ?_ ?_ ?_ ?_); assumption; exact rfl; fail "loc"; exact rfl; fail "fn")
  | ((with_reducible apply ws_aug_at 0 "row"); assumption; exact rfl; fail "loc"; fail "fn"; exact rfl)
  | ((with_reducible refine ws_name_at 1 "found" ?_ ?_ ?_ ?_ ?_ ?_); assumption; exact rfl; fail "loc"; exact rfl; fail "fn")
  | ((with_reducible apply ws_aug_at 1 "found"); assumption; exact rfl; fail "loc"; fail "fn"; exact rfl)
  | ((with_reducible refine ws_name_at 2 "place" ?_ ?_ ?_ ?_ ?_ ?_); assumption; exact rfl; fail "loc"; exact rfl; fail "fn")
  | ((with_reducible apply ws_aug_at 2 "place"); assumption; exact rfl; fail "loc"; fail "fn"; exact rfl)
  | ((with_reducible refine ws_name_at 3 "number" ?_ ?_ ?_ ?_ ?_ ?_); assumption; exact rfl; fail "loc"; exact rfl; fail "fn")
  | ((with_reducible apply ws_aug_at 3 "number"); assumption; exact rfl; fail "loc"; fail "fn"; exact rfl)
  | ((with_reducible refine ws_name_at 4 "begin" ?_ ?_ ?_ ?_ ?_ ?_); assumption; exact rfl; fail "loc"; exact rfl; fail "fn")
  | ((with_reducible apply ws_aug_at 4 "begin"); assumption; exact rfl; fail "loc"; fail "fn"; exact rfl)
  | ((with_reducible refine ws_name_at 5 "end" ?_ ?_ ?_ ?_ ?_ ?_); assumption; exact rfl; fail "loc"; exact rfl; fail "fn")
  | ((with_reducible apply ws_aug_at 5 "end"); assumption; exact rfl; fail "loc"; fail "fn"; exact rfl))
local macro_rules | `(tactic| fail "tgt") => `(tactic| first
  | ((with_reducible refine wg_name_at 0 "row" ?_ ?_ ?_ ?_ ?_); assumption; exact rfl; fail "loc"; fail "fn")
  | ((with_reducible refine wg_name_at 1 "found" ?_ ?_ ?_ ?_ ?_); assumption; exact rfl; fail "loc"; fail "fn")
  | ((with_reducible refine wg_name_at 2 "place" ?_ ?_ ?_ ?_ ?_); assumption; exact rfl; fail "loc"; fail "fn")
  | ((with_reducible refine wg_name_at 3 "number" ?_ ?_ ?_ ?_ ?_); assumption; exact rfl; fail "loc"; fail "fn")
  | ((with_reducible refine wg_name_at 4 "begin" ?_ ?_ ?_ ?_ ?_); assumption; exact rfl; fail "loc"; fail "fn")
  | ((with_reducible refine wg_name_at 5 "end" ?_ ?_ ?_ ?_ ?_); assumption; exact rfl; fail "loc"; fail "fn"))
def splreach (K : PySem.W.Frag) : Sp := fun vs H Q _ => ∃ (a : Addr) (ns : List Int), vs = [.ref a] ∧ SqL K H a (ns.map V.int) ∧ ns.length ≤ 1000 ∧ ∀ H' p (ps : List (Int × Int)), Kp [] H H' → H p = none → PL H' p ps → Rp (gd ns) ns.length ps → Q (.ref p) H'
theorem c_lreach {K : PySem.W.Frag} {H : Hp} {Q : VK} {E : XK} {a : Addr} {ns : List Int} (h1 : SqL K H a (ns.map V.int)) (hl : ns.length ≤ 1000)
    (q : ∀ H' p (ps : List (Int × Int)), Kp [] H H' → H p = none → PL H' p ps → Rp (gd ns) ns.length ps → Q (.ref p) H') : splreach K [.ref a] H Q E := ⟨a, ns, rfl, h1, hl, q⟩
theorem ok_lreach (F : Fun K "_law_reaches" "_law_reaches" slreach f fd) (B : Blt mg)     : FnG P w K mg base CX0 1 f fd ["row"] (splreach K) := by
  have nd := sclreach.nd
  refine okG F sclreach (fun vs H Q E h => ?_) (fun cdv A outer s H vs Q E hr hgd h => ?_)
  · obtain ⟨a, ns, rfl, _⟩ := h
    rfl
  · obtain ⟨a, ns, rfl, hS, hl, q⟩ := h
    have hm := mapI_len ns
    fail "st"
    rename_i p0 H0 np0 k0 hp0
    refine wss_cons ?_
    refine ws_forE (by exact rfl) B.enumerate ?_ PassesOwn.never (by exact rfl)
    fail "goE"
    refine ⟨a, _, rfl, by fail "sq", fun i σ' H' => ∃ (ps : List (Int × Int)) (x y z u : Option V), σ' = [some (.ref a), some (.ref p0), x, y, z, u] ∧ Kp [] H H' ∧ PL H' p0 ps ∧ ps.length = i ∧ ∀ j, j < i → ∃ b e : Nat, ps[j]? = some ((b : Int), (e : Int)) ∧ IsR (gd ns) ns.length j b e, ?_, ?_, ?_, ?_⟩
    · exact ⟨[], _, _, _, _, rfl, by fail "kp", PL.nil hp0, rfl, fun j hj => absurd hj (Nat.not_lt_zero j)⟩
    · rintro i σ' H' hi ⟨ps, x, y, z, u, rfl, kk, _⟩
      exact Kp.sqK hS kk
    · clear k0 hp0
      rintro i x σ' H' t H'' hx ⟨ps, x0, y0, z0, u0, rfl, kk, hP, hpl, hps⟩ nt kt ht
      obtain ⟨v, hv, rfl⟩ := mapI_get hx
      have hi : i < ns.length := (List.getElem?_eq_some_iff.mp hv).1
      have ev := gd_some hv
      fail "goE"
      fail "st"
      refine wss_cut (fun σ1 H1 => ∃ b : Nat, σ1 = [some (.ref a), some (.ref p0), some (.int (i : Int)), some (.int v), some (.int (b : Int)), u0] ∧ H1 = H'' ∧ IsLo (gd ns) i b) ?_ ?_
      · refine ws_while (fun m σ1 H1 => ∃ b : Nat, m = b ∧ σ1 = [some (.ref a), some (.ref p0), some (.int (i : Int)), some (.int v), some (.int (b : Int)), u0] ∧ H1 = H'' ∧ b ≤ i ∧ ∀ j, b ≤ j → j < i → gd ns i < gd ns j) ⟨i, i, rfl, rfl, rfl, Nat.le_refl i, fun j h1 h2 => by omega⟩ ?_ PassesOwn.never
        rintro m σ1 H1 ⟨b, rfl, rfl, rfl, hbi, hba⟩
        fail "goE"
        · rename_i h1 h2
          have e2 : ((m : Int) - 1).toNat = m - 1 := by omega
          have h3 : v < gd ns (m - 1) := by rw [e2] at h2; exact h2
          have e3 : (m : Int) - 1 = ((m - 1 : Nat) : Int) := by omega
          fail "go"
          refine ⟨m - 1, by omega, m - 1, rfl, by rw [← e3]; rfl, rfl, by omega, fun j j1 j2 => ?_⟩
          by_cases z : j = m - 1
          · rw [z]; omega
          · exact hba j (by omega) j2
        · rename_i h1 h2
          have e2 : ((m : Int) - 1).toNat = m - 1 := by omega
          have h3 : ¬ v < gd ns (m - 1) := by rw [e2] at h2; exact h2
          exact ⟨m, rfl, rfl, hbi, hba, .inr (by omega)⟩
        · exact ⟨m, rfl, rfl, hbi, hba, .inl (by omega)⟩
      · rintro σ1 H1 ⟨b, rfl, rfl, hlo⟩
        fail "st"
        refine wss_cut (fun σ1 H2 => ∃ e : Nat, σ1 = [some (.ref a), some (.ref p0), some (.int (i : Int)), some (.int v), some (.int (b : Int)), some (.int (e : Int))] ∧ H2 = H1 ∧ IsHi (gd ns) ns.length i e) ?_ ?_
        · refine ws_while (fun m σ1 H2 => ∃ e : Nat, m = ns.length - e ∧ σ1 = [some (.ref a), some (.ref p0), some (.int (i : Int)), some (.int v), some (.int (b : Int)), some (.int (e : Int))] ∧ H2 = H1 ∧ i < e ∧ e ≤ ns.length ∧ ∀ j, i < j → j < e → gd ns i ≤ gd ns j) ⟨_, i + 1, rfl, rfl, rfl, by omega, by omega, fun j h1 h2 => by omega⟩ ?_ PassesOwn.never
          rintro m σ1 H2 ⟨e, rfl, rfl, rfl, hie, hen, hbe⟩
          fail "goE"
          · rename_i h1 h2
            have h3 : v ≤ gd ns e := h2
            fail "go"
            refine ⟨ns.length - (e + 1), by omega, e + 1, rfl, rfl, rfl, by omega, by omega, fun j j1 j2 => ?_⟩
            by_cases z : j = e
            · rw [z]; omega
            · exact hbe j j1 (by omega)
          · rename_i h1 h2
            have h3 : ¬ v ≤ gd ns e := h2
            exact ⟨e, rfl, rfl, hie, hen, hbe, .inr (by omega)⟩
          · exact ⟨e, rfl, rfl, hie, hen, hbe, .inl (by omega)⟩
        · rintro σ1 H2 ⟨e, rfl, rfl, hhi⟩
          obtain ⟨ts, hp, hlt, _⟩ := hP.ex
          have hmt : (ts.map V.ref).length = ts.length := List.length_map _
          fail "go"
          rename_i p3 H3 np3 k3 hp3 H4 k4 hp4
          have hP3 : PL H3 p0 ps := (hP.kp0 kt).kp0 k3
          refine ⟨ps ++ [((b : Int), (e : Int))], _, _, _, _, rfl, by fail "kp", hP3.app (by fail "look") hp3 k4 hp4, by rw [List.length_append, hpl]; rfl, fun j hj => ?_⟩
          by_cases z : j = i
          · exact ⟨b, e, by rw [z, ← hpl, List.getElem?_concat_length], by rw [z]; exact isR_of hlo hhi⟩
          · rw [List.getElem?_append_left (by omega)]
            exact hps j (by omega)
    · rintro σ' H' ⟨ps, x, y, z, u, rfl, kk, hP, hpl, hps⟩
      rw [hm] at hpl hps
      fail "go"
      exact q H' p0 ps kk np0 hP ⟨hpl, hps⟩
end

section
variable {P : Program} {w : World} {K : PySem.W.Frag} {mg : Str → Option Value} {base : Heap} {f : Addr} {fd : FuncData}
abbrev slleasts : Stmt := topS 10
theorem sclleasts : FnScope ["row", "total", "begin", "least", "number"] ["row"] (defScope slleasts) := ⟨rfl, rfl, rfl, by decide +kernel, rfl, by decide +kernel, by decide +kernel⟩
local macro_rules | `(tactic| fail "name") => `(tactic| first
  | ((with_reducible apply we_var_at 0 "row"); exact rfl; fail "vis"; exact rfl; decide; decide)
  | ((with_reducible apply we_var_at 1 "total"); exact rfl; fail "vis"; exact rfl; decide; decide)
  | ((with_reducible apply we_var_at 2 "begin"); exact rfl; fail "vis"; exact rfl; decide; decide)
  | ((with_reducible apply we_var_at 3 "least"); exact rfl; fail "vis"; exact rfl; decide; decide)
  | ((with_reducible apply we_var_at 4 "number"); exact rfl; fail "vis"; exact rfl; decide; decide))
local macro_rules | `(tactic| fail "nf") => `(tactic| refine wss_nf (σ' := [_, _, _, _, _]) rfl ?_)
local macro_rules | `(tactic| fail "asg") => `(tactic| first
  | ((with_reducible refine ws_name_at 0 "row" ?_ ?_ ?_ ?_ ?_ ?_); assumption; exact rfl; fail "loc"; exact rfl; fail "fn")
  | ((with_reducible apply ws_aug_at 0 "row"); assumption; exact rfl; fail "loc"; fail "fn"; exact rfl)
  | ((with_reducible refine ws_name_at 1 "total" ?_ ?_ ?_ ?_ ?_ ?_); assumption; exact rfl; fail "loc"; exact rfl; fail "fn")
  | ((with_reducible apply ws_aug_at 1 "total"); assumption; exact rfl; fail "loc"; fail "fn"; exact rfl)
  | ((with_reducible refine ws_name_at 2 "begin" ?_ ?_ ?_ ?_ ?_ ?_); assumption; exact rfl; fail "loc"; exact rfl; fail "fn")
  | ((with_reducible apply ws_aug_at 2 "begin"); assumption; exact rfl; fail "loc"; fail "fn"; exact rfl)
  | ((with_reducible refine ws_name_at 3 "least" ?_ ?_ ?_ ?_ ?_ ?_); assumption; exact rfl; fail "loc"; exact rfl; fail "fn")
  | ((with_reducible apply ws_aug_at 3 "least"); assumption; exact rfl; fail "loc"; fail "fn"; exact rfl)
  | ((with_reducible refine ws_name_at 4 "number" ?_ ?_ ?_ ?_ ?_ ?_); assumption; exact rfl; fail "loc"; exact rfl; fail "fn")
  | ((with_reducible apply ws_aug_at 4 "number"); assumption; exact rfl; fail "loc"; fail "fn"; exact rfl))
local macro_rules | `(tactic| fail "tgt") => `(tactic| first
  | ((with_reducible refine wg_name_at 0 "row" ?_ ?_ ?_ ?_ ?_); assumption; exact rfl; fail "loc"; fail "fn")
  | ((with_reducible refine wg_name_at 1 "total" ?_ ?_ ?_ ?_ ?_); assumption; exact rfl; fail "loc"; fail "fn")
  | ((with_reducible refine wg_name_at 2 "begin" ?_ ?_ ?_ ?_ ?_); assumption; exact rfl; fail "loc"; fail "fn")
  | ((with_reducible refine wg_name_at 3 "least" ?_ ?_ ?_ ?_ ?_); assumption; exact rfl; fail "loc"; fail "fn")
  | ((with_reducible refine wg_name_at 4 "number" ?_ ?_ ?_ ?_ ?_); assumption; exact rfl; fail "loc"; fail "fn"))
def splleasts (K : PySem.W.Frag) : Sp := fun vs H Q _ => ∃ (a : Addr) (ns : List Int), vs = [.ref a] ∧ SqL K H a (ns.map V.int) ∧ ns.length ≤ 1000 ∧ ∀ H', Kp [] H H' → Q (.int (LS id (gd ns) ns.length)) H'
theorem c_lleasts {K : PySem.W.Frag} {H : Hp} {Q : VK} {E : XK} {a : Addr} {ns : List Int} (h1 : SqL K H a (ns.map V.int)) (hl : ns.length ≤ 1000)
    (q : ∀ H', Kp [] H H' → Q (.int (LS id (gd ns) ns.length)) H') : splleasts K [.ref a] H Q E := ⟨a, ns, rfl, h1, hl, q⟩
theorem ok_lleasts (F : Fun K "_law_leasts" "_law_leasts" slleasts f fd) (B : Blt mg)     : FnG P w K mg base CX0 1 f fd ["row"] (splleasts K) := by
  have nd := sclleasts.nd
  refine okG F sclleasts (fun vs H Q E h => ?_) (fun cdv A outer s H vs Q E hr hgd h => ?_)
  · obtain ⟨a, ns, rfl, _⟩ := h
    rfl
  · obtain ⟨a, ns, rfl, hS, hl, q⟩ := h
    have hm := mapI_len ns
    fail "st"
    refine wss_cons ?_
    refine ws_forR (by exact rfl) B.range ?_ PassesOwn.never (by exact rfl)
    fail "goE"
    refine ⟨by omega, by omega, fun i σ' H' => ∃ (x y z : Option V) (L : Int), σ' = [some (.ref a), some (.int L), x, y, z] ∧ L = (sm i fun a => sm (ns.length - a) fun k => mn (gd ns) a k) ∧ Kp [] H H', ⟨_, _, _, _, rfl, rfl, Kp.refl⟩, ?_, ?_⟩
    · rintro i σ' H' hi ⟨x, y, z, L0, rfl, eL, kk⟩
      have hil : i < ns.length := by omega
      fail "goE"
      fail "st"
      refine wss_one ?_
      refine ws_forL ?_ PassesOwn.never (by exact rfl)
      fail "goE"
      rename_i p1 H1 np1 k1 hp1
      have ec := cutI_from ns (i : Int) (by omega)
      have hcl : (cutI ns (some (i : Int)) none).length = ns.length - i := by
        rw [ec, List.length_drop]
        omega
      refine ⟨p1, _, rfl, by fail "sq", fun j σ' H' => ∃ (x : Option V) (l L : Int), σ' = [some (.ref a), some (.int L), some (.int (i : Int)), some (.int l), x] ∧ L = L0 + (sm j fun k => mn (gd ns) i k) ∧
        (j = 0 → l = gd ns i) ∧ (∀ j', j = j' + 1 → l = mn (gd ns) i j') ∧ Kp [] H1 H', ?_, ?_, ?_, ?_⟩
      · exact ⟨_, _, _, rfl, (Int.add_zero _).symm, fun _ => rfl, fun j' hj => by omega, Kp.refl⟩
      · rintro j σ' H' hj ⟨x, l, L, rfl, _, _, _, kk⟩
        exact sqL (kk.g0 hp1)
      · rintro j x σ' H' hx ⟨x', l, L, rfl, eL', l0, l1, kk⟩
        obtain ⟨v, hv, rfl⟩ := mapI_get hx
        rw [ec] at hv
        have ev : v = gd ns (i + j) := gd_drop hv
        have e1 := mn_run l0 l1 ev
        fail "goE"
        fail "go"
        rw [e1]
        exact ⟨_, _, _, rfl, by rw [eL']; exact Int.add_assoc _ _ _, fun z => by omega, fun j' hj => by cases hj; rfl, kk⟩
      · rintro σ' H' ⟨x', l, L, rfl, eL', l0, l1, kk'⟩
        rw [List.length_map, hcl] at eL'
        exact ⟨_, _, _, _, rfl, by rw [eL', eL]; rfl, by fail "kp"⟩
    · rintro σ' H' ⟨x, y, z, L, rfl, eL, kk⟩
      fail "go"
      rw [hm] at eL
      rw [eL]
      exact q H' (by fail "kp")
end

section
variable {P : Program} {w : World} {K : PySem.W.Frag} {mg : Str → Option Value} {base : Heap} {f : Addr} {fd : FuncData}
abbrev sdeepL : Stmt := topS 11
theorem scdeepL : FnScope ["many", "found", "k"] ["many"] (defScope sdeepL) := ⟨rfl, rfl, rfl, by decide +kernel, rfl, by decide +kernel, by decide +kernel⟩
local macro_rules | `(tactic| fail "name") => `(tactic| first
  | ((with_reducible apply we_var_at 0 "many"); exact rfl; fail "vis"; exact rfl; decide; decide)
  | ((with_reducible apply we_var_at 1 "found"); exact rfl; fail "vis"; exact rfl; decide; decide)
  | ((with_reducible apply we_var_at 2 "k"); exact rfl; fail "vis"; exact rfl; decide; decide))
local macro_rules | `(tactic| fail "nf") => `(tactic| refine wss_nf (σ' := [_, _, _]) rfl ?_)
local macro_rules | `(tactic| fail "asg") => `(tactic| first
  | ((with_reducible refine ws_name_at 0 "many" ?_ ?_ ?_ ?_ ?_ ?_); assumption; exact rfl; fail "loc"; exact rfl; fail "fn")
  | ((with_reducible apply ws_aug_at 0 "many"); assumption; exact rfl; fail "loc"; fail "fn"; exact rfl)
  | ((with_reducible refine ws_name_at 1 "found" ?_ ?_ ?_ ?_ ?_ ?_); assumption; exact rfl; fail "loc"; exact rfl; fail "fn")
  | ((with_reducible apply ws_aug_at 1 "found"); assumption; exact rfl; fail "loc"; fail "fn"; exact rfl)
  | ((with_reducible refine ws_name_at 2 "k" ?_ ?_ ?_ ?_ ?_ ?_); assumption; exact rfl; fail "loc"; exact rfl; fail "fn")
  | ((with_reducible apply ws_aug_at 2 "k"); assumption; exact rfl; fail "loc"; fail "fn"; exact rfl))
local macro_rules | `(tactic| fail "tgt") => `(tactic| first
  | ((with_reducible refine wg_name_at 0 "many" ?_ ?_ ?_ ?_ ?_); assumption; exact rfl; fail "loc"; fail "fn")
  | ((with_reducible refine wg_name_at 1 "found" ?_ ?_ ?_ ?_ ?_); assumption; exact rfl; fail "loc"; fail "fn")
  | ((with_reducible refine wg_name_at 2 "k" ?_ ?_ ?_ ?_ ?_); assumption; exact rfl; fail "loc"; fail "fn"))
def spdeepL (K : PySem.W.Frag) : Sp := fun vs H Q _ => ∃ n : Int, vs = [.int n] ∧ (1 ≤ n ∧ n ≤ 100000) ∧ ∀ p l xs H', H p = none → H l = none → Kp [] H H' → H' p = some (.lst [.ref l]) → H' l = some (.lst xs) → Q (.ref p) H'
theorem c_deepL {K : PySem.W.Frag} {H : Hp} {Q : VK} {E : XK} {n : Int} (hn : 1 ≤ n ∧ n ≤ 100000) (q : ∀ p l xs H', H p = none → H l = none → Kp [] H H' → H' p = some (.lst [.ref l]) → H' l = some (.lst xs) → Q (.ref p) H') : spdeepL K [.int n] H Q E := ⟨n, rfl, hn, q⟩
theorem ok_deepL (F : Fun K "_law_deep" "_law_deep" sdeepL f fd) (B : Blt mg)     : FnG P w K mg base CX0 1 f fd ["many"] (spdeepL K) := by
  have nd := scdeepL.nd
  refine okG F scdeepL (fun vs H Q E h => ?_) (fun cdv A outer s H vs Q E hr hgd h => ?_)
  · obtain ⟨n, rfl, _⟩ := h
    rfl
  · obtain ⟨n, rfl, hn, q⟩ := h
    fail "st"
    rename_i p0 H0 np0 k0 hp0
    refine wss_cons ?_
    refine ws_forR (by exact rfl) B.range ?_ PassesOwn.never (by exact rfl)
    fail "goE"
    refine ⟨by omega, by omega, fun i σ' H' => ∃ (p : Addr) (xs : List V) (y : Option V), σ' = [some (.int n), some (.ref p), y] ∧ Kp [] H H' ∧ H p = none ∧ H' p = some (.lst xs) ∧ (i = 0 ∨ ∃ l ys, xs = [.ref l] ∧ H l = none ∧ H' l = some (.lst ys)), ⟨p0, _, _, rfl, k0, np0, hp0, .inl rfl⟩, ?_, ?_⟩
    · clear k0 hp0
      rintro i σ' H1 hi ⟨p, xs, y, rfl, k1, np, hp, _⟩
      fail "goE"
      fail "go"
      rename_i p2 H2 np2 k2 hp2
      have hp' : H2 p = some (.lst xs) := by fail "look"
      exact ⟨p2, _, _, rfl, by fail "kp", by fail "nn", hp2, .inr ⟨p, xs, rfl, np, hp'⟩⟩
    · rintro σ' H1 ⟨p, xs, y, rfl, k1, np, hp, hd⟩
      rcases hd with hd | ⟨l, ys, rfl, nl, hl⟩
      · omega
      fail "go"
      exact q p l ys H1 np nl k1 hp hl
end

section
variable {P : Program} {w : World} {K : PySem.W.Frag} {mg : Str → Option Value} {base : Heap} {f : Addr} {fd : FuncData}
abbrev sthings : Stmt := topS 12
theorem scthings : FnScope ["draws", "row", "paper", "found", "thing"] ["draws", "row", "paper"] (defScope sthings) := ⟨rfl, rfl, rfl, by decide +kernel, rfl, by decide +kernel, by decide +kernel⟩
local macro_rules | `(tactic| fail "name") => `(tactic| first
  | ((with_reducible apply we_var_at 0 "draws"); exact rfl; fail "vis"; exact rfl; decide; decide)
  | ((with_reducible apply we_var_at 1 "row"); exact rfl; fail "vis"; exact rfl; decide; decide)
  | ((with_reducible apply we_var_at 2 "paper"); exact rfl; fail "vis"; exact rfl; decide; decide)
  | ((with_reducible apply we_var_at 3 "found"); exact rfl; fail "vis"; exact rfl; decide; decide)
  | ((with_reducible apply we_var_at 4 "thing"); exact rfl; fail "vis"; exact rfl; decide; decide))
local macro_rules | `(tactic| fail "nf") => `(tactic| refine wss_nf (σ' := [_, _, _, _, _]) rfl ?_)
local macro_rules | `(tactic| fail "asg") => `(tactic| first
  | ((with_reducible refine ws_name_at 0 "draws" ?_ ?_ ?_ ?_ ?_ ?_); assumption; exact rfl; fail "loc"; exact rfl; fail "fn")
  | ((with_reducible apply ws_aug_at 0 "draws"); assumption; exact rfl; fail "loc"; fail "fn"; exact rfl)
  | ((with_reducible refine ws_name_at 1 "row" ?_ ?_ ?_ ?_ ?_ ?_); assumption; exact rfl; fail "loc"; exact rfl; fail "fn")
  | ((with_reducible apply ws_aug_at 1 "row"); assumption; exact rfl; fail "loc"; fail "fn"; exact rfl)
  | ((with_reducible refine ws_name_at 2 "paper" ?_ ?_ ?_ ?_ ?_ ?_); assumption; exact rfl; fail "loc"; exact rfl; fail "fn")
  | ((with_reducible apply ws_aug_at 2 "paper"); assumption; exact rfl; fail "loc"; fail "fn"; exact rfl)
  | ((with_reducible refine ws_name_at 3 "found" ?_ ?_ ?_ ?_ ?_ ?_); assumption; exact rfl; fail "loc"; exact rfl; fail "fn")
  | ((with_reducible apply ws_aug_at 3 "found"); assumption; exact rfl; fail "loc"; fail "fn"; exact rfl)
  | ((with_reducible refine ws_name_at 4 "thing" ?_ ?_ ?_ ?_ ?_ ?_); assumption; exact rfl; fail "loc"; exact rfl; fail "fn")
  | ((with_reducible apply ws_aug_at 4 "thing"); assumption; exact rfl; fail "loc"; fail "fn"; exact rfl))
local macro_rules | `(tactic| fail "tgt") => `(tactic| first
  | ((with_reducible refine wg_name_at 0 "draws" ?_ ?_ ?_ ?_ ?_); assumption; exact rfl; fail "loc"; fail "fn")
  | ((with_reducible refine wg_name_at 1 "row" ?_ ?_ ?_ ?_ ?_); assumption; exact rfl; fail "loc"; fail "fn")
  | ((with_reducible refine wg_name_at 2 "paper" ?_ ?_ ?_ ?_ ?_); assumption; exact rfl; fail "loc"; fail "fn")
  | ((with_reducible refine wg_name_at 3 "found" ?_ ?_ ?_ ?_ ?_); assumption; exact rfl; fail "loc"; fail "fn")
  | ((with_reducible refine wg_name_at 4 "thing" ?_ ?_ ?_ ?_ ?_); assumption; exact rfl; fail "loc"; fail "fn"))
theorem cps_nil : ∀ c ∈ (Str.ofString "").cps.toList, c < 16 ^ 8 := by decide
theorem cps_0b : ∀ c ∈ (Str.ofString "()").cps.toList, c < 16 ^ 8 := by decide
theorem wtA_pr : ∀ ps : List (Int × Int), wtA (ps.map fun p => PyData.tuple [.int p.1, .int p.2]) = 3 * ps.length
  | [] => rfl
  | p :: ps => by
    rw [List.map_cons, List.length_cons]
    show 3 + wtA (ps.map fun p => PyData.tuple [.int p.1, .int p.2]) = _
    rw [wtA_pr ps]
    omega
theorem depth_pr : ∀ ps : List (Int × Int), PyData.depthAll (ps.map fun p => PyData.tuple [.int p.1, .int p.2]) ≤ 1
  | [] => Nat.zero_le _
  | p :: ps => by
    rw [List.map_cons]
    have := depth_pr ps
    simp only [PyData.depthAll, PyData.depth]
    omega
theorem okD_dP {ps : List (Int × Int)} (h : ∀ x ∈ ps, Szd x.1 ∧ Szd x.2) : okD (dP ps) := by
  show okA (ps.map fun p => PyData.tuple [.int p.1, .int p.2])
  refine okA_mem.mpr fun d hd => ?_
  obtain ⟨p, hp, rfl⟩ := List.mem_map.mp hd
  exact ⟨(h p hp).1, (h p hp).2, trivial⟩
theorem wt_dP (ps : List (Int × Int)) : wt (dP ps) = 3 * ps.length + 1 := by
  show wtA (ps.map fun p => PyData.tuple [.int p.1, .int p.2]) + 1 = _
  rw [wtA_pr]
theorem depth_dP (ps : List (Int × Int)) : (dP ps).depth ≤ 2 := by
  show PyData.depthAll (ps.map fun p => PyData.tuple [.int p.1, .int p.2]) + 1 ≤ 2
  have := depth_pr ps
  omega
theorem tga_pr {F : List Addr} {H : Hp} : ∀ {ts : List Addr} {ps : List (Int × Int)}, ts.length = ps.length → (∀ (j : Nat) t, ts[j]? = some t → ∃ q, ps[j]? = some q ∧ H t = some (.tup [.int q.1, .int q.2])) → TgA F H (ts.map V.ref) (ps.map fun p => PyData.tuple [.int p.1, .int p.2])
  | [], [], _, _ => .nil
  | [], _ :: _, h, _ => by simp at h
  | _ :: _, [], h, _ => by simp at h
  | t :: ts, p :: ps, h, g => by
    obtain ⟨q, e, hq⟩ := g 0 t rfl
    cases e
    exact .cons (.tup hq (.cons (.int _) (.cons (.int _) .nil))) (tga_pr (by simpa using h) fun j u hj => g (j + 1) u (by simpa using hj))
theorem PL.tg {F : List Addr} {H : Hp} {p : Addr} {ps : List (Int × Int)} (h : PL H p ps) (n : p ∉ F) : Tg F H (.ref p) (dP ps) := by
  obtain ⟨ts, h1, h2, h3⟩ := h.ex
  exact .lst h1 n (tga_pr h2 h3)
theorem PL.gq {P : PyData → Prop} {F : List Addr} {H : Hp} {p : Addr} {ps : List (Int × Int)} (h : PL H p ps) (n : p ∉ F) (hz : ∀ x ∈ ps, Szd x.1 ∧ Szd x.2) (hl : ps.length ≤ 1000) (hP : P (dP ps)) : GdQ P F H (.ref p) 3001 2 :=
  ⟨_, h.tg n, okD_dP hz, by rw [wt_dP]; omega, depth_dP ps, hP⟩
theorem pick {F : List Addr} {H : Hp} {n k : Nat} : ∀ {us : List V}, (∀ v ∈ us, Gd F H v n k) → ∃ qs : List (V × PyData), qs.map (·.1) = us ∧ ∀ p ∈ qs, Tg F H p.1 p.2 ∧ okD p.2 ∧ wt p.2 ≤ n ∧ p.2.depth ≤ k
  | [], _ => ⟨[], rfl, fun _ z => nomatch z⟩
  | v :: us, h => by
    obtain ⟨qs, e, hq⟩ := pick fun w hw => h w (List.mem_cons_of_mem _ hw)
    obtain ⟨d, hd⟩ := h v List.mem_cons_self
    refine ⟨(v, d) :: qs, by rw [List.map_cons, e], fun p hp => ?_⟩
    rcases List.mem_cons.mp hp with rfl | hp
    · exact hd
    · exact hq p hp
theorem picked {F : List Addr} {H : Hp} {n k : Nat} {P : PyData → Prop} [DecidablePred P] {qs : List (V × PyData)} (h : ∀ p ∈ qs, Tg F H p.1 p.2 ∧ okD p.2 ∧ wt p.2 ≤ n ∧ p.2.depth ≤ k) : ∀ v ∈ (qs.filter fun p => decide (P p.2)).map (·.1), GdQ P F H v n k := fun v hv => by
  obtain ⟨p, hp, rfl⟩ := List.mem_map.mp hv
  obtain ⟨h1, h2⟩ := List.mem_filter.mp hp
  obtain ⟨g1, g2, g3, g4⟩ := h p h1
  exact ⟨p.2, g1, g2, g3, g4, of_decide_eq_true h2⟩
def Od (ps : List (Int × Int)) (d : PyData) : Prop := d.shown ≠ (dP ps).shown
instance (ps : List (Int × Int)) : DecidablePred (Od ps) := fun d => by unfold Od; exact inferInstance
def spthings (K : PySem.W.Frag) : Sp := fun vs H Q _ => ∃ (v0 : V) (r p : Addr) (ns : List Int) (ps : List (Int × Int)), vs = [v0, .ref r, .ref p] ∧ H r = some (.lst (ns.map V.int)) ∧ ns.length ≤ 300 ∧ (∀ x ∈ ns, -10000000000000 ≤ x ∧ x ≤ 10000000000000) ∧ PL H p ps ∧ Rp (gd ns) ns.length ps ∧
  ∀ (f : Addr) (us : List V) H', Kp [] H H' → H f = none → H' f = some (.lst us) → us.length ≤ 30 → (∀ v ∈ us, GdQ (Od ps) [] H' v 7000 20) → Q (.ref f) H'
theorem c_things {K : PySem.W.Frag} {H : Hp} {Q : VK} {E : XK} {v0 : V} {r p : Addr} {ns : List Int} {ps : List (Int × Int)} (h2 : H r = some (.lst (ns.map V.int))) (hn : ns.length ≤ 300) (hR : ∀ x ∈ ns, -10000000000000 ≤ x ∧ x ≤ 10000000000000) (h3 : PL H p ps) (hT : Rp (gd ns) ns.length ps)
    (q : ∀ (f : Addr) (us : List V) H', Kp [] H H' → H f = none → H' f = some (.lst us) → us.length ≤ 30 → (∀ v ∈ us, GdQ (Od ps) [] H' v 7000 20) → Q (.ref f) H') : spthings K [v0, .ref r, .ref p] H Q E := ⟨v0, r, p, ns, ps, rfl, h2, hn, hR, h3, hT, q⟩
local macro_rules | `(tactic| fail "call") => `(tactic| first | refine we_dictEnum rfl rfl (Blt.dict (by assumption)) rfl (Blt.enumerate (by assumption)) ?_ | refine we_callT rfl (Blt.tuple (by assumption)) boot_tuple ?_)
local macro_rules | `(tactic| fail "cal") => `(tactic| refine k_tuple (by fail "sq") ?_)
local macro_rules | `(tactic| fail "stepE") => `(tactic| ((with_reducible show ∃ a xs, V.ref _ = V.ref a ∧ SqL _ _ a xs ∧ xs.length ≤ 100000 ∧ _); refine ⟨_, _, rfl, by fail "sq", by omega, ?_⟩))
theorem ok_things (F : Fun K "_law_things" "_law_things" sthings f fd) (B : Blt mg) (SM : SmK K)     : FnG P w K mg base CX0 1 f fd ["draws", "row", "paper"] (spthings K) := by
  have nd := scthings.nd
  refine okG F scthings (fun vs H Q E h => ?_) (fun cdv A outer s H vs Q E hr hgd h => ?_)
  · obtain ⟨v0, r, p, ns, ps, rfl, _⟩ := h
    rfl
  · obtain ⟨v0, r, p, ns, ps, rfl, hr2, hn, hRw, hP, hT, q⟩ := h
    have hm := mapI_len ns
    have hpl : ps.length ≤ 300 := by have := hT.len; omega
    have hbd := hT.bd
    have hbz : ∀ x ∈ ps, Szd x.1 ∧ Szd x.2 := fun x hx => by
      have := hbd x hx
      exact ⟨szd_of (by omega), szd_of (by omega)⟩
    obtain ⟨tp, hpx, htl, hget⟩ := hP.ex
    have gA : TgA [] H (tp.map V.ref) (ps.map fun p => PyData.tuple [.int p.1, .int p.2]) := tga_pr htl hget
    clear hget
    generalize hxs : tp.map V.ref = xs at hpx gA
    have hxl : xs.length = ps.length := by rw [← hxs, List.length_map, htl]
    have ga : GdA [] H xs 900 1 := ⟨_, gA, okD_dP hbz, by rw [wtA_pr]; omega, depth_pr ps⟩
    have htx := dP_text (ps := ps) (fun x hx => by have := hbd x hx; omega) (fun p => .tuple [.int p.1, .int p.2]) fun _ => rfl
    fail "nf"
    refine wss_cut (fun σ1 H1 => ∃ (f : Addr) (us : List V), σ1 = [some v0, some (.ref r), some (.ref p), some (.ref f), none] ∧ Kp [] H H1 ∧ H f = none ∧ H1 f = some (.lst us) ∧ us.length = 6 ∧ ∀ v ∈ us, Gd [] H1 v 7000 20) ?_ ?_
    · fail "goE"
      rename_i p1 H1 n1 k1 h1 p2 H2 n2 k2 h2
      refine k_strT (d := dP ps) (F := []) SM (by assumption) (by assumption) ((hP.k0 (show Kp [] H H2 by fail "kp")).tg List.not_mem_nil) (okD_dP hbz) (by rw [wt_dP]; omega) (by have := depth_dP ps; omega) ?_
      fail "goE"
      rename_i p3 H3 n3 k3 h3 t4 H4 n4 k4 h4 p5 H5 n5 k5 h5 p6 H6 n6 k6 h6 p7 H7 n7 k7 h7
      refine b_rep h7 (by omega) (by rw [List.length_singleton]; omega) ?_
      intro p8 H8 n8 k8 h8
      have e8 : (List.replicate (((List.map V.int ns).length : Int) + 1).toNat [V.non]).flatten = (List.replicate (ns.length + 1) (none : Option Int)).map oV := by
        rw [hm, show ((ns.length : Int) + 1).toNat = ns.length + 1 by omega, rep_non]
      rw [e8] at h8
      fail "goE"
      rename_i p9 H9 n9 k9 h9
      have g1 : H9 p1 = some (.tup xs) := by fail "look"
      have g2 : H9 p2 = some (.dK (enD (upI xs.length) xs)) := by fail "look"
      have g3 : H9 p3 = some (.lst [.ref p]) := by fail "look"
      have g4 : H9 t4 = some (.tup [.int 0, .int 1]) := by fail "look"
      have g6 : H9 p6 = some (.lst (xs ++ [.ref t4])) := by fail "look"
      have g8 : H9 p8 = some (.lst ((List.replicate (ns.length + 1) (none : Option Int)).map oV)) := by fail "look"
      have gp : H9 p = some (.lst xs) := by fail "look"
      have nn_ : H p9 = none := by fail "nn"
      have kk : Kp [] H H9 := by fail "kp"
      have ga9 := ga.k0 kk
      refine ⟨p9, _, rfl, kk, nn_, h9, rfl, fun v hv => ?_⟩
      simp only [List.mem_cons, List.not_mem_nil, or_false] at hv
      rcases hv with rfl | rfl | rfl | rfl | rfl | rfl
      · exact (Gd.tup ga9 g1).mono (by decide) (by decide)
      · exact (Gd.dict ga9 g2 List.not_mem_nil (upI_len _) (upI_szd (by omega))).mono (by decide) (by decide)
      · exact Gd.str htx.1 (by have := htx.2; show (PyData.list _).shown.length + 1 ≤ 7000; omega)
      · exact (Gd.lst (GdA.one (Gd.lst ga9 gp List.not_mem_nil)) g3 List.not_mem_nil).mono (by decide) (by decide)
      · exact (Gd.lst (ga9.app (GdA.one ((Gd.tup (n := 2) (k := 0) (GdA.cons (Gd.int (szd_of (by decide))) (GdA.one (Gd.int (szd_of (by decide))))) g4).mono (Nat.le_refl _) (Nat.le_refl _)))) g6 List.not_mem_nil).mono (by decide) (by decide)
      · exact (Gd.lst (GdA.o (k := 0) (fun i hi => by have := List.eq_of_mem_replicate hi; cases this)) g8 List.not_mem_nil).mono (by rw [List.length_replicate]; omega) (by decide)
    rintro σ1 H1 ⟨f1, us1, rfl, k1, nf1, hf1, hl1, all1⟩
    have hr1 : H1 r = some (.lst (ns.map V.int)) := by fail "look"
    have hP1 : PL H1 p ps := by fail "pl"
    clear hr2 hP hpx gA ga htx
    refine wss_cut (fun σ1 H2 => ∃ (f : Addr) (us : List V), σ1 = [some v0, some (.ref r), some (.ref p), some (.ref f), none] ∧ Kp [] H1 H2 ∧ H1 f = none ∧ H2 f = some (.lst us) ∧ us.length = 18 ∧ ∀ v ∈ us, Gd [] H2 v 7000 20) ?_ ?_
    · fail "goE"
      rename_i e1 K1 m1 l1 g1 e2 K2 m2 l2 g2 e3 K3 m3 l3 g3 e4 K4 m4 l4 g4 e5 K5 m5 l5 g5 e6 K6 m6 l6 g6 e7 K7 m7 l7 g7 e8 K8 m8 l8 g8 e9 K9 m9 l9 g9 e10 K10 m10 l10 g10 e11 K11 m11 l11 g11 e12 K12 m12 l12 g12 e13 K13 m13 l13 g13 e14 K14 m14 l14 g14
      have f1_ : K14 e1 = some (.tup []) := by fail "look"
      have f2_ : K14 e2 = some (.dK (enD [] [])) := by fail "look"
      have f3_ : K14 e3 = some (.tup []) := by fail "look"
      have f4_ : K14 e4 = some (.lst [.ref e3]) := by fail "look"
      have f5_ : K14 e5 = some (.lst []) := by fail "look"
      have f6_ : K14 e6 = some (.lst [.ref e5]) := by fail "look"
      have f7_ : K14 e7 = some (.tup [.int 0]) := by fail "look"
      have f8_ : K14 e8 = some (.lst [.ref e7]) := by fail "look"
      have f9_ : K14 e9 = some (.tup [.int 0, .int 0]) := by fail "look"
      have f10_ : K14 e10 = some (.lst [.ref e9]) := by fail "look"
      have f12_ : K14 e12 = some (.lst ((ns ++ [0]).map V.int)) := by fail "look"
      have nn_ : H1 e14 = none := by fail "nn"
      have kk : Kp [] H1 K14 := by fail "kp"
      have i0 : ∀ {k : Nat}, Gd [] K14 (.int 0) 1 k := fun {k} => Gd.int (szd_of (by decide))
      refine ⟨e14, _, rfl, kk, nn_, g14, by rw [List.length_append]; simp only [List.length_cons, List.length_nil]; omega, fun v hv => ?_⟩
      rcases List.mem_append.mp hv with hv | hv
      · exact (all1 v hv).k0 kk
      · simp only [List.mem_cons, List.not_mem_nil, or_false] at hv
        rcases hv with rfl | rfl | rfl | rfl | rfl | rfl | rfl | rfl | rfl | rfl | rfl | rfl
        · exact Gd.non.mono (by decide) (Nat.zero_le _)
        · exact (i0 (k := 0)).mono (by decide) (by decide)
        · exact Gd.bl.mono (by decide) (Nat.zero_le _)
        · exact Gd.str cps_nil (by decide)
        · exact Gd.str cps_0b (by decide)
        · exact (Gd.tup (GdA.nil (k := 0)) f1_).mono (by decide) (by decide)
        · exact (Gd.dict (ks := []) (GdA.nil (k := 0)) f2_ List.not_mem_nil rfl (fun _ z => nomatch z)).mono (by decide) (by decide)
        · exact (Gd.lst (GdA.one (Gd.tup (GdA.nil (k := 0)) f3_)) f4_ List.not_mem_nil).mono (by decide) (by decide)
        · exact (Gd.lst (GdA.one (Gd.lst (GdA.nil (k := 0)) f5_ List.not_mem_nil)) f6_ List.not_mem_nil).mono (by decide) (by decide)
        · exact (Gd.lst (GdA.one (Gd.tup (GdA.one (i0 (k := 0))) f7_)) f8_ List.not_mem_nil).mono (by decide) (by decide)
        · exact (Gd.lst (GdA.one (Gd.tup (GdA.cons (i0 (k := 0)) (GdA.one i0)) f9_)) f10_ List.not_mem_nil).mono (by decide) (by decide)
        · refine (Gd.lst (GdA.ints (k := 0) (fun x hx => ?_)) f12_ List.not_mem_nil).mono (by rw [List.length_append, List.length_singleton]; omega) (by decide)
          rcases List.mem_append.mp hx with hx | hx
          · exact szd_of (by have := hRw x hx; omega)
          · rw [List.mem_singleton.mp hx]
            exact szd_of (by decide)
    rintro σ1 H2 ⟨f2, us2, rfl, k2, nf2, hf2, hl2, all2⟩
    have hP2 : PL H2 p ps := by fail "pl"
    have nf2' : H f2 = none := by fail "nn"
    have kk2 : Kp [] H H2 := by fail "kp"
    obtain ⟨qs, rfl, hqs⟩ := pick all2
    clear k1 nf1 hf1 hl1 all1 hr1 hP1 k2 nf2 all2
    fail "nf"
    refine wss_one ?_
    refine ws_ret ?_
    refine we_lc (own := [("thing", 4)]) (by exact rfl) nd (blkOk_by (N := ["draws", "row", "paper", "found", "thing"]) (sc := defScope sthings) (by decide +kernel)) ?_
    refine lc_L ?_
    fail "goE"
    refine ⟨f2, _, rfl, sqL hf2, lcd_selP (ps := qs) (fun p => decide (Od ps p.2)) hf2 (by rw [List.length_map] at hl2; omega) (fun x hx H5 k5 => ?_) ?_⟩
    · obtain ⟨t1, t2, t3, t4⟩ := hqs x hx
      have t1' := t1.k0 k5
      have hP5 : PL H5 p ps := by fail "pl"
      fail "goE"
      refine k_reprT SM (by assumption) (by assumption) t1' t2 (by omega) (by omega) ?_
      fail "goE"
      refine ⟨by unfold Od; by_cases z : x.2.shown = (dP ps).shown <;> simp [z], Kp.refl, ?_⟩
      fail "goE"
      exact ⟨rfl, Kp.refl⟩
    · intro Dl H5 nD k5 hD
      refine q Dl _ H5 (by fail "kp") (by fail "nn") hD ?_ ?_
      · rw [List.length_map] at hl2 ⊢
        have := List.length_filter_le (fun p : V × PyData => decide (Od ps p.2)) qs
        omega
      · exact picked (P := Od ps) fun p hp => by
          obtain ⟨t1, t2⟩ := hqs p hp
          exact ⟨t1.k0 k5, t2⟩
end

section
variable {P : Program} {w : World} {K : PySem.W.Frag} {mg : Str → Option Value} {base : Heap} {f : Addr} {fd : FuncData}
abbrev sasmany : Stmt := topS 13
theorem scasmany : FnScope ["row", "paper", "found", "at", "one", "side", "more", "beside", "other", "held", "smaller", "lost", "bent"] ["row", "paper"] (defScope sasmany) := ⟨rfl, rfl, rfl, by decide +kernel, rfl, by decide +kernel, by decide +kernel⟩
local macro_rules | `(tactic| fail "name") => `(tactic| first
  | ((with_reducible apply we_var_at 0 "row"); exact rfl; fail "vis"; exact rfl; decide; decide)
  | ((with_reducible apply we_var_at 1 "paper"); exact rfl; fail "vis"; exact rfl; decide; decide)
  | ((with_reducible apply we_var_at 2 "found"); exact rfl; fail "vis"; exact rfl; decide; decide)
  | ((with_reducible apply we_var_at 3 "at"); exact rfl; fail "vis"; exact rfl; decide; decide)
  | ((with_reducible apply we_var_at 4 "one"); exact rfl; fail "vis"; exact rfl; decide; decide)
  | ((with_reducible apply we_var_at 5 "side"); exact rfl; fail "vis"; exact rfl; decide; decide)
  | ((with_reducible apply we_var_at 6 "more"); exact rfl; fail "vis"; exact rfl; decide; decide)
  | ((with_reducible apply we_var_at 7 "beside"); exact rfl; fail "vis"; exact rfl; decide; decide)
  | ((with_reducible apply we_var_at 8 "other"); exact rfl; fail "vis"; exact rfl; decide; decide)
  | ((with_reducible apply we_var_at 9 "held"); exact rfl; fail "vis"; exact rfl; decide; decide)
  | ((with_reducible apply we_var_at 10 "smaller"); exact rfl; fail "vis"; exact rfl; decide; decide)
  | ((with_reducible apply we_var_at 11 "lost"); exact rfl; fail "vis"; exact rfl; decide; decide)
  | ((with_reducible apply we_var_at 12 "bent"); exact rfl; fail "vis"; exact rfl; decide; decide))
local macro_rules | `(tactic| fail "nf") => `(tactic| refine wss_nf (σ' := [_, _, _, _, _, _, _, _, _, _, _, _, _]) rfl ?_)
local macro_rules | `(tactic| fail "asg") => `(tactic| first
  | ((with_reducible refine ws_name_at 0 "row" ?_ ?_ ?_ ?_ ?_ ?_); assumption; exact rfl; fail "loc"; exact rfl; fail "fn")
  | ((with_reducible apply ws_aug_at 0 "row"); assumption; exact rfl; fail "loc"; fail "fn"; exact rfl)
  | ((with_reducible refine ws_name_at 1 "paper" ?_ ?_ ?_ ?_ ?_ ?_); assumption; exact rfl; fail "loc"; exact rfl; fail "fn")
  | ((with_reducible apply ws_aug_at 1 "paper"); assumption; exact rfl; fail "loc"; fail "fn"; exact rfl)
  | ((with_reducible refine ws_name_at 2 "found" ?_ ?_ ?_ ?_ ?_ ?_); assumption; exact rfl; fail "loc"; exact rfl; fail "fn")
  | ((with_reducible apply ws_aug_at 2 "found"); assumption; exact rfl; fail "loc"; fail "fn"; exact rfl)
  | ((with_reducible refine ws_name_at 3 "at" ?_ ?_ ?_ ?_ ?_ ?_); assumption; exact rfl; fail "loc"; exact rfl; fail "fn")
  | ((with_reducible apply ws_aug_at 3 "at"); assumption; exact rfl; fail "loc"; fail "fn"; exact rfl)
  | ((with_reducible refine ws_name_at 4 "one" ?_ ?_ ?_ ?_ ?_ ?_); assumption; exact rfl; fail "loc"; exact rfl; fail "fn")
  | ((with_reducible apply ws_aug_at 4 "one"); assumption; exact rfl; fail "loc"; fail "fn"; exact rfl)
  | ((with_reducible refine ws_name_at 5 "side" ?_ ?_ ?_ ?_ ?_ ?_); assumption; exact rfl; fail "loc"; exact rfl; fail "fn")
  | ((with_reducible apply ws_aug_at 5 "side"); assumption; exact rfl; fail "loc"; fail "fn"; exact rfl)
  | ((with_reducible refine ws_name_at 6 "more" ?_ ?_ ?_ ?_ ?_ ?_); assumption; exact rfl; fail "loc"; exact rfl; fail "fn")
  | ((with_reducible apply ws_aug_at 6 "more"); assumption; exact rfl; fail "loc"; fail "fn"; exact rfl)
  | ((with_reducible refine ws_name_at 7 "beside" ?_ ?_ ?_ ?_ ?_ ?_); assumption; exact rfl; fail "loc"; exact rfl; fail "fn")
  | ((with_reducible apply ws_aug_at 7 "beside"); assumption; exact rfl; fail "loc"; fail "fn"; exact rfl)
  | ((with_reducible refine ws_name_at 8 "other" ?_ ?_ ?_ ?_ ?_ ?_); assumption; exact rfl; fail "loc"; exact rfl; fail "fn")
  | ((with_reducible apply ws_aug_at 8 "other"); assumption; exact rfl; fail "loc"; fail "fn"; exact rfl)
  | ((with_reducible refine ws_name_at 9 "held" ?_ ?_ ?_ ?_ ?_ ?_); assumption; exact rfl; fail "loc"; exact rfl; fail "fn")
  | ((with_reducible apply ws_aug_at 9 "held"); assumption; exact rfl; fail "loc"; fail "fn"; exact rfl)
  | ((with_reducible refine ws_name_at 10 "smaller" ?_ ?_ ?_ ?_ ?_ ?_); assumption; exact rfl; fail "loc"; exact rfl; fail "fn")
  | ((with_reducible apply ws_aug_at 10 "smaller"); assumption; exact rfl; fail "loc"; fail "fn"; exact rfl)
  | ((with_reducible refine ws_name_at 11 "lost" ?_ ?_ ?_ ?_ ?_ ?_); assumption; exact rfl; fail "loc"; exact rfl; fail "fn")
  | ((with_reducible apply ws_aug_at 11 "lost"); assumption; exact rfl; fail "loc"; fail "fn"; exact rfl)
  | ((with_reducible refine ws_name_at 12 "bent" ?_ ?_ ?_ ?_ ?_ ?_); assumption; exact rfl; fail "loc"; exact rfl; fail "fn")
  | ((with_reducible apply ws_aug_at 12 "bent"); assumption; exact rfl; fail "loc"; fail "fn"; exact rfl))
local macro_rules | `(tactic| fail "tgt") => `(tactic| first
  | ((with_reducible refine wg_name_at 0 "row" ?_ ?_ ?_ ?_ ?_); assumption; exact rfl; fail "loc"; fail "fn")
  | ((with_reducible refine wg_name_at 1 "paper" ?_ ?_ ?_ ?_ ?_); assumption; exact rfl; fail "loc"; fail "fn")
  | ((with_reducible refine wg_name_at 2 "found" ?_ ?_ ?_ ?_ ?_); assumption; exact rfl; fail "loc"; fail "fn")
  | ((with_reducible refine wg_name_at 3 "at" ?_ ?_ ?_ ?_ ?_); assumption; exact rfl; fail "loc"; fail "fn")
  | ((with_reducible refine wg_name_at 4 "one" ?_ ?_ ?_ ?_ ?_); assumption; exact rfl; fail "loc"; fail "fn")
  | ((with_reducible refine wg_name_at 5 "side" ?_ ?_ ?_ ?_ ?_); assumption; exact rfl; fail "loc"; fail "fn")
  | ((with_reducible refine wg_name_at 6 "more" ?_ ?_ ?_ ?_ ?_); assumption; exact rfl; fail "loc"; fail "fn")
  | ((with_reducible refine wg_name_at 7 "beside" ?_ ?_ ?_ ?_ ?_); assumption; exact rfl; fail "loc"; fail "fn")
  | ((with_reducible refine wg_name_at 8 "other" ?_ ?_ ?_ ?_ ?_); assumption; exact rfl; fail "loc"; fail "fn")
  | ((with_reducible refine wg_name_at 9 "held" ?_ ?_ ?_ ?_ ?_); assumption; exact rfl; fail "loc"; fail "fn")
  | ((with_reducible refine wg_name_at 10 "smaller" ?_ ?_ ?_ ?_ ?_); assumption; exact rfl; fail "loc"; fail "fn")
  | ((with_reducible refine wg_name_at 11 "lost" ?_ ?_ ?_ ?_ ?_); assumption; exact rfl; fail "loc"; fail "fn")
  | ((with_reducible refine wg_name_at 12 "bent" ?_ ?_ ?_ ?_ ?_); assumption; exact rfl; fail "loc"; fail "fn"))

theorem cutV_at {xs : List V} {lo : Option Int} {i : Nat} {v : V} (h : (cutV xs none lo)[i]? = some v) : xs[i]? = some v := by
  unfold cutV at h
  rw [List.getElem?_take] at h
  split at h
  · rw [List.getElem?_drop] at h
    have e : HT.sIx xs.length 0 none = 0 := rfl
    rw [e, Nat.zero_add] at h
    exact h
  · cases h
theorem cutV_20 (xs : List V) : (cutV xs none (some 20)).length ≤ 20 := by
  unfold cutV
  rw [List.length_take]
  have e : HT.sIx xs.length xs.length (some 20) = min 20 xs.length := by
    show (if (20 : Int) < 0 then ((20 : Int) + (xs.length : Int)).toNat else min (20 : Int).toNat xs.length) = _
    rw [if_neg (by omega)]
    rfl
  rw [e]
  omega
theorem PL.get' {H : Hp} {p : Addr} {ps : List (Int × Int)} (h : PL H p ps) {xs : List V} (hp : H p = some (.lst xs)) {i : Nat} {v : V} (hv : xs[i]? = some v) : ∃ u y, v = .ref u ∧ ps[i]? = some y ∧ H u = some (.tup [.int y.1, .int y.2]) := by
  obtain ⟨ts, h1, h2, h3⟩ := h.ex
  cases h1.symm.trans hp
  rw [List.getElem?_map] at hv
  obtain ⟨t, ht, rfl⟩ := Option.map_eq_some_iff.mp hv
  obtain ⟨y, e1, e2⟩ := h3 i t ht
  exact ⟨t, y, rfl, e1, e2⟩
theorem PL.set' {H H' : Hp} {p t : Addr} {ts : List Addr} {ps : List (Int × Int)} {i : Nat} {y : Int × Int} (hl : ts.length = ps.length) (h : ∀ (j : Nat) u, ts[j]? = some u → ∃ q, ps[j]? = some q ∧ H u = some (.tup [.int q.1, .int q.2])) (ht : H t = some (.tup [.int y.1, .int y.2])) (k : Kp [p] H H') : (ts.set i t).length = (ps.set i y).length ∧ ∀ (j : Nat) u, (ts.set i t)[j]? = some u → ∃ q, (ps.set i y)[j]? = some q ∧ H' u = some (.tup [.int q.1, .int q.2]) := by
  refine ⟨by rw [List.length_set, List.length_set, hl], fun j u hj => ?_⟩
  rw [List.getElem?_set] at hj ⊢
  by_cases e : i = j
  · rw [if_pos e] at hj ⊢
    by_cases e2 : i < ts.length
    · rw [if_pos (by omega)] at hj ⊢
      cases hj
      exact ⟨y, rfl, k.gT ht⟩
    · rw [if_neg (by omega)] at hj
      cases hj
  · rw [if_neg e] at hj ⊢
    obtain ⟨q, e1, e2⟩ := h j u hj
    exact ⟨q, e1, k.gT e2⟩
theorem od_ne {ps qs : List (Int × Int)} (h : qs ≠ ps) : Od ps (dP qs) := fun z => h (by
  have e := (shown_inj (d := dP qs) (su_p ps)).mp z
  exact pr_inj (PyData.list.inj e))
def spasmany (K : PySem.W.Frag) : Sp := fun vs H Q _ => ∃ (v0 : V) (p : Addr) (ps : List (Int × Int)), vs = [v0, .ref p] ∧ PL H p ps ∧ ps.length ≤ 300 ∧ (∀ x ∈ ps, (0 ≤ x.1 ∧ x.1 ≤ 300) ∧ (0 ≤ x.2 ∧ x.2 ≤ 300)) ∧
  ∀ (f : Addr) (us : List V) H', Kp [] H H' → H f = none → H' f = some (.lst us) → us.length ≤ 30 → (∀ v ∈ us, GdQ (Od ps) [] H' v 7000 20) → Q (.ref f) H'
theorem c_asmany {K : PySem.W.Frag} {H : Hp} {Q : VK} {E : XK} {v0 : V} {p : Addr} {ps : List (Int × Int)} (h3 : PL H p ps) (hl : ps.length ≤ 300) (hb : ∀ x ∈ ps, (0 ≤ x.1 ∧ x.1 ≤ 300) ∧ (0 ≤ x.2 ∧ x.2 ≤ 300))
    (q : ∀ (f : Addr) (us : List V) H', Kp [] H H' → H f = none → H' f = some (.lst us) → us.length ≤ 30 → (∀ v ∈ us, GdQ (Od ps) [] H' v 7000 20) → Q (.ref f) H') : spasmany K [v0, .ref p] H Q E := ⟨v0, p, ps, rfl, h3, hl, hb, q⟩
theorem ok_asmany (F : Fun K "_law_as_many" "_law_as_many" sasmany f fd) (B : Blt mg)    (D_things : Df P w K mg base 1 "_law_things" (spthings K)) : FnG P w K mg base CX0 1 f fd ["row", "paper"] (spasmany K) := by
  have nd := scasmany.nd
  refine okG F scasmany (fun vs H Q E h => ?_) (fun cdv A outer s H vs Q E hr hgd h => ?_)
  · obtain ⟨v0, p, ps, rfl, _⟩ := h
    rfl
  · obtain ⟨v0, p, ps, rfl, hP, hpl, hb, q⟩ := h
    obtain ⟨tp, hpx, htl, _⟩ := hP.ex
    generalize hxs : tp.map V.ref = xs at hpx
    have hxl : xs.length = ps.length := by rw [← hxs, List.length_map, htl]
    have c20 := cutV_20 xs
    clear hxs htl
    fail "sn"
    rename_i f H1 n1 k1 h1
    refine wss_cons ?_
    refine ws_forE (by exact rfl) B.enumerate ?_ PassesOwn.never (by exact rfl)
    fail "goE"
    rename_i q2 H2 n2 k2 h2
    have hf2 : H2 f = some (.lst []) := by fail "look"
    have hP2 : PL H2 p ps := by fail "pl"
    have hp2 : H2 p = some (.lst xs) := by fail "look"
    have dfq : q2 ≠ f := by fail "ne"
    have dfp : p ≠ f := by fail "ne"
    have nf2 : H f = none := n1
    have kk2 : Kp [] H H2 := by fail "kp"
    clear hP hpx n1 k1 h1 n2 k2
    refine ⟨q2, _, rfl, sqL h2, fun i σ' H' => ∃ (us : List V) (x3 x4 x5 x6 x7 x8 x9 x10 x11 x12 : Option V), σ' = [some v0, some (.ref p), some (.ref f), x3, x4, x5, x6, x7, x8, x9, x10, x11, x12] ∧ Kp [f] H2 H' ∧ H' f = some (.lst us) ∧ us.length ≤ 30 ∧ ∀ v ∈ us, GdQ (Od ps) [f] H' v 7000 20, ⟨[], _, _, _, _, _, _, _, _, _, _, rfl, Kp.refl, hf2, Nat.zero_le _, fun v hv => nomatch hv⟩, ?_, ?_, ?_⟩
    · rintro i σ' H' hi ⟨us, x3, x4, x5, x6, x7, x8, x9, x10, x11, x12, rfl, kk, _⟩
      exact sqL (by fail "look")
    · rintro i v σ' H3 t H4 hx ⟨us, x3, x4, x5, x6, x7, x8, x9, x10, x11, x12, rfl, k3, h3, hlu, hall⟩ nt kt ht
      have hil : i < 20 := Nat.lt_of_lt_of_le (List.getElem?_eq_some_iff.mp hx).1 c20
      obtain ⟨u, y, rfl, hy, hu2⟩ := hP2.get' hp2 (cutV_at hx)
      have hby := hb y (List.mem_of_getElem? hy)
      have hu4 : H4 u = some (.tup [.int y.1, .int y.2]) := by fail "look"
      have hf4 : H4 f = some (.lst us) := by fail "look"
      have kk4 : Kp [f] H2 H4 := by fail "kp"
      have hall4 : ∀ v ∈ us, GdQ (Od ps) [f] H4 v 7000 20 := fun v hv => (hall v hv).k0 kt
      clear hx hu2 k3 h3 hall nt kt
      fail "goE"
      clear ht
      fail "nf"
      refine wss_one ?_
      refine ws_forR (by exact rfl) B.range ?_ PassesOwn.never (by exact rfl)
      fail "goE"
      refine ⟨by omega, by omega, fun j σ' H' => ∃ (us : List V) (x5 x6 x7 x8 x9 x10 x11 x12 : Option V), σ' = [some v0, some (.ref p), some (.ref f), some (.int (i : Int)), some (.ref u), x5, x6, x7, x8, x9, x10, x11, x12] ∧ Kp [f] H4 H' ∧ H' f = some (.lst us) ∧ us.length ≤ 30 ∧ ∀ v ∈ us, GdQ (Od ps) [f] H' v 7000 20, ⟨us, _, _, _, _, _, _, _, _, rfl, Kp.refl, hf4, hlu, hall4⟩, ?_, ?_⟩
      · clear hf4 hlu hall4
        rintro j σ' H5 hj ⟨us, x5, x6, x7, x8, x9, x10, x11, x12, rfl, k5, h5, hlu, hall⟩
        have hu5 : H5 u = some (.tup [.int y.1, .int y.2]) := by fail "look"
        have kk5 : Kp [f] H2 H5 := by fail "kp"
        fail "goE"
        fail "nf"
        refine wss_cut (fun σ1 H6 => ∃ (m : Addr) (z : Int × Int), σ1 = [some v0, some (.ref p), some (.ref f), some (.int (i : Int)), some (.ref u), some (.int (j : Int)), some (.ref m), x7, x8, x9, x10, x11, x12] ∧ Kp [] H5 H6 ∧ H6 m = some (.tup [.int z.1, .int z.2]) ∧ ((-1 ≤ z.1 ∧ z.1 ≤ 301) ∧ (-1 ≤ z.2 ∧ z.2 ≤ 301)) ∧ z ≠ y) ?_ ?_
        · obtain rfl | rfl : j = 0 ∨ j = 1 := by omega
          · fail "goE"
            rename_i t1 J1 m1 l1 f1 t2 J2 m2 l2 f2 t3 J3 m3 l3 f3
            have g1 : J3 t1 = some (.tup [.int (y.1 - 1), .int y.2]) := by fail "look"
            exact ⟨t1, (y.1 - 1, y.2), rfl, by fail "kp", g1, by dsimp only; omega, fun z => by have := congrArg Prod.fst z; dsimp only at this; omega⟩
          · fail "goE"
            rename_i t1 J1 m1 l1 f1 t2 J2 m2 l2 f2 t3 J3 m3 l3 f3
            have g1 : J3 t2 = some (.tup [.int y.1, .int (y.2 + 1)]) := by fail "look"
            exact ⟨t2, (y.1, y.2 + 1), rfl, by fail "kp", g1, by dsimp only; omega, fun z => by have := congrArg Prod.snd z; dsimp only at this; omega⟩
        rintro σ1 H6 ⟨m, z, rfl, k6, hm6, hbz, hne⟩
        have hf6 : H6 f = some (.lst us) := by fail "look"
        have hu6 : H6 u = some (.tup [.int y.1, .int y.2]) := by fail "look"
        have hp6 : H6 p = some (.lst xs) := by fail "look"
        have k46 : Kp [f] H4 H6 := k5.tr0 k6
        have kk6 : Kp [f] H2 H6 := kk4.trS k46
        have hall6 : ∀ v ∈ us, GdQ (Od ps) [f] H6 v 7000 20 := fun v hv => (hall v hv).k0 k6
        clear k5 h5 hall hu5 kk5 k6
        fail "nf"
        refine wss_one ?_
        refine ws_forE (by exact rfl) B.enumerate ?_ PassesOwn.never (by exact rfl)
        fail "goE"
        rename_i q7 H7 n7 k7 h7
        have hf7 : H7 f = some (.lst us) := by fail "look"
        have hu7 : H7 u = some (.tup [.int y.1, .int y.2]) := by fail "look"
        have hm7 : H7 m = some (.tup [.int z.1, .int z.2]) := by fail "look"
        have hp7 : H7 p = some (.lst xs) := by fail "look"
        have hall7 : ∀ v ∈ us, GdQ (Od ps) [f] H7 v 7000 20 := fun v hv => (hall6 v hv).k0 k7
        have dq7 : q7 ≠ f := by fail "ne"
        have k47 : Kp [f] H4 H7 := k46.tr0 k7
        have kk7 : Kp [f] H2 H7 := kk4.trS k47
        clear hf6 hu6 hp6 hm6 hall6 k46 kk6 n7 k7 kk4 hu4
        refine ⟨q7, _, rfl, sqL h7, fun j2 σ' H' => ∃ (us : List V) (x7 x8 x9 x10 x11 x12 : Option V), σ' = [some v0, some (.ref p), some (.ref f), some (.int (i : Int)), some (.ref u), some (.int (j : Int)), some (.ref m), x7, x8, x9, x10, x11, x12] ∧ Kp [f] H7 H' ∧ H' f = some (.lst us) ∧ us.length ≤ 30 ∧ ∀ v ∈ us, GdQ (Od ps) [f] H' v 7000 20, ⟨us, _, _, _, _, _, _, rfl, Kp.refl, hf7, hlu, hall7⟩, ?_, ?_, ?_⟩
        · rintro j2 σ' H8 hi8 ⟨us, x7, x8, x9, x10, x11, x12, rfl, k8, _⟩
          exact sqL (by fail "look")
        · clear hf7 hlu hall7
          rintro j2 v2 σ' H8 t9 H9 hx2 ⟨us, x7, x8, x9, x10, x11, x12, rfl, k8, h8, hlu, hall⟩ nt9 kt9 ht9
          have hjl : j2 < 20 := Nat.lt_of_lt_of_le (List.getElem?_eq_some_iff.mp hx2).1 c20
          have hjx := cutV_at hx2
          have hjp : j2 < ps.length := by rw [← hxl]; exact (List.getElem?_eq_some_iff.mp hjx).1
          obtain ⟨u2, y2, rfl, hy2, hu2⟩ := hP2.get' hp2 hjx
          have hby2 := hb y2 (List.mem_of_getElem? hy2)
          have hu28 : H7 u2 = some (.tup [.int y2.1, .int y2.2]) := kk7.gT hu2
          have hu9 : H9 u = some (.tup [.int y.1, .int y.2]) := by fail "look"
          have hm9 : H9 m = some (.tup [.int z.1, .int z.2]) := by fail "look"
          have hu29 : H9 u2 = some (.tup [.int y2.1, .int y2.2]) := by fail "look"
          have hf9 : H9 f = some (.lst us) := by fail "look"
          have hp9 : H9 p = some (.lst xs) := by fail "look"
          have k79 : Kp [f] H7 H9 := k8.tr0 kt9
          have hall9 : ∀ v ∈ us, GdQ (Od ps) [f] H9 v 7000 20 := fun v hv => (hall v hv).k0 kt9
          clear hx2 hu2 hu28 k8 h8 hall nt9 kt9
          fail "goE"
          clear ht9
          fail "sn"
          fail "sn"
          fail "nf"
          refine wss_cut (fun σ1 H10 => ∃ (m2 : Addr) (z2 : Int × Int) (hd : Int), σ1 = [some v0, some (.ref p), some (.ref f), some (.int (i : Int)), some (.ref u), some (.int (j : Int)), some (.ref m), some (.int (j2 : Int)), some (.ref u2), some (.int hd), some (.ref m2), x11, x12] ∧ Kp [] H9 H10 ∧ H10 m2 = some (.tup [.int z2.1, .int z2.2]) ∧ ((-1 ≤ z2.1 ∧ z2.1 ≤ 301) ∧ (-1 ≤ z2.2 ∧ z2.2 ≤ 301))) ?_ ?_
          · obtain rfl | rfl : j = 0 ∨ j = 1 := by omega
            · fail "goE"
              rename_i t1 J1 m1 l1 f1 t2 J2 m2 l2 f2 t3 J3 m3 l3 f3
              have g1 : J3 t1 = some (.tup [.int (j2 : Int), .int y2.2]) := by fail "look"
              exact ⟨t1, ((j2 : Int), y2.2), _, rfl, by fail "kp", g1, by dsimp only; omega⟩
            · fail "goE"
              rename_i t1 J1 m1 l1 f1 t2 J2 m2 l2 f2 t3 J3 m3 l3 f3
              have g1 : J3 t2 = some (.tup [.int y2.1, .int ((j2 : Int) + 1)]) := by fail "look"
              exact ⟨t2, (y2.1, (j2 : Int) + 1), _, rfl, by fail "kp", g1, by dsimp only; omega⟩
          rintro σ1 H10 ⟨m2, z2, hd, rfl, k10, hm10, hbz2⟩
          have hu10 : H10 u = some (.tup [.int y.1, .int y.2]) := by fail "look"
          have hmm10 : H10 m = some (.tup [.int z.1, .int z.2]) := by fail "look"
          have hu210 : H10 u2 = some (.tup [.int y2.1, .int y2.2]) := by fail "look"
          have hf10 : H10 f = some (.lst us) := by fail "look"
          have hp10 : H10 p = some (.lst xs) := by fail "look"
          have k710 : Kp [f] H7 H10 := k79.tr0 k10
          have kk10 : Kp [f] H2 H10 := kk7.trS k710
          have hP10 : PL H10 p ps := hP2.kp kk10 (by simp [dfp])
          have hall10 : ∀ v ∈ us, GdQ (Od ps) [f] H10 v 7000 20 := fun v hv => (hall9 v hv).k0 k10
          clear hu9 hm9 hu29 hf9 hp9 k79 hall9 k10
          fail "sn"
          fail "sn"
          fail "nf"
          refine wss_one ?_
          fail "goE"
          all_goals first
            | exact ⟨us, _, _, _, _, _, _, rfl, k710, hf10, hlu, hall10⟩
            | skip
          rename_i hij _ _ hl30
          fail "sn"
          rename_i b H11 n11 k11 hPb
          obtain ⟨tb, hb11, hbl, hbt⟩ := hPb.ex
          have hip : i < ps.length := (List.getElem?_eq_some_iff.mp hy).1
          have dbf : b ≠ f := by fail "ne"
          have nb7 : H10 b = none := n11
          have hf11 : H11 f = some (.lst us) := by fail "look"
          have hm11 : H11 m = some (.tup [.int z.1, .int z.2]) := by fail "look"
          have hm211 : H11 m2 = some (.tup [.int z2.1, .int z2.2]) := by fail "look"
          have nb : H7 b = none := k710.nn nb7
          clear hf10 hm10 hmm10 hu10 hu210 hp10 hP10 kk10
          fail "sn"
          rename_i H12 k12 h12
          obtain ⟨e12, hs12⟩ := PL.set' (i := i) (y := z) hbl hbt hm11 k12
          have hm212 : H12 m2 = some (.tup [.int z2.1, .int z2.2]) := k12.gT hm211
          rw [Int.toNat_natCast, ← List.map_set] at h12
          have hln : (tb.set i m).length = tb.length := List.length_set
          fail "sn"
          rename_i H13 k13 h13
          obtain ⟨e13, hs13⟩ := PL.set' (i := j2) (y := z2) e12 hs12 hm212 k13
          rw [Int.toNat_natCast, ← List.map_set] at h13
          have hP13 : PL H13 b ((ps.set i z).set j2 z2) := ⟨_, h13, e13, hs13⟩
          have k1113 : Kp [b] H11 H13 := k12.trS k13
          have hf13 : H13 f = some (.lst us) := k1113.g1 (fun e => dbf e.symm) hf11
          have k1013 : Kp [] H10 H13 := k11.trN k1113 n11
          have hbs : ∀ x ∈ (ps.set i z).set j2 z2, Szd x.1 ∧ Szd x.2 := fun x hx => by
            have hx' : x ∈ ps ∨ x = z ∨ x = z2 := by
              rcases List.mem_or_eq_of_mem_set hx with hx | hx
              · rcases List.mem_or_eq_of_mem_set hx with hx | hx
                · exact .inl hx
                · exact .inr (.inl hx)
              · exact .inr (.inr hx)
            rcases hx' with hx | rfl | rfl
            · have := hb x hx
              exact ⟨szd_of (by omega), szd_of (by omega)⟩
            · exact ⟨szd_of (by omega), szd_of (by omega)⟩
            · exact ⟨szd_of (by omega), szd_of (by omega)⟩
          have hneq : (ps.set i z).set j2 z2 ≠ ps := fun e => hne (by
            have := congrArg (fun l => l[i]?) e
            rw [List.getElem?_set_ne (by omega), List.getElem?_set_self hip, hy] at this
            exact Option.some.inj this)
          clear h12 hm212 hm211 hm11 hs12 e12 k12 k13 hs13 hbt hb11
          fail "sn"
          rename_i H14 k14 h14
          have g13 : GdQ (Od ps) [f] H13 (.ref b) 3001 2 := hP13.gq (by simp [dbf]) hbs (by rw [List.length_set, List.length_set]; omega) (od_ne hneq)
          refine ⟨us ++ [.ref b], _, _, _, _, _, _, rfl, (k710.tr0 k1013).trS k14, h14, by rw [List.length_append]; simp only [List.length_cons, List.length_nil]; omega, fun v hv => ?_⟩
          rcases List.mem_append.mp hv with hv | hv
          · exact ((hall10 v hv).k0 k1013).k1 k14 List.mem_cons_self
          · rw [List.mem_singleton.mp hv]
            exact (g13.mono (by decide) (by decide)).k1 k14 List.mem_cons_self
        · rintro σ' H8 ⟨us, x7, x8, x9, x10, x11, x12, rfl, k8, h8, hlu, hall⟩
          exact ⟨us, _, _, _, _, _, _, _, _, rfl, k47.trS k8, h8, hlu, hall⟩
      · rintro σ' H5 ⟨us, x5, x6, x7, x8, x9, x10, x11, x12, rfl, k5, h5, hlu, hall⟩
        have k25 : Kp [f] H2 H5 := by fail "kp"
        exact ⟨us, _, _, _, _, _, _, _, _, _, _, rfl, k25, h5, hlu, hall⟩
    · rintro σ' H3 ⟨us, x3, x4, x5, x6, x7, x8, x9, x10, x11, x12, rfl, k3, h3, hlu, hall⟩
      fail "sn"
      refine q f us _ (kk2.trN k3 nf2) nf2 h3 hlu fun v hv => ?_
      obtain ⟨d, g1, g2⟩ := hall v hv
      exact ⟨d, g1.sub (fun y (z : y ∈ []) => absurd z List.not_mem_nil), g2⟩
end

section
variable {P : Program} {w : World} {K : PySem.W.Frag} {mg : Str → Option Value} {base : Heap} {f : Addr} {fd : FuncData}
abbrev slaw : Stmt := topS 14
theorem sclaw : FnScope ["script", "draws", "many", "row", "paper", "total", "others", "thing", "kept", "at", "none", "deep"] ["script"] (defScope slaw) := ⟨rfl, rfl, rfl, by decide +kernel, rfl, by decide +kernel, by decide +kernel⟩
local macro_rules | `(tactic| fail "name") => `(tactic| first
  | ((with_reducible apply we_var_at 0 "script"); exact rfl; fail "vis"; exact rfl; decide; decide)
  | ((with_reducible apply we_var_at 1 "draws"); exact rfl; fail "vis"; exact rfl; decide; decide)
  | ((with_reducible apply we_var_at 2 "many"); exact rfl; fail "vis"; exact rfl; decide; decide)
  | ((with_reducible apply we_var_at 3 "row"); exact rfl; fail "vis"; exact rfl; decide; decide)
  | ((with_reducible apply we_var_at 4 "paper"); exact rfl; fail "vis"; exact rfl; decide; decide)
  | ((with_reducible apply we_var_at 5 "total"); exact rfl; fail "vis"; exact rfl; decide; decide)
  | ((with_reducible apply we_var_at 6 "others"); exact rfl; fail "vis"; exact rfl; decide; decide)
  | ((with_reducible apply we_var_at 7 "thing"); exact rfl; fail "vis"; exact rfl; decide; decide)
  | ((with_reducible apply we_var_at 8 "kept"); exact rfl; fail "vis"; exact rfl; decide; decide)
  | ((with_reducible apply we_var_at 9 "at"); exact rfl; fail "vis"; exact rfl; decide; decide)
  | ((with_reducible apply we_var_at 10 "none"); exact rfl; fail "vis"; exact rfl; decide; decide)
  | ((with_reducible apply we_var_at 11 "deep"); exact rfl; fail "vis"; exact rfl; decide; decide))
local macro_rules | `(tactic| fail "nf") => `(tactic| refine wss_nf (σ' := [_, _, _, _, _, _, _, _, _, _, _, _]) rfl ?_)
local macro_rules | `(tactic| fail "asg") => `(tactic| first
  | ((with_reducible refine ws_name_at 0 "script" ?_ ?_ ?_ ?_ ?_ ?_); assumption; exact rfl; fail "loc"; exact rfl; fail "fn")
  | ((with_reducible apply ws_aug_at 0 "script"); assumption; exact rfl; fail "loc"; fail "fn"; exact rfl)
  | ((with_reducible refine ws_name_at 1 "draws" ?_ ?_ ?_ ?_ ?_ ?_); assumption; exact rfl; fail "loc"; exact rfl; fail "fn")
  | ((with_reducible apply ws_aug_at 1 "draws"); assumption; exact rfl; fail "loc"; fail "fn"; exact rfl)
  | ((with_reducible refine ws_name_at 2 "many" ?_ ?_ ?_ ?_ ?_ ?_); assumption; exact rfl; fail "loc"; exact rfl; fail "fn")
  | ((with_reducible apply ws_aug_at 2 "many"); assumption; exact rfl; fail "loc"; fail "fn"; exact rfl)
  | ((with_reducible refine ws_name_at 3 "row" ?_ ?_ ?_ ?_ ?_ ?_); assumption; exact rfl; fail "loc"; exact rfl; fail "fn")
  | ((with_reducible apply ws_aug_at 3 "row"); assumption; exact rfl; fail "loc"; fail "fn"; exact rfl)
  | ((with_reducible refine ws_name_at 4 "paper" ?_ ?_ ?_ ?_ ?_ ?_); assumption; exact rfl; fail "loc"; exact rfl; fail "fn")
  | ((with_reducible apply ws_aug_at 4 "paper"); assumption; exact rfl; fail "loc"; fail "fn"; exact rfl)
  | ((with_reducible refine ws_name_at 5 "total" ?_ ?_ ?_ ?_ ?_ ?_); assumption; exact rfl; fail "loc"; exact rfl; fail "fn")
  | ((with_reducible apply ws_aug_at 5 "total"); assumption; exact rfl; fail "loc"; fail "fn"; exact rfl)
  | ((with_reducible refine ws_name_at 6 "others" ?_ ?_ ?_ ?_ ?_ ?_); assumption; exact rfl; fail "loc"; exact rfl; fail "fn")
  | ((with_reducible apply ws_aug_at 6 "others"); assumption; exact rfl; fail "loc"; fail "fn"; exact rfl)
  | ((with_reducible refine ws_name_at 7 "thing" ?_ ?_ ?_ ?_ ?_ ?_); assumption; exact rfl; fail "loc"; exact rfl; fail "fn")
  | ((with_reducible apply ws_aug_at 7 "thing"); assumption; exact rfl; fail "loc"; fail "fn"; exact rfl)
  | ((with_reducible refine ws_name_at 8 "kept" ?_ ?_ ?_ ?_ ?_ ?_); assumption; exact rfl; fail "loc"; exact rfl; fail "fn")
  | ((with_reducible apply ws_aug_at 8 "kept"); assumption; exact rfl; fail "loc"; fail "fn"; exact rfl)
  | ((with_reducible refine ws_name_at 9 "at" ?_ ?_ ?_ ?_ ?_ ?_); assumption; exact rfl; fail "loc"; exact rfl; fail "fn")
  | ((with_reducible apply ws_aug_at 9 "at"); assumption; exact rfl; fail "loc"; fail "fn"; exact rfl)
  | ((with_reducible refine ws_name_at 10 "none" ?_ ?_ ?_ ?_ ?_ ?_); assumption; exact rfl; fail "loc"; exact rfl; fail "fn")
  | ((with_reducible apply ws_aug_at 10 "none"); assumption; exact rfl; fail "loc"; fail "fn"; exact rfl)
  | ((with_reducible refine ws_name_at 11 "deep" ?_ ?_ ?_ ?_ ?_ ?_); assumption; exact rfl; fail "loc"; exact rfl; fail "fn")
  | ((with_reducible apply ws_aug_at 11 "deep"); assumption; exact rfl; fail "loc"; fail "fn"; exact rfl))
local macro_rules | `(tactic| fail "tgt") => `(tactic| first
  | ((with_reducible refine wg_name_at 0 "script" ?_ ?_ ?_ ?_ ?_); assumption; exact rfl; fail "loc"; fail "fn")
  | ((with_reducible refine wg_name_at 1 "draws" ?_ ?_ ?_ ?_ ?_); assumption; exact rfl; fail "loc"; fail "fn")
  | ((with_reducible refine wg_name_at 2 "many" ?_ ?_ ?_ ?_ ?_); assumption; exact rfl; fail "loc"; fail "fn")
  | ((with_reducible refine wg_name_at 3 "row" ?_ ?_ ?_ ?_ ?_); assumption; exact rfl; fail "loc"; fail "fn")
  | ((with_reducible refine wg_name_at 4 "paper" ?_ ?_ ?_ ?_ ?_); assumption; exact rfl; fail "loc"; fail "fn")
  | ((with_reducible refine wg_name_at 5 "total" ?_ ?_ ?_ ?_ ?_); assumption; exact rfl; fail "loc"; fail "fn")
  | ((with_reducible refine wg_name_at 6 "others" ?_ ?_ ?_ ?_ ?_); assumption; exact rfl; fail "loc"; fail "fn")
  | ((with_reducible refine wg_name_at 7 "thing" ?_ ?_ ?_ ?_ ?_); assumption; exact rfl; fail "loc"; fail "fn")
  | ((with_reducible refine wg_name_at 8 "kept" ?_ ?_ ?_ ?_ ?_); assumption; exact rfl; fail "loc"; fail "fn")
  | ((with_reducible refine wg_name_at 9 "at" ?_ ?_ ?_ ?_ ?_); assumption; exact rfl; fail "loc"; fail "fn")
  | ((with_reducible refine wg_name_at 10 "none" ?_ ?_ ?_ ?_ ?_); assumption; exact rfl; fail "loc"; fail "fn")
  | ((with_reducible refine wg_name_at 11 "deep" ?_ ?_ ?_ ?_ ?_); assumption; exact rfl; fail "loc"; fail "fn"))
local macro_rules | `(tactic| fail "sp") => `(tactic| ((with_reducible apply c_draws); (fail "sqI"); (fail "num")))
local macro_rules | `(tactic| fail "sp") => `(tactic| ((with_reducible apply c_take); (fail "look"); (omega); (omega)))
local macro_rules | `(tactic| fail "sp") => `(tactic| ((with_reducible apply c_row); (fail "look"); (omega); (omega)))
local macro_rules | `(tactic| fail "sp") => `(tactic| ((with_reducible apply c_lreach); (fail "sqI"); (fail "num")))
local macro_rules | `(tactic| fail "sp") => `(tactic| ((with_reducible apply c_lleasts); (fail "sqI"); (fail "num")))
local macro_rules | `(tactic| fail "sp") => `(tactic| ((with_reducible apply c_shows); (fail "sqI"); (fail "num"); (assumption)))


local macro_rules | `(tactic| fail "sp") => `(tactic| ((with_reducible apply c_deepL); (omega)))
def splaw (K : PySem.W.Frag) : Sp := fun vs H Q _ => ∃ (a : Addr) (ns : List Int), vs = [.ref a] ∧ Scr K H a ns ∧ ns.length ≤ 63 ∧ ∀ H', Q (.bl true) H'
def tp2 (p : Int × Int) : PyData := .tuple [.int p.1, .int p.2]
theorem dR_map : ∀ {ds : List PyData} {ps : List (Int × Int)}, ds.map dR = ps.map some ↔ ds = ps.map tp2
  | [], [] => ⟨fun _ => rfl, fun _ => rfl⟩
  | [], _ :: _ => ⟨fun z => (nomatch z), fun z => nomatch z⟩
  | _ :: _, [] => ⟨fun z => (nomatch z), fun z => nomatch z⟩
  | d :: ds, p :: ps => by
    rw [List.map_cons, List.map_cons, List.map_cons, List.cons.injEq, List.cons.injEq, dR_map (ds := ds) (ps := ps), dR_some]
    rfl
/-- whether a thing is the paper, by its data -/
theorem Tg.pv {F : List Addr} {H : Hp} {ns : List Int} {ps : List (Int × Int)} (hR : Rp (gd ns) ns.length ps) {v : V} {d : PyData} (h : Tg F H v d) : Pv H ns v (decide (d.shown = (dP ps).shown)) := by
  have hi := shown_inj (d := d) (su_p ps)
  have dP_is : dP ps = .list (ps.map tp2) := rfl
  rw [dP_is] at hi ⊢
  have no : d ≠ .list (ps.map tp2) → decide (d.shown = (PyData.list (ps.map tp2)).shown) = false := fun z => decide_eq_false fun w => z (hi.mp w)
  cases h with
  | lst h n r =>
    rename_i a vs ds
    refine .inr ⟨a, vs, _, rfl, h, r.ria, ?_⟩
    rw [decide_eq_true_eq, hi]
    constructor
    · intro e
      injection e with e
      exact ⟨ps, dR_map.mpr e, hR⟩
    · rintro ⟨ps', e1, e2⟩
      rw [e2.un hR] at e1
      rw [dR_map.mp e1]
  | non => exact .inl ⟨_, .non, rfl, no (fun z => nomatch z)⟩
  | bl b => exact .inl ⟨_, .bl b, rfl, no (fun z => nomatch z)⟩
  | int i => exact .inl ⟨_, .int i, rfl, no (fun z => nomatch z)⟩
  | str s => exact .inl ⟨_, .str s, rfl, no (fun z => nomatch z)⟩
  | tup h r => exact .inl ⟨_, .tup h, rfl, no (fun z => nomatch z)⟩
  | dict h n l r => exact .inl ⟨_, .dict h List.not_mem_nil, rfl, no (fun z => nomatch z)⟩
theorem ria_none {H : Hp} : ∀ {vs : List V} {v : V}, (∀ w ∈ vs, ∃ o, RI H w o) → v ∈ vs → RI H v none → ∃ os, RIA H vs os ∧ none ∈ os
  | [], _, _, h, _ => nomatch h
  | w :: vs, v, ha, hm, hn => by
    have all : ∀ {vs : List V}, (∀ w ∈ vs, ∃ o, RI H w o) → ∃ os, RIA H vs os := fun {vs} => by
      induction vs with
      | nil => exact fun _ => ⟨[], .nil⟩
      | cons x xs ih =>
        intro h
        obtain ⟨os, h1⟩ := ih fun w hw => h w (List.mem_cons_of_mem _ hw)
        obtain ⟨o, h2⟩ := h x List.mem_cons_self
        exact ⟨o :: os, .cons h2 h1⟩
    by_cases e : v = w
    · subst e
      obtain ⟨os, h1⟩ := all fun x hx => ha x (List.mem_cons_of_mem _ hx)
      exact ⟨none :: os, .cons hn h1, List.mem_cons_self⟩
    · obtain ⟨os, h1, h2⟩ := ria_none (fun x hx => ha x (List.mem_cons_of_mem _ hx)) ((List.mem_cons.mp hm).resolve_left e) hn
      obtain ⟨o, h3⟩ := ha w List.mem_cons_self
      exact ⟨o :: os, .cons h3 h1, List.mem_cons_of_mem _ h2⟩
theorem pv_no {H : Hp} {ns : List Int} {q : Addr} {vs : List V} {v : V} (hq : H q = some (.lst vs)) (ha : ∀ w ∈ vs, ∃ o, RI H w o) (hm : v ∈ vs) (hn : RI H v none) : Pv H ns (.ref q) false := by
  obtain ⟨os, h1, h2⟩ := ria_none ha hm hn
  refine .inr ⟨q, vs, os, rfl, hq, h1, fun z => (nomatch z), fun ⟨ps, e, _⟩ => ?_⟩
  rw [e] at h2
  obtain ⟨x, _, hx⟩ := List.mem_map.mp h2
  cases hx
theorem cutV_mem {xs : List V} {lo hi : Option Int} {w : V} (h : w ∈ cutV xs lo hi) : w ∈ xs := by
  unfold cutV at h
  exact List.mem_of_mem_drop (List.mem_of_mem_take h)
theorem pv_ty {H : Hp} {ns : List Int} {v : V} {t : String} (h : Ty0 [] H v t) (e : isL t = false) : Pv H ns v false := .inl ⟨t, h, e, rfl⟩
theorem ok_law (F : Fun K "law" "law" slaw f fd) (B : Blt mg) (SM : SmK K)    (D_draws : Df P w K mg base 1 "_law_draws" (spdraws K)) (D_take : Df P w K mg base 1 "_law_take" (sptake K)) (D_row : Df P w K mg base 2 "_law_row" (sprow K)) (D_lreach : Df P w K mg base 1 "_law_reaches" (splreach K)) (D_lleasts : Df P w K mg base 1 "_law_leasts" (splleasts K)) (D_shows : Df P w K mg base 3 "shows" (spshows K)) (D_things : Df P w K mg base 1 "_law_things" (spthings K)) (D_asmany : Df P w K mg base 1 "_law_as_many" (spasmany K)) (D_deepL : Df P w K mg base 1 "_law_deep" (spdeepL K)) : FnG P w K mg base CX0 6 f fd ["script"] (splaw K) := by
  have nd := sclaw.nd
  refine okG F sclaw (fun vs H Q E h => ?_) (fun cdv A outer s H vs Q E hr hgd h => ?_)
  · obtain ⟨a, ns, rfl, _⟩ := h
    rfl
  · obtain ⟨a, ns, rfl, hS, hl, q⟩ := h
    have hm := mapI_len ns
    have hS1 := hS.1
    fail "st"
    rename_i pd ds H1 npd k1 hpd hdl
    fail "st"
    fail "nf"
    refine wss_cut (fun σ1 H2 => ∃ (x1 x2 x3 x4 x5 x6 x7 x8 x9 : Option V) (n : Int), σ1 = [some (.ref a), some (.ref pd), some (.int n), x1, x2, x3, x4, x5, x6, x7, x8, x9]) ?_ ?_
    · refine ws_while (fun m σ1 H2 => ∃ (n : Int) (ds : List Int) (x1 x2 x3 x4 x5 x6 x7 x8 x9 : Option V), m = (10 - n).toNat ∧ σ1 = [some (.ref a), some (.ref pd), some (.int n), x1, x2, x3, x4, x5, x6, x7, x8, x9] ∧ Kp [] H H2 ∧ H2 pd = some (.lst (ds.map V.int)) ∧ ds.length ≤ 240 ∧ (0 ≤ n ∧ n ≤ 4)) ⟨_, 0, ds, _, _, _, _, _, _, _, _, _, rfl, rfl, k1, hpd, hdl, by omega⟩ ?_ PassesOwn.never
      · clear k1 hpd hdl
        rintro m σ1 H2 ⟨n, ds, x1, x2, x3, x4, x5, x6, x7, x8, x9, rfl, rfl, k2, hp2, hl2, hn⟩
        refine wt_mono (Q := fun k H3 => Kp [] H2 H3 ∧ (k = true → n < 4)) ?_ fun k H3 hk => ?_
        · fail "goE"
          all_goals exact ⟨by fail "kp", fun z => by first | omega | exact of_decide_eq_true z | exact nomatch z⟩
        obtain ⟨k3, hk⟩ := hk
        cases k with
        | false => exact iteF ⟨_, _, _, _, _, _, _, _, _, _, rfl⟩
        | true =>
        have hn3 := hk rfl
        refine iteT ?_
        have hp3 : H3 pd = some (.lst (ds.map V.int)) := by fail "look"
        have kk3 : Kp [] H H3 := by fail "kp"
        clear hk k2 hp2 k3
        fail "sn"
        rename_i pr rs ds4 H4 k4 npr ha4 hl4 hpr hrl hRw
        fail "sn"
        rename_i H5 pp ps k5 npp hP hR
        have dpr : pr ≠ pd := by fail "ne"
        have dpp : pp ≠ pd := by fail "ne"
        fail "sn"
        rename_i H6 k6
        have hpr6 : H6 pr = some (.lst (rs.map V.int)) := by fail "look"
        have hpd6 : H6 pd = some (.lst (ds4.map V.int)) := by fail "look"
        have hP6 := hP.k0 k6
        have kk6 : Kp [] H H6 := by fail "kp"
        have hbd := hR.bd
        have hrl' := hR.len
        have hmr := mapI_len rs
        clear k4 npr ha4 hpr k5 npp hP k6 kk3 hp3
        have hbz : ∀ x ∈ ps, Szd x.1 ∧ Szd x.2 := fun x hx => by
          have := hbd x hx
          exact ⟨szd_of (by omega), szd_of (by omega)⟩
        have pv6 : Pv H6 rs (.ref pp) true := by
          have := (hP6.tg (F := []) List.not_mem_nil).pv hR
          rw [decide_eq_true rfl] at this
          exact this
        have eN : pvA rs false = V.non := rfl
        have eA : pvA rs true = V.int (LS id (gd rs) rs.length) := rfl
        fail "nf"
        refine wss_cons ?_
        fail "goE"
        rename_i H7 k7
        have hpr7 : H7 pr = some (.lst (rs.map V.int)) := by fail "look"
        have hpd7 : H7 pd = some (.lst (ds4.map V.int)) := by fail "look"
        have hP7 := hP6.k0 k7
        have pv7 := pv6.kp k7
        have kk7 : Kp [] H H7 := kk6.tr0 k7
        clear hpr6 hpd6 hP6 kk6 pv6 k7
        have c1 := cutI_len rs (some 1) none
        have c2 := cutI_len rs none (some 1)
        have hrv : rs.reverse.length = rs.length := List.length_reverse
        fail "sn"
        rename_i j1 J1 m1 l1 f1 J2 j2 us2 l2 m2 hA2 hB2 j3 J3 m3 l3 f3 j4 J4 m4 l4 f4 j5 J5 m5 l5 f5 J6 j6 us6 l6 m6 hA6 hB6 j7 J7 ms7 m7 l7 f7 e7 w7 z7 J8 j8 us8 l8 m8 hA8 hB8 j9 J9 m9 l9 f9
        have b2 := hB2.bd
        have b6 := hB6.bd
        have b8 := hB8.bd
        have n2 := hB2.len
        have n6 := hB6.len
        have n8 := hB8.len
        rw [List.length_append] at n6 b6
        have y2 : PL J9 j2 us2 := by fail "pl"
        have y6 : PL J9 j6 us6 := by fail "pl"
        have y8 : PL J9 j8 us8 := by fail "pl"
        have hpr9 : J9 pr = some (.lst (rs.map V.int)) := by fail "look"
        have hpd9 : J9 pd = some (.lst (ds4.map V.int)) := by fail "look"
        have hP9 : PL J9 pp ps := by fail "pl"
        have k79 : Kp [] H7 J9 := by fail "kp"
        have pv9 := pv7.kp k79
        have kk9 : Kp [] H J9 := kk7.tr0 k79
        have zz : ∀ {us : List (Int × Int)} {k : Nat}, k ≤ 1000 → (∀ x ∈ us, (0 ≤ x.1 ∧ x.1 ≤ (k : Int)) ∧ (0 ≤ x.2 ∧ x.2 ≤ (k : Int))) → ∀ x ∈ us, Szd x.1 ∧ Szd x.2 := fun {us k} hk h x hx => by
          have := h x hx
          exact ⟨szd_of (by omega), szd_of (by omega)⟩
        have all9 : ∀ v ∈ [V.ref j2, V.ref j6, V.ref j8], Gd [] J9 v 7000 20 := fun v hv => by
          simp only [List.mem_cons, List.not_mem_nil, or_false] at hv
          rcases hv with rfl | rfl | rfl
          · exact ((y2.gq (P := fun _ => True) List.not_mem_nil (zz (by omega) b2) (by omega) trivial).mono (by decide) (by decide)).gd
          · exact ((y6.gq (P := fun _ => True) List.not_mem_nil (zz (by omega) b6) (by omega) trivial).mono (by decide) (by decide)).gd
          · exact ((y8.gq (P := fun _ => True) List.not_mem_nil (zz (by omega) b8) (by omega) trivial).mono (by decide) (by decide)).gd
        obtain ⟨qs, hqe, hqs⟩ := pick all9
        have hql : qs.length = 3 := by rw [← List.length_map (f := fun p : V × PyData => p.1), hqe]; rfl
        rw [← hqe] at f9
        clear m1 l1 f1 l2 m2 hA2 hB2 m3 l3 f3 m4 l4 f4 m5 l5 f5 l6 m6 hA6 hB6 m7 l7 f7 e7 w7 z7 l8 m8 hA8 hB8 m9 l9 b2 b6 b8 n2 n6 n8 y2 y6 y8 hpr7 hpd7 hP7 pv7 kk7 k79 all9 hqe
        fail "nf"
        refine wss_cut (fun σ1 H8 => ∃ (po : Addr) (us : List V), σ1 = [some (.ref a), some (.ref pd), some (.int n), some (.ref pr), some (.ref pp), some (.int (LS id (gd rs) rs.length)), some (.ref po), x5, x6, x7, x8, x9] ∧ Kp [] J9 H8 ∧ H8 po = some (.lst us) ∧ us.length ≤ 3 ∧ ∀ v ∈ us, GdQ (Od ps) [] H8 v 7000 20) ?_ ?_
        · refine ws_setLc (i := 6) (own := [("thing", 7)]) rfl nd rfl rfl (sw_true rfl rfl rfl (by decide +kernel)) (blkOk_by (N := ["script", "draws", "many", "row", "paper", "total", "others", "thing", "kept", "at", "none", "deep"]) (sc := defScope slaw) (by decide +kernel)) ?_
          refine lc_L ?_
          fail "goE"
          refine ⟨j9, _, rfl, sqL f9, lcd_selP (ps := qs) (fun p => decide (Od ps p.2)) f9 (by omega) (fun x hx H5 k5 => ?_) ?_⟩
          · obtain ⟨t1, t2, t3, t4⟩ := hqs x hx
            have t1' := t1.k0 k5
            have hP5 : PL H5 pp ps := by fail "pl"
            fail "goE"
            refine k_reprT SM (by assumption) (by assumption) t1' t2 (by omega) (by omega) ?_
            fail "goE"
            refine ⟨by unfold Od; by_cases z : x.2.shown = (dP ps).shown <;> simp [z], Kp.refl, ?_⟩
            fail "goE"
            exact ⟨rfl, Kp.refl⟩
          · intro Dl H5 nD k5 hD
            refine ⟨Dl, _, rfl, k5, hD, ?_, ?_⟩
            · rw [List.length_map]
              have := List.length_filter_le (fun p : V × PyData => decide (Od ps p.2)) qs
              omega
            · exact picked (P := Od ps) fun p hp => by
                obtain ⟨t1, t2⟩ := hqs p hp
                exact ⟨t1.k0 k5, t2⟩
        clear f9 hqs hql qs
        rintro σ1 H8 ⟨po, us8, rfl, k8, ho8, hl8, all8⟩
        have hpr8 : H8 pr = some (.lst (rs.map V.int)) := by fail "look"
        have hpd8 : H8 pd = some (.lst (ds4.map V.int)) := by fail "look"
        have hP8 := hP9.k0 k8
        have pv8 := pv9.kp k8
        have kk8 : Kp [] H H8 := kk9.tr0 k8
        clear hpr9 hpd9 hP9 pv9 kk9 k8
        fail "nf"
        refine wss_cut (fun σ1 H16 => ∃ (y1 y2 : Option V), σ1 = [some (.ref a), some (.ref pd), some (.int n), some (.ref pr), some (.ref pp), some (.int (LS id (gd rs) rs.length)), some (.ref po), y1, y2, x7, x8, x9] ∧ Kp [] H8 H16) ?_ ?_
        · refine ws_forL ?_ PassesOwn.never (by exact rfl)
          fail "goE"
          refine c_things hpr8 (by omega) hRw hP8 hR ?_
          intro p9 us9 H9 k9 n9 h9 hl9 all9
          have hP9 := hP8.k0 k9
          fail "goE"
          refine c_asmany hP9 (by omega) (fun x hx => by have := hbd x hx; omega) ?_
          intro p10 us10 H10 k10 n10 h10 hl10 all10
          have h9' : H10 p9 = some (.lst us9) := k10.g0 h9
          have ho10 : H10 po = some (.lst us8) := k10.g0 (k9.g0 ho8)
          have k810 : Kp [] H8 H10 := k9.tr0 k10
          have all9' : ∀ v ∈ us9, GdQ (Od ps) [] H10 v 7000 20 := fun v hv => (all9 v hv).k0 k10
          have all8' : ∀ v ∈ us8, GdQ (Od ps) [] H10 v 7000 20 := fun v hv => (all8 v hv).k0 k810
          clear h9 all9 all8 ho8 hP9 k9 n9 n10 k10
          fail "goE"
          rename_i p11 H11 n11 k11 h11 p12 H12 n12 k12 h12
          have k1012 : Kp [] H10 H12 := k11.tr0 k12
          have all12 : ∀ v ∈ us9 ++ us10 ++ us8, GdQ (Od ps) [] H12 v 7000 20 := fun v hv => by
            rcases List.mem_append.mp hv with hv | hv
            · rcases List.mem_append.mp hv with hv | hv
              · exact (all9' v hv).k0 k1012
              · exact (all10 v hv).k0 k1012
            · exact (all8' v hv).k0 k1012
          have hpr12 : H12 pr = some (.lst (rs.map V.int)) := by fail "look"
          have k812 : Kp [] H8 H12 := k810.tr0 k1012
          clear h9' ho10 h10 all9' all8' all10 n11 k11 h11 n12 k12 k810 k1012
          refine ⟨p12, _, rfl, sqL h12, fun i σ1 H7 => ∃ (y1 y2 : Option V), σ1 = [some (.ref a), some (.ref pd), some (.int n), some (.ref pr), some (.ref pp), some (.int (LS id (gd rs) rs.length)), some (.ref po), y1, y2, x7, x8, x9] ∧ Kp [] H12 H7, ⟨_, _, rfl, Kp.refl⟩, ?_, ?_, ?_⟩
          · rintro i σ1 H7 hi ⟨y1, y2, rfl, k7⟩
            exact sqL (k7.g0 h12)
          · rintro i v σ1 H7 hv ⟨y1, y2, rfl, k7⟩
            obtain ⟨d, g1, g2, g3, g4, g5⟩ := (all12 v (List.mem_of_getElem? hv)).k0 k7
            have pvD := g1.pv hR
            rw [show decide (d.shown = (dP ps).shown) = false from decide_eq_false g5] at pvD
            have hpr7 : H7 pr = some (.lst (rs.map V.int)) := k7.g0 hpr12
            have tr : Tg [] H7 (.ref pr) (.list (rs.map PyData.int)) := .lst hpr7 List.not_mem_nil (.ints rs)
            have okr : okD (.list (rs.map PyData.int)) := okA_ints fun x hx => szd_of (by have := hRw x hx; omega)
            have wtr : wt (.list (rs.map PyData.int)) ≤ 301 := by
              show wtA (rs.map PyData.int) + 1 ≤ 301
              rw [wtA_ints]
              omega
            have ok2 : okD (.list [.list (rs.map PyData.int), d]) := ⟨okr, g2, trivial⟩
            have wt2 : wt (.list [.list (rs.map PyData.int), d]) ≤ 8000 := by
              show wt (.list (rs.map PyData.int)) + (wt d + 0) + 1 ≤ 8000
              omega
            have dp2 : (PyData.list [.list (rs.map PyData.int), d]).depth ≤ 100 := by
              simp only [PyData.depth, PyData.depthAll, depth_ints]
              omega
            fail "goE"
            fail "sn"
            rename_i p13 H13 n13 k13 h13
            refine k_reprT SM (by assumption) (by assumption) (.lst h13 List.not_mem_nil (.cons (tr.k0 k13) (.one (g1.k0 k13)))) ok2 wt2 dp2 ?_
            have pv13 := pvD.kp k13
            have hpr13 : H13 pr = some (.lst (rs.map V.int)) := k13.g0 hpr7
            fail "goE"
            fail "nf"
            refine wss_one ?_
            fail "goE"
            rename_i H14 k14 p15 H15 n15 k15 h15
            have kq : Kp [] H7 H15 := (k13.tr0 k14).tr0 k15
            refine k_reprT SM (by assumption) (by assumption) (.lst h15 List.not_mem_nil (.cons (tr.k0 kq) (.one (g1.k0 kq)))) ok2 wt2 dp2 ?_
            have k12q : Kp [] H12 H15 := k7.tr0 kq
            fail "goE"
            exact ⟨_, _, rfl, k12q⟩
          · rintro σ1 H7 ⟨y1, y2, rfl, k7⟩
            exact ⟨_, _, rfl, k812.tr0 k7⟩
        clear all8 ho8
        rintro σ1 H9 ⟨y1, y2, rfl, k9⟩
        have hpr9 : H9 pr = some (.lst (rs.map V.int)) := by fail "look"
        have hpd9 : H9 pd = some (.lst (ds4.map V.int)) := by fail "look"
        have hP9 := hP8.k0 k9
        have pv9 := pv8.kp k9
        have kk9 : Kp [] H H9 := kk8.tr0 k9
        clear hpr8 hpd8 hP8 pv8 kk8 k9
        fail "sn"
        rename_i v7 ds7 H10 k10 hpd10 hl10 hv7
        have hj : 0 ≤ v7 % (((List.map V.int rs).length : Int) + 1) ∧ v7 % (((List.map V.int rs).length : Int) + 1) < ((List.map V.int rs).length : Int) + 1 := ⟨Int.emod_nonneg _ (by omega), Int.emod_lt_of_pos _ (by omega)⟩
        generalize v7 % (((List.map V.int rs).length : Int) + 1) = j at hj ⊢
        fail "sn"
        rename_i ve H11 n11 k11 h11
        have hpr11 : H11 pr = some (.lst (rs.map V.int)) := by fail "look"
        have hpd11 : H11 pd = some (.lst (ds7.map V.int)) := by fail "look"
        have hP11 : PL H11 pp ps := by fail "pl"
        have pv11 : Pv H11 rs (.ref pp) true := by
          have := (hP11.tg (F := []) List.not_mem_nil).pv hR
          rw [decide_eq_true rfl] at this
          exact this
        have kk11 : Kp [] H H11 := by fail "kp"
        clear hpr9 hpd9 hP9 pv9 kk9 k10 hpd10 n11 k11
        fail "nf"
        refine wss_cut (fun σ1 H16 => ∃ (y3 : Option V), σ1 = [some (.ref a), some (.ref pd), some (.int n), some (.ref pr), some (.ref pp), some (.int (LS id (gd rs) rs.length)), some (.ref po), y1, y2, some (.int j), some (.ref ve), y3] ∧ Kp [] H11 H16) ?_ ?_
        · refine ws_forL ?_ PassesOwn.never (by exact rfl)
          fail "goE"
          rename_i p1 l1 xs1 J1 n1 nl1 k1 h1 hl1 p2 l2 xs2 J2 n2 nl2 k2 h2 hl2_ p3 J3 n3 k3 h3 p4 l4 xs4 J4 n4 nl4 k4 h4 hl4_ p5 J5 n5 k5 h5 p6 J6 n6 k6 h6 p7 J7 n7 k7 h7 p8 J8 n8 k8 h8
          have g1 : J8 p1 = some (.lst [.ref l1]) := by fail "look"
          have gl1 : J8 l1 = some (.lst xs1) := by fail "look"
          have g2 : J8 p2 = some (.lst [.ref l2]) := by fail "look"
          have g3 : J8 p3 = some (.tup [.int 0, .ref p2]) := by fail "look"
          have g4 : J8 p4 = some (.lst [.ref l4]) := by fail "look"
          have g5 : J8 p5 = some (.tup [.ref p4, .int 1]) := by fail "look"
          have gv : J8 ve = some (VO ve) := by fail "look"
          have g6 : J8 p6 = some (.tup [.int j, .ref ve]) := by fail "look"
          have g7 : J8 p7 = some (.tup [.ref ve, .int (j + 1)]) := by fail "look"
          have hpr8 : J8 pr = some (.lst (rs.map V.int)) := by fail "look"
          have hP8 : PL J8 pp ps := by fail "pl"
          have k118 : Kp [] H11 J8 := by fail "kp"
          clear n1 nl1 k1 h1 hl1 n2 nl2 k2 h2 hl2_ n3 k3 h3 n4 nl4 k4 h4 hl4_ n5 k5 h5 n6 k6 h6 n7 k7 h7 n8 k8
          have tve : Ty0 [] J8 (.ref ve) "ValueError" := .exc gv List.not_mem_nil
          have all8 : ∀ v ∈ [V.ref p1, V.ref p3, V.ref p5, V.ref ve, V.ref p6, V.ref p7], RI J8 v none ∧ Pv J8 rs v false := by
            intro v hv
            simp only [List.mem_cons, List.not_mem_nil, or_false] at hv
            rcases hv with rfl | rfl | rfl | rfl | rfl | rfl
            · have r1 : RI J8 (.ref l1) none := .ty (.lst gl1 List.not_mem_nil) rfl
              exact ⟨.ty (.lst g1 List.not_mem_nil) rfl, pv_no g1 (fun w hw => by rw [List.mem_singleton.mp hw]; exact ⟨_, r1⟩) List.mem_cons_self r1⟩
            · exact ⟨.odd g3 (.int 0) (.lst g2 List.not_mem_nil) (by simp [whV]), pv_ty (.tup g3) rfl⟩
            · exact ⟨.odd g5 (.lst g4 List.not_mem_nil) (.int 1) (by simp [whV]), pv_ty (.tup g5) rfl⟩
            · exact ⟨.ty tve rfl, pv_ty tve rfl⟩
            · exact ⟨.odd g6 (.int _) tve (by simp [whV]), pv_ty (.tup g6) rfl⟩
            · exact ⟨.odd g7 tve (.int _) (by simp [whV]), pv_ty (.tup g7) rfl⟩
          clear g1 gl1 g2 g3 g4 g5 gv g6 g7 tve
          obtain ⟨tp, hpx, htl, _⟩ := hP8.ex
          generalize hxs : tp.map V.ref = xs at hpx
          have hxl : xs.length = ps.length := by rw [← hxs, List.length_map, htl]
          have hri : ∀ w ∈ xs, ∃ o, RI J8 w o := fun w hw => by
            obtain ⟨i, hi⟩ := List.mem_iff_getElem?.mp hw
            obtain ⟨u, y, rfl, _, hu⟩ := hP8.get' hpx hi
            exact ⟨_, .some hu⟩
          have c1' := cutV_length xs none (some j)
          have c2' := cutV_length xs (some (j + 1)) none
          refine ⟨p8, _, rfl, sqL h8, fun i σ1 H7 => ∃ (y3 : Option V), σ1 = [some (.ref a), some (.ref pd), some (.int n), some (.ref pr), some (.ref pp), some (.int (LS id (gd rs) rs.length)), some (.ref po), y1, y2, some (.int j), some (.ref ve), y3] ∧ Kp [] J8 H7, ⟨_, rfl, Kp.refl⟩, ?_, ?_, ?_⟩
          · rintro i σ1 H7 hi ⟨y3, rfl, k7⟩
            exact sqL (k7.g0 h8)
          · rintro i v σ1 H7 hv ⟨y3, rfl, k7⟩
            obtain ⟨r8, pvD⟩ := all8 v (List.mem_of_getElem? hv)
            have pv7 := pvD.kp k7
            have hpr7 : H7 pr = some (.lst (rs.map V.int)) := k7.g0 hpr8
            have hp7 : H7 pp = some (.lst xs) := k7.g0 hpx
            fail "goE"
            fail "nf"
            refine wss_one ?_
            fail "goE"
            rename_i q1 K1 m1 e1 f1 q2 K2 m2 e2 f2 q3 K3 m3 e3 f3 q4 K4 m4 e4 f4 q5 K5 m5 e5 f5
            have k75 : Kp [] H7 K5 := by fail "kp"
            have k85 : Kp [] J8 K5 := k7.tr0 k75
            have pv5 := pv7.kp k75
            have hpr5 : K5 pr = some (.lst (rs.map V.int)) := k75.g0 hpr7
            have pvs : Pv K5 rs (.ref q5) false := pv_no f5 (fun w hw => by
              rcases List.mem_append.mp hw with hw | hw
              · rcases List.mem_append.mp hw with hw | hw
                · obtain ⟨o, ho⟩ := hri w (cutV_mem hw)
                  exact ⟨o, ho.k0 k85⟩
                · rw [List.mem_singleton.mp hw]
                  exact ⟨_, r8.k0 k85⟩
              · obtain ⟨o, ho⟩ := hri w (cutV_mem hw)
                exact ⟨o, ho.k0 k85⟩) (List.mem_append.mpr (.inl (List.mem_append.mpr (.inr List.mem_cons_self)))) (r8.k0 k85)
            clear m1 e1 f1 m2 e2 f2 m3 e3 f3 m4 e4 f4 m5 e5 f5 hpr7 hp7 pv7
            refine c_shows (sqL hpr5) (by omega) pvs ?_
            intro K6 k6
            have pv6 := pv5.kp k6
            have hpr6 : K6 pr = some (.lst (rs.map V.int)) := k6.g0 hpr5
            have k86 : Kp [] J8 K6 := k85.tr0 k6
            clear pvs pv5 hpr5 k75 k85 k6
            fail "goE"
            exact ⟨_, rfl, by fail "kp"⟩
          · rintro σ1 H7 ⟨y3, rfl, k7⟩
            exact ⟨_, rfl, k118.tr0 k7⟩
        rintro σ1 H12 ⟨y3, rfl, k12⟩
        have hpr12 : H12 pr = some (.lst (rs.map V.int)) := by fail "look"
        have hpd12 : H12 pd = some (.lst (ds7.map V.int)) := by fail "look"
        have hP12 := hP11.k0 k12
        have pv12 := pv11.kp k12
        have kk12 : Kp [] H H12 := kk11.tr0 k12
        clear hpr11 hpd11 hP11 pv11 kk11 k12 h11
        fail "sn"
        rename_i H13 k13 pl H14 n14 k14 hPl
        have pvl : Pv H14 rs (.ref pl) true := by
          have := (hPl.tg (F := []) List.not_mem_nil).pv hR
          rw [decide_eq_true rfl] at this
          exact this
        have hpr14 : H14 pr = some (.lst (rs.map V.int)) := by fail "look"
        have hpd14 : H14 pd = some (.lst (ds7.map V.int)) := by fail "look"
        have kk14 : Kp [] H H14 := by fail "kp"
        clear k13 n14 k14 hPl hpr12 hpd12 hP12 pv12 kk12
        refine c_shows (sqL hpr14) (by omega) pvl ?_
        intro H15 k15
        have hpd15 : H15 pd = some (.lst (ds7.map V.int)) := k15.g0 hpd14
        have kk15 : Kp [] H H15 := kk14.tr0 k15
        clear pvl hpr14 hpd14 kk14 k15
        fail "goE"
        fail "sn"
        exact ⟨_, by omega, _, ds7, _, _, _, _, _, _, _, _, _, rfl, rfl, kk15, hpd15, hl10, by omega⟩
    rintro σ1 H2 ⟨x1, x2, x3, x4, x5, x6, x7, x8, x9, n, rfl⟩
    fail "go"
    exact q _
end

theorem all_mk {l : PySem.W.OpenLaw} {w : World} {K : PySem.W.Frag} {h : Heap} {mg : Str → Option Value} {fa : Addr} (X : K.In h) (G : h.Ns mainGlobals mg) (hfa : mg "law" = some (.ref fa))
    {smO : Obj} (sm_l : K.lookup sysModules = some smO) (sm_c : smO.cls = .type "dict")
    {f0 : Addr} {od0 an0 : Option Addr} {sl0 : Array (Option Value)} {oc0 kV0 dc0 pm0 cd0 ct0 : Value}
    (a0 : PySem.W.nsIn K mainGlobals "_law_draws" = some (some (.ref f0)))
    (l0 : K.lookup f0 = some ⟨oc0, od0, .func (PySem.W.fnOf "_law_draws" "_law_draws" (defArgs sdraws) (defBody sdraws) (defScope sdraws) .none kV0 dc0 pm0 an0 cd0 ct0), sl0⟩) (c0 : PySem.W.codeIn K cd0 "_law_draws" = true) (k0 : PySem.W.keepIn K (.ref f0) = true)
    {f1 : Addr} {od1 an1 : Option Addr} {sl1 : Array (Option Value)} {oc1 kV1 dc1 pm1 cd1 ct1 : Value}
    (a1 : PySem.W.nsIn K mainGlobals "_law_take" = some (some (.ref f1)))
    (l1 : K.lookup f1 = some ⟨oc1, od1, .func (PySem.W.fnOf "_law_take" "_law_take" (defArgs stake) (defBody stake) (defScope stake) .none kV1 dc1 pm1 an1 cd1 ct1), sl1⟩) (c1 : PySem.W.codeIn K cd1 "_law_take" = true) (k1 : PySem.W.keepIn K (.ref f1) = true)
    {f2 : Addr} {od2 an2 : Option Addr} {sl2 : Array (Option Value)} {oc2 kV2 dc2 pm2 cd2 ct2 : Value}
    (a2 : PySem.W.nsIn K mainGlobals "_law_row" = some (some (.ref f2)))
    (l2 : K.lookup f2 = some ⟨oc2, od2, .func (PySem.W.fnOf "_law_row" "_law_row" (defArgs srow) (defBody srow) (defScope srow) .none kV2 dc2 pm2 an2 cd2 ct2), sl2⟩) (c2 : PySem.W.codeIn K cd2 "_law_row" = true) (k2 : PySem.W.keepIn K (.ref f2) = true)
    {f3 : Addr} {od3 an3 : Option Addr} {sl3 : Array (Option Value)} {oc3 kV3 dc3 pm3 cd3 ct3 : Value}
    (a3 : PySem.W.nsIn K mainGlobals "is_whole" = some (some (.ref f3)))
    (l3 : K.lookup f3 = some ⟨oc3, od3, .func (PySem.W.fnOf "is_whole" "is_whole" (defArgs siswh) (defBody siswh) (defScope siswh) .none kV3 dc3 pm3 an3 cd3 ct3), sl3⟩) (c3 : PySem.W.codeIn K cd3 "is_whole" = true) (k3 : PySem.W.keepIn K (.ref f3) = true)
    {f4 : Addr} {od4 an4 : Option Addr} {sl4 : Array (Option Value)} {oc4 kV4 dc4 pm4 cd4 ct4 : Value}
    (a4 : PySem.W.nsIn K mainGlobals "is_reach" = some (some (.ref f4)))
    (l4 : K.lookup f4 = some ⟨oc4, od4, .func (PySem.W.fnOf "is_reach" "is_reach" (defArgs sisreach) (defBody sisreach) (defScope sisreach) .none kV4 dc4 pm4 an4 cd4 ct4), sl4⟩) (c4 : PySem.W.codeIn K cd4 "is_reach" = true) (k4 : PySem.W.keepIn K (.ref f4) = true)
    {f5 : Addr} {od5 an5 : Option Addr} {sl5 : Array (Option Value)} {oc5 kV5 dc5 pm5 cd5 ct5 : Value}
    (a5 : PySem.W.nsIn K mainGlobals "shows" = some (some (.ref f5)))
    (l5 : K.lookup f5 = some ⟨oc5, od5, .func (PySem.W.fnOf "shows" "shows" (defArgs sshows) (defBody sshows) (defScope sshows) .none kV5 dc5 pm5 an5 cd5 ct5), sl5⟩) (c5 : PySem.W.codeIn K cd5 "shows" = true) (k5 : PySem.W.keepIn K (.ref f5) = true)
    {f6 : Addr} {od6 an6 : Option Addr} {sl6 : Array (Option Value)} {oc6 kV6 dc6 pm6 cd6 ct6 : Value}
    (a6 : PySem.W.nsIn K mainGlobals "_law_reaches" = some (some (.ref f6)))
    (l6 : K.lookup f6 = some ⟨oc6, od6, .func (PySem.W.fnOf "_law_reaches" "_law_reaches" (defArgs slreach) (defBody slreach) (defScope slreach) .none kV6 dc6 pm6 an6 cd6 ct6), sl6⟩) (c6 : PySem.W.codeIn K cd6 "_law_reaches" = true) (k6 : PySem.W.keepIn K (.ref f6) = true)
    {f7 : Addr} {od7 an7 : Option Addr} {sl7 : Array (Option Value)} {oc7 kV7 dc7 pm7 cd7 ct7 : Value}
    (a7 : PySem.W.nsIn K mainGlobals "_law_leasts" = some (some (.ref f7)))
    (l7 : K.lookup f7 = some ⟨oc7, od7, .func (PySem.W.fnOf "_law_leasts" "_law_leasts" (defArgs slleasts) (defBody slleasts) (defScope slleasts) .none kV7 dc7 pm7 an7 cd7 ct7), sl7⟩) (c7 : PySem.W.codeIn K cd7 "_law_leasts" = true) (k7 : PySem.W.keepIn K (.ref f7) = true)
    {f8 : Addr} {od8 an8 : Option Addr} {sl8 : Array (Option Value)} {oc8 kV8 dc8 pm8 cd8 ct8 : Value}
    (a8 : PySem.W.nsIn K mainGlobals "_law_deep" = some (some (.ref f8)))
    (l8 : K.lookup f8 = some ⟨oc8, od8, .func (PySem.W.fnOf "_law_deep" "_law_deep" (defArgs sdeepL) (defBody sdeepL) (defScope sdeepL) .none kV8 dc8 pm8 an8 cd8 ct8), sl8⟩) (c8 : PySem.W.codeIn K cd8 "_law_deep" = true) (k8 : PySem.W.keepIn K (.ref f8) = true)
    {f9 : Addr} {od9 an9 : Option Addr} {sl9 : Array (Option Value)} {oc9 kV9 dc9 pm9 cd9 ct9 : Value}
    (a9 : PySem.W.nsIn K mainGlobals "_law_things" = some (some (.ref f9)))
    (l9 : K.lookup f9 = some ⟨oc9, od9, .func (PySem.W.fnOf "_law_things" "_law_things" (defArgs sthings) (defBody sthings) (defScope sthings) .none kV9 dc9 pm9 an9 cd9 ct9), sl9⟩) (c9 : PySem.W.codeIn K cd9 "_law_things" = true) (k9 : PySem.W.keepIn K (.ref f9) = true)
    {f10 : Addr} {od10 an10 : Option Addr} {sl10 : Array (Option Value)} {oc10 kV10 dc10 pm10 cd10 ct10 : Value}
    (a10 : PySem.W.nsIn K mainGlobals "_law_as_many" = some (some (.ref f10)))
    (l10 : K.lookup f10 = some ⟨oc10, od10, .func (PySem.W.fnOf "_law_as_many" "_law_as_many" (defArgs sasmany) (defBody sasmany) (defScope sasmany) .none kV10 dc10 pm10 an10 cd10 ct10), sl10⟩) (c10 : PySem.W.codeIn K cd10 "_law_as_many" = true) (k10 : PySem.W.keepIn K (.ref f10) = true)
    {f11 : Addr} {od11 an11 : Option Addr} {sl11 : Array (Option Value)} {oc11 kV11 dc11 pm11 cd11 ct11 : Value}
    (a11 : PySem.W.nsIn K mainGlobals "law" = some (some (.ref f11)))
    (l11 : K.lookup f11 = some ⟨oc11, od11, .func (PySem.W.fnOf "law" "law" (defArgs slaw) (defBody slaw) (defScope slaw) .none kV11 dc11 pm11 an11 cd11 ct11), sl11⟩) (c11 : PySem.W.codeIn K cd11 "law" = true) (k11 : PySem.W.keepIn K (.ref f11) = true)
    (z_len : PySem.W.nsIn K mainGlobals "len" = some none)
    (z_range : PySem.W.nsIn K mainGlobals "range" = some none)
    (z_list : PySem.W.nsIn K mainGlobals "list" = some none)
    (z_enumerate : PySem.W.nsIn K mainGlobals "enumerate" = some none)
    (z_zip : PySem.W.nsIn K mainGlobals "zip" = some none)
    (z_min : PySem.W.nsIn K mainGlobals "min" = some none)
    (z_max : PySem.W.nsIn K mainGlobals "max" = some none)
    (z_sum : PySem.W.nsIn K mainGlobals "sum" = some none)
    (z_sorted : PySem.W.nsIn K mainGlobals "sorted" = some none)
    (z_isinstance : PySem.W.nsIn K mainGlobals "isinstance" = some none)
    (z_int : PySem.W.nsIn K mainGlobals "int" = some none)
    (z_bool : PySem.W.nsIn K mainGlobals "bool" = some none)
    (z_repr : PySem.W.nsIn K mainGlobals "repr" = some none)
    (z_abs : PySem.W.nsIn K mainGlobals "abs" = some none)
    (z_str : PySem.W.nsIn K mainGlobals "str" = some none)
    (z_tuple : PySem.W.nsIn K mainGlobals "tuple" = some none)
    (z_dict : PySem.W.nsIn K mainGlobals "dict" = some none)
    (z_set : PySem.W.nsIn K mainGlobals "set" = some none)
    (z_ValueError : PySem.W.nsIn K mainGlobals "ValueError" = some none)
    : ∃ fd : FuncData, (∀ (s : Shared) (v : Value), BindsTo s fd ⟨[v], []⟩ [("script", v)]) ∧ ∀ base : Heap, K.In base → base.Ns mainGlobals mg → FnG l.prog w K mg base CX0 6 fa fd ["script"] (splaw K) := by
  have e := hfa.symm.trans (PySem.W.mg_of X G a11)
  cases e
  have B : Blt mg := ⟨PySem.W.mg_none_of X G z_len, PySem.W.mg_none_of X G z_range, PySem.W.mg_none_of X G z_list, PySem.W.mg_none_of X G z_enumerate, PySem.W.mg_none_of X G z_zip, PySem.W.mg_none_of X G z_min, PySem.W.mg_none_of X G z_max, PySem.W.mg_none_of X G z_sum, PySem.W.mg_none_of X G z_sorted, PySem.W.mg_none_of X G z_isinstance, PySem.W.mg_none_of X G z_int, PySem.W.mg_none_of X G z_bool, PySem.W.mg_none_of X G z_repr, PySem.W.mg_none_of X G z_abs, PySem.W.mg_none_of X G z_str, PySem.W.mg_none_of X G z_tuple, PySem.W.mg_none_of X G z_dict, PySem.W.mg_none_of X G z_set, PySem.W.mg_none_of X G z_ValueError⟩
  have SM : SmK K := ⟨⟨_, sm_l, sm_c⟩⟩
  have F0 := fun_mk (st := sdraws) l0 c0 k0
  have b0 := F0.binds (ps := ["script"]) fun _ _ _ _ _ _ us hl => match us, hl with | [_], _ => rfl
  have F1 := fun_mk (st := stake) l1 c1 k1
  have b1 := F1.binds (ps := ["draws", "many"]) fun _ _ _ _ _ _ us hl => match us, hl with | [_, _], _ => rfl
  have F2 := fun_mk (st := srow) l2 c2 k2
  have b2 := F2.binds (ps := ["draws", "most"]) fun _ _ _ _ _ _ us hl => match us, hl with | [_, _], _ => rfl
  have F3 := fun_mk (st := siswh) l3 c3 k3
  have b3 := F3.binds (ps := ["thing"]) fun _ _ _ _ _ _ us hl => match us, hl with | [_], _ => rfl
  have F4 := fun_mk (st := sisreach) l4 c4 k4
  have b4 := F4.binds (ps := ["row", "place", "thing"]) fun _ _ _ _ _ _ us hl => match us, hl with | [_, _, _], _ => rfl
  have F5 := fun_mk (st := sshows) l5 c5 k5
  have b5 := F5.binds (ps := ["row", "thing"]) fun _ _ _ _ _ _ us hl => match us, hl with | [_, _], _ => rfl
  have F6 := fun_mk (st := slreach) l6 c6 k6
  have b6 := F6.binds (ps := ["row"]) fun _ _ _ _ _ _ us hl => match us, hl with | [_], _ => rfl
  have F7 := fun_mk (st := slleasts) l7 c7 k7
  have b7 := F7.binds (ps := ["row"]) fun _ _ _ _ _ _ us hl => match us, hl with | [_], _ => rfl
  have F8 := fun_mk (st := sdeepL) l8 c8 k8
  have b8 := F8.binds (ps := ["many"]) fun _ _ _ _ _ _ us hl => match us, hl with | [_], _ => rfl
  have F9 := fun_mk (st := sthings) l9 c9 k9
  have b9 := F9.binds (ps := ["draws", "row", "paper"]) fun _ _ _ _ _ _ us hl => match us, hl with | [_, _, _], _ => rfl
  have F10 := fun_mk (st := sasmany) l10 c10 k10
  have b10 := F10.binds (ps := ["row", "paper"]) fun _ _ _ _ _ _ us hl => match us, hl with | [_, _], _ => rfl
  have F11 := fun_mk (st := slaw) l11 c11 k11
  refine ⟨PySem.W.fnOf "law" "law" (defArgs slaw) (defBody slaw) (defScope slaw) .none kV11 dc11 pm11 an11 cd11 ct11, fun s v => .of_eq rfl, fun base _ _ => ?_⟩
  have D_draws : Df l.prog w K mg base 1 "_law_draws" (spdraws K) := df_mk (ok_draws F0 B ) (PySem.W.mg_of X G a0) k0 b0
  have D_take : Df l.prog w K mg base 1 "_law_take" (sptake K) := df_mk (ok_take F1 B ) (PySem.W.mg_of X G a1) k1 b1
  have D_row : Df l.prog w K mg base 2 "_law_row" (sprow K) := df_mk (ok_row F2 B D_take) (PySem.W.mg_of X G a2) k2 b2
  have D_iswh : Df l.prog w K mg base 1 "is_whole" (spiswh K) := df_mk (ok_iswh F3 B ) (PySem.W.mg_of X G a3) k3 b3
  have D_isreach : Df l.prog w K mg base 2 "is_reach" (spisreach K) := df_mk (ok_isreach F4 B D_iswh) (PySem.W.mg_of X G a4) k4 b4
  have D_shows : Df l.prog w K mg base 3 "shows" (spshows K) := df_mk (ok_shows F5 B D_isreach) (PySem.W.mg_of X G a5) k5 b5
  have D_lreach : Df l.prog w K mg base 1 "_law_reaches" (splreach K) := df_mk (ok_lreach F6 B ) (PySem.W.mg_of X G a6) k6 b6
  have D_lleasts : Df l.prog w K mg base 1 "_law_leasts" (splleasts K) := df_mk (ok_lleasts F7 B ) (PySem.W.mg_of X G a7) k7 b7
  have D_deepL : Df l.prog w K mg base 1 "_law_deep" (spdeepL K) := df_mk (ok_deepL F8 B ) (PySem.W.mg_of X G a8) k8 b8
  have D_things : Df l.prog w K mg base 1 "_law_things" (spthings K) := df_mk (ok_things F9 B SM ) (PySem.W.mg_of X G a9) k9 b9
  have D_asmany : Df l.prog w K mg base 1 "_law_as_many" (spasmany K) := df_mk (ok_asmany F10 B D_things) (PySem.W.mg_of X G a10) k10 b10
  exact ok_law F11 B SM D_draws D_take D_row D_lreach D_lleasts D_shows D_things D_asmany D_deepL
end SL
open PySem PySem.W PyProof.Rows
set_option maxHeartbeats 0 in
theorem PySem.Challenge.cw_stretchleast_k44_papers_of_anything_holds : PySem.Challenge.rw_stretchleast_k44_papers_of_anything.Holds := by
  w_on; o_law; x_head; (case hw => w_witness2)
  k_fill
  refine SL.walk_ofG (l := PySem.Challenge.rw_stretchleast_k44_papers_of_anything) (n := 63) (k := 6) (x := "script") (sp := fun w => SL.splaw _) rfl (by decide) rfl ⟨rfl, by decide, by decide⟩ (fun w h Y => PySem.W.kIn_of Y) ?F (fun _ _ a ns hl hS => ⟨a, ns, rfl, hS, hl, fun _ => rfl⟩)
  case F =>
    intro w mg fa h KX G hmg
    refine' SL.all_mk KX G hmg ?sm_l ?sm_c ?a0 ?l0 ?c0 ?k0 ?a1 ?l1 ?c1 ?k1 ?a2 ?l2 ?c2 ?k2 ?a3 ?l3 ?c3 ?k3 ?a4 ?l4 ?c4 ?k4 ?a5 ?l5 ?c5 ?k5 ?a6 ?l6 ?c6 ?k6 ?a7 ?l7 ?c7 ?k7 ?a8 ?l8 ?c8 ?k8 ?a9 ?l9 ?c9 ?k9 ?a10 ?l10 ?c10 ?k10 ?a11 ?l11 ?c11 ?k11 ?z_len ?z_range ?z_list ?z_enumerate ?z_zip ?z_min ?z_max ?z_sum ?z_sorted ?z_isinstance ?z_int ?z_bool ?z_repr ?z_abs ?z_str ?z_tuple ?z_dict ?z_set ?z_ValueError
    (case sm_l => k_is); (case sm_c => rfl); (case a0 => k_is); (case l0 => k_is); (case c0 => k_is); (case k0 => k_is); (case a1 => k_is); (case l1 => k_is); (case c1 => k_is); (case k1 => k_is); (case a2 => k_is); (case l2 => k_is); (case c2 => k_is); (case k2 => k_is); (case a3 => k_is); (case l3 => k_is); (case c3 => k_is); (case k3 => k_is); (case a4 => k_is); (case l4 => k_is); (case c4 => k_is); (case k4 => k_is); (case a5 => k_is); (case l5 => k_is); (case c5 => k_is); (case k5 => k_is); (case a6 => k_is); (case l6 => k_is); (case c6 => k_is); (case k6 => k_is); (case a7 => k_is); (case l7 => k_is); (case c7 => k_is); (case k7 => k_is); (case a8 => k_is); (case l8 => k_is); (case c8 => k_is); (case k8 => k_is); (case a9 => k_is); (case l9 => k_is); (case c9 => k_is); (case k9 => k_is); (case a10 => k_is); (case l10 => k_is); (case c10 => k_is); (case k10 => k_is); (case a11 => k_is); (case l11 => k_is); (case c11 => k_is); (case k11 => k_is); (case z_len => k_is); (case z_range => k_is); (case z_list => k_is); (case z_enumerate => k_is); (case z_zip => k_is); (case z_min => k_is); (case z_max => k_is); (case z_sum => k_is); (case z_sorted => k_is); (case z_isinstance => k_is); (case z_int => k_is); (case z_bool => k_is); (case z_repr => k_is); (case z_abs => k_is); (case z_str => k_is); (case z_tuple => k_is); (case z_dict => k_is); (case z_set => k_is); (case z_ValueError => k_is)
