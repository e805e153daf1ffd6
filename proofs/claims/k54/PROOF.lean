import PyProof.Rows.All
import Wide.All
import OpenK.AllK
import Wide.FinOn
import HandS.Text
import HandS.Codes
import KE.GoesRaise
import HandS.ExcBuiltin
import HandS.ExcValue
import HandS.ForExc
import KE.KExcIs
import HandS.More
import HandS.DictTup
import HandS.SortRule
import KE.DataMinMax
import KE.KDictZip
import KE.KItemsList
import PyProof.ReprRoads
import PyProof.ReprLen
import HandS.RaiseMore
import HandS.ForMost
import HandS.IsInst
import HandS.SortInts
import HandS.Style
import HandS.Walk
import HandS.Conv
import HandS.Wide
import HandS.Flow
import HandS.Deep
import HandS.SetFor
import HandS.Strs
import PySem.Challenge.RW_stretchleast_k54_texts_of_no_row
set_option Elab.async false
set_option linter.all false
set_option maxRecDepth 100000
set_option maxHeartbeats 2000000

/-! a calculus of weakest preconditions over the hand layer's judgements -/
namespace SL
open PySem PySem.Spec PyProof.Rows L2

section
variable {X : Cx}
structure We (X : Cx) (e : Expr) (σ : L2.St) (H : Hp) (Q : VK) : Prop where
  run : ∀ (pins : List (Addr × Obj)) (s : Shared), Inv X pins σ H s → wpAny (model X.prog X.w) X.A (eval e X.env) (EP X pins σ Q) X.xe s
structure Wt (X : Cx) (e : Expr) (σ : L2.St) (H : Hp) (Q : Bool → Hp → Prop) : Prop where
  run : ∀ (pins : List (Addr × Obj)) (s : Shared), Inv X pins σ H s → wpAny (model X.prog X.w) X.A (isTrue e X.env (eval e X.env)) (TP X pins σ Q) X.xe s
/-- a test that is part of an and, an or -/
structure Ww (X : Cx) (e : Expr) (σ : L2.St) (H : Hp) (Q : Bool → Hp → Prop) : Prop where
  run : ∀ (whole : Sem Value) (pins : List (Addr × Obj)) (s : Shared), Inv X pins σ H s → wpAny (model X.prog X.w) X.A (isTrue e X.env whole) (TP X pins σ Q) X.xe s
structure Wa (X : Cx) (es : List Expr) (σ : L2.St) (H : Hp) (Q : List V → Hp → Prop) : Prop where
  run : ∀ (pos : Pos) (pins : List (Addr × Obj)) (s : Shared), Inv X pins σ H s → wpAny (model X.prog X.w) X.A (spliced (backTo pos (starEach es X.env))) (AP X pins σ Q) X.xe s
structure Ws (X : Cx) (st : Stmt) (D : Ends) (σ : L2.St) (H : Hp) : Prop where
  run : ∀ (pins : List (Addr × Obj)) (s : Shared), Inv X pins σ H s → wpAny (model X.prog X.w) X.A (exec st X.env) (SP X pins D) X.xe s
structure Wss (X : Cx) (st : List Stmt) (D : Ends) (σ : L2.St) (H : Hp) : Prop where
  run : ∀ (pins : List (Addr × Obj)) (s : Shared), Inv X pins σ H s → wpAny (model X.prog X.w) X.A (execs st X.env) (SP X pins D) X.xe s
structure Wg (X : Cx) (tg : Expr) (v : V) (σ : L2.St) (H : Hp) (Q : L2.St → Hp → Prop) : Prop where
  run : ∀ (pins : List (Addr × Obj)) (s : Shared) (u : Value), Inv X pins σ H s → RelV v u →
    wpAny (model X.prog X.w) X.A (assign tg X.env u) (fun _ s' => ∃ σ' H', Inv X pins σ' H' s' ∧ Q σ' H') X.xe s
theorem We.pe {e : Expr} : PE X e (We X e) := ⟨fun pins s σ H Q I h => h.run pins s I⟩
theorem Wt.pt {e : Expr} : PT X e (Wt X e) := ⟨fun pins s σ H Q I h => h.run pins s I⟩
theorem Ww.pw {e : Expr} : PW X e (Ww X e) := ⟨fun wh pins s σ H Q I h => h.run wh pins s I⟩
theorem Wa.pa {es : List Expr} : PA X es (Wa X es) := ⟨fun pos pins s σ H Q I h => h.run pos pins s I⟩
theorem Ws.ps {st : Stmt} : PS X st (Ws X st) := ⟨fun pins s σ H D I h => h.run pins s I⟩
theorem Wss.pss {st : List Stmt} : PSs X st (Wss X st) := ⟨fun pins s σ H D I h => h.run pins s I⟩
theorem Wg.pg {tg : Expr} : PG X tg (Wg X tg) := ⟨fun pins s σ H v u Q I r h => h.run pins s u I r⟩
variable {σ : L2.St} {H : Hp} {Q : VK} {D : Ends}
theorem we_of {e : Expr} {t : TE} (h : PE X e t) (q : t σ H Q) : We X e σ H Q := ⟨fun pins s I => h.run pins s σ H Q I q⟩
theorem wt_of {e : Expr} {t : TT} {Q : Bool → Hp → Prop} (h : PT X e t) (q : t σ H Q) : Wt X e σ H Q := ⟨fun pins s I => h.run pins s σ H Q I q⟩
theorem wa_of {es : List Expr} {t : TA} {Q : List V → Hp → Prop} (h : PA X es t) (q : t σ H Q) : Wa X es σ H Q := ⟨fun pos pins s I => h.run pos pins s σ H Q I q⟩
theorem ws_of {st : Stmt} {t : TS} (h : PS X st t) (q : t D σ H) : Ws X st D σ H := ⟨fun pins s I => h.run pins s σ H D I q⟩
theorem wss_of {st : List Stmt} {t : TS} (h : PSs X st t) (q : t D σ H) : Wss X st D σ H := ⟨fun pins s I => h.run pins s σ H D I q⟩
theorem wg_of {tg : Expr} {g : TG} {v : V} {Q : L2.St → Hp → Prop} (h : PG X tg g) (q : g v σ H Q) : Wg X tg v σ H Q := ⟨fun pins s u I r => h.run pins s σ H v u Q I r q⟩

/-! ### operators by values -/
structure Bin (X : Cx) (op : Operator) (x y : V) (H : Hp) (Q : VK) : Prop where
  ex : ∃ r : R2, OpR X (binaryOp op) r ∧ r x y H Q
structure Cmp (X : Cx) (op : CmpOp) (x y : V) (H : Hp) (Q : VK) : Prop where
  ex : ∃ r : R2, OpR X (compareOp op) r ∧ r x y H Q
structure Una (X : Cx) (op : UnaryOp) (x : V) (H : Hp) (Q : VK) : Prop where
  ex : ∃ r, UnR X (unaryOp op) r ∧ r x H Q
structure Cal (X : Cx) (f : Value) (xs : List V) (H : Hp) (Q : VK) : Prop where
  ex : ∃ r, CallR X f r ∧ r xs H Q
structure Mth (X : Cx) (id : String) (x : V) (xs : List V) (H : Hp) (Q : VK) : Prop where
  ex : ∃ r, MtR X id r ∧ r x xs H Q
structure Ixw (X : Cx) (x y : V) (H : Hp) (Q : VK) : Prop where
  ex : ∃ r, IxR X r ∧ r x y H Q
structure Slw (X : Cx) (x : V) (lo hi : Option Int) (H : Hp) (Q : VK) : Prop where
  ex : ∃ r, SlR X r ∧ r x lo hi H Q
structure Setw (X : Cx) (o i v : V) (H : Hp) (Q : Hp → Prop) : Prop where
  ex : ∃ t, PSet X t ∧ t o i v H Q
structure Ipw (X : Cx) (op : Operator) (x y : V) (H : Hp) (Q : VK) : Prop where
  ex : ∃ t, PIp X op t ∧ t x y H Q
theorem Bin.ok {op : Operator} : OpR X (binaryOp op) (Bin X op) := by
  intro pins s σ H x y v u Q I rx ry h
  obtain ⟨r, h1, h2⟩ := h.ex
  exact h1 pins s σ H x y v u Q I rx ry h2
theorem Cmp.ok {op : CmpOp} : OpR X (compareOp op) (Cmp X op) := by
  intro pins s σ H x y v u Q I rx ry h
  obtain ⟨r, h1, h2⟩ := h.ex
  exact h1 pins s σ H x y v u Q I rx ry h2
theorem Una.ok {op : UnaryOp} : UnR X (unaryOp op) (Una X op) := by
  intro pins s σ H x v Q I rx h
  obtain ⟨r, h1, h2⟩ := h.ex
  exact h1 pins s σ H x v Q I rx h2
theorem Cal.ok {f : Value} : CallR X f (Cal X f) := by
  intro pins s σ H xs us Q I r h
  obtain ⟨q, h1, h2⟩ := h.ex
  exact h1 pins s σ H xs us Q I r h2
theorem Mth.ok {id : String} : MtR X id (Mth X id) := by
  intro pins s σ H x xs u us Q I r1 r2 h
  obtain ⟨q, h1, h2⟩ := h.ex
  exact h1 pins s σ H x xs u us Q I r1 r2 h2
theorem Ixw.ok : IxR X (Ixw X) := by
  intro value slice pins s σ H x y v u Q I r1 r2 h
  obtain ⟨q, h1, h2⟩ := h.ex
  exact h1 value slice pins s σ H x y v u Q I r1 r2 h2
theorem Slw.ok : SlR X (Slw X) := by
  intro pins s σ H x v vl vu lo hi sl Q I rx hs pl pu h
  obtain ⟨r, h1, h2⟩ := h.ex
  exact h1 pins s σ H x v vl vu lo hi sl Q I rx hs pl pu h2
theorem Setw.ok : PSet X (Setw X) := by
  intro pins s σ H o i v ov iv u Q I r1 r2 r3 h
  obtain ⟨q, h1, h2⟩ := h.ex
  exact h1 pins s σ H o i v ov iv u Q I r1 r2 r3 h2
theorem Ipw.ok {op : Operator} : PIp X op (Ipw X op) := by
  intro pins s σ H x y v u Q I r1 r2 h
  obtain ⟨q, h1, h2⟩ := h.ex
  exact h1 pins s σ H x y v u Q I r1 r2 h2
end

/-- a value that is a truth, and what is wanted of it -/
structure TB (Q : Bool → Hp → Prop) (z : V) (H : Hp) : Prop where
  ex : ∃ k, z = .bl k ∧ Q k H
theorem tb {Q : Bool → Hp → Prop} {k : Bool} {H : Hp} (h : Q k H) : TB Q (.bl k) H := ⟨k, rfl, h⟩
theorem we_tb {X : Cx} {e : Expr} {σ : L2.St} {H : Hp} {Q : Bool → Hp → Prop} (h : We X e σ H (TB Q)) : We X e σ H fun z H1 => ∃ k, z = .bl k ∧ Q k H1 := ⟨fun pins s I => thn (h.run pins s I) fun _ _ ⟨v, H1, I1, r1, q⟩ => ⟨v, H1, I1, r1, q.ex⟩⟩
theorem we_mono {X : Cx} {e : Expr} {σ : L2.St} {H : Hp} {Q Q' : VK} (h : We X e σ H Q) (hq : ∀ v H1, Q v H1 → Q' v H1) : We X e σ H Q' := ⟨fun pins s I => thn (h.run pins s I) fun _ _ ⟨v, H1, I1, r1, q⟩ => ⟨v, H1, I1, r1, hq v H1 q⟩⟩
theorem cmp_tb {X : Cx} {op : CmpOp} {x y : V} {H : Hp} {Q Q' : VK} (h : Cmp X op x y H Q) (hq : ∀ v H1, Q v H1 → Q' v H1) : Cmp X op x y H Q' := by
  obtain ⟨r, h1, h2⟩ := h.ex
  refine ⟨fun x' y' H' Q'' => ∃ Q0 : VK, r x' y' H' Q0 ∧ ∀ v H1, Q0 v H1 → Q'' v H1, ?_, Q, h2, hq⟩
  intro pins s σ H x y v u Q I rx ry hh
  obtain ⟨Q0, g1, g2⟩ := hh
  exact thn (h1 pins s σ H x y v u Q0 I rx ry g1) fun _ _ ⟨z, H1, I1, r1, q⟩ => ⟨z, H1, I1, r1, g2 z H1 q⟩

section
variable {X : Cx} {σ : L2.St} {H : Hp} {Q : VK} {D : Ends} {a b c e o : Expr} {es rest : List Expr} {pos p p2 : Pos} {v : V}
/-! ### expressions -/
theorem we_int {i : Int} {j : Nat} (h : Q (.int i) H) : We X (.Constant (.int i) j pos) σ H Q := we_of pe_int h
theorem we_bl {i : Bool} {j : Nat} (h : Q (.bl i) H) : We X (.Constant (.bool i) j pos) σ H Q := we_of pe_bl h
theorem we_non {j : Nat} (h : Q .non H) : We X (.Constant .none j pos) σ H Q := we_of pe_non h
theorem we_str {x : Str} {j : Nat} (h : Q (.str x) H) : We X (.Constant (.str x) j pos) σ H Q := we_of pe_str h
theorem we_var (i : Nat) {x : Str} (hN : X.N[i]? = some x) (hv : Vis X.env.scope x) (hs : σ[i]? = some (some v)) (h : Q v H) (hd : (x == ("__debug__" : Str)) = false := by decide) (hcd : (x == ("__classdict__" : Str)) = false := by decide) :
    We X (.Name x pos) σ H Q := we_of (pe_var hN hv hd hcd) ⟨v, hs, h⟩
theorem we_bin {op : Operator} (h : We X a σ H fun x H1 => We X b σ H1 fun y H2 => Bin X op x y H2 Q) : We X (.BinOp a op b pos) σ H Q := we_of (pe_op Bin.ok We.pe We.pe) h
theorem we_un {op : UnaryOp} (h : We X a σ H fun x H1 => Una X op x H1 Q) : We X (.UnaryOp op a pos) σ H Q := we_of (pe_un Una.ok We.pe) h
theorem we_not (h : We X a σ H (TB fun k H1 => Q (.bl (!k)) H1)) : We X (.UnaryOp .Not a pos) σ H Q := we_of (pe_not We.pe) (we_tb h)
theorem we_cmp {op : CmpOp} (hm : behindInMarks op b = false) (h : We X a σ H fun x H1 => We X b σ H1 fun y H2 => Cmp X op x y H2 Q) : We X (.Compare a [op] [b] pos) σ H Q := we_of (pe_cmpR Cmp.ok We.pe We.pe hm) h
theorem we_and (h : We X a σ H (TB fun k H1 => if k = true then We X (.BoolOp .And (b :: rest) pos) σ H1 Q else Q (.bl false) H1)) : We X (.BoolOp .And (a :: b :: rest) pos) σ H Q := we_of (pe_and We.pe We.pe) (we_tb h)
theorem we_or (h : We X a σ H (TB fun k H1 => if k = true then Q (.bl true) H1 else We X (.BoolOp .Or (b :: rest) pos) σ H1 Q)) : We X (.BoolOp .Or (a :: b :: rest) pos) σ H Q := we_of (pe_or We.pe We.pe) (we_tb h)
theorem we_one {op : BoolOp} (h : We X a σ H Q) : We X (.BoolOp op [a] pos) σ H Q := we_of (pe_one We.pe) h
theorem we_ifExp (h : Wt X c σ H fun k H1 => if k = true then We X a σ H1 Q else We X b σ H1 Q) : We X (.IfExp c a b pos) σ H Q := we_of (pe_ifExp Wt.pt We.pe We.pe) h
theorem we_tup {x1 : Nat} (h : Wa X es σ H fun xs H1 => xs.length ≤ sizeLine ∧ ∀ p, H1 p = none → Q (.ref p) (upd H1 p (.tup xs))) : We X (.Tuple es x1 pos) σ H Q := we_of (pe_tup Wa.pa) h
theorem we_lst (h : Wa X es σ H fun xs H1 => xs.length ≤ sizeLine ∧ ∀ p, H1 p = none → Q (.ref p) (upd H1 p (.lst xs))) : We X (.List es pos) σ H Q := we_of (pe_lst Wa.pa) h
theorem we_ix (h : We X a σ H fun x H1 => We X b σ H1 fun y H2 => Ixw X x y H2 Q) (hs : PlainIx b := by exact fun _ _ => rfl) : We X (.Subscript a b pos) σ H Q := we_of (pe_ix Ixw.ok We.pe We.pe hs) h
def Wp (X : Cx) : Option Expr → TO
  | none => tNoPart
  | some e => tPart (We X e)
theorem Wp.po : ∀ {o : Option Expr}, PO X o (Wp X o)
  | none => po_none
  | some _ => po_some We.pe
theorem we_sl {lo hi : Option Expr} (h : We X e σ H fun x H1 => Wp X lo σ H1 fun l H2 => Wp X hi σ H2 fun u H3 => Slw X x l u H3 Q) : We X (.Subscript e (.Slice lo hi none p2) pos) σ H Q := we_of (pe_slice Slw.ok We.pe Wp.po Wp.po) h
theorem wp_none {Q : Option Int → Hp → Prop} (h : Q none H) : Wp X none σ H Q := h
theorem wp_some {Q : Option Int → Hp → Prop} (h : We X e σ H fun x H1 => ∃ i, x = .int i ∧ Q (some i) H1) : Wp X (some e) σ H Q := h
theorem we_rev {k : Nat} {p1 p3 : Pos} (h : We X e σ H fun x H1 => ∃ a xs, x = .ref a ∧ SqL X.K H1 a xs ∧ ∀ p, H1 p = none → Q (.ref p) (upd H1 p (.lst xs.reverse))) :
    We X (.Subscript e (.Slice none none (some (.UnaryOp .USub (.Constant (.int 1) k p1) p2)) p3) pos) σ H Q := we_of (pe_revL We.pe) h
theorem we_glob {x : Str} {u : Value} (hg : Gl X x) (hm : X.mg x = some u) (r : RelV v u) (h : Q v H) (hd : (x == ("__debug__" : Str)) = false := by decide) : We X (.Name x pos) σ H Q := we_of (pe_glob hg hm r hd) h
theorem we_bltn {x : Str} {u : Value} (hg : Gl X x) (hm : X.mg x = none) (hv : bootBuiltins x = some u) (r : RelV v u) (h : Q v H) (hn : x ≠ "__name__" := by decide) (hd : (x == ("__debug__" : Str)) = false := by decide) : We X (.Name x pos) σ H Q := we_of (pe_bltn hg hm hv r hn hd) h
/-! ### arguments -/
theorem wa_nil {Q : List V → Hp → Prop} (h : Q [] H) : Wa X [] σ H Q := wa_of pa_nil h
theorem wa_cons {Q : List V → Hp → Prop} (h : We X e σ H fun x H1 => Wa X es σ H1 fun xs H2 => Q (x :: xs) H2) (he : starEach (e :: es) X.env = (false, eval e X.env) :: starEach es X.env := by rfl) : Wa X (e :: es) σ H Q := wa_of (pa_cons We.pe Wa.pa he) h
/-! ### chains of comparisons -/
structure Wch (X : Cx) (σ : L2.St) (x : V) (ops : List CmpOp) (es : List Expr) (H : Hp) (Q : VK) : Prop where
  run : ∀ (pos : Pos) (pins : List (Addr × Obj)) (s : Shared) (v : Value), Inv X pins σ H s → RelV x v → wpAny (model X.prog X.w) X.A (compareChain pos v ops (evalEach es X.env)) (EP X pins σ Q) X.xe s
theorem wch_last {x : V} {op : CmpOp} (h : We X e σ H fun y H1 => Cmp X op x y H1 Q) : Wch X σ x [op] [e] H Q := ⟨fun pos pins s v I r =>
  chain_last (thn (h.run pins s I) fun u s1 ⟨y, H1, I1, r1, q1⟩ => Cmp.ok pins s1 σ H1 x y v u Q I1 r r1 q1)⟩
theorem wch_link {x : V} {op op' : CmpOp} {ops : List CmpOp} {e' : Expr} (h : We X e σ H fun y H1 => Cmp X op x y H1 (TB fun k H2 => if k = true then Wch X σ y (op' :: ops) (e' :: es) H2 Q else Q (.bl false) H2)) : Wch X σ x (op :: op' :: ops) (e :: e' :: es) H Q := ⟨fun pos pins s v I r => by
  refine chain_link (thn (h.run pins s I) fun u s1 ⟨y, H1, I1, r1, q1⟩ => thn (Cmp.ok pins s1 σ H1 x y v u _ I1 r r1 q1) fun d s2 ⟨z, H2, I2, r2, q3⟩ => ?_)
  obtain ⟨k, e2, q2⟩ := q3.ex
  subst e2
  cases r2
  refine wpAny_truthy_bool ?_
  cases k with
  | false => exact ite_ff ⟨.bl false, H2, I2, rfl, q2⟩
  | true => exact ite_tt (Wch.run q2 pos pins s2 u I2 r1)⟩
theorem we_chain {op op' : CmpOp} {ops : List CmpOp} {b' : Expr} (hm : lastMarks (op :: op' :: ops) (b :: b' :: es) = false) (h : We X a σ H fun x H1 => Wch X σ x (op :: op' :: ops) (b :: b' :: es) H1 Q) : We X (.Compare a (op :: op' :: ops) (b :: b' :: es) pos) σ H Q := ⟨fun pins s I =>
  Compare_chain (thn (h.run pins s I) fun v s1 ⟨x, H1, I1, r1, q1⟩ => q1.run pos pins s1 v I1 r1) hm⟩
structure Wct (X : Cx) (σ : L2.St) (x : V) (ops : List CmpOp) (es : List Expr) (H : Hp) (Q : Bool → Hp → Prop) : Prop where
  run : ∀ (pos : Pos) (pins : List (Addr × Obj)) (s : Shared) (v : Value), Inv X pins σ H s → RelV x v → wpAny (model X.prog X.w) X.A (testChain pos v ops (evalEach es X.env)) (TP X pins σ Q) X.xe s
theorem wct_last {x : V} {op : CmpOp} {Q : Bool → Hp → Prop} (h : We X e σ H fun y H1 => Cmp X op x y H1 (TB Q)) : Wct X σ x [op] [e] H Q := ⟨fun pos pins s v I r => by
  refine test_last (thn (h.run pins s I) fun u s1 ⟨y, H1, I1, r1, q1⟩ => thn (Cmp.ok pins s1 σ H1 x y v u _ I1 r r1 q1) fun d s2 ⟨z, H2, I2, r2, q3⟩ => ?_)
  obtain ⟨k, e2, q2⟩ := q3.ex
  subst e2
  cases r2
  exact wpAny_truthy_bool ⟨H2, I2, q2⟩⟩
theorem wct_link {x : V} {op op' : CmpOp} {ops : List CmpOp} {e' : Expr} {Q : Bool → Hp → Prop} (h : We X e σ H fun y H1 => Cmp X op x y H1 (TB fun k H2 => if k = true then Wct X σ y (op' :: ops) (e' :: es) H2 Q else Q false H2)) : Wct X σ x (op :: op' :: ops) (e :: e' :: es) H Q := ⟨fun pos pins s v I r => by
  refine test_link (thn (h.run pins s I) fun u s1 ⟨y, H1, I1, r1, q1⟩ => thn (Cmp.ok pins s1 σ H1 x y v u _ I1 r r1 q1) fun d s2 ⟨z, H2, I2, r2, q3⟩ => ?_)
  obtain ⟨k, e2, q2⟩ := q3.ex
  subst e2
  cases r2
  refine wpAny_truthy_bool ?_
  cases k with
  | false => exact ite_ff ⟨H2, I2, q2⟩
  | true => exact ite_tt (Wct.run q2 pos pins s2 u I2 r1)⟩
/-! ### tests -/
variable {R : Bool → Hp → Prop}
theorem wt_cmp {op : CmpOp} (hm : behindInMarks op b = false) (h : We X a σ H fun x H1 => We X b σ H1 fun y H2 => Cmp X op x y H2 (TB R)) : Wt X (.Compare a [op] [b] pos) σ H R := wt_of (pt_cmpR Cmp.ok We.pe We.pe hm) (we_mono h fun _ _ h1 => we_mono h1 fun _ _ h2 => cmp_tb h2 fun _ _ q => q.ex)
theorem wt_chain {op op' : CmpOp} {ops : List CmpOp} {b' : Expr} (hm : lastMarks (op :: op' :: ops) (b :: b' :: es) = false) (h : We X a σ H fun x H1 => Wct X σ x (op :: op' :: ops) (b :: b' :: es) H1 R) : Wt X (.Compare a (op :: op' :: ops) (b :: b' :: es) pos) σ H R := ⟨fun pins s I =>
  isTrue_chain (thn (h.run pins s I) fun v s1 ⟨x, H1, I1, r1, q1⟩ => q1.run pos pins s1 v I1 r1) hm⟩
theorem wt_val (h : We X e σ H (TB R)) (he : ∀ whole, isTrue e X.env whole = (do let v ← whole; standAt e.pos; holding [v] (truthy v)) := by intro _; rfl) : Wt X e σ H R := wt_of (pt_val We.pe he) (we_tb h)
theorem wt_not (h : Wt X a σ H fun k H1 => R (!k) H1) : Wt X (.UnaryOp .Not a pos) σ H R := wt_of (pt_not Wt.pt) h
theorem ww_and1 (h : Wt X a σ H R) : Ww X (.BoolOp .And [a] pos) σ H R := ⟨fun wh pins s I => (pw_and1 Wt.pt).run wh pins s σ H R I h⟩
theorem ww_or1 (h : Wt X a σ H R) : Ww X (.BoolOp .Or [a] pos) σ H R := ⟨fun wh pins s I => (pw_or1 Wt.pt).run wh pins s σ H R I h⟩
theorem ww_and (h : Wt X a σ H fun k H1 => if k = true then Ww X (.BoolOp .And (b :: rest) pos) σ H1 R else R false H1) : Ww X (.BoolOp .And (a :: b :: rest) pos) σ H R := ⟨fun wh pins s I => (pw_and Wt.pt Ww.pw).run wh pins s σ H R I h⟩
theorem ww_or (h : Wt X a σ H fun k H1 => if k = true then R true H1 else Ww X (.BoolOp .Or (b :: rest) pos) σ H1 R) : Ww X (.BoolOp .Or (a :: b :: rest) pos) σ H R := ⟨fun wh pins s I => (pw_or Wt.pt Ww.pw).run wh pins s σ H R I h⟩
theorem wt_ww (h : Ww X e σ H R) : Wt X e σ H R := ⟨fun pins s I => h.run _ pins s I⟩
theorem wt_truth (h : We X e σ H fun x H1 => ∃ k, TruV X.K x H1 k ∧ R k H1) (he : ∀ whole, isTrue e X.env whole = (do let v ← whole; standAt e.pos; holding [v] (truthy v)) := by intro _; rfl) : Wt X e σ H R := wt_of (pt_truth We.pe he) h

/-! ### statements -/
variable {st : Stmt} {sts body orelse : List Stmt}
theorem wss_nil (h : D.nx σ H) : Wss X [] D σ H := wss_of pss_nil h
theorem wss_cons (h : Ws X st { D with nx := fun σ' H' => Wss X sts D σ' H' } σ H) : Wss X (st :: sts) D σ H := wss_of (pss_cons Ws.ps Wss.pss) h
theorem wss_one (h : Ws X st D σ H) : Wss X [st] D σ H := wss_of (pss_one Ws.ps) h
theorem ws_expr (h : We X e σ H fun _ H1 => D.nx σ H1) (hs : swapsWith e none pos.line X.env = pure false := by rfl) : Ws X (.Expr e pos) D σ H := ws_of (ps_expr We.pe hs) h
theorem ws_ret (h : We X e σ H D.rt) : Ws X (.Return (some e) pos) D σ H := ws_of (ps_ret We.pe) h
theorem ws_if (h : Wt X c σ H fun k H1 => if k = true then Wss X body D σ H1 else Wss X orelse D σ H1) : Ws X (.If c body orelse pos) D σ H := ws_of (ps_if Wt.pt Wss.pss Wss.pss) h
theorem ws_pass (h : D.nx σ H) : Ws X (.Pass pos) D σ H := ws_of ps_pass h
theorem ws_break (h : D.bk σ H) : Ws X (.Break pos) D σ H := ws_of ps_break h
theorem ws_cont (h : D.ct σ H) : Ws X (.Continue pos) D σ H := ws_of ps_continue h
theorem ws_name (i : Nat) {x : Str} {pos' : Pos} (hN : X.N.Nodup) (hi : X.N[i]? = some x) (hx : Loc X.env.scope x) (h : We X e σ H fun v H1 => D.nx (σ.set i (some v)) H1)
    (hs : swapsWith e (some (.Name x pos')) pos.line X.env = pure false := by rfl) (hf : X.fn x = true ∨ X.env.scope.names.lookup x = some .local := by first | exact .inl rfl | exact .inr rfl | assumption) : Ws X (.Assign [.Name x pos'] e pos) D σ H := ws_of (ps_set hN hi hx We.pe hs hf) h
theorem ws_asg {tg : Expr} (h : We X e σ H fun v H1 => Wg X tg v σ H1 D.nx) (hs : swapsWithSole [tg] e pos.line X.env = pure false := by rfl) (hw : swappedStores [tg] e X.env = pure none := by rfl)
    (h1 : (assignEach [tg] X.env).map (·.2) = [assign tg X.env] := by rfl) : Ws X (.Assign [tg] e pos) D σ H := ws_of (ps_asg We.pe Wg.pg hs hw h1) h
theorem ws_aug (i : Nat) {x : Str} {pos' : Pos} {op : Operator} {y : V} (hN : X.N.Nodup) (hi : X.N[i]? = some x) (hx : Loc X.env.scope x) (hs : σ[i]? = some (some y)) (h : We X e σ H fun z H1 => Ipw X op y z H1 fun w H2 => D.nx (σ.set i (some w)) H2)
    (hf : X.fn x = true ∨ X.env.scope.names.lookup x = some .local := by first | exact .inl rfl | exact .inr rfl | assumption) : Ws X (.AugAssign (.Name x pos') op e pos) D σ H := ws_of (ps_aug hN hi hx We.pe Ipw.ok hf) ⟨y, hs, h⟩
/-! targets -/
variable {G : L2.St → Hp → Prop}
theorem wg_name (i : Nat) {x : Str} (hN : X.N.Nodup) (hi : X.N[i]? = some x) (hx : Loc X.env.scope x) (h : G (σ.set i (some v)) H) (hf : X.fn x = true ∨ X.env.scope.names.lookup x = some .local := by first | exact .inl rfl | exact .inr rfl | assumption) : Wg X (.Name x pos) v σ H G := wg_of (pg_name hN hi hx hf) h
theorem wg_sub (h : We X a σ H fun o H1 => We X b σ H1 fun i H2 => Setw X o i v H2 fun H3 => G σ H3)
    (ha : ∀ v, assign (.Subscript a b pos) X.env v = (do
      let ov ← holding [v] (eval a X.env)
      let iv ← holding [v, ov] (eval b X.env)
      standAt pos
      holding [v, ov, iv] (setItem ov iv v)
      release [v, ov, iv] []) := by intro _; rfl) : Wg X (.Subscript a b pos) v σ H G := wg_of (pg_sub We.pe We.pe Setw.ok ha) h
/-- two, three names -/
theorem wg_tup2 (i j : Nat) {x y : Str} {k : Nat} {px py : Pos} {q : Addr} {v w : V} (hN : X.N.Nodup) (hi : X.N[i]? = some x) (hj : X.N[j]? = some y) (hx : Loc X.env.scope x) (hy : Loc X.env.scope y) (hc : X.calm = true) (ht : SqT X.K H q [v, w])
    (h : G ((σ.set i (some v)).set j (some w)) H) (fx : X.fn x = true ∨ X.env.scope.names.lookup x = some .local := by first | exact .inl rfl | exact .inr rfl | assumption) (fy : X.fn y = true ∨ X.env.scope.names.lookup y = some .local := by first | exact .inl rfl | exact .inr rfl | assumption)
    (s1 : (assignEach [.Name x px, .Name y py] X.env).map (·.2) = assign (.Name x px) X.env :: (assignEach [.Name y py] X.env).map (·.2) := by rfl) (s2 : (assignEach [.Name y py] X.env).map (·.2) = assign (.Name y py) X.env :: (assignEach [] X.env).map (·.2) := by rfl)
    (hn : (assignEach [.Name x px, .Name y py] X.env).length = 2 := by rfl) (hst : (assignEach [.Name x px, .Name y py] X.env).findIdx? (·.1) = none := by rfl) :
    Wg X (.Tuple [.Name x px, .Name y py] k pos) (.ref q) σ H G :=
  wg_of (pg_tup hc (pgs_cons (pg_name hN hi hx fx) (pgs_cons (pg_name hN hj hy fy) pgs_nil s2) s1) hn hst) ⟨q, _, rfl, ht, rfl, v, _, rfl, w, _, rfl, rfl, h⟩
theorem wg_tup3 (i j l : Nat) {x y z : Str} {k : Nat} {px py pz : Pos} {q : Addr} {v w u : V} (hN : X.N.Nodup) (hi : X.N[i]? = some x) (hj : X.N[j]? = some y) (hl : X.N[l]? = some z) (hx : Loc X.env.scope x) (hy : Loc X.env.scope y) (hz : Loc X.env.scope z) (hc : X.calm = true) (ht : SqT X.K H q [v, w, u])
    (h : G (((σ.set i (some v)).set j (some w)).set l (some u)) H) (fx : X.fn x = true ∨ X.env.scope.names.lookup x = some .local := by first | exact .inl rfl | exact .inr rfl | assumption) (fy : X.fn y = true ∨ X.env.scope.names.lookup y = some .local := by first | exact .inl rfl | exact .inr rfl | assumption) (fz : X.fn z = true ∨ X.env.scope.names.lookup z = some .local := by first | exact .inl rfl | exact .inr rfl | assumption)
    (s1 : (assignEach [.Name x px, .Name y py, .Name z pz] X.env).map (·.2) = assign (.Name x px) X.env :: (assignEach [.Name y py, .Name z pz] X.env).map (·.2) := by rfl) (s2 : (assignEach [.Name y py, .Name z pz] X.env).map (·.2) = assign (.Name y py) X.env :: (assignEach [.Name z pz] X.env).map (·.2) := by rfl) (s3 : (assignEach [.Name z pz] X.env).map (·.2) = assign (.Name z pz) X.env :: (assignEach [] X.env).map (·.2) := by rfl)
    (hn : (assignEach [.Name x px, .Name y py, .Name z pz] X.env).length = 3 := by rfl) (hst : (assignEach [.Name x px, .Name y py, .Name z pz] X.env).findIdx? (·.1) = none := by rfl) :
    Wg X (.Tuple [.Name x px, .Name y py, .Name z pz] k pos) (.ref q) σ H G :=
  wg_of (pg_tup hc (pgs_cons (pg_name hN hi hx fx) (pgs_cons (pg_name hN hj hy fy) (pgs_cons (pg_name hN hl hz fz) pgs_nil s3) s2) s1) hn hst) ⟨q, _, rfl, ht, rfl, v, _, rfl, w, _, rfl, u, _, rfl, rfl, h⟩
end

/-! ### loops -/
section
variable {X : Cx} {σ : L2.St} {H : Hp} {Q : VK} {D : Ends} {a b c e it tg elt : Expr} {es rest ifs : List Expr} {pos p p2 : Pos} {v : V} {body : List Stmt} {R : It → Hp → Prop}
structure Wit (X : Cx) (tg it : Expr) (σ : L2.St) (H : Hp) (R : It → Hp → Prop) : Prop where
  run : ∀ (pins : List (Addr × Obj)) (s : Shared), Inv X pins σ H s → wpAny (model X.prog X.w) X.A (eval it X.env) (fun v s1 => wpAny (model X.prog X.w) X.A (pyIter v) (PIE X pins σ tg R) X.xe s1) X.xe s
theorem Wit.pi : PI X tg it (Wit X tg it) := ⟨fun pins s σ H R I h => h.run pins s I⟩
theorem wit_of {w : TI} (h : PI X tg it w) (q : w σ H R) : Wit X tg it σ H R := ⟨fun pins s I => h.run pins s σ H R I q⟩
theorem wit_list (h : We X it σ H fun v H1 => ∃ a, v = .ref a ∧ (∃ xs, SqL X.K H1 a xs) ∧ R (Itl X.K a) H1) : Wit X tg it σ H R := wit_of (pi_list We.pe) h
theorem wit_tup (h : We X it σ H fun v H1 => ∃ a, v = .ref a ∧ (∃ xs, SqT X.K H1 a xs) ∧ R (Itt X.K a) H1) : Wit X tg it σ H R := wit_of (pi_tup We.pe) h
theorem wit_range1 (hg : Gl X "range") (hm : X.mg "range" = none) (h : We X a σ H fun v H1 => ∃ j : Int, v = .int j ∧ -(2 ^ 62) ≤ j ∧ j < 2 ^ 62 ∧ R (Itr 0 j.toNat) H1) (he : starEach [a] X.env = (false, eval a X.env) :: starEach [] X.env := by rfl) : Wit X tg (.Call (.Name "range" p) [a] [] pos) σ H R :=
  wit_of (pi_range1 hg hm (pa_cons We.pe pa_nil he) he) (by
    refine ⟨fun pins s I => thn (h.run pins s I) fun u s1 ⟨v, H1, I1, r1, j, e, h1, h2, h3⟩ => ⟨v, H1, I1, r1, j, ?_, h1, h2, h3⟩⟩
    rw [e])
theorem wit_range2 (hg : Gl X "range") (hm : X.mg "range" = none) (h : We X a σ H fun v H1 => We X b σ H1 fun w H2 => ∃ i j : Int, v = .int i ∧ w = .int j ∧ (-(2 ^ 62) ≤ i ∧ i < 2 ^ 62 ∧ -(2 ^ 62) ≤ j ∧ j < 2 ^ 62) ∧ R (Itr i (j - i).toNat) H2) (he : starEach [a, b] X.env = (false, eval a X.env) :: starEach [b] X.env := by rfl) (hb : starEach [b] X.env = (false, eval b X.env) :: starEach [] X.env := by rfl) : Wit X tg (.Call (.Name "range" p) [a, b] [] pos) σ H R :=
  wit_of (pi_range2 hg hm (pa_cons We.pe (pa_cons We.pe pa_nil hb) he) (he.trans (by rw [hb]; rfl)) hb) (by
    refine ⟨fun pins s I => thn (h.run pins s I) fun u s1 ⟨v, H1, I1, r1, h2⟩ => ⟨v, H1, I1, r1, ⟨fun pins s I => thn (h2.run pins s I) fun u s1 ⟨w, H2, I2, r2, i, j, e1, e2, h3, h4⟩ => ⟨w, H2, I2, r2, i, j, ?_, h3, h4⟩⟩⟩⟩
    rw [e1, e2])
theorem wit_enum {elts : List Expr} {kk : Nat} {tpos : Pos} (hg : Gl X "enumerate") (hm : X.mg "enumerate" = none) (h : We X e σ H fun v H1 => ∃ a xs, v = .ref a ∧ SqL X.K H1 a xs ∧ R (Ite X.K a) H1) (he : starEach [e] X.env = (false, eval e X.env) :: starEach [] X.env := by rfl) : Wit X (.Tuple elts kk tpos) (.Call (.Name "enumerate" p) [e] [] pos) σ H R :=
  wit_of (pi_enum hg hm (pa_cons We.pe pa_nil he) he) (by
    refine ⟨fun pins s I => thn (h.run pins s I) fun u s1 ⟨v, H1, I1, r1, a, xs, e, h1, h2⟩ => ⟨v, H1, I1, r1, a, xs, ?_, h1, h2⟩⟩
    rw [e])
theorem wit_zip {elts : List Expr} {kk : Nat} {tpos : Pos} (hg : Gl X "zip") (hm : X.mg "zip" = none) (h : We X a σ H fun v H1 => We X b σ H1 fun w H2 => ∃ a b xs ys, v = .ref a ∧ w = .ref b ∧ SqL X.K H2 a xs ∧ SqL X.K H2 b ys ∧ R (Itz X.K a b) H2) (he : starEach [a, b] X.env = (false, eval a X.env) :: starEach [b] X.env := by rfl) (hb : starEach [b] X.env = (false, eval b X.env) :: starEach [] X.env := by rfl) : Wit X (.Tuple elts kk tpos) (.Call (.Name "zip" p) [a, b] [] pos) σ H R :=
  wit_of (pi_zip hg hm (pa_cons We.pe (pa_cons We.pe pa_nil hb) he) he (by rw [hb]; rfl)) (by
    refine ⟨fun pins s I => thn (h.run pins s I) fun u s1 ⟨v, H1, I1, r1, h2⟩ => ⟨v, H1, I1, r1, ⟨fun pins s I => thn (h2.run pins s I) fun u s1 ⟨w, H2, I2, r2, a, b, xs, ys, e1, e2, h3⟩ => ⟨w, H2, I2, r2, a, b, xs, ys, ?_, h3⟩⟩⟩⟩
    rw [e1, e2])
/-- what a for asks once its iterator is there -/
def ForW (X : Cx) (tg : Expr) (body : List Stmt) (D : Ends) (σ : L2.St) (J : It) (H : Hp) : Prop := ∃ (n : Nat) (G : Hp → Prop) (Y : Nat → Hp → V → Hp → Prop), Walk J n G Y ∧ ∃ Pv : Nat → L2.St → Hp → Prop, Pv 0 σ H ∧ (∀ i σ' H', i ≤ n → Pv i σ' H' → G H') ∧
  (∀ i x σ' H' H'', i < n → Pv i σ' H' → Y i H' x H'' → Wg X tg x σ' H'' fun σ2 H2 => Wss X body { D with nx := Pv (i + 1), ct := Pv (i + 1), bk := D.nx } σ2 H2) ∧ ∀ σ' H', Pv n σ' H' → D.nx σ' H'
theorem ws_for (h : Wit X tg it σ H (ForW X tg body D σ)) (hp : PassesOwn (model X.prog X.w) X.A X.env X.xe) (hc : X.calm = true) (hs : ∀ x, foldedSetIterable it X.env x = pure x := by intro _; rfl) : Ws X (.For tg it body [] pos) D σ H :=
  ws_of (ps_for hp hc Wit.pi Wg.pg Wss.pss hs) (by
    refine ⟨fun pins s I => thn (h.run pins s I) fun v s1 hv => thn hv fun itv s2 ⟨it, fp, tn, J, H', e1, I', T, t0, f0, n, G, Y, wk, Pv, h0, hG, hs, hd⟩ => ⟨it, fp, tn, J, H', e1, I', T, t0, f0, ?_⟩⟩
    exact for_it wk Pv h0 hG hs hd)
theorem ws_while (W : Nat → L2.St → Hp → Prop) (h0 : ∃ m, W m σ H) (hs : ∀ m σ H, W m σ H → Wt X c σ H fun k H1 => if k = true then Wss X body { D with nx := fun σ' H' => ∃ m', m' < m ∧ W m' σ' H', ct := fun σ' H' => ∃ m', m' < m ∧ W m' σ' H', bk := D.nx } σ H1 else D.nx σ H1)
    (hp : PassesOwn (model X.prog X.w) X.A X.env X.xe) : Ws X (.While c body [] pos) D σ H :=
  ws_of (ps_while hp Wt.pt Wss.pss) ⟨W, h0, fun m σ H w => by
    refine ⟨fun pins s I => thn ((hs m σ H w).run pins s I) fun k s1 ⟨H1, I1, q⟩ => ⟨H1, I1, ?_⟩⟩
    cases k with
    | true => exact iteT ⟨_, fun σ' H' z => z, q⟩
    | false => exact q⟩
/-- a comprehension: what is asked within its block -/
def Bl (X : Cx) (scope : Scope) (F : Cx → Prop) : Prop := ∀ (s : Shared) (H : Hp) (C : Addr) (cl : List (Str × Addr)) (fp : List Addr), F (X.blk s H scope (compEnvC scope cl C X.env) fp)
def Wts (X : Cx) : List Expr → TT
  | [] => tYes
  | [c] => Wt X c
  | _ => fun _ _ _ => False
theorem Wts.pts : ∀ {ifs : List Expr}, PTs X ifs (Wts X ifs)
  | [] => pts_nil
  | [_] => pts_one Wt.pt
  | _ :: _ :: _ => ⟨fun _ _ _ _ _ _ h => h.elim⟩
def LcW (X : Cx) (elt tg : Expr) (ifs : List Expr) (scope : Scope) (vs : List Nat) (σ : L2.St) (Q : VK) (J : It) (H1 : Hp) : Prop := ∀ Dl, H1 Dl = none → ∃ (n : Nat) (G : Hp → Prop) (Y : Nat → Hp → V → Hp → Prop), Walk J n G Y ∧ ∃ Pv : Nat → Hp → Prop, Pv 0 (upd H1 Dl (.lst [])) ∧ (∀ i H', i ≤ n → Pv i H' → G H') ∧
  (∀ i x H' H'', i < n → Pv i H' → Y i H' x H'' → Bl X scope fun Z => Wg Z tg x (wipe σ vs) H'' fun σ2 H2 => wipe σ2 vs = wipe σ vs ∧ Bl X scope fun Z => Wts Z ifs σ2 H2 fun k H3 =>
    if k = true then Bl X scope fun Z => We Z elt σ2 H3 fun y H4 => ∃ acc, H4 Dl = some (.lst acc) ∧ acc.length < sizeLine ∧ Pv (i + 1) (upd H4 Dl (.lst (acc ++ [y]))) else Pv (i + 1) H3) ∧ ∀ H', Pv n H' → Q (.ref Dl) H'
theorem lcw {scope : Scope} {vs : List Nat} {J : It} (h : LcW X elt tg ifs scope vs σ Q J H) : ∀ Dl, H Dl = none → ∃ W : Nat → Nat → Hp → Prop, (∃ m, W 0 m (upd H Dl (.lst []))) ∧ ∀ i m H, W i m H →
  (J.stop i H ∧ Q (.ref Dl) H) ∨ (J.go i H ∧ ∃ Nx : Hp → Prop, (∀ H', Nx H' → ∃ m', m' < m ∧ W (i + 1) m' H') ∧ ∀ x H', J.yld i H x H' → (fun v σ H Q => Bl X scope fun Z => Wg Z tg v σ H Q : TG) x (wipe σ vs) H' fun σ2 H2 => wipe σ2 vs = wipe σ vs ∧ (fun σ H Q => Bl X scope fun Z => Wts Z ifs σ H Q : TT) σ2 H2 fun b H3 =>
    if b = true then (fun σ H Q => Bl X scope fun Z => We Z elt σ H Q : TE) σ2 H3 fun y H4 => ∃ acc, H4 Dl = some (.lst acc) ∧ acc.length < sizeLine ∧ Nx (upd H4 Dl (.lst (acc ++ [y]))) else Nx H3) := fun Dl nD => by
  obtain ⟨n, G, Y, wk, Pv, h0, hG, hs, hd⟩ := h Dl nD
  exact lc_it (g := fun v σ H Q => Bl X scope fun Z => Wg Z tg v σ H Q) (tt := fun σ H Q => Bl X scope fun Z => Wts Z ifs σ H Q) (te := fun σ H Q => Bl X scope fun Z => We Z elt σ H Q) wk Pv h0 hG hs hd
theorem we_lc {scope : Scope} {own : List (Str × Nat)} (hc : X.calm = true) (hN : X.N.Nodup) (ok : BlkOk X.N X.env.scope scope own) (h : Wit X tg it σ H (LcW X elt tg ifs scope (own.map (·.2)) σ Q)) (hs : ∀ x, foldedSetIterable it X.env x = pure x := by intro _; rfl) :
    We X (.ListComp elt [⟨tg, it, ifs, 0⟩] scope pos) σ H Q := by
  refine we_of (pe_lc (g := fun v σ H Q => Bl X scope fun Z => Wg Z tg v σ H Q) (tt := fun σ H Q => Bl X scope fun Z => Wts Z ifs σ H Q) (te := fun σ H Q => Bl X scope fun Z => We Z elt σ H Q) hc hN Wit.pi ok ?_ ?_ ?_ hs) ?_
  · exact fun s H C cl fp => ⟨fun pins s' σ H' v u Q I r h => (h s H C cl fp).run pins s' u I r⟩
  · exact fun s H C cl fp => ⟨fun pins s' σ H' Q I h => Wts.pts.run pins s' σ H' Q I (h s H C cl fp)⟩
  · exact fun s H C cl fp => ⟨fun pins s' σ H' Q I h => (h s H C cl fp).run pins s' I⟩
  · exact ⟨fun pins s I => thn (h.run pins s I) fun v s1 hv => thn hv fun itv s2 ⟨it, fp, tn, J, H', e1, I', T, t0, f0, q⟩ => ⟨it, fp, tn, J, H', e1, I', T, t0, f0, lcw q⟩⟩
/-- name = [..] -/
theorem ws_setLc (i : Nat) {y : Str} {py spos : Pos} {scope : Scope} {own : List (Str × Nat)} (hc : X.calm = true) (hN : X.N.Nodup) (hy : X.N[i]? = some y) (hyl : X.env.scope.names.lookup y = some .local) (hsw : swapsWith (.ListComp elt [⟨tg, it, ifs, 0⟩] scope pos) (some (.Name y py)) spos.line X.env = pure true)
    (ok : BlkOk X.N X.env.scope scope own) (h : Wit X tg it σ H (LcW X elt tg ifs scope (own.map (·.2)) σ fun v H1 => D.nx (σ.set i (some v)) H1)) (hs : ∀ x, foldedSetIterable it X.env x = pure x := by intro _; rfl) :
    Ws X (.Assign [.Name y py] (.ListComp elt [⟨tg, it, ifs, 0⟩] scope pos) spos) D σ H := by
  refine ws_of (ps_setLc (i := i) (g := fun v σ H Q => Bl X scope fun Z => Wg Z tg v σ H Q) (tt := fun σ H Q => Bl X scope fun Z => Wts Z ifs σ H Q) (te := fun σ H Q => Bl X scope fun Z => We Z elt σ H Q) hc hN hy hyl hsw Wit.pi ok ?_ ?_ ?_ hs) ?_
  · exact fun s H C cl fp => ⟨fun pins s' σ H' v u Q I r h => (h s H C cl fp).run pins s' u I r⟩
  · exact fun s H C cl fp => ⟨fun pins s' σ H' Q I h => Wts.pts.run pins s' σ H' Q I (h s H C cl fp)⟩
  · exact fun s H C cl fp => ⟨fun pins s' σ H' Q I h => (h s H C cl fp).run pins s' I⟩
  · exact ⟨fun pins s I => thn (h.run pins s I) fun v s1 hv => thn hv fun itv s2 ⟨it, fp, tn, J, H', e1, I', T, t0, f0, q⟩ => ⟨it, fp, tn, J, H', e1, I', T, t0, f0, lcw q⟩⟩
end
end SL

/-! list(enumerate(xs)), list(zip(xs, ys)) -/
namespace SL
open PySem PySem.Spec PyProof.Rows L2

theorem adn {a b : Addr} (h : @LT.lt Nat _ a b ∨ @LT.lt Nat _ b a) : a ≠ b := fun e => by
  subst e
  rcases h with h | h <;> exact absurd h (Nat.lt_irrefl _)
/-- an iterator whose n items are new pairs, while at S a list is being filled -/
structure Src (prog : Program) (w : World) (A : Around) (I S : Addr) (wr : List Addr) (n : Nat) (Rel : Nat → Value → Value → Prop) (St : Nat → Heap → Prop) : Prop where
  off : S ∉ wr
  lt : ∀ i h, St i h → ∀ b ∈ wr, b < h.objs.size
  frame : ∀ i h h', St i h → (∀ b o, b ≠ S → h.get? b = some o → h'.get? b = some o) → St i h'
  item : ∀ i (s : Shared) (Q : Option Value → Shared → Prop) (E : Value → Shared → Prop), i < n → St i s.heap → S < s.heap.objs.size →
    (∀ k v h' tk, Rel i k v → h'.get? s.heap.objs.size = some { cls := .type "tuple", data := .seq #[k, v] } → St (i + 1) h' → (∀ b o, b ∉ wr → s.heap.get? b = some o → h'.get? b = some o) → Q (some (.ref s.heap.objs.size)) { s with heap := h', toks := tk }) →
    wpAny (model prog w) A (pyNext (.ref I)) Q E s
  done : ∀ (s : Shared) (Q : Option Value → Shared → Prop) (E : Value → Shared → Prop), St n s.heap → (∀ h' tk, (∀ b o, b ∉ wr → s.heap.get? b = some o → h'.get? b = some o) → Q none { s with heap := h', toks := tk }) → wpAny (model prog w) A (pyNext (.ref I)) Q E s

/-- the pairs made so far -/
structure Got (Rel : Nat → Value → Value → Prop) (lo : Nat) (h : Heap) (as : List Addr) : Prop where
  rise : as.Pairwise (· < ·)
  above : ∀ a ∈ as, lo ≤ a
  pairs : ∀ j a, as[j]? = some a → ∃ k v, Rel j k v ∧ h.get? a = some { cls := .type "tuple", data := .seq #[k, v] }
theorem Got.there {Rel : Nat → Value → Value → Prop} {lo : Nat} {h : Heap} {as : List Addr} (g : Got Rel lo h as) {a : Addr} (ha : a ∈ as) : a < h.objs.size := by
  obtain ⟨j, hj⟩ := List.mem_iff_getElem?.mp ha
  obtain ⟨_, _, _, e⟩ := g.pairs j a hj
  exact Heap.lt_size e

section
variable {prog : Program} {w : World} {A : Around} {s : Shared} {R : Result → Shared → Prop} {I S : Addr} {wr : List Addr} {n : Nat} {Rel : Nat → Value → Value → Prop} {St : Nat → Heap → Prop}
theorem ext_loop (W : Src prog w A.in1 I S wr n Rel St) (hn : n ≤ sizeLine) (res : Value) {h₁ : Heap} (lo : Nat) (hwl : ∀ b ∈ wr, b < lo) (hSl : S < lo)
    (hR : ∀ h' tk acc c as, (∀ b o, b ≠ S → b ∉ wr → h₁.get? b = some o → h'.get? b = some o) → h'.get? S = some { cls := .type "list", dict := none, data := .seq acc c, slots := #[] } → as.length = n → Got Rel lo h' as →
      acc.toList = as.map Value.ref → R (.ok (.ret res)) { s with heap := h', toks := tk }) :
    ∀ (k i : Nat) (h : Heap) (tk c : Nat) (acc : Array Value) (as : List Addr), n - i = k → i ≤ n → St i h → (∀ b o, b ≠ S → b ∉ wr → h₁.get? b = some o → h.get? b = some o) →
      h.get? S = some { cls := .type "list", dict := none, data := .seq acc c, slots := #[] } → acc.toList = as.map Value.ref → as.length = i → Got Rel lo h as → lo ≤ h.objs.size →
      codeAny (model prog w) A (.builtin "list.extend.loop" ⟨[.ref S, .ref I, res], []⟩) R { s with heap := h, toks := tk } := by
  intro k
  induction k with
  | zero =>
    intro i h tk c acc as hk hi hst hkeep hS hacc hal hG hlo
    have hin : i = n := by omega
    subst hin
    refine codeAny_builtin PySem.F.entry_extend_loop ?_
    rw [Around.under_plainId PySem.F.plain_extend_loop _]
    show wpAny _ A.in1 (pyNext (.ref I) >>= _) _ _ _
    refine wpAny_bind (W.done { s with heap := h, toks := tk } _ _ hst fun h' tk' he => ?_)
    refine wpAny_pure (hR h' tk' acc c as (fun b o h1 h2 e => he b o h2 (hkeep b o h1 h2 e)) (he S _ W.off hS) hal ⟨hG.rise, hG.above, fun j a hj => ?_⟩ hacc)
    obtain ⟨kk, x, e1, e3⟩ := hG.pairs j a hj
    exact ⟨kk, x, e1, he a _ (fun z => absurd (hwl a z) (Nat.not_lt.mpr (hG.above a (List.mem_of_getElem? hj)))) e3⟩
  | succ k ih =>
    intro i h tk c acc as hk hi hst hkeep hS hacc hal hG hlo
    have hlt : i < n := by omega
    have hsz : acc.size = i := by rw [← Array.length_toList, hacc, List.length_map, hal]
    refine codeAny_builtin PySem.F.entry_extend_loop ?_
    rw [Around.under_plainId PySem.F.plain_extend_loop _]
    show wpAny _ A.in1 (pyNext (.ref I) >>= _) _ _ _
    refine wpAny_bind (W.item i { s with heap := h, toks := tk } _ _ hlt hst (Heap.lt_size hS) fun kk x h' tk' hrel ht hst' hkp => ?_)
    dsimp only at ht hkp ⊢
    have hS' := hkp S _ W.off hS
    have up : ∀ b o, b ≠ S → h'.get? b = some o → (h'.update S (Obj.mapSeq (·.push (Value.ref h.objs.size)))).get? b = some o := fun b o hb e => (Heap.get?_update_other _ _ (Ne.symm hb)).trans e
    have hSl' : S < h.objs.size := Heap.lt_size hS
    show wpAny _ A.in1 (updateSeq S (·.push (Value.ref h.objs.size)) >>= _) _ _ _
    refine wpAny_bind ?_
    refine wpAny_updateSeq hS' rfl (wpAny_pure ⟨plainId_quiet PySem.F.plain_extend_loop _, ih (i + 1) _ tk' _ (acc.push (Value.ref h.objs.size)) (as ++ [h.objs.size]) (by omega) hlt (W.frame _ _ _ hst' up)
      (fun b o h1 h2 e => up b o h1 (hkp b o h2 (hkeep b o h1 h2 e))) (Heap.get?_update_self _ hS' rfl) (by rw [Array.toList_push, hacc, List.map_append]; rfl) (by rw [List.length_append, hal]; rfl) ⟨?_, ?_, ?_⟩ ?_⟩) (by rw [hsz]; omega) (by show (acc.push (Value.ref h.objs.size)).size ≤ sizeLine + 1; rw [Array.size_push, hsz]; omega)
    · refine List.pairwise_append.mpr ⟨hG.rise, List.pairwise_singleton _ _, fun a ha b hb => ?_⟩
      rw [List.mem_singleton.mp hb]
      exact hG.there ha
    · intro a ha
      rcases List.mem_append.mp ha with ha | ha
      · exact hG.above a ha
      · rw [List.mem_singleton.mp ha]; exact hlo
    · intro j b hj
      rcases Nat.lt_trichotomy j as.length with h1 | h1 | h1
      · rw [List.getElem?_append_left h1] at hj
        obtain ⟨k', x', e1, e3⟩ := hG.pairs j b hj
        have hb := hG.above b (List.mem_of_getElem? hj)
        exact ⟨k', x', e1, up b _ (Nat.ne_of_gt (Nat.lt_of_lt_of_le hSl hb)) (hkp b _ (fun z => absurd (hwl b z) (Nat.not_lt.mpr hb)) e3)⟩
      · subst h1
        have hb : h.objs.size = b := by simpa using hj
        subst hb
        exact ⟨kk, x, by rw [hal]; exact hrel, up _ _ (Nat.ne_of_gt hSl') ht⟩
      · have hnone : (as ++ [h.objs.size])[j]? = none := List.getElem?_eq_none (by rw [List.length_append, List.length_singleton]; omega)
        rw [hnone] at hj; cases hj
    · have e : (h'.update S (Obj.mapSeq (·.push (Value.ref h.objs.size)))).get? h.objs.size = _ := up _ _ (Nat.ne_of_gt hSl') ht
      exact Nat.le_of_lt (Nat.lt_of_le_of_lt hlo (Heap.lt_size e))
end

theorem zip_no_len : typeLookup (.type "zip") "__len__" = pure none := by rw [typeLookup_type, builtinLookup_eq_fast]; kernel_rfl
theorem zip_no_hint : typeLookup (.type "zip") "__length_hint__" = pure none := by rw [typeLookup_type, builtinLookup_eq_fast]; kernel_rfl
theorem enum_no_len : typeLookup (.type "enumerate") "__len__" = pure none := by rw [typeLookup_type, builtinLookup_eq_fast]; kernel_rfl
theorem enum_no_hint : typeLookup (.type "enumerate") "__length_hint__" = pure none := by rw [typeLookup_type, builtinLookup_eq_fast]; kernel_rfl

section
variable {prog : Program} {w : World} {A : Around} {s : Shared} {E : Value → Shared → Prop} {I : Addr} {wr : List Addr} {n : Nat} {Rel : Nat → Value → Value → Prop} {T : String}
theorem ext_with {R : Result → Shared → Prop} {S : Addr} {St : Nat → Heap → Prop} (W : Src prog w A.in1 I S wr n Rel St) (hT : ∀ s : Shared, St 0 s.heap → s.TypeIs (.ref I) T) (hself : ∀ (A : Around) (s : Shared) (Q : Value → Shared → Prop) (E : Value → Shared → Prop), St 0 s.heap → Q (.ref I) s → wpAny (model prog w) A (pyIter (.ref I)) Q E s)
    (n1 : (Value.type T == Value.type "list") = false) (n2 : (Value.type T == Value.type "tuple") = false) (n3 : typeLookup (.type T) "__len__" = pure none) (n4 : typeLookup (.type T) "__length_hint__" = pure none)
    (hIS : S ≠ I) (res : Value) (c₀ : Nat) (hst : St 0 s.heap) (hS : s.heap.get? S = some { cls := .type "list", data := .seq #[] c₀ })
    (hR : ∀ h' tk acc c as, (∀ b o, b ≠ S → b ∉ wr → s.heap.get? b = some o → h'.get? b = some o) → h'.get? S = some { cls := .type "list", dict := none, data := .seq acc c, slots := #[] } → as.length = n → Got Rel s.heap.objs.size h' as →
      acc.toList = as.map Value.ref → R (.ok (.ret res)) { s with heap := h', toks := tk }) (hn : n ≤ sizeLine) :
    wpAny (model prog w) A.in1 (Builtin.List.listExtendWith (.ref S) (.ref I) res)
      (fun fin s' => match fin with | .done f => R (.ok f) s' | .again c' => c'.quiet = true ∧ codeAny (model prog w) A c' R s') (fun e s' => R (.error e) s') s := by
  unfold Builtin.List.listExtendWith
  refine wpAny_bind (wpAny_typeOf (hT _ hst) ?_)
  have h1 : Builtin.List.listSameRef (.ref S) (.ref I) = false := by simp [Builtin.List.listSameRef, hIS]
  simp only [h1, n1, n2, Bool.or_false, Bool.false_eq_true, if_false]
  refine wpAny_bind (hself _ _ _ _ hst ?_)
  refine wpAny_bind (wpAny_holding ?_)
  unfold Builtin.List.listLengthHint
  refine wpAny_bind (wpAny_specialOf (hT _ hst) n3 ?_)
  show wpAny _ A.in1 (specialOf (Value.ref I) (Str.ofString "__length_hint__") >>= _) _ _ _
  refine wpAny_bind (wpAny_specialOf (hT _ hst) n4 ?_)
  refine wpAny_pure ?_
  show wpAny _ A.in1 (rule "list.extend.makes-room" >>= fun _ => Builtin.List.listTouch (.ref S) >>= fun _ =>
    again (.builtin "list.extend.loop" ⟨[.ref S, .ref I, res], []⟩)) _ _ _
  refine wpAny_bind (wpAny_rule ?_)
  refine wpAny_bind ?_
  show wpAny _ A.in1 (updateSeq S (·.push .none) >>= fun _ => updateSeq S (·.pop)) _ _ _
  refine wpAny_bind (wpAny_updateSeq hS rfl ?_)
  have hS₂ := Heap.get?_update_self (Obj.mapSeq (·.push Value.none)) hS rfl
  refine wpAny_updateSeq (hz := by seq_fits) hS₂ rfl ?_
  have hS₃ := Heap.get?_update_self (Obj.mapSeq (·.pop)) hS₂ rfl
  have oth : ∀ b o, b ≠ S → s.heap.get? b = some o → ((s.heap.update S (Obj.mapSeq (·.push Value.none))).update S (Obj.mapSeq (·.pop))).get? b = some o :=
    fun b o hb e => (Heap.get?_update_other _ _ (Ne.symm hb)).trans ((Heap.get?_update_other _ _ (Ne.symm hb)).trans e)
  have hsz : ((s.heap.update S (Obj.mapSeq (·.push Value.none))).update S (Obj.mapSeq (·.pop))).objs.size = s.heap.objs.size := by
    simp [Heap.update]
  refine wpAny_pure ⟨plainId_quiet F.plain_extend_loop _, ?_⟩
  refine ext_loop (s := s) (h₁ := s.heap) W hn res s.heap.objs.size (W.lt 0 _ hst) (Heap.lt_size hS) hR n 0 _ _ _ #[] [] rfl (Nat.zero_le _) (W.frame 0 _ _ hst oth) (fun b o hb _ e => oth b o hb e) hS₃ rfl rfl ⟨List.Pairwise.nil, (fun _ ha => nomatch ha), (fun j a hj => by simp at hj)⟩ (Nat.le_of_eq hsz.symm)
/-- list(I), I an iterator of new pairs -/
theorem call_list_src {Q : Value → Shared → Prop} {St : Nat → Heap → Prop} (W : Src prog w A.in1.in1 I s.heap.objs.size wr n Rel St) (hT : ∀ s : Shared, St 0 s.heap → s.TypeIs (.ref I) T) (hself : ∀ (A : Around) (s : Shared) (Q : Value → Shared → Prop) (E : Value → Shared → Prop), St 0 s.heap → Q (.ref I) s → wpAny (model prog w) A (pyIter (.ref I)) Q E s)
    (n1 : (Value.type T == Value.type "list") = false) (n2 : (Value.type T == Value.type "tuple") = false) (n3 : typeLookup (.type T) "__len__" = pure none) (n4 : typeLookup (.type T) "__length_hint__" = pure none)
    (hI : I < s.heap.objs.size) (hst : St 0 s.heap)
    (hQ : ∀ h' tk acc c as, (∀ b o, b ∉ wr → s.heap.get? b = some o → h'.get? b = some o) → h'.get? s.heap.objs.size = some { cls := .type "list", dict := none, data := .seq acc c, slots := #[] } → as.length = n → Got Rel (s.heap.objs.size + 1) h' as →
      acc.toList = as.map Value.ref → Q (.ref s.heap.objs.size) { s with heap := h', toks := tk }) (hn : n ≤ sizeLine) :
    wpAny (model prog w) A (call (.type "list") [.ref I]) Q E s := by
  refine callType_codes (Q₁ := fun obj s₁ => obj = .ref s.heap.objs.size ∧ s₁ = { s with heap := s.heap.push { cls := .type "list", data := .seq #[] } }) F.called_list (F.typeCall_list_1 _) F.entry_list_init
    (code_list_new _ ⟨rfl, rfl⟩) fun obj s₁ h₁ => ?_
  obtain ⟨rfl, rfl⟩ := h₁
  have hS : (s.heap.push { cls := .type "list", data := .seq #[] }).get? s.heap.objs.size = some { cls := .type "list", data := .seq #[] } := Heap.get?_push_size _ rfl
  refine ⟨⟨_, hS, rfl⟩, F.args_list_init_2 _ _, ?_⟩
  show wpAny _ A.in1.in1 (do let old ← Builtin.List.listItems (.ref s.heap.objs.size); Builtin.List.listUpdate (.ref s.heap.objs.size) (fun _ => #[]); letGo old.toList.reverse; Builtin.List.listExtendWith (.ref s.heap.objs.size) (.ref I) .none) _ _ _
  refine wpAny_bind ?_
  unfold Builtin.List.listItems
  refine wpAny_bind (wpAny_seqItems hS rfl (wpAny_pure ?_))
  show wpAny _ A.in1.in1 (updateSeq s.heap.objs.size (fun _ => #[]) >>= fun _ => letGo (#[] : Array Value).toList.reverse >>= fun _ => Builtin.List.listExtendWith (.ref s.heap.objs.size) (.ref I) .none) _ _ _
  refine wpAny_bind (wpAny_updateSeq hS rfl ?_)
  have hS₂ := Heap.get?_update_self (Obj.mapSeq (fun _ => (#[] : Array Value))) hS rfl
  have oth : ∀ b o, s.heap.get? b = some o → ((s.heap.push { cls := .type "list", data := .seq #[] }).update s.heap.objs.size (Obj.mapSeq (fun _ => (#[] : Array Value)))).get? b = some o :=
    fun b o e => (Heap.get?_update_other _ _ (Nat.ne_of_gt (Heap.lt_size e))).trans (Heap.get?_push_of_some _ e)
  have hsz : ((s.heap.push { cls := .type "list", data := .seq #[] }).update s.heap.objs.size (Obj.mapSeq (fun _ => (#[] : Array Value)))).objs.size = s.heap.objs.size + 1 := by
    rw [← Heap.size_push (h := s.heap) { cls := .type "list", data := .seq #[] }]
    simp [Heap.update]
  refine wpAny_bind (wpAny_letGo ?_)
  refine ext_with W hT hself n1 n2 n3 n4 (Nat.ne_of_gt hI) .none _ (W.frame 0 _ _ hst fun b o _ e => oth b o e) hS₂ (fun h' tk acc c as hk hS' hl hG hacc => ?_) hn
  have hG : Got Rel (s.heap.objs.size + 1) h' as := hsz ▸ hG
  exact ⟨rfl, hQ h' tk acc c as (fun b o hb e => hk b o (Nat.ne_of_lt (Heap.lt_size e)) hb (oth b o e)) hS' hl hG hacc⟩
end

section
variable {prog : Program} {w : World} {A : Around}
theorem src_zip (hA : A.handled = none) (z TI TO i1 i2 l1 l2 S : Addr) (D : ZipApart z TI TO i1 i2 l1 l2) (xs ys : Array Value) (dz : S ≠ z) (dTI : S ≠ TI) (dTO : S ≠ TO) (di1 : S ≠ i1) (di2 : S ≠ i2) (dl1 : S ≠ l1) (dl2 : S ≠ l2) :
    Src prog w A z S [z, TO, i1, i2] (min xs.size ys.size) (fun i k v => xs[i]? = some k ∧ ys[i]? = some v)
      (fun i h => IsPair h TI (.ref i1) (.ref i2) ∧ h.IsListIter i1 l1 i ∧ h.IsListIter i2 l2 i ∧ h.IsList l1 xs ∧ h.IsList l2 ys ∧ (∃ o, h.get? z = some o ∧ o.cls = .type "zip") ∧ (∃ o, h.get? TO = some o) ∧
        ((IsZip h z TI TO .none ∧ ∃ a b, IsPair h TO a b) ∨ (0 < i ∧ ∃ T f oT, IsZipHeld h z TI TO T f ∧ h.get? T = some oT ∧ T ≠ z ∧ T ≠ i1 ∧ T ≠ i2 ∧ T ≠ S))) where
  off := fun hm => by
    simp only [List.mem_cons, List.not_mem_nil, or_false] at hm
    rcases hm with e | e | e | e
    · exact dz e
    · exact dTO e
    · exact di1 e
    · exact di2 e
  lt := fun i h st b hb => by
    obtain ⟨_, ⟨o1, h1, _⟩, ⟨o2, h2, _⟩, _, _, ⟨oz, hz, _⟩, ⟨ot, hTO⟩, _⟩ := st
    simp only [List.mem_cons, List.not_mem_nil, or_false] at hb
    rcases hb with rfl | rfl | rfl | rfl
    · exact Heap.lt_size hz
    · exact Heap.lt_size hTO
    · exact Heap.lt_size h1
    · exact Heap.lt_size h2
  frame := fun i h₁ h₂ st hk => by
    obtain ⟨hTI, h1, h2, hl1, hl2, ⟨oz, hz0, hz1⟩, ⟨ot, ht0⟩, hz⟩ := st
    refine ⟨hk _ _ (Ne.symm dTI) hTI, h1.at fun o e => hk _ o (Ne.symm di1) e, h2.at fun o e => hk _ o (Ne.symm di2) e, hl1.at fun o e => hk _ o (Ne.symm dl1) e, hl2.at fun o e => hk _ o (Ne.symm dl2) e, ⟨oz, hk _ _ (Ne.symm dz) hz0, hz1⟩, ⟨ot, hk _ _ (Ne.symm dTO) ht0⟩, ?_⟩
    rcases hz with ⟨hz, a, b, hTO⟩ | ⟨hi, T, f, oT, hz, hT, r1, r2, r3, r4⟩
    · exact .inl ⟨hk _ _ (Ne.symm dz) hz, a, b, hk _ _ (Ne.symm dTO) hTO⟩
    · exact .inr ⟨hi, T, f, oT, hk _ _ (Ne.symm dz) hz, hk _ _ r4 hT, r1, r2, r3, r4⟩
  item := fun i s₁ Q₁ E₁ hi st hds hQ => by
    obtain ⟨hTI, h1, h2, hl1, hl2, ⟨oz, hz0, hz1⟩, ⟨ot, ht0⟩, hz⟩ := st
    have hix : i < xs.size := Nat.lt_of_lt_of_le hi (Nat.min_le_left ..)
    have hiy : i < ys.size := Nat.lt_of_lt_of_le hi (Nat.min_le_right ..)
    have ex := Array.getElem?_eq_getElem hix
    have ey := Array.getElem?_eq_getElem hiy
    have lt : ∀ {c o}, s₁.heap.get? c = some o → s₁.heap.objs.size ≠ c := fun e => Nat.ne_of_gt (Heap.lt_size e)
    have n1 : s₁.heap.objs.size ≠ i1 := let ⟨_, e, _⟩ := h1; lt e
    have n2 : s₁.heap.objs.size ≠ i2 := let ⟨_, e, _⟩ := h2; lt e
    rcases hz with ⟨hz, a, b, hTO⟩ | ⟨_, T, f, oT, hz, hT, r1, r2, r3, r4⟩
    · refine wpAny_pyNext_zip_item D hz hTI hTO h1 h2 hl1 hl2 ex ey fun h' a1 a2 a3 a4 a5 a6 hk => ?_
      exact hQ _ _ h' s₁.toks ⟨ex, ey⟩ a5
        ⟨hk _ _ D.TIz D.TITO D.TIi1 D.TIi2 hTI, a3, a4, hl1.at fun o e => hk _ o D.l1z D.l1TO D.l1i1 D.l1i2 e, hl2.at fun o e => hk _ o D.l2z D.l2TO D.l2i1 D.l2i2 e, ⟨_, a1, rfl⟩, ⟨_, a2⟩,
          .inr ⟨Nat.succ_pos i, s₁.heap.objs.size, false, _, a1, a5, lt hz, n1, n2, Nat.ne_of_gt hds⟩⟩
        fun c o hc e => hk c o (fun x => hc (by simp [x])) (fun x => hc (by simp [x])) (fun x => hc (by simp [x])) (fun x => hc (by simp [x])) e
    · refine wpAny_pyNext_zip_item_held D hz hT hTI h1 h2 hl1 hl2 ex ey fun h' a1 a3 a4 a5 a6 hk => ?_
      exact hQ _ _ h' s₁.toks ⟨ex, ey⟩ a5
        ⟨hk _ _ D.TIz D.TIi1 D.TIi2 hTI, a3, a4, hl1.at fun o e => hk _ o D.l1z D.l1i1 D.l1i2 e, hl2.at fun o e => hk _ o D.l2z D.l2i1 D.l2i2 e, ⟨_, a1, rfl⟩, ⟨ot, hk _ _ D.TOz D.TOi1 D.TOi2 ht0⟩,
          .inr ⟨Nat.succ_pos i, T, true, oT, a1, hk _ _ r1 r2 r3 hT, r1, r2, r3, r4⟩⟩
        fun c o hc e => hk c o (fun x => hc (by simp [x])) (fun x => hc (by simp [x])) (fun x => hc (by simp [x])) e
  done := fun s₁ Q₁ E₁ st hQ => by
    obtain ⟨hTI, h1, h2, hl1, hl2, _, _, hz⟩ := st
    have hend : xs[min xs.size ys.size]? = none ∨ ys[min xs.size ys.size]? = none := by
      rcases Nat.le_total xs.size ys.size with h | h
      · exact .inl (Array.getElem?_eq_none (by rw [Nat.min_eq_left h]; exact Nat.le_refl _))
      · exact .inr (Array.getElem?_eq_none (by rw [Nat.min_eq_right h]; exact Nat.le_refl _))
    rcases hz with ⟨hz, a, b, hTO⟩ | ⟨_, T, f, oT, hz, hT, r1, r2, r3, r4⟩
    · exact wpAny_pyNext_zip_end hA D hz hTI hTO h1 h2 hl1 hl2 hend fun h' hk => hQ h' s₁.toks fun c o hc e => hk c o (fun x => hc (by simp [x])) (fun x => hc (by simp [x])) (fun x => hc (by simp [x])) (fun x => hc (by simp [x])) e
    · exact wpAny_pyNext_zip_end_held hA D hz hT hTI h1 h2 hl1 hl2 hend fun h' hk => hQ h' s₁.toks fun c o hc e => hk c o (fun x => hc (by simp [x])) (fun x => hc (by simp [x])) (fun x => hc (by simp [x])) e
theorem src_enum (hA : A.handled = none) (e it l S : Addr) (hei : e ≠ it) (hle : l ≠ e) (hli : l ≠ it) (items : Array Value) (de : S ≠ e) (dit : S ≠ it) (dl : S ≠ l) :
    Src prog w A e S [e, it] items.size (fun i k v => (∃ t, k = .int i t) ∧ items[i]? = some v)
      (fun i h => h.IsListIter it l i ∧ h.IsList l items ∧ (∃ o, h.get? e = some o ∧ o.cls = .type "enumerate") ∧ ((∃ old, IsEnum h e it i old) ∨ (0 < i ∧ ∃ old T f oT, IsEnumHeld h e it i old T f ∧ h.get? T = some oT ∧ T ≠ e ∧ T ≠ it ∧ T ≠ S))) where
  off := fun hm => by
    simp only [List.mem_cons, List.not_mem_nil, or_false] at hm
    rcases hm with x | x
    · exact de x
    · exact dit x
  lt := fun i h st b hb => by
    obtain ⟨⟨o1, h1, _⟩, _, ⟨oe, he, _⟩, _⟩ := st
    simp only [List.mem_cons, List.not_mem_nil, or_false] at hb
    rcases hb with rfl | rfl
    · exact Heap.lt_size he
    · exact Heap.lt_size h1
  frame := fun i h₁ h₂ st hk => by
    obtain ⟨hit, hl, ⟨oe, he0, he1⟩, he⟩ := st
    refine ⟨hit.at fun o x => hk _ o (Ne.symm dit) x, hl.at fun o x => hk _ o (Ne.symm dl) x, ⟨oe, hk _ _ (Ne.symm de) he0, he1⟩, ?_⟩
    rcases he with ⟨old, he⟩ | ⟨hi, old, T, f, oT, he, hT, r1, r2, r3⟩
    · exact .inl ⟨old, hk _ _ (Ne.symm de) he⟩
    · exact .inr ⟨hi, old, T, f, oT, hk _ _ (Ne.symm de) he, hk _ _ r3 hT, r1, r2, r3⟩
  item := fun i s₁ Q₁ E₁ hi st hds hQ => by
    obtain ⟨hit, hl, ⟨oe, he0, he1⟩, he⟩ := st
    have ex := Array.getElem?_eq_getElem hi
    have ec : ((i + 1 : Nat) : Int) = (i : Int) + 1 := by omega
    have nit : s₁.heap.objs.size ≠ it := let ⟨_, x, _⟩ := hit; Nat.ne_of_gt (Heap.lt_size x)
    rcases he with ⟨old, he⟩ | ⟨_, old, T, f, oT, he, hT, r1, r2, r3⟩
    · refine wpAny_pyNext_enum_item he hit hl ex hei fun h' ho hit' hT hsz hk => ?_
      exact hQ _ _ h' (s₁.toks + 1) ⟨⟨_, rfl⟩, ex⟩ hT
        ⟨hit', hl.at fun o x => hk l o hle hli x, ⟨_, ho, rfl⟩, .inr ⟨Nat.succ_pos i, _, s₁.heap.objs.size, false, _, (by rw [ec]; exact ho), hT, Nat.ne_of_gt (Heap.lt_size he), nit, Nat.ne_of_gt hds⟩⟩
        fun b o hb x => hk b o (fun y => hb (by simp [y])) (fun y => hb (by simp [y])) x
    · refine wpAny_pyNext_enum_item_held he hT r1 r2 hit hl ex hei fun h' ho hit' hT' hsz hk => ?_
      exact hQ _ _ h' (s₁.toks + 1) ⟨⟨_, rfl⟩, ex⟩ hT'
        ⟨hit', hl.at fun o x => hk l o hle hli x, ⟨_, ho, rfl⟩, .inr ⟨Nat.succ_pos i, old, T, true, oT, (by rw [ec]; exact ho), hk _ _ r1 r2 hT, r1, r2, r3⟩⟩
        fun b o hb x => hk b o (fun y => hb (by simp [y])) (fun y => hb (by simp [y])) x
  done := fun s₁ Q₁ E₁ st hQ => by
    obtain ⟨hit, hl, _, he⟩ := st
    have hx : items[items.size]? = none := Array.getElem?_eq_none (Nat.le_refl _)
    rcases he with ⟨old, he⟩ | ⟨_, old, T, f, oT, he, hT, r1, r2, r3⟩
    · exact wpAny_pyNext_enum_end hA he hit hl hx fun h' hk => hQ h' s₁.toks fun b o hb x => hk b o (fun y => hb (by simp [y])) x
    · exact wpAny_pyNext_enum_end_held hA he hit hl hx fun h' hk => hQ h' s₁.toks fun b o hb x => hk b o (fun y => hb (by simp [y])) x
end

/-! ### the same over the abstract heap -/
/-- pairs tracked at their addresses -/
def putP : Hp → List Addr → List (V × V) → Hp
  | H, a :: as, p :: ps => putP (upd H a (.tup [p.1, p.2])) as ps
  | H, _, _ => H
theorem putP_off {b : Addr} : ∀ (as : List Addr) (ps : List (V × V)) (H : Hp), b ∉ as → putP H as ps b = H b
  | [], _, _, _ => rfl
  | _ :: _, [], _, _ => rfl
  | a :: as, p :: ps, H, h => by
    show putP (upd H a (.tup [p.1, p.2])) as ps b = H b
    rw [putP_off as ps _ (fun z => h (List.mem_cons_of_mem _ z)), upd_ne (fun z => h (by rw [z]; exact List.mem_cons_self))]
theorem putP_at : ∀ (as : List Addr) (ps : List (V × V)) (H : Hp), as.length = ps.length → as.Nodup → ∀ (j : Nat) (a : Addr) (p : V × V), as[j]? = some a → ps[j]? = some p → putP H as ps a = some (.tup [p.1, p.2])
  | [], _, _, _, _, _, _, _, e, _ => by simp at e
  | _ :: _, [], _, h, _, _, _, _, _, _ => by cases h
  | a :: as, p :: ps, H, h, hn, 0, b, q, e1, e2 => by
    have e1 := Option.some.inj e1
    have e2 := Option.some.inj e2
    subst e1 e2
    show putP (upd H a (.tup [p.1, p.2])) as ps a = _
    rw [putP_off as ps _ (List.nodup_cons.mp hn).1, upd_same]
  | a :: as, p :: ps, H, h, hn, j + 1, b, q, e1, e2 => putP_at as ps _ (Nat.succ.inj h) (List.nodup_cons.mp hn).2 j b q e1 e2
theorem vals_refs : ∀ as : List Addr, Vals (as.map V.ref) (as.map Value.ref)
  | [] => .nil
  | _ :: as => .cons rfl (vals_refs as)
/-- new pairs and a new list of them are laid and tracked -/
theorem pairs_laid {X : Cx} {pins : List (Addr × Obj)} {σ : L2.St} {H : Hp} {s : Shared} {h' : Heap} {tk : Nat} {S : Addr} {ps : List (V × V)} {acc : Array Value} {c : Nat} {as : List Addr} {Rel : Nat → Value → Value → Prop} (I : Inv X pins σ H s) (hz : ps.length ≤ sizeLine) (hSs : s.heap.objs.size ≤ S)
    (hk : ∀ b o, s.heap.get? b = some o → h'.get? b = some o) (hS : h'.get? S = some { cls := .type "list", dict := none, data := .seq acc c, slots := #[] }) (hl : as.length = ps.length) (hG : Got Rel (S + 1) h' as) (hacc : acc.toList = as.map Value.ref)
    (hrel : ∀ (j : Nat) (p : V × V) (k v : Value), ps[j]? = some p → Rel j k v → RelV p.1 k ∧ RelV p.2 v) :
    ∃ H' : Hp, (∀ b o, H b = some o → H' b = some o) ∧ H S = none ∧ (∀ t ∈ as, H t = none) ∧ H' S = some (.lst (as.map V.ref)) ∧ (∀ (j : Nat) (a : Addr) (p : V × V), as[j]? = some a → ps[j]? = some p → H' a = some (.tup [p.1, p.2])) ∧ Inv X pins σ H' { s with heap := h', toks := tk } := by
  have hSn : S ∉ as := fun z => absurd (hG.above _ z) (by omega)
  have nd : as.Nodup := List.Pairwise.imp (fun {a b} (h : a < b) => Nat.ne_of_lt h) hG.rise
  have new : ∀ t ∈ as, H t = none := fun t ht => I.hok.fresh (by have := hG.above t ht; omega)
  have newS : H S = none := I.hok.fresh hSs
  have atP := putP_at as ps (upd H S (.lst (as.map V.ref))) hl nd
  have off : ∀ b, b ∉ as → b ≠ S → putP (upd H S (.lst (as.map V.ref))) as ps b = H b := fun b h1 h2 => by rw [putP_off as ps _ h1, upd_ne h2]
  have low : ∀ b o, s.heap.get? b = some o → b ∉ as ∧ b ≠ S := fun b o e => ⟨fun z => Nat.lt_irrefl b (Nat.lt_of_lt_of_le (Heap.lt_size e) (Nat.le_trans hSs (Nat.le_of_succ_le (hG.above b z)))), adn (.inl (Nat.lt_of_lt_of_le (Heap.lt_size e) hSs))⟩
  have kp : ∀ b u, H b = some u → (putP (upd H S (.lst (as.map V.ref))) as ps) b = some u := fun b u e => by
    rw [off b (fun z => by rw [new b z] at e; cases e) (fun z => by rw [z, newS] at e; cases e)]
    exact e
  have eS : putP (upd H S (.lst (as.map V.ref))) as ps S = some (.lst (as.map V.ref)) := by rw [putP_off as ps _ hSn, upd_same]
  refine ⟨putP (upd H S (.lst (as.map V.ref))) as ps, kp, newS, new, eS, atP, ?_⟩
  refine I.call' (ch := []) rfl ⟨fun b o q _ _ _ => hk b o q, fun b o q _ _ _ => ⟨o.slots, hk b o q⟩, fun b o q n _ => ?_, fun b o q _ => ⟨o, hk b o q⟩, fun b xs q => kp b _ q, fun b o u q => kp b _ q, fun b ps q => ⟨#[], by rw [kp b _ q]; simp⟩⟩ (fun b u q => ?_) I.bare fun b z => by simp at z
  · obtain ⟨z1, z2⟩ := low b o q
    rw [off b z1 z2]
    exact n
  · by_cases hb : b ∈ as
    · obtain ⟨j, hj⟩ := List.mem_iff_getElem?.mp hb
      have hjl : j < ps.length := by rw [← hl]; exact (List.getElem?_eq_some_iff.mp hj).1
      have e3 := atP j b _ hj (List.getElem?_eq_getElem hjl)
      rw [e3] at q
      cases q
      obtain ⟨k, v, f1, f3⟩ := hG.pairs j b hj
      obtain ⟨r1, r2⟩ := hrel j _ k v (List.getElem?_eq_getElem hjl) f1
      exact ⟨by show 2 ≤ sizeLine; decide, [k, v], .cons r1 (.cons r2 .nil), ⟨_, f3, rfl, _, rfl⟩⟩
    · by_cases hb2 : b = S
      · rw [hb2] at q ⊢
        rw [eS] at q
        cases q
        refine ⟨by rw [List.length_map]; omega, acc.toList, c, by rw [hacc]; exact vals_refs as, ?_⟩
        rw [Array.toArray_toList]
        exact hS
      · rw [off b hb hb2] at q
        exact (I.hok b u q).stay (fun d v _ y => hk d v y) (fun d y => kp d _ y) fun d xs y => kp d _ y
/-- what a new list of new pairs is -/
def NewPairs (H : Hp) (ps : List (V × V)) (Q : VK) : Prop := ∀ (H' : Hp) (p : Addr) (ts : List Addr), (∀ b o, H b = some o → H' b = some o) → H p = none → (∀ t ∈ ts, H t = none) → H' p = some (.lst (ts.map V.ref)) → ts.length = ps.length →
  (∀ (j : Nat) (t : Addr) (q : V × V), ts[j]? = some t → ps[j]? = some q → H' t = some (.tup [q.1, q.2])) → Q (.ref p) H'
section
variable {X : Cx} {σ : L2.St} {H : Hp} {Q : VK} {e e2 : Expr} {p p2 q pos : Pos}
def enumV (xs : List V) : List (V × V) := xs.zipIdx.map fun x => (.int (x.2 : Int), x.1)
theorem we_listEnum (hc : X.calm = true) (hg : Gl X "list") (hm : X.mg "list" = none) (hg2 : Gl X "enumerate") (hm2 : X.mg "enumerate" = none) (h : We X e σ H fun v H1 => ∃ a xs, v = .ref a ∧ SqL X.K H1 a xs ∧ NewPairs H1 (enumV xs) Q)
    (hs : starEach [e] X.env = [(false, eval e X.env)] := by rfl)
    (hs1 : starEach [.Call (.Name "enumerate" p2) [e] [] q] X.env = (false, eval (.Call (.Name "enumerate" p2) [e] [] q) X.env) :: starEach [] X.env := by rfl) :
    We X (.Call (.Name "list" p) [.Call (.Name "enumerate" p2) [e] [] q] [] pos) σ H Q := by
  refine ⟨fun pins s I => ?_⟩
  refine wpAny_Call_Name_kw (ld_blt I hg hm boot_list ?_)
  refine PyProof.Rows.callWith_type1 ?_ hs1 rfl
  rw [hs1]
  show wpAny _ _ (spliced ((false, eval (.Call (.Name "enumerate" p2) [e] [] q) X.env) :: backTo pos (starEach [] X.env))) _ _ s
  refine Calls.spliced_cons ?_
  refine Call_ (ld_blt I hg2 hm2 boot_enumerate (PyProof.Rows.callWith_type1 (thn ((pa_cons We.pe pa_nil hs).run q pins s σ H (fun vs H1 => ∃ a xs, vs = [.ref a] ∧ SqL X.K H1 a xs ∧ NewPairs H1 (enumV xs) Q) I ?_) fun us s1 ⟨vs, H1, I1, r1, a, xs, ex, hq, qq⟩ => ?_) hs rfl))
  · refine ⟨fun pins s I => thn (h.run pins s I) fun u s1 ⟨v, H1, I1, r1, a, xs, e, h1, h2⟩ => ⟨v, H1, I1, r1, a, xs, ?_, h1, h2⟩⟩
    rw [e]
  subst ex
  cases r1 with
  | cons r rr =>
    cases rr
    cases r
    obtain ⟨its, rv, pl, hz⟩ := I1.list hq
    have la : @LT.lt Nat _ a s1.heap.objs.size := pl.lt
    have hlen := rv.length
    refine call_enumerate_list pl.isList fun h' hE hI hsz hk => ?_
    refine Calls.spliced_nil ?_
    have hA : X.A.handled = none := I1.ok.hd hc
    refine call_list_src (s := { s1 with heap := h' }) (T := "enumerate") (src_enum (A := X.A.in1.in1) hA (s1.heap.objs.size + 1) s1.heap.objs.size a h'.objs.size (adn (by omega)) (adn (by omega)) (adn (by omega)) its.toArray (adn (by omega)) (adn (by omega)) (adn (by omega)))
      (fun s st => ⟨_, st.2.2.1.choose_spec.1, st.2.2.1.choose_spec.2⟩) (fun A s Q E st hq => ?_) (by decide) (by decide) enum_no_len enum_no_hint (by show _ < h'.objs.size; omega) ⟨hI, pl.isList.at fun o e => hk _ o e, ⟨_, hE, rfl⟩, .inl ⟨_, hE⟩⟩ (fun h'' tk acc c as hk2 hS hl hG hacc => ?_) (by simp only [List.size_toArray]; omega)
    · rcases st.2.2.2 with ⟨old, he⟩ | ⟨hi, _⟩
      · exact wpAny_pyIter_enum he hq
      · exact absurd hi (Nat.lt_irrefl 0)
    · have hlE : (enumV xs).length = xs.length := by simp [enumV]
      have hrel : ∀ (j : Nat) (p : V × V) (k v : Value), (enumV xs)[j]? = some p → ((∃ t, k = .int j t) ∧ its.toArray[j]? = some v) → RelV p.1 k ∧ RelV p.2 v := fun j p k v hp hr => by
        obtain ⟨⟨t, rfl⟩, hv⟩ := hr
        have hx : xs[j]?.map (fun x => (V.int (j : Int), x)) = some p := by
          rw [← hp]
          simp [enumV]
          rfl
        cases hxj : xs[j]? with
        | none => rw [hxj] at hx; cases hx
        | some x =>
          rw [hxj] at hx
          cases hx
          obtain ⟨u, hu, ru⟩ := rv.get hxj
          rw [List.getElem?_toArray, hu] at hv
          cases hv
          exact ⟨⟨t, rfl⟩, ru⟩
      obtain ⟨H', k1, k2, k3, k4, k5, J⟩ := pairs_laid (tk := tk) (ps := enumV xs) I1 (by rw [hlE]; exact hz) (S := h'.objs.size) (by omega) (fun b o e => hk2 b o (by
        have hb : @LT.lt Nat _ b s1.heap.objs.size := Heap.lt_size e
        simp only [List.mem_cons, List.not_mem_nil, or_false, not_or]
        repeat' apply And.intro
        all_goals exact adn (by omega)) (hk b o e)) hS (by rw [hl, hlE, List.size_toArray]; omega) hG hacc hrel
      exact ⟨.ref _, H', J, rfl, qq H' _ as k1 k2 k3 k4 (by rw [hl, hlE, List.size_toArray]; omega) k5⟩
theorem we_listZip (hc : X.calm = true) (hg : Gl X "list") (hm : X.mg "list" = none) (hg2 : Gl X "zip") (hm2 : X.mg "zip" = none) (h : We X e σ H fun v H0 => We X e2 σ H0 fun v2 H1 => ∃ a b xs ys, v = .ref a ∧ v2 = .ref b ∧ SqL X.K H1 a xs ∧ SqL X.K H1 b ys ∧ NewPairs H1 (xs.zip ys) Q)
    (he : starEach [e, e2] X.env = (false, eval e X.env) :: starEach [e2] X.env := by rfl) (hb : starEach [e2] X.env = (false, eval e2 X.env) :: starEach [] X.env := by rfl)
    (hs1 : starEach [.Call (.Name "zip" p2) [e, e2] [] q] X.env = (false, eval (.Call (.Name "zip" p2) [e, e2] [] q) X.env) :: starEach [] X.env := by rfl) :
    We X (.Call (.Name "list" p) [.Call (.Name "zip" p2) [e, e2] [] q] [] pos) σ H Q := by
  refine ⟨fun pins s I => ?_⟩
  refine wpAny_Call_Name_kw (ld_blt I hg hm boot_list ?_)
  refine PyProof.Rows.callWith_type1 ?_ hs1 rfl
  rw [hs1]
  show wpAny _ _ (spliced ((false, eval (.Call (.Name "zip" p2) [e, e2] [] q) X.env) :: backTo pos (starEach [] X.env))) _ _ s
  refine Calls.spliced_cons ?_
  refine Call_ (ld_blt I hg2 hm2 PyProof.Rows.boot_zip (PyProof.Rows.callWith_type1 (thn ((pa_cons We.pe (pa_cons We.pe pa_nil hb) he).run q pins s σ H (fun vs H1 => ∃ a b xs ys, vs = [.ref a, .ref b] ∧ SqL X.K H1 a xs ∧ SqL X.K H1 b ys ∧ NewPairs H1 (xs.zip ys) Q) I ?_) fun us s1 ⟨vs, H1, I1, r1, a, b, xs, ys, ex, hq, hq2, qq⟩ => ?_) he (by rw [hb]; rfl)))
  · refine ⟨fun pins s I => thn (h.run pins s I) fun u s1 ⟨v, H1, I1, r1, h2⟩ => ⟨v, H1, I1, r1, ⟨fun pins s I => thn (h2.run pins s I) fun u s1 ⟨w, H2, I2, r2, a, b, xs, ys, e1, e2, h3⟩ => ⟨w, H2, I2, r2, a, b, xs, ys, ?_, h3⟩⟩⟩⟩
    rw [e1, e2]
  subst ex
  cases r1 with
  | cons r rr =>
    cases rr with
    | cons r' rr =>
    cases rr
    cases r
    cases r'
    obtain ⟨its, rv, pl, hz⟩ := I1.list hq
    obtain ⟨its2, rv2, pl2, hz2⟩ := I1.list hq2
    have la : @LT.lt Nat _ a s1.heap.objs.size := pl.lt
    have lb : @LT.lt Nat _ b s1.heap.objs.size := pl2.lt
    have hlen := rv.length
    have hlen2 := rv2.length
    refine call_zip_2 pl.isList pl2.isList fun h' hZ hTI hTO h1 h2 hsz hk => ?_
    refine Calls.spliced_nil ?_
    have hA : X.A.handled = none := I1.ok.hd hc
    refine call_list_src (s := { s1 with heap := h' }) (T := "zip") (src_zip (A := X.A.in1.in1) hA (s1.heap.objs.size + 4) (s1.heap.objs.size + 2) (s1.heap.objs.size + 3) s1.heap.objs.size (s1.heap.objs.size + 1) a b h'.objs.size (PySem.W.ktu_apart s1.heap.objs.size a b la lb) its.toArray its2.toArray (adn (by omega)) (adn (by omega)) (adn (by omega)) (adn (by omega)) (adn (by omega)) (adn (by omega)) (adn (by omega)))
      (fun s st => ⟨_, st.2.2.2.2.2.1.choose_spec.1, st.2.2.2.2.2.1.choose_spec.2⟩) (fun A s Q E st hq => ?_) (by decide) (by decide) zip_no_len zip_no_hint (by show _ < h'.objs.size; omega) ⟨hTI, h1, h2, pl.isList.at fun o e => hk _ o e, pl2.isList.at fun o e => hk _ o e, ⟨_, hZ, rfl⟩, ⟨_, hTO⟩, .inl ⟨hZ, _, _, hTO⟩⟩ (fun h'' tk acc c as hk2 hS hl hG hacc => ?_) (by simp only [List.size_toArray]; omega)
    · rcases st.2.2.2.2.2.2.2 with ⟨hz, _⟩ | ⟨hi, _⟩
      · exact wpAny_pyIter_zip hz hq
      · exact absurd hi (Nat.lt_irrefl 0)
    · have hlE : (xs.zip ys).length = min xs.length ys.length := List.length_zip
      have hl' : as.length = (xs.zip ys).length := by rw [hl, hlE, List.size_toArray, List.size_toArray]; omega
      have hrel : ∀ (j : Nat) (p : V × V) (k v : Value), (xs.zip ys)[j]? = some p → (its.toArray[j]? = some k ∧ its2.toArray[j]? = some v) → RelV p.1 k ∧ RelV p.2 v := fun j p k v hp hr => by
        obtain ⟨hk', hv⟩ := hr
        rw [List.getElem?_zip_eq_some] at hp
        obtain ⟨u, hu, ru⟩ := rv.get hp.1
        obtain ⟨u2, hu2, ru2⟩ := rv2.get hp.2
        rw [List.getElem?_toArray, hu] at hk'
        rw [List.getElem?_toArray, hu2] at hv
        cases hk'
        cases hv
        exact ⟨ru, ru2⟩
      obtain ⟨H', k1, k2, k3, k4, k5, J⟩ := pairs_laid (tk := tk) (ps := xs.zip ys) I1 (by rw [hlE]; omega) (S := h'.objs.size) (by omega) (fun b o e => hk2 b o (by
        have hb : @LT.lt Nat _ b s1.heap.objs.size := Heap.lt_size e
        simp only [List.mem_cons, List.not_mem_nil, or_false, not_or]
        repeat' apply And.intro
        all_goals exact adn (by omega)) (hk b o e)) hS hl' hG hacc hrel
      exact ⟨.ref _, H', J, rfl, qq H' _ as k1 k2 k3 k4 hl' k5⟩
end
end SL

/-! heaps, operators and calls by values, own defs, repr -/
namespace SL
open PySem PySem.Spec PyProof.Rows L2

/-! ### heaps -/
/-- what never changes once it is laid -/
def Imm : HO → Prop
  | .tup _ => True
  | .frz _ _ => True
  | _ => False
/-- all is as it was but at M -/
structure Kp (M : List Addr) (H H' : Hp) : Prop where
  get : ∀ b o, H b = some o → (b ∉ M ∨ Imm o) → H' b = some o
  dom : ∀ b, H' b = none → H b = none
theorem Kp.refl {M : List Addr} {H : Hp} : Kp M H H := ⟨fun _ _ h _ => h, fun _ h => h⟩
theorem Kp.ext {H H' : Hp} (h : ∀ b o, H b = some o → H' b = some o) : Kp [] H H' := ⟨fun b o e _ => h b o e, fun b e => by
  cases q : H b with
  | none => rfl
  | some o => rw [h b o q] at e; cases e⟩
theorem Kp.new {H : Hp} {p : Addr} {o : HO} (n : H p = none) : Kp [] H (upd H p o) := .ext fun b u e => by rw [upd_ne (ne_of_none e n)]; exact e
theorem Kp.put {H : Hp} {p : Addr} {o : HO} {xs : List V} (n : H p = some (.lst xs)) : Kp [p] H (upd H p o) := ⟨fun b u e h => by
  by_cases z : b = p
  · subst z
    rcases h with h | h
    · exact absurd (List.mem_singleton.mpr rfl) h
    · rw [n] at e; cases e; exact h.elim
  · rw [upd_ne z]; exact e, fun b e => by
  by_cases z : b = p
  · subst z; rw [upd_same] at e; cases e
  · rw [upd_ne z] at e; exact e⟩
theorem Kp.trans {M M' : List Addr} {H H1 H2 : Hp} (a : Kp M H H1) (b : Kp M' H1 H2) (h : ∀ x ∈ M', x ∈ M ∨ H x = none) : Kp M H H2 := ⟨fun c o e z => b.get c o (a.get c o e z) (by
  rcases z with z | z
  · refine .inl fun q => ?_
    rcases h c q with q | q
    · exact z q
    · rw [q] at e; cases e
  · exact .inr z), fun c e => a.dom c (b.dom c e)⟩
theorem Kp.tr0 {M : List Addr} {H H1 H2 : Hp} (a : Kp M H H1) (b : Kp [] H1 H2) : Kp M H H2 := a.trans b fun _ h => by cases h
theorem Kp.trN {M : List Addr} {p : Addr} {H H1 H2 : Hp} (a : Kp M H H1) (b : Kp [p] H1 H2) (h : H p = none) : Kp M H H2 := a.trans b fun x hx => .inr (by rw [List.mem_singleton.mp hx]; exact h)
theorem Kp.trM {M : List Addr} {p : Addr} {H H1 H2 : Hp} (a : Kp M H H1) (b : Kp [p] H1 H2) (h : p ∈ M) : Kp M H H2 := a.trans b fun x hx => .inl (by rw [List.mem_singleton.mp hx]; exact h)
theorem Kp.trS {M : List Addr} {H H1 H2 : Hp} (a : Kp M H H1) (b : Kp M H1 H2) : Kp M H H2 := a.trans b fun x hx => .inl hx
theorem Kp.mono {M M' : List Addr} {H H1 : Hp} (a : Kp M H H1) (h : ∀ x ∈ M, x ∈ M') : Kp M' H H1 := ⟨fun c o e z => a.get c o e (by
  rcases z with z | z
  · exact .inl fun q => z (h c q)
  · exact .inr z), a.dom⟩
theorem Kp.g0 {H H' : Hp} {b : Addr} {o : HO} (k : Kp [] H H') (h : H b = some o) : H' b = some o := k.get b o h (.inl (by simp))
theorem Kp.g1 {H H' : Hp} {b p : Addr} {o : HO} (k : Kp [p] H H') (n : b ≠ p) (h : H b = some o) : H' b = some o := k.get b o h (.inl (by simp [n]))
theorem Kp.gM {M : List Addr} {H H' : Hp} {b : Addr} {o : HO} (k : Kp M H H') (n : b ∉ M) (h : H b = some o) : H' b = some o := k.get b o h (.inl n)
theorem Kp.gT {M : List Addr} {H H' : Hp} {b : Addr} {xs : List V} (k : Kp M H H') (h : H b = some (.tup xs)) : H' b = some (.tup xs) := k.get b _ h (.inr trivial)
theorem Kp.nn {M : List Addr} {H H' : Hp} {b : Addr} (k : Kp M H H') (h : H' b = none) : H b = none := k.dom b h
theorem Kp.ex {H H' : Hp} (k : Kp [] H H') : ∀ b o, H b = some o → H' b = some o := fun b o h => k.g0 h
theorem sqL {K : PySem.W.Frag} {H : Hp} {a : Addr} {xs : List V} (h : H a = some (.lst xs)) : SqL K H a xs := .inl (.inl h)
theorem sqT {K : PySem.W.Frag} {H : Hp} {a : Addr} {xs : List V} (h : H a = some (.tup xs)) : SqT K H a xs := .inl (.inl h)
/-- the script: locked or written -/
def Scr (K : PySem.W.Frag) (H : Hp) (a : Addr) (ns : List Int) : Prop := SqL K H a (ns.map V.int) ∧ ∀ o, H a = some o → Imm o
theorem Scr.kp {K : PySem.W.Frag} {M : List Addr} {H H' : Hp} {a : Addr} {ns : List Int} (s : Scr K H a ns) (k : Kp M H H') (hn : H a = none → H' a = none) : Scr K H' a ns := by
  obtain ⟨h, i⟩ := s
  cases q : H a with
  | none =>
    refine ⟨?_, fun o e => by rw [hn q] at e; cases e⟩
    rcases h with (h | ⟨o, h⟩) | h
    · rw [q] at h; cases h
    · rw [q] at h; cases h
    · exact .inr h
  | some o =>
    have e' := k.get a o q (.inr (i o q))
    refine ⟨?_, fun u e => by rw [e'] at e; cases e; exact i o q⟩
    rcases h with (h | ⟨u, h⟩) | h
    · rw [q] at h; cases h; exact .inl (.inl e')
    · rw [q] at h; cases h; exact .inl (.inr ⟨u, e'⟩)
    · exact .inr h

/-! ### operators -/
section
variable {X : Cx} {σ : L2.St} {H : Hp} {Q : VK} {i j : Int}
theorem b_add (h : Q (.int (i + j)) H) : Bin X .Add (.int i) (.int j) H Q := ⟨_, op_add, i, j, rfl, rfl, h⟩
theorem b_sub (h : Q (.int (i - j)) H) : Bin X .Sub (.int i) (.int j) H Q := ⟨_, op_sub, i, j, rfl, rfl, h⟩
theorem b_mul (c : CMul i j) (h : Q (.int (i * j)) H) : Bin X .Mult (.int i) (.int j) H Q := ⟨_, op_mul, i, j, rfl, rfl, c, h⟩
theorem b_mulL (c : -(2 ^ 64) < i ∧ i < 2 ^ 64) (h : Q (.int (i * j)) H) : Bin X .Mult (.int i) (.int j) H Q := b_mul (.inl c) h
theorem b_mulR (c : -(2 ^ 64) < j ∧ j < 2 ^ 64) (h : Q (.int (i * j)) H) : Bin X .Mult (.int i) (.int j) H Q := b_mul (.inr c) h
theorem b_fdiv (c : 0 < j ∧ j < 1073741824) (h : Q (.int (i / j)) H) : Bin X .FloorDiv (.int i) (.int j) H Q := ⟨_, op_fdiv, i, j, rfl, rfl, c, h⟩
theorem b_fdivW (c : 0 < j ∧ j.natAbs.log2 < 9000) (h : Q (.int (i / j)) H) : Bin X .FloorDiv (.int i) (.int j) H Q := ⟨_, op_fdivW, i, j, rfl, rfl, c, h⟩
theorem b_mod (c : 0 < j) (h : Q (.int (i % j)) H) : Bin X .Mod (.int i) (.int j) H Q := ⟨_, op_mod, i, j, rfl, rfl, c, h⟩
theorem b_pow (c : 0 ≤ j ∧ j ≤ 1000000 ∧ i.natAbs < 2 ^ 64) (h : Q (.int (i ^ j.toNat)) H) : Bin X .Pow (.int i) (.int j) H Q := ⟨_, op_pow, i, j, rfl, rfl, c, h⟩
theorem b_cat {l b : Addr} {xs zs : List V} (h1 : H l = some (.lst xs)) (h2 : H b = some (.lst zs)) (hz : xs.length + zs.length ≤ 100000) (h : ∀ p H', H p = none → Kp [] H H' → H' p = some (.lst (xs ++ zs)) → Q (.ref p) H') : Bin X .Add (.ref l) (.ref b) H Q :=
  ⟨_, op_cat, l, b, xs, zs, rfl, rfl, h1, h2, Nat.le_trans hz (by decide), fun p n => h p _ n (.new n) upd_same⟩
theorem b_rep {l : Addr} {xs : List V} {k : Int} (h1 : H l = some (.lst xs)) (hk : -(2 ^ 63) ≤ k ∧ k < 2 ^ 63) (hz : xs.length * k.toNat ≤ 100000) (h : ∀ p H', H p = none → Kp [] H H' → H' p = some (.lst (List.replicate k.toNat xs).flatten) → Q (.ref p) H') : Bin X .Mult (.ref l) (.int k) H Q :=
  ⟨_, op_rep, l, k, xs, rfl, rfl, h1, hk.1, hk.2, Nat.le_trans hz (by decide), fun p n => h p _ n (.new n) upd_same⟩
theorem u_neg (h : Q (.int (-i)) H) : Una X .USub (.int i) H Q := ⟨_, un_neg, i, rfl, h⟩
theorem c_lt (h : Q (.bl (decide (i < j))) H) : Cmp X .Lt (.int i) (.int j) H Q := ⟨_, op_lt, i, j, rfl, rfl, h⟩
theorem c_le (h : Q (.bl (decide (i ≤ j))) H) : Cmp X .LtE (.int i) (.int j) H Q := ⟨_, op_le, i, j, rfl, rfl, h⟩
theorem c_gt (h : Q (.bl (decide (j < i))) H) : Cmp X .Gt (.int i) (.int j) H Q := ⟨_, op_gt, i, j, rfl, rfl, h⟩
theorem c_ge (h : Q (.bl (decide (j ≤ i))) H) : Cmp X .GtE (.int i) (.int j) H Q := ⟨_, op_ge, i, j, rfl, rfl, h⟩
theorem c_eqI (h : Q (.bl (decide (i = j))) H) : Cmp X .Eq (.int i) (.int j) H Q := ⟨_, op_eq, rfl, by
  rw [dec_int]
  exact h⟩
theorem c_neI (h : Q (.bl (!decide (i = j))) H) : Cmp X .NotEq (.int i) (.int j) H Q := ⟨_, op_ne, rfl, by
  rw [dec_int]
  exact h⟩
theorem c_eqS {x y : Str} (h : Q (.bl (decide (x = y))) H) : Cmp X .Eq (.str x) (.str y) H Q := ⟨_, op_eq, rfl, by
  rw [show decide (V.str x = V.str y) = decide (x = y) by simp]
  exact h⟩
theorem c_neS {x y : Str} (h : Q (.bl (!decide (x = y))) H) : Cmp X .NotEq (.str x) (.str y) H Q := ⟨_, op_ne, rfl, by
  rw [show decide (V.str x = V.str y) = decide (x = y) by simp]
  exact h⟩
theorem c_eqB {x y : Bool} (h : Q (.bl (decide (x = y))) H) : Cmp X .Eq (.bl x) (.bl y) H Q := ⟨_, op_eq, rfl, by
  rw [show decide (V.bl x = V.bl y) = decide (x = y) by simp]
  exact h⟩
theorem c_neB {x y : Bool} (h : Q (.bl (!decide (x = y))) H) : Cmp X .NotEq (.bl x) (.bl y) H Q := ⟨_, op_ne, rfl, by
  rw [show decide (V.bl x = V.bl y) = decide (x = y) by simp]
  exact h⟩
theorem c_isN {x : V} (h : Q (.bl (decide (x = .non))) H) : Cmp X .Is x .non H Q := ⟨_, op_isN, rfl, h⟩
theorem c_notN {x : V} (h : Q (.bl (!decide (x = .non))) H) : Cmp X .IsNot x .non H Q := ⟨_, op_notN, rfl, h⟩
theorem c_isB {x y : Bool} (h : Q (.bl (decide (x = y))) H) : Cmp X .Is (.bl x) (.bl y) H Q := ⟨_, op_isBl, x, y, rfl, rfl, h⟩
theorem c_notB {x y : Bool} (h : Q (.bl (!decide (x = y))) H) : Cmp X .IsNot (.bl x) (.bl y) H Q := ⟨_, op_notBl, x, y, rfl, rfl, h⟩
theorem p_add (h : Q (.int (i + j)) H) : Ipw X .Add (.int i) (.int j) H Q := ⟨_, ip_add, i, j, rfl, rfl, h⟩
theorem p_sub (h : Q (.int (i - j)) H) : Ipw X .Sub (.int i) (.int j) H Q := ⟨_, ip_sub, i, j, rfl, rfl, h⟩
/-- xs[i], t[i] -/
theorem x_lst {p : Addr} {xs : List V} {v : V} (h1 : SqL X.K H p xs) (h2 : atI xs i = some v) (h : Q v H) : Ixw X (.ref p) (.int i) H Q := ⟨_, ix_list, p, xs, i, v, rfl, rfl, h1, h2, h⟩
theorem x_tup {p : Addr} {xs : List V} {v : V} (h1 : SqT X.K H p xs) (h2 : atI xs i = some v) (h : Q v H) : Ixw X (.ref p) (.int i) H Q := ⟨_, ix_tup, p, xs, i, v, rfl, rfl, h1, h2, h⟩
theorem x_sl {p : Addr} {xs : List V} {lo hi : Option Int} (h1 : SqL X.K H p xs) (h : ∀ q H', H q = none → Kp [] H H' → H' q = some (.lst (cutV xs lo hi)) → Q (.ref q) H') : Slw X (.ref p) lo hi H Q :=
  ⟨_, sl_list, p, xs, rfl, h1, fun q n => h q _ n (.new n) upd_same⟩
/-- xs[i] = v -/
theorem x_set {G : Hp → Prop} {p : Addr} {xs : List V} {v : V} {k : Nat} (h1 : H p = some (.lst xs)) (h2 : ixN xs.length i = some k) (h : ∀ H', Kp [p] H H' → H' p = some (.lst (xs.set k v)) → G H') : Setw X (.ref p) (.int i) v H G :=
  ⟨_, set_list, p, xs, i, k, rfl, rfl, h1, h2, h _ (.put h1) upd_same⟩
theorem ixN_of {n : Nat} {k : Int} (h0 : 0 ≤ k) (h1 : k < n) : ixN n k = some k.toNat := by
  unfold ixN
  rw [if_pos h0, if_pos h1]
theorem atI_of {α : Type} {xs : List α} {k : Int} {v : α} (h0 : 0 ≤ k) (h : xs[k.toNat]? = some v) : atI xs k = some v := by
  have e : ((k.toNat : Nat) : Int) = k := Int.toNat_of_nonneg h0
  rw [← e]
  exact atI_nat h
theorem atI_m1 {α : Type} {xs : List α} {v : α} (h : xs.getLast? = some v) : atI xs (-1) = some v := by
  obtain ⟨ys, rfl⟩ := List.getLast?_eq_some_iff.mp h
  exact atI_last ys v
end

/-! ### data -/
def dI (ns : List Int) : PyData := .list (ns.map PyData.int)
def dP (ps : List (Int × Int)) : PyData := .list (ps.map fun p => .tuple [.int p.1, .int p.2])
section
variable {K : PySem.W.Frag} {H H' : Hp}
theorem sqL_ext {a : Addr} {xs : List V} (e : ∀ b o, H b = some o → H' b = some o) (h : SqL K H a xs) : SqL K H' a xs := by
  rcases h with (h | ⟨o, h⟩) | h
  · exact .inl (.inl (e _ _ h))
  · exact .inl (.inr ⟨o, e _ _ h⟩)
  · exact .inr h
theorem sqT_ext {a : Addr} {xs : List V} (e : ∀ b o, H b = some o → H' b = some o) (h : SqT K H a xs) : SqT K H' a xs := by
  rcases h with (h | ⟨o, h⟩) | h
  · exact .inl (.inl (e _ _ h))
  · exact .inl (.inr ⟨o, e _ _ h⟩)
  · exact .inr h
mutual
theorem dp_ext (e : ∀ b o, H b = some o → H' b = some o) : ∀ {v : V} {d : PyData}, Dp K H v d → Dp K H' v d
  | _, _, .non => .non
  | _, _, .bl b => .bl b
  | _, _, .int i => .int i
  | _, _, .str x => .str x
  | _, _, .lst h a => .lst (sqL_ext e h) (dpAll_ext e a)
  | _, _, .tup h a => .tup (sqT_ext e h) (dpAll_ext e a)
theorem dpAll_ext (e : ∀ b o, H b = some o → H' b = some o) : ∀ {vs : List V} {ds : List PyData}, DpAll K H vs ds → DpAll K H' vs ds
  | _, _, .nil => .nil
  | _, _, .cons h a => .cons (dp_ext e h) (dpAll_ext e a)
end
theorem dpAll_ints : ∀ ns : List Int, DpAll K H (ns.map V.int) (ns.map PyData.int)
  | [] => .nil
  | n :: ns => .cons (.int n) (dpAll_ints ns)
theorem dp_ints {a : Addr} {ns : List Int} (h : SqL K H a (ns.map V.int)) : Dp K H (.ref a) (dI ns) := .lst h (dpAll_ints ns)
theorem eqvAll_ints : ∀ ns ms : List Int, PyData.eqvAll (ns.map PyData.int) (ms.map PyData.int) = decide (ns = ms)
  | [], [] => by simp [PyData.eqvAll]
  | [], _ :: _ => by simp [PyData.eqvAll]
  | _ :: _, [] => by simp [PyData.eqvAll]
  | n :: ns, m :: ms => by
    show (PyData.eqv (.int n) (.int m) && PyData.eqvAll (ns.map PyData.int) (ms.map PyData.int)) = _
    rw [eqvAll_ints ns ms]
    simp only [PyData.eqv]
    by_cases h1 : n = m
    · by_cases h2 : ns = ms
      · simp [h1, h2]
      · simp [h1, h2]
    · simp [h1]
theorem shaped_ints (ns : List Int) : SeqAt.shaped (dI ns) = true := by
  have h1 : ∀ ns : List Int, PyData.canLayAll0 (ns.map PyData.int) = true := fun ns => by
    induction ns with
    | nil => rfl
    | cons n ns ih => show (PyData.canLay0 (.int n) && PyData.canLayAll0 (ns.map PyData.int)) = true; rw [ih]; rfl
  have h2 : ∀ ns : List Int, PyData.depthAll (ns.map PyData.int) = 0 := fun ns => by
    induction ns with
    | nil => rfl
    | cons n ns ih => show max (PyData.depth (.int n)) (PyData.depthAll (ns.map PyData.int)) = 0; rw [ih]; rfl
  unfold SeqAt.shaped dI
  have e1 : PyData.canLay0 (.list (ns.map PyData.int)) = true := by
    show PyData.canLayAll0 (ns.map PyData.int) = true
    exact h1 ns
  have e2 : PyData.depth (.list (ns.map PyData.int)) = 1 := by
    show PyData.depthAll (ns.map PyData.int) + 1 = 1
    rw [h2 ns]
  rw [e1, e2]
  rfl
end
section
variable {X : Cx} {σ : L2.St} {H : Hp} {Q : VK} {p q : Addr} {ns ms : List Int} {k : Nat}
theorem c_eqD {x y : V} {d e : PyData} (hr : Room k X.A) (h1 : Dp X.K H x d) (h2 : Dp X.K H y e) (s1 : SeqAt.shaped d = true) (s2 : SeqAt.shaped e = true) (h : Q (.bl (PyData.eqv d e)) H) : Cmp X .Eq x y H Q := ⟨_, op_eqD hr.units, d, e, h1, h2, s1, s2, h⟩
theorem c_neD {x y : V} {d e : PyData} (hr : Room k X.A) (h1 : Dp X.K H x d) (h2 : Dp X.K H y e) (s1 : SeqAt.shaped d = true) (s2 : SeqAt.shaped e = true) (h : Q (.bl (!PyData.eqv d e)) H) : Cmp X .NotEq x y H Q := ⟨_, op_neD hr.units, d, e, h1, h2, s1, s2, h⟩
theorem c_eqL (hr : Room k X.A) (h1 : SqL X.K H p (ns.map V.int)) (h2 : SqL X.K H q (ms.map V.int)) (h : Q (.bl (decide (ns = ms))) H) : Cmp X .Eq (.ref p) (.ref q) H Q := c_eqD hr (dp_ints h1) (dp_ints h2) (shaped_ints _) (shaped_ints _) (by
  rw [show PyData.eqv (dI ns) (dI ms) = decide (ns = ms) from by unfold dI; rw [PyData.eqv]; exact eqvAll_ints ns ms]
  exact h)
theorem c_neL (hr : Room k X.A) (h1 : SqL X.K H p (ns.map V.int)) (h2 : SqL X.K H q (ms.map V.int)) (h : Q (.bl (!decide (ns = ms))) H) : Cmp X .NotEq (.ref p) (.ref q) H Q := c_neD hr (dp_ints h1) (dp_ints h2) (shaped_ints _) (shaped_ints _) (by
  rw [show PyData.eqv (dI ns) (dI ms) = decide (ns = ms) from by unfold dI; rw [PyData.eqv]; exact eqvAll_ints ns ms]
  exact h)
end

/-! ### built-in functions -/
section
variable {X : Cx} {σ : L2.St} {H : Hp} {Q : VK} {e o : Expr} {es : List Expr} {p pos apos : Pos} {x : Str} {id T : String}
theorem we_callB (hg : Gl X x) (hm : X.mg x = none) (hv : bootBuiltins x = some (.builtin id)) (h : Wa X (e :: es) σ H fun vs H1 => Cal X (.builtin id) vs H1 Q) (hn : x ≠ "__name__" := by decide) (hdb : (x == ("__debug__" : Str)) = false := by decide)
    (he : starEach (e :: es) X.env = (false, eval e X.env) :: starEach es X.env := by rfl) (hpl : (backTo pos (starEach es X.env)).any (·.1) = false := by rfl) : We X (.Call (.Name x p) (e :: es) [] pos) σ H Q := we_of (pe_callB Cal.ok hg hm hv Wa.pa hn hdb he hpl) h
theorem we_callT (hg : Gl X x) (hm : X.mg x = none) (hv : bootBuiltins x = some (.type T)) (h : Wa X (e :: es) σ H fun vs H1 => Cal X (.type T) vs H1 Q) (hn : x ≠ "__name__" := by decide) (hdb : (x == ("__debug__" : Str)) = false := by decide)
    (he : starEach (e :: es) X.env = (false, eval e X.env) :: starEach es X.env := by rfl) (hpl : (backTo pos (starEach es X.env)).any (·.1) = false := by rfl) : We X (.Call (.Name x p) (e :: es) [] pos) σ H Q := we_of (pe_callTy Cal.ok hg hm hv Wa.pa hn hdb he hpl) h
variable {a : Addr} {xs : List V} {ns : List Int} {i j : Int}
theorem k_len (h1 : SqL X.K H a xs) (h : Q (.int (xs.length : Int)) H) : Cal X (.builtin "len") [.ref a] H Q := ⟨_, call_len_seq, a, xs, rfl, .inl h1, h⟩
theorem k_lenT (h1 : SqT X.K H a xs) (h : Q (.int (xs.length : Int)) H) : Cal X (.builtin "len") [.ref a] H Q := ⟨_, call_len_seq, a, xs, rfl, .inr h1, h⟩
theorem k_max2 (hc : X.calm = true) (h : Q (.int (if j > i then j else i)) H) : Cal X (.builtin "max") [.int i, .int j] H Q := ⟨_, call_max2 hc, i, j, rfl, h⟩
theorem k_min2 (hc : X.calm = true) (h : Q (.int (if j < i then j else i)) H) : Cal X (.builtin "min") [.int i, .int j] H Q := ⟨_, call_min2 hc, i, j, rfl, h⟩
theorem k_min (hc : X.calm = true) (h1 : SqL X.K H a (ns.map V.int)) (h0 : 0 < ns.length) (h : ∀ m, m ∈ ns → (∀ y ∈ ns, m ≤ y) → Q (.int m) H) : Cal X (.builtin "min") [.ref a] H Q := ⟨_, cr_min hc, a, ns, rfl, h1, h0, h⟩
theorem k_max (hc : X.calm = true) (h1 : SqL X.K H a (ns.map V.int)) (h0 : 0 < ns.length) (h : ∀ m, m ∈ ns → (∀ y ∈ ns, y ≤ m) → Q (.int m) H) : Cal X (.builtin "max") [.ref a] H Q := ⟨_, cr_max hc, a, ns, rfl, h1, h0, h⟩
theorem k_sum (hc : X.calm = true) (h1 : SqL X.K H a (ns.map V.int)) (h : Q (.int ns.sum) H) : Cal X (.builtin "sum") [.ref a] H Q := ⟨_, cr_sum hc, a, ns, rfl, h1, h⟩
theorem k_abs (h : Q (.int (if i < 0 then -i else i)) H) : Cal X (.builtin "abs") [.int i] H Q := ⟨_, call_abs, i, rfl, h⟩
theorem k_intI (h : Q (.int i) H) : Cal X (.type "int") [.int i] H Q := ⟨_, call_int1, .inl ⟨i, rfl, h⟩⟩
theorem k_intB {b : Bool} (h : Q (.int (if b then 1 else 0)) H) : Cal X (.type "int") [.bl b] H Q := ⟨_, call_int1, .inr ⟨b, rfl, h⟩⟩
theorem k_sorted (h1 : SqL X.K H a (ns.map V.int)) (h : ∀ (ms : List Int) p H', ms.Perm ns → ms.Pairwise (· ≤ ·) → H p = none → Kp [] H H' → H' p = some (.lst (ms.map V.int)) → Q (.ref p) H') : Cal X (.builtin "sorted") [.ref a] H Q :=
  ⟨_, cr_sortedI, a, ns, rfl, h1, fun ms p h2 h3 n => h ms p _ h2 h3 n (.new n) upd_same⟩
theorem k_list (h1 : SqL X.K H a xs ∨ SqT X.K H a xs) (h : ∀ p H', H p = none → Kp [] H H' → H' p = some (.lst xs) → Q (.ref p) H') : Cal X (.type "list") [.ref a] H Q := ⟨_, call_list_of, a, xs, rfl, h1, fun p n => h p _ n (.new n) upd_same⟩
theorem k_isi {x : V} {t : Value} {n : String} {b : Bool} (ht : TyX X.K H x t) (hk : PySem.W.kitOne X.K t (.type n) = some b) (h : Q (.bl b) H) : Cal X (.builtin "isinstance") [x, .ty n] H Q := ⟨_, call_isi, x, .ty n, t, .type n, b, rfl, .ty n, ht, hk, h⟩
theorem k_isiI {n : String} {b : Bool} (hk : kitB "int" n = some b) (h : Q (.bl b) H) : Cal X (.builtin "isinstance") [.int i, .ty n] H Q := k_isi (.base (.int i)) (kit_ty hk) h
theorem k_isiB {n : String} {b c : Bool} (hk : kitB "bool" n = some b) (h : Q (.bl b) H) : Cal X (.builtin "isinstance") [.bl c, .ty n] H Q := k_isi (.base (.bl c)) (kit_ty hk) h
theorem k_isiL {n : String} {b : Bool} (h1 : H a = some (.lst xs)) (hk : kitB "list" n = some b) (h : Q (.bl b) H) : Cal X (.builtin "isinstance") [.ref a, .ty n] H Q := k_isi (.base (.lst h1)) (kit_ty hk) h
theorem k_isiT {n : String} {b : Bool} (h1 : H a = some (.tup xs)) (hk : kitB "tuple" n = some b) (h : Q (.bl b) H) : Cal X (.builtin "isinstance") [.ref a, .ty n] H Q := k_isi (.base (.tup h1)) (kit_ty hk) h
theorem ii_int : kitB "int" "int" = some true := by decide +kernel
theorem ii_bool : kitB "int" "bool" = some false := by decide +kernel
theorem il_list : kitB "list" "list" = some true := by decide +kernel
theorem k_strI (hz : i.natAbs.log2 < 1920) (h : Q (.str (toString i)) H) : Cal X (.type "str") [.int i] H Q := ⟨_, call_str_int, i, rfl, hz, h⟩
/-- repr of a list, of a tuple -/
theorem k_repr {k : Nat} {d : PyData} (hr : Room k X.A) (hgd : X.A.guards = some []) (hd : Dp X.K H (.ref a) d) (hs : d.showable = true) (hn : d.hasDict = false) (hp : d.depth ≤ 100) (hz : d.shown.length ≤ sizeLine) (h : Q (.str d.shown) H) : Cal X (.builtin "repr") [.ref a] H Q := by
  refine ⟨fun xs H Q => xs = [.ref a] ∧ Dp X.K H (.ref a) d ∧ Q (.str d.shown) H, ?_, rfl, hd, h⟩
  intro pins s σ H xs us Q I r h
  obtain ⟨rfl, hd, q⟩ := h
  obtain ⟨u, rfl, rx⟩ := vals1 r
  obtain ⟨as, rd⟩ := Dp.reads I d _ _ hd rx
  cases rx
  have hu : X.A.units + (d.depth + 1) < cLine := by have := hr.un; omega
  exact repr_of_reads' (hsz := hz) rd hs (PyData.noDict_hsm hn) hgd hu (fun _ _ e => e) fun h' u tk hk => ⟨.str d.shown, H, I.kept (t' := tk) hk, ⟨_, rfl⟩, q⟩

/-! ### methods of lists -/
theorem we_append {cpos : Pos} (h : We X o σ H fun x H1 => ∃ l, x = .ref l ∧ (∃ xs, H1 l = some (.lst xs)) ∧ We X e σ H1 fun y H2 => ∃ xs, H2 l = some (.lst xs) ∧ xs.length < 100000 ∧ ∀ H', Kp [l] H2 H' → H' l = some (.lst (xs ++ [y])) → Q .non H')
    (hbase : attributeBase o "append" X.env (eval o X.env) = eval o X.env := by rfl)
    (hfew : ((backTo cpos (starEach [e] X.env)).all (fun x => !x.1) && (backToKw cpos (keywordEach [] X.env)).all (fun x => x.1.isSome) && decide ([e].length + ([] : List Keyword).length + (if ([] : List Keyword).isEmpty then 0 else 1) < 30)) = true := by rfl)
    (hline : (apos.endLine == cpos.line) = true := by rfl) (hs : starEach [e] X.env = (false, eval e X.env) :: starEach [] X.env := by rfl) (hplain : (backTo cpos (starEach [] X.env)).any (·.1) = false := by rfl) :
    We X (.Call (.Attribute o "append" apos) [e] [] cpos) σ H Q :=
  we_of (pe_bm PySem.F.plainAttrs_list PySem.F.slot_list_append PySem.F.type_list_append mt_append We.pe (pa_cons We.pe pa_nil hs) hbase hfew hline hs hplain) (by
    refine ⟨fun pins s I => thn (h.run pins s I) fun u s1 ⟨v, H1, I1, r1, l, ev, ⟨xs, hl⟩, h2⟩ => ⟨v, H1, I1, r1, ?_, ?_⟩⟩
    · rw [ev]
      exact .inl ⟨rfl, xs, sqL hl⟩
    · refine ⟨fun pins s I => thn (h2.run pins s I) fun u s1 ⟨w, H2, I2, r2, ys, hy, hz, h3⟩ => ⟨w, H2, I2, r2, ?_⟩⟩
      exact ⟨l, ys, w, ev, rfl, hy, Nat.lt_of_lt_of_le hz (by decide), h3 _ (.put hy) upd_same⟩)
theorem we_pop {cpos : Pos} (h : We X o σ H fun x H1 => ∃ l xs y, x = .ref l ∧ H1 l = some (.lst xs) ∧ xs.getLast? = some y ∧ ∀ H', Kp [l] H1 H' → H' l = some (.lst xs.dropLast) → Q y H')
    (hbase : attributeBase o "pop" X.env (eval o X.env) = eval o X.env := by rfl) (hline : (apos.endLine == cpos.line) = true := by rfl) : We X (.Call (.Attribute o "pop" apos) [] [] cpos) σ H Q :=
  we_of (pe_bm0 PySem.F.plainAttrs_list PySem.F.slot_list_pop PySem.F.type_list_pop mt_pop We.pe hbase hline) (by
    refine ⟨fun pins s I => thn (h.run pins s I) fun u s1 ⟨v, H1, I1, r1, l, xs, y, ev, hl, hy, h2⟩ => ⟨v, H1, I1, r1, ?_, ?_⟩⟩
    · rw [ev]
      exact .inl ⟨rfl, xs, sqL hl⟩
    · exact ⟨l, xs, y, ev, rfl, hl, by rw [← List.getLast?_eq_getElem?]; exact hy, h2 _ (.put hl) upd_same⟩)
/-- xs.index(y), whole numbers -/
theorem we_index {cpos : Pos} (h : We X o σ H fun x H1 => ∃ (l : Addr) (ns : List Int), x = .ref l ∧ SqL X.K H1 l (ns.map V.int) ∧ We X e σ H1 fun y H2 => ∃ (m : Int) (j : Nat), y = .int m ∧ SqL X.K H2 l (ns.map V.int) ∧ ns[j]? = some m ∧ (∀ k, k < j → ns[k]? ≠ some m) ∧ Q (.int (j : Int)) H2)
    (hbase : attributeBase o "index" X.env (eval o X.env) = eval o X.env := by rfl)
    (hfew : ((backTo cpos (starEach [e] X.env)).all (fun x => !x.1) && (backToKw cpos (keywordEach [] X.env)).all (fun x => x.1.isSome) && decide ([e].length + ([] : List Keyword).length + (if ([] : List Keyword).isEmpty then 0 else 1) < 30)) = true := by rfl)
    (hline : (apos.endLine == cpos.line) = true := by rfl) (hs : starEach [e] X.env = (false, eval e X.env) :: starEach [] X.env := by rfl) (hplain : (backTo cpos (starEach [] X.env)).any (·.1) = false := by rfl) :
    We X (.Call (.Attribute o "index" apos) [e] [] cpos) σ H Q :=
  we_of (pe_bm PySem.F.plainAttrs_list PySem.F.slot_list_index PySem.F.type_list_index mt_index We.pe (pa_cons We.pe pa_nil hs) hbase hfew hline hs hplain) (by
    refine ⟨fun pins s I => thn (h.run pins s I) fun u s1 ⟨v, H1, I1, r1, l, ns, ev, hl, h2⟩ => ⟨v, H1, I1, r1, ?_, ?_⟩⟩
    · rw [ev]
      exact .inl ⟨rfl, _, hl⟩
    · refine ⟨fun pins s I => thn (h2.run pins s I) fun u s1 ⟨w, H2, I2, r2, m, j, ew, hl2, hj, hf, h3⟩ => ⟨w, H2, I2, r2, ?_⟩⟩
      refine ⟨l, _, w, j, .int m, ev, rfl, hl2, by rw [ew]; rfl, ?_, by rw [List.getElem?_map, hj]; rfl, by rw [ew]; simp [eqV], fun k z hk hz => ?_, h3⟩
      · rw [List.all_eq_true]
        intro y hy
        obtain ⟨n, _, rfl⟩ := List.mem_map.mp hy
        rfl
      · rw [List.getElem?_map] at hz
        cases q : ns[k]? with
        | none => rw [q] at hz; cases hz
        | some n =>
          rw [q] at hz
          cases hz
          rw [ew]
          have hne : n ≠ m := fun z => hf k hk (by rw [q, z])
          simp [eqV, hne])
end

/-! ### own defs -/
/-- a def that keeps its promise where no repr is under way -/
structure FnG (P : Program) (w : World) (K : PySem.W.Frag) (mg : Str → Option Value) (base : Heap) (CX : CXT) (k : Nat) (f : Addr) (fd : FuncData) (ps : List Str) (sp : Sp) : Prop where
  len : ∀ vs H Q E, sp vs H Q E → vs.length = ps.length
  run : ∀ (A : Around) (outer : List Env) (s : Shared) (H : Hp) (args : Args) (us : List Value) (vs : List V) (Q : VK) (E : XK), Room k A → A.guards = some [] → Env0 P w K mg base A outer s H → BindsTo s fd args (ps.zip us) → Vals vs us → sp vs H Q E →
    codeAny (model P w) A (.call (.ref f) args) (CR CX outer P w H s Q E) s
section
variable {P : Program} {w : World} {K : PySem.W.Frag} {mg : Str → Option Value} {base : Heap}
theorem FnG.of {CX : CXT} {k : Nat} {f : Addr} {fd : FuncData} {ps : List Str} {sp : Sp} (F : FnOk P w K mg base CX k f fd ps sp) : FnG P w K mg base CX k f fd ps sp := ⟨F.len, fun A outer s H args us vs Q E hr _ => F.run A outer s H args us vs Q E hr⟩
/-- a def by its name, with its promise; nothing is raised -/
structure Df (P : Program) (w : World) (K : PySem.W.Frag) (mg : Str → Option Value) (base : Heap) (k : Nat) (x : Str) (sp : Sp) : Prop where
  ex : ∃ f fd ps, FnG P w K mg base CX0 k f fd ps sp ∧ mg x = some (.ref f) ∧ PySem.W.keepIn K (.ref f) = true ∧ Binds K fd ps []
/-- THE RULE for a def -/
theorem okG {x qual : Str} {st : Stmt} {f : Addr} {fd : FuncData} {N ps : List Str} {k : Nat} {sp : Sp} (F : Fun K x qual st f fd) (S : FnScope N ps (defScope st)) (len : ∀ vs H Q E, sp vs H Q E → vs.length = ps.length)
    (hb : ∀ (cdv : Value) (A : Around) (outer : List Env) (s : Shared) (H : Hp) (vs : List V) (Q : VK) (E : XK), Room k (A.deeper (envOfC qual (defScope st) s.heap.objs.size f cdv)) → (A.deeper (envOfC qual (defScope st) s.heap.objs.size f cdv)).guards = some [] → sp vs H Q E →
      Wss (cxOf CX0 P w K mg base N qual (defScope st) f cdv A outer s H E).nox (defBody st) { nx := fun _ H' => Q .non H', rt := Q } (start N vs) H) : FnG P w K mg base CX0 (k + 1) f fd ps sp := by
  obtain ⟨oc, od, kV, doc, pm, an, cdv, ct, osl, rfl, lk, hcd⟩ := F.ex
  refine ⟨len, fun A outer s H args us vs Q E hr hgd e0 hbind r hsp => ?_⟩
  have KX : K.In s.heap := e0.mod.kin.keeps fun b o e => (e0.bs b o e).1
  have lim : s.heap.NoLimit := e0.mod.nolimit.keeps fun b o e => (e0.bs b o e).1
  refine codeAny_call_function hr.depth (KX _ _ lk) rfl S.co S.gen rfl (PySem.W.codeRec_of KX hcd) (hbind _ _ _ _ (wpAny_newFunctionEnv_cells S.kind (fun y hy => ?_) fun env he s1 x => ?_))
  · rcases S.par y.1 (List.of_mem_zip hy).1 with q | q
    · exact .inl q
    · exact .inr ⟨q, PySem.W.cellsFrom_some _ _ _ (.inl q)⟩
  · subst he
    refine ⟨lim.keeps x.toInCall.keep, codeAny_func (wpAny_mono ((PSs.nox Wss.pss).run [] s1 (start N vs) H _ (inv_start S hr.hd e0 (len _ _ _ _ hsp) r x) (hb cdv A outer s H vs Q E (hr.deeper _) hgd hsp)) (fun fl s' hs => ?_) fun e s' hs => hs)⟩
    cases fl with
    | ret u => exact let ⟨v, _, H', J, rv, q⟩ := hs; ⟨v, H', J.os, J.bare, J.base, J.hok, rv, q⟩
    | next => exact let ⟨_, H', J, q⟩ := hs; ⟨.non, H', J.os, J.bare, J.base, J.hok, rfl, q⟩
    | brk => exact let ⟨_, _, _, q⟩ := hs; q.elim
    | cont => exact let ⟨_, _, _, q⟩ := hs; q.elim
/-- a def that was shown, by its name -/
theorem df_mk {x : Str} {k : Nat} {f : Addr} {fd : FuncData} {ps : List Str} {sp : Sp} (F : FnG P w K mg base CX0 k f fd ps sp) (g : mg x = some (.ref f)) (kp : PySem.W.keepIn K (.ref f) = true) (b : Binds K fd ps []) : Df P w K mg base k x sp := ⟨f, fd, ps, F, g, kp, b⟩
theorem Df.imp {x : Str} {k : Nat} {sp sp' : Sp} (D : Df P w K mg base k x sp) (h : ∀ vs H Q E, sp' vs H Q E → sp vs H Q E) : Df P w K mg base k x sp' := by
  obtain ⟨f, fd, ps, F, g, kp, b⟩ := D.ex
  exact ⟨f, fd, ps, ⟨fun vs H Q E q => F.len vs H Q E (h _ _ _ _ q), fun A outer s H args us vs Q E hr hg he hb hv hs => F.run A outer s H args us vs Q E hr hg he hb hv (h _ _ _ _ hs)⟩, g, kp, b⟩
end
section
variable {X : Cx} {σ : L2.St} {H : Hp} {Q : VK} {e : Expr} {es : List Expr} {p pos : Pos} {x : Str} {k j : Nat} {sp : Sp}
/-- f(e, ..) -/
theorem we_call (D : Df X.prog X.w X.K X.mg X.base k x sp) (hr : Room j X.A) (hk : k ≤ j) (hgd : X.A.guards = some []) (hg : Gl X x) (h : Wa X (e :: es) σ H fun vs H1 => sp vs H1 Q E0) (hdb : (x == ("__debug__" : Str)) = false := by decide)
    (he : starEach (e :: es) X.env = (false, eval e X.env) :: starEach es X.env := by rfl) (hpl : (backTo pos (starEach es X.env)).any (·.1) = false := by rfl) : We X (.Call (.Name x p) (e :: es) [] pos) σ H Q := by
  obtain ⟨f, fd, ps, F, g, kp, b⟩ := D.ex
  refine ⟨fun pins s I => ?_⟩
  refine wpAny_Call_Name_kw (ld_glob I hg g (PySem.W.callWith_K (h₀ := X.base) I.ok.mod.kin kp (thn (h.run pos pins s I) fun us s1 ⟨vs, H1, I1, r, q⟩ => ⟨I1.kIn, ?_⟩) he hpl) hdb)
  have hl : us.length = ps.length := r.length.symm.trans (F.len _ _ _ _ q)
  have hb := b s1 us I1.kIn (by rw [List.append_nil]; exact hl)
  rw [List.append_nil] at hb
  refine wpAny_call (codeAny_mono (F.run X.A X.stack s1 H1 ⟨us, []⟩ us vs Q E0 (hr.mono hk) hgd I1.env0 hb r q) fun r s' hq => ?_)
  cases r with
  | error e => exact hq.elim
  | ok fl => cases fl with
    | ret u => exact I1.after hq
    | next => exact hq.elim
    | brk => exact hq.elim
    | cont => exact hq.elim
end

/-! ### the law's own call -/
section
open PySem.W
theorem law_callG {P : Program} {w : World} {K : Frag} {mg mb : Str → Option Value} {k : Nat} {fa a : Addr} {fd : FuncData} {x : Str} {sp : Sp} {s₁ : Shared} {vs : List Value} {ns : List Int}
    (KX : K.In s₁.heap) (hns : s₁.heap.Ns mainGlobals mg) (hb : s₁.heap.Ns builtinsNs mb) (hbb : ∀ x : Str, x ≠ "__name__" → mb x = bootBuiltins x) (hlim : s₁.heap.NoLimit) (hg : s₁.gens = #[])
    (ha : s₁.heap.get? a = some { cls := .type "list", data := .seq vs.toArray }) (hi : IntsAre vs ns) (hl : ns.length ≤ sizeLine) (hr : Room k callerA)
    (F : ∀ base : Heap, K.In base → base.Ns mainGlobals mg → FnG P w K mg base CX0 k fa fd [x] sp) (hbind : ∀ (s : Shared) (u : Value), BindsTo s fd ⟨[u], []⟩ [(x, u)])
    (hsp : ∀ H : Hp, Scr K H a ns → sp [.ref a] H (fun v _ => v = .bl true) E0) :
    codeAny (model P w) callerA (.call (.ref fa) ⟨[.ref a], []⟩) (fun r s' => r = .ok (.ret (.bool true)) ∧ OldK s₁.heap s'.heap ∧ s'.os = s₁.os ∧ AllBare s'.gens) s₁ := by
  have rv := vals_ints hi
  have lenV := hi.length
  -- one way for both places of the script: T tells whether it is tracked
  have way : ∀ T : Bool, (T = true → K.lookup a = none) → (T = false → SqL K (fun _ => none) a (ns.map V.int)) →
      codeAny (model P w) callerA (.call (.ref fa) ⟨[.ref a], []⟩) (fun r s' => r = .ok (.ret (.bool true)) ∧ OldK s₁.heap s'.heap ∧ s'.os = s₁.os ∧ AllBare s'.gens) s₁ := by
    intro T hT hF
    let o₀ : Obj := { cls := .type "list", data := .seq vs.toArray }
    let H : Hp := fun b => if b = a ∧ T = true then some (.frz o₀ (.lst (ns.map V.int))) else none
    have at1 : ∀ b u, H b = some u → b = a ∧ T = true ∧ u = .frz o₀ (.lst (ns.map V.int)) := fun b u e => by
      by_cases h : b = a ∧ T = true
      · have e' := (if_pos h).symm.trans e
        cases e'
        exact ⟨h.1, h.2, rfl⟩
      · have e' := (if_neg h).symm.trans e
        cases e'
    have off : ∀ b, b ≠ a → H b = none := fun b h => if_neg fun z => h z.1
    have scr : Scr K H a ns := by
      cases T with
      | true => exact ⟨.inl (.inr ⟨o₀, if_pos ⟨rfl, rfl⟩⟩), fun o e => by rw [(at1 a o e).2.2]; trivial⟩
      | false =>
        have e : H = fun _ => none := funext fun b => if_neg fun z => by cases z.2
        rw [e]
        exact ⟨hF rfl, fun o z => by cases z⟩
    have hok : HOk P w H s₁.heap := fun b u e => by
      obtain ⟨rfl, _, rfl⟩ := at1 b u e
      exact ⟨ha, by rw [List.length_map]; exact hl, vs, _, rv, ha⟩
    have keepNs : ∀ {b : Addr} {m : Str → Option Value}, s₁.heap.Ns b m → (hidT s₁.heap H).Ns b m := fun {b m} ⟨o, es, ep, e, d, r⟩ => ⟨o, es, ep, hidT_get e (off b fun z => by
      subst z
      rw [ha] at e
      cases e
      cases d), d, r⟩
    have hKb : K.In (hidT s₁.heap H) := fun b o e => hidT_get (KX b o e) (by
      cases q : H b with
      | none => rfl
      | some u =>
        obtain ⟨rfl, t, _⟩ := at1 b u q
        rw [hT t] at e
        cases e)
    have hM : Mod K mg (hidT s₁.heap H) := ⟨hKb, keepNs hns, ⟨mb, keepNs hb, hbb⟩, let ⟨mc, h1, h2⟩ := hlim; ⟨mc, keepNs h1, h2⟩⟩
    have e0 : Env0 P w K mg (hidT s₁.heap H) callerA [] s₁ H := ⟨rfl, hM, fun b o e => of_hidT e, Nat.le_of_eq (hidT_size _ _), trivial, fun b hb => (by cases (show b ∈ ([] : List Addr) from hb)), hok, .of_eq hg⟩
    refine codeAny_mono ((F _ hKb (keepNs hns)).run callerA [] s₁ H ⟨[.ref a], []⟩ [.ref a] [.ref a] _ _ hr rfl e0 (hbind s₁ (.ref a)) (.cons rfl .nil) (hsp H scr)) fun r s' h => ?_
    cases r with
    | error e => exact h.elim
    | ok fl => cases fl with
      | next => exact h.elim
      | brk => exact h.elim
      | cont => exact h.elim
      | ret u =>
        obtain ⟨v, H', os, bare, un, hok', r', q⟩ := h
        have q' : v = .bl true := q
        subst q'
        obtain rfl : u = Value.bool true := r'
        refine ⟨rfl, OldK.of_keep fun b o e => ?_, os, bare⟩
        cases q : H b with
        | none => exact un.keep b o e q (fun z => by cases (show b ∈ ([] : List Addr) from z)) (by simp)
        | some u =>
          obtain ⟨rfl, _, rfl⟩ := at1 b u q
          have e1 := (hok b _ q).1
          rw [e] at e1
          cases e1
          exact (hok' b _ (un.frzs b _ _ q)).1
  cases hk : K.lookup a with
  | none => exact way true (fun _ => hk) fun z => by cases z
  | some o =>
    have e := KX a o hk
    rw [ha] at e
    cases e
    refine way false (fun z => by cases z) fun _ => .inr ⟨_, vs.toArray, _, hk, rfl, rfl, rfl, ?_, by simpa using rv⟩
    rw [List.size_toArray, lenV]
    exact hl
theorem walk_ofG {l : OpenLaw} {n k : Nat} {q : Program} {loose : List Str} {XP : (Str → Option Value) → Heap → Prop} {YP : World → Heap → Prop} {d : DefRec} {K : Params → Frag} {sp : World → Sp} {x : Str}
    (hn : l.most = some n) (hn2 : n ≤ sizeLine) (hdf : d.params.defaults = []) (hr : Room k callerA) (hY : ∀ (w : World) (h : Heap), YP w h → (K w.params).In h)
    (F : ∀ (w : World) (mg : Str → Option Value) (fa : Addr) (h : Heap), (K w.params).In h → h.Ns mainGlobals mg → mg d.name = some (.ref fa) →
      ∃ fd : FuncData, (∀ (s : Shared) (u : Value), BindsTo s fd ⟨[u], []⟩ [(x, u)]) ∧ ∀ base : Heap, (K w.params).In base → base.Ns mainGlobals mg → FnG l.prog w (K w.params) mg base CX0 k fa fd [x] (sp w))
    (hsp : ∀ (w : World) (H : Hp) (a : Addr) (ns : List Int), ns.length ≤ n → Scr (K w.params) H a ns → sp w [.ref a] H (fun v _ => v = .bl true) E0) :
    WalkO q loose XP YP l.row.toRowW d [] (fun f vs => PySem.call f vs) := by
  refine Att.attach_call hn hdf fun w s₀ s₁ mg mb fa o pm cd doc a vs ns G Y ho hd hcd hmg hobj hints hlen hg => ?_
  have KX := hY w _ Y
  obtain ⟨fd, hb, hF⟩ := F w mg fa _ KX G.T.g hmg
  exact law_callG KX G.T.g G.T.b G.T.builtins G.T.nolimit hg hobj hints (Nat.le_trans hlen hn2) hr hF hb fun H hS => hsp w H a ns hlen hS
end

/-! ### tests, numbers, items -/
theorem iteD {p : Prop} [Decidable p] {A B : Prop} (h1 : p → A) (h2 : ¬ p → B) : if decide p = true then A else B := by
  by_cases h : p
  · rw [if_pos (decide_eq_true h)]; exact h1 h
  · rw [if_neg (by rw [decide_eq_false h]; decide)]; exact h2 h
theorem iteDn {p : Prop} [Decidable p] {A B : Prop} (h1 : ¬ p → A) (h2 : p → B) : if (!decide p) = true then A else B := by
  by_cases h : p
  · rw [if_neg (by rw [decide_eq_true h]; decide)]; exact h2 h
  · rw [if_pos (by rw [decide_eq_false h]; decide)]; exact h1 h
theorem iteP {p : Prop} [Decidable p] {A B : Prop} (h : p) (h1 : A) : if decide p = true then A else B := iteD (fun _ => h1) fun n => absurd h n
theorem iteN {p : Prop} [Decidable p] {A B : Prop} (h : ¬ p) (h1 : B) : if decide p = true then A else B := iteD (fun n => absurd n h) fun _ => h1
theorem itePn {p : Prop} [Decidable p] {A B : Prop} (h : p) (h1 : B) : if (!decide p) = true then A else B := iteDn (fun n => absurd h n) fun _ => h1
theorem iteNn {p : Prop} [Decidable p] {A B : Prop} (h : ¬ p) (h1 : A) : if (!decide p) = true then A else B := iteDn (fun _ => h1) fun n => absurd n h
section
variable {X : Cx} {H : Hp} {Q : VK} {i j n : Int} {p : Addr} {ns : List Int}
theorem b_pow' (n : Int) (c : 0 ≤ j ∧ j ≤ 1000000 ∧ i.natAbs < 2 ^ 64) (e : i ^ j.toNat = n) (h : Q (.int n) H) : Bin X .Pow (.int i) (.int j) H Q := b_pow c (by rw [e]; exact h)
theorem x_ints (h1 : SqL X.K H p (ns.map V.int)) (h0 : 0 ≤ i) (h2 : i < ns.length) (h : Q (.int (ns.getD i.toNat 0)) H) : Ixw X (.ref p) (.int i) H Q := x_lst h1 (atI_of h0 (by
  have hl : i.toNat < ns.length := by omega
  rw [List.getElem?_map, List.getElem?_eq_getElem hl, List.getD_eq_getElem?_getD, List.getElem?_eq_getElem hl]
  rfl)) h
end

/-! ### new objects, lists of whole numbers -/
section
variable {X : Cx} {σ : L2.St} {H : Hp} {Q : VK} {e : Expr} {es : List Expr} {pos p1 p2 p3 : Pos} {x1 k : Nat}
theorem we_tupK (h : Wa X es σ H fun xs H1 => xs.length ≤ 1000 ∧ ∀ p H', H1 p = none → Kp [] H1 H' → H' p = some (.tup xs) → Q (.ref p) H') : We X (.Tuple es x1 pos) σ H Q :=
  we_tup ⟨fun ps pins s I => thn (h.run ps pins s I) fun _ _ ⟨vs, H1, I1, r, h1, h2⟩ => ⟨vs, H1, I1, r, Nat.le_trans h1 (by decide), fun p n => h2 p _ n (.new n) upd_same⟩⟩
theorem we_lstK (h : Wa X es σ H fun xs H1 => xs.length ≤ 1000 ∧ ∀ p H', H1 p = none → Kp [] H1 H' → H' p = some (.lst xs) → Q (.ref p) H') : We X (.List es pos) σ H Q :=
  we_lst ⟨fun ps pins s I => thn (h.run ps pins s I) fun _ _ ⟨vs, H1, I1, r, h1, h2⟩ => ⟨vs, H1, I1, r, Nat.le_trans h1 (by decide), fun p n => h2 p _ n (.new n) upd_same⟩⟩
theorem we_revK (h : We X e σ H fun x H1 => ∃ a xs, x = .ref a ∧ SqL X.K H1 a xs ∧ ∀ p H', H1 p = none → Kp [] H1 H' → H' p = some (.lst xs.reverse) → Q (.ref p) H') :
    We X (.Subscript e (.Slice none none (some (.UnaryOp .USub (.Constant (.int 1) k p1) p2)) p3) pos) σ H Q :=
  we_rev (we_mono h fun _ _ ⟨a, xs, e1, h1, h2⟩ => ⟨a, xs, e1, h1, fun p n => h2 p _ n (.new n) upd_same⟩)
theorem we_var_at (i : Nat) (x : Str) {v : V} (hN : X.N[i]? = some x) (hv : Vis X.env.scope x) (hs : σ[i]? = some (some v)) (hd : (x == ("__debug__" : Str)) = false) (hcd : (x == ("__classdict__" : Str)) = false) (h : Q v H) : We X (.Name x pos) σ H Q := we_var i hN hv hs h hd hcd
variable {p l b : Addr} {ns ms : List Int} {lo hi : Option Int} {i : Int}
theorem ints0 {o : Hp} (h : o p = some (.lst [])) : o p = some (.lst (([] : List Int).map V.int)) := h
theorem ints1 {o : Hp} {a : Int} (h : o p = some (.lst [.int a])) : o p = some (.lst ([a].map V.int)) := h
theorem ints2 {o : Hp} {a b : Int} (h : o p = some (.lst [.int a, .int b])) : o p = some (.lst ([a, b].map V.int)) := h
theorem ints3 {o : Hp} {a b c : Int} (h : o p = some (.lst [.int a, .int b, .int c])) : o p = some (.lst ([a, b, c].map V.int)) := h
theorem ints4 {o : Hp} {a b c d : Int} (h : o p = some (.lst [.int a, .int b, .int c, .int d])) : o p = some (.lst ([a, b, c, d].map V.int)) := h
theorem ints5 {o : Hp} {a b c d e : Int} (h : o p = some (.lst [.int a, .int b, .int c, .int d, .int e])) : o p = some (.lst ([a, b, c, d, e].map V.int)) := h
theorem ints6 {o : Hp} {a b c d e g : Int} (h : o p = some (.lst [.int a, .int b, .int c, .int d, .int e, .int g])) : o p = some (.lst ([a, b, c, d, e, g].map V.int)) := h
/-- xs[lo:hi] of whole numbers -/
def cutI (ns : List Int) (lo hi : Option Int) : List Int := (ns.drop (HT.sIx ns.length 0 lo)).take (HT.sIx ns.length ns.length hi - HT.sIx ns.length 0 lo)
theorem cutV_ints : cutV (ns.map V.int) lo hi = (cutI ns lo hi).map V.int := by
  unfold cutV cutI
  rw [List.length_map, List.map_take, List.map_drop]
theorem x_slI (h1 : SqL X.K H p (ns.map V.int)) (h : ∀ q H', H q = none → Kp [] H H' → H' q = some (.lst ((cutI ns lo hi).map V.int)) → Q (.ref q) H') : Slw X (.ref p) lo hi H Q := x_sl h1 fun q H' n k e => h q H' n k (by rw [e, cutV_ints])
theorem we_revI (h : We X e σ H fun x H1 => ∃ a, x = .ref a ∧ ∃ ns : List Int, SqL X.K H1 a (ns.map V.int) ∧ ∀ p H', H1 p = none → Kp [] H1 H' → H' p = some (.lst (ns.reverse.map V.int)) → Q (.ref p) H') :
    We X (.Subscript e (.Slice none none (some (.UnaryOp .USub (.Constant (.int 1) k p1) p2)) p3) pos) σ H Q :=
  we_revK (we_mono h fun _ _ ⟨a, e1, ns, h1, h2⟩ => ⟨a, _, e1, h1, fun p H' n kk q => h2 p H' n kk (by rw [q, List.map_reverse])⟩)
theorem b_catI (h1 : H l = some (.lst (ns.map V.int))) (h2 : H b = some (.lst (ms.map V.int))) (hz : ns.length + ms.length ≤ 100000) (h : ∀ p H', H p = none → Kp [] H H' → H' p = some (.lst ((ns ++ ms).map V.int)) → Q (.ref p) H') : Bin X .Add (.ref l) (.ref b) H Q :=
  b_cat h1 h2 (by rw [List.length_map, List.length_map]; exact hz) fun p H' n k e => h p H' n k (by rw [e, List.map_append])
theorem b_repI (h1 : H l = some (.lst (ns.map V.int))) (hk : 0 ≤ i ∧ i ≤ 1000) (hz : ns.length ≤ 100) (h : ∀ p H', H p = none → Kp [] H H' → H' p = some (.lst ((List.replicate i.toNat ns).flatten.map V.int)) → Q (.ref p) H') : Bin X .Mult (.ref l) (.int i) H Q :=
  b_rep h1 (by omega) (by
    rw [List.length_map]
    have h3 : ns.length * i.toNat ≤ 100 * 1000 := Nat.mul_le_mul hz (by omega)
    omega) fun p H' n k e => h p H' n k (by
    rw [e, List.map_flatten, List.map_replicate])
/-- some item of a list of whole numbers -/
theorem x_mem (h1 : SqL X.K H p (ns.map V.int)) (h0 : 0 ≤ i) (h2 : i < ns.length) (h : ∀ x, x ∈ ns → Q (.int x) H) : Ixw X (.ref p) (.int i) H Q := x_ints h1 h0 h2 (h _ (by
  have hl : i.toNat < ns.length := by omega
  rw [List.getD_eq_getElem?_getD, List.getElem?_eq_getElem hl]
  exact List.getElem_mem hl))
/-- xs[i] = v of whole numbers -/
theorem x_setI {G : Hp → Prop} {v : Int} (h1 : H p = some (.lst (ns.map V.int))) (h0 : 0 ≤ i) (h2 : i < ns.length) (h : ∀ H', Kp [p] H H' → H' p = some (.lst ((ns.set i.toNat v).map V.int)) → G H') : Setw X (.ref p) (.int i) (.int v) H G :=
  x_set h1 (ixN_of h0 (by rw [List.length_map]; exact h2)) fun H' k e => h H' k (by rw [e, List.map_set])
/-- int(test) -/
theorem k_intD {q : Prop} [Decidable q] (h : ∀ n : Int, (q → n = 1) → (¬ q → n = 0) → (0 ≤ n ∧ n ≤ 1) → Q (.int n) H) : Cal X (.type "int") [.bl (decide q)] H Q := k_intB (by
  by_cases hq : q
  · rw [decide_eq_true hq]
    exact h 1 (fun _ => rfl) (fun z => absurd hq z) (by omega)
  · rw [decide_eq_false hq]
    exact h 0 (fun z => absurd z hq) (fun _ => rfl) (by omega))
theorem k_intN {q : Prop} [Decidable q] (h : ∀ n : Int, (q → n = 0) → (¬ q → n = 1) → (0 ≤ n ∧ n ≤ 1) → Q (.int n) H) : Cal X (.type "int") [.bl (!decide q)] H Q := k_intB (by
  by_cases hq : q
  · rw [decide_eq_true hq]
    exact h 0 (fun _ => rfl) (fun z => absurd hq z) (by omega)
  · rw [decide_eq_false hq]
    exact h 1 (fun z => absurd z hq) (fun _ => rfl) (by omega))
end
/-- what is no name of the module -/
structure Blt (mg : Str → Option Value) : Prop where
  len : mg "len" = none
  range : mg "range" = none
  list : mg "list" = none
  enumerate : mg "enumerate" = none
  zip : mg "zip" = none
  min : mg "min" = none
  max : mg "max" = none
  sum : mg "sum" = none
  sorted : mg "sorted" = none
  isinstance : mg "isinstance" = none
  int : mg "int" = none
  bool : mg "bool" = none
  repr : mg "repr" = none
  abs : mg "abs" = none
  str : mg "str" = none
  tuple : mg "tuple" = none
  dict : mg "dict" = none
  set : mg "set" = none
  ValueError : mg "ValueError" = none
theorem mapI_len (ns : List Int) : (ns.map V.int).length = ns.length := List.length_map _

/-! ### targets, names by their letters -/
section
variable {X : Cx} {σ : L2.St} {H : Hp} {Q : VK} {D : Ends} {e : Expr} {es : List Expr} {pos pos' : Pos} {v : V} {vs : List V} {G : L2.St → Hp → Prop}
structure Wgs (X : Cx) (ts : List Expr) (vs : List V) (σ : L2.St) (H : Hp) (G : L2.St → Hp → Prop) : Prop where
  run : ∀ (pins : List (Addr × Obj)) (s : Shared) (us : List Value), Inv X pins σ H s → Vals vs us → wpAny (model X.prog X.w) X.A (assignInOrder ((assignEach ts X.env).map (·.2)) us) (fun _ s' => ∃ σ' H', Inv X pins σ' H' s' ∧ G σ' H') X.xe s
theorem Wgs.pgs {ts : List Expr} : PGs X ts (fun vs σ H G => Wgs X ts vs σ H G) := ⟨fun pins s σ H vs us Q I r h => h.run pins s us I r⟩
theorem wgs_of {ts : List Expr} {t : TGs} (h : PGs X ts t) (q : t vs σ H G) : Wgs X ts vs σ H G := ⟨fun pins s us I r => h.run pins s σ H vs us G I r q⟩
theorem wgs_nil (h : G σ H) : Wgs X [] [] σ H G := wgs_of pgs_nil ⟨rfl, h⟩
theorem wgs_cons (h : Wg X e v σ H fun σ' H' => Wgs X es vs σ' H' G) (hs : (assignEach (e :: es) X.env).map (·.2) = assign e X.env :: (assignEach es X.env).map (·.2) := by rfl) : Wgs X (e :: es) (v :: vs) σ H G := wgs_of (pgs_cons Wg.pg Wgs.pgs hs) ⟨v, vs, rfl, h⟩
theorem wg_tup {k n : Nat} {q : Addr} (hc : X.calm = true) (ht : SqT X.K H q vs) (hl : vs.length = n) (h : Wgs X es vs σ H G) (hn : (assignEach es X.env).length = n := by rfl) (hst : (assignEach es X.env).findIdx? (·.1) = none := by rfl) : Wg X (.Tuple es k pos) (.ref q) σ H G :=
  wg_of (pg_tup hc Wgs.pgs hn hst) ⟨q, vs, rfl, ht, hl, h⟩
theorem wg_name_at (i : Nat) (x : Str) (hN : X.N.Nodup) (hi : X.N[i]? = some x) (hx : Loc X.env.scope x) (hf : X.fn x = true ∨ X.env.scope.names.lookup x = some .local) (h : G (σ.set i (some v)) H) : Wg X (.Name x pos) v σ H G := wg_name i hN hi hx h hf
theorem ws_name_at (i : Nat) (x : Str) (hN : X.N.Nodup) (hi : X.N[i]? = some x) (hx : Loc X.env.scope x) (hs : swapsWith e (some (.Name x pos')) pos.line X.env = pure false) (hf : X.fn x = true ∨ X.env.scope.names.lookup x = some .local) (h : We X e σ H fun v H1 => D.nx (σ.set i (some v)) H1) :
    Ws X (.Assign [.Name x pos'] e pos) D σ H := ws_name i hN hi hx h hs hf
theorem ws_aug_at (i : Nat) (x : Str) {op : Operator} {y : V} (hN : X.N.Nodup) (hi : X.N[i]? = some x) (hx : Loc X.env.scope x) (hf : X.fn x = true ∨ X.env.scope.names.lookup x = some .local) (hs : σ[i]? = some (some y)) (h : We X e σ H fun z H1 => Ipw X op y z H1 fun w H2 => D.nx (σ.set i (some w)) H2) :
    Ws X (.AugAssign (.Name x pos') op e pos) D σ H := ws_aug i hN hi hx hs h hf
end
/-! ### loops, one by one -/
section
variable {X : Cx} {σ : L2.St} {H : Hp} {Q : VK} {D : Ends} {a b c e it tg elt : Expr} {ifs : List Expr} {pos p : Pos} {body : List Stmt}
def Body (X : Cx) (body : List Stmt) (D : Ends) (Pv : Nat → L2.St → Hp → Prop) (i : Nat) (σ : L2.St) (H : Hp) : Prop := Wss X body { D with nx := Pv (i + 1), ct := Pv (i + 1), bk := D.nx } σ H
/-- a for over a list -/
theorem ws_forL (h : We X it σ H fun v H1 => ∃ q xs, v = .ref q ∧ SqL X.K H1 q xs ∧ ∃ Pv : Nat → L2.St → Hp → Prop, Pv 0 σ H1 ∧ (∀ i σ' H', i ≤ xs.length → Pv i σ' H' → SqL X.K H' q xs) ∧
      (∀ i x σ' H', xs[i]? = some x → Pv i σ' H' → Wg X tg x σ' H' (Body X body D Pv i)) ∧ ∀ σ' H', Pv xs.length σ' H' → D.nx σ' H')
    (hp : PassesOwn (model X.prog X.w) X.A X.env X.xe) (hc : X.calm = true) (hs : ∀ x, foldedSetIterable it X.env x = pure x := by intro _; rfl) : Ws X (.For tg it body [] pos) D σ H :=
  ws_for (wit_list (we_mono h fun _ _ ⟨q, xs, e1, h1, Pv, h0, hl, ht, hd⟩ => ⟨q, e1, ⟨xs, h1⟩, xs.length, _, _, walk_list (xs := xs), Pv, h0, hl, fun i x σ' H' H'' hi hP hY => by
    obtain ⟨rfl, hx⟩ := hY
    exact ht i x σ' _ hx hP, hd⟩)) hp hc hs
/-- .. over range(n) -/
theorem ws_forR (hg : Gl X "range") (hm : X.mg "range" = none) (h : We X a σ H fun v H1 => ∃ j : Int, v = .int j ∧ -100000 ≤ j ∧ j ≤ 100000 ∧ ∃ Pv : Nat → L2.St → Hp → Prop, Pv 0 σ H1 ∧
      (∀ (i : Nat) σ' H', (i : Int) < j → Pv i σ' H' → Wg X tg (.int (i : Int)) σ' H' (Body X body D Pv i)) ∧ ∀ σ' H', Pv j.toNat σ' H' → D.nx σ' H')
    (hp : PassesOwn (model X.prog X.w) X.A X.env X.xe) (hc : X.calm = true) (he : starEach [a] X.env = (false, eval a X.env) :: starEach [] X.env := by rfl) (hs : ∀ x, foldedSetIterable (.Call (.Name "range" p) [a] [] pos) X.env x = pure x := by intro _; rfl) {pos2 : Pos} : Ws X (.For tg (.Call (.Name "range" p) [a] [] pos) body [] pos2) D σ H :=
  ws_for (wit_range1 hg hm (we_mono h fun _ _ ⟨j, e1, h1, h2, Pv, h0, ht, hd⟩ => ⟨j, e1, by omega, by omega, j.toNat, _, _, walk_range, Pv, h0, fun _ _ _ _ _ => trivial, fun i x σ' H' H'' hi hP hY => by
    obtain ⟨rfl, rfl⟩ := hY
    show Wg X tg (.int ((0 : Int) + (i : Int))) σ' _ _
    rw [Int.zero_add]
    exact ht i σ' _ (by omega) hP, hd⟩) he) hp hc hs
/-- .. over range(a, b) -/
theorem ws_forR2 (hg : Gl X "range") (hm : X.mg "range" = none) (h : We X a σ H fun v H1 => We X b σ H1 fun w H2 => ∃ lo hi : Int, v = .int lo ∧ w = .int hi ∧ (-100000 ≤ lo ∧ lo ≤ 100000 ∧ -100000 ≤ hi ∧ hi ≤ 100000) ∧ ∃ Pv : Nat → L2.St → Hp → Prop, Pv 0 σ H2 ∧
      (∀ (i : Nat) σ' H', lo + (i : Int) < hi → Pv i σ' H' → Wg X tg (.int (lo + (i : Int))) σ' H' (Body X body D Pv i)) ∧ ∀ σ' H', Pv (hi - lo).toNat σ' H' → D.nx σ' H')
    (hp : PassesOwn (model X.prog X.w) X.A X.env X.xe) (hc : X.calm = true) (he : starEach [a, b] X.env = (false, eval a X.env) :: starEach [b] X.env := by rfl) (hb : starEach [b] X.env = (false, eval b X.env) :: starEach [] X.env := by rfl) (hs : ∀ x, foldedSetIterable (.Call (.Name "range" p) [a, b] [] pos) X.env x = pure x := by intro _; rfl) {pos2 : Pos} : Ws X (.For tg (.Call (.Name "range" p) [a, b] [] pos) body [] pos2) D σ H :=
  ws_for (wit_range2 hg hm (we_mono h fun _ _ h' => we_mono h' fun _ _ ⟨lo, hi, e1, e2, h1, Pv, h0, ht, hd⟩ => ⟨lo, hi, e1, e2, by omega, (hi - lo).toNat, _, _, walk_range, Pv, h0, fun _ _ _ _ _ => trivial, fun i x σ' H' H'' hi hP hY => by
    obtain ⟨rfl, rfl⟩ := hY
    exact ht i σ' _ (by omega) hP, hd⟩) he hb) hp hc hs
/-- .. over enumerate(xs): the pair is a new tuple -/
theorem ws_forE {elts : List Expr} {kk : Nat} {tpos : Pos} (hg : Gl X "enumerate") (hm : X.mg "enumerate" = none) (h : We X e σ H fun v H1 => ∃ q xs, v = .ref q ∧ SqL X.K H1 q xs ∧ ∃ Pv : Nat → L2.St → Hp → Prop, Pv 0 σ H1 ∧ (∀ i σ' H', i ≤ xs.length → Pv i σ' H' → SqL X.K H' q xs) ∧
      (∀ (i : Nat) x σ' H' t H'', xs[i]? = some x → Pv i σ' H' → H' t = none → Kp [] H' H'' → H'' t = some (.tup [.int (i : Int), x]) → Wg X (.Tuple elts kk tpos) (.ref t) σ' H'' (Body X body D Pv i)) ∧ ∀ σ' H', Pv xs.length σ' H' → D.nx σ' H')
    (hp : PassesOwn (model X.prog X.w) X.A X.env X.xe) (hc : X.calm = true) (he : starEach [e] X.env = (false, eval e X.env) :: starEach [] X.env := by rfl) (hs : ∀ x, foldedSetIterable (.Call (.Name "enumerate" p) [e] [] pos) X.env x = pure x := by intro _; rfl) {pos2 : Pos} :
    Ws X (.For (.Tuple elts kk tpos) (.Call (.Name "enumerate" p) [e] [] pos) body [] pos2) D σ H :=
  ws_for (wit_enum hg hm (we_mono h fun _ _ ⟨q, xs, e1, h1, Pv, h0, hl, ht, hd⟩ => ⟨q, xs, e1, h1, xs.length, _, _, walk_enum (xs := xs), Pv, h0, hl, fun i x σ' H' H'' hi hP hY => by
    obtain ⟨t, y, z, rfl, nt, rfl, ey, ez⟩ := hY
    cases ey
    exact ht i z σ' H' t _ ez hP nt (.new nt) upd_same, hd⟩) he) hp hc hs
/-- .. over zip(xs, ys) -/
theorem ws_forZ {elts : List Expr} {kk : Nat} {tpos : Pos} (hg : Gl X "zip") (hm : X.mg "zip" = none) (h : We X a σ H fun v H0 => We X b σ H0 fun w H1 => ∃ q r xs ys, v = .ref q ∧ w = .ref r ∧ SqL X.K H1 q xs ∧ SqL X.K H1 r ys ∧ ∃ Pv : Nat → L2.St → Hp → Prop, Pv 0 σ H1 ∧ (∀ i σ' H', i ≤ min xs.length ys.length → Pv i σ' H' → SqL X.K H' q xs ∧ SqL X.K H' r ys) ∧
      (∀ (i : Nat) x y σ' H' t H'', xs[i]? = some x → ys[i]? = some y → Pv i σ' H' → H' t = none → Kp [] H' H'' → H'' t = some (.tup [x, y]) → Wg X (.Tuple elts kk tpos) (.ref t) σ' H'' (Body X body D Pv i)) ∧ ∀ σ' H', Pv (min xs.length ys.length) σ' H' → D.nx σ' H')
    (hp : PassesOwn (model X.prog X.w) X.A X.env X.xe) (hc : X.calm = true) (he : starEach [a, b] X.env = (false, eval a X.env) :: starEach [b] X.env := by rfl) (hb : starEach [b] X.env = (false, eval b X.env) :: starEach [] X.env := by rfl) (hs : ∀ x, foldedSetIterable (.Call (.Name "zip" p) [a, b] [] pos) X.env x = pure x := by intro _; rfl) {pos2 : Pos} :
    Ws X (.For (.Tuple elts kk tpos) (.Call (.Name "zip" p) [a, b] [] pos) body [] pos2) D σ H :=
  ws_for (wit_zip hg hm (we_mono h fun _ _ h' => we_mono h' fun _ _ ⟨q, r, xs, ys, e1, e2, h1, h2, Pv, h0, hl, ht, hd⟩ => ⟨q, r, xs, ys, e1, e2, h1, h2, min xs.length ys.length, _, _, walk_zip (xs := xs) (ys := ys) rfl, Pv, h0, hl, fun i x σ' H' H'' hi hP hY => by
    obtain ⟨t, y, z, rfl, nt, rfl, ey, ez⟩ := hY
    exact ht i y z σ' H' t _ ey ez hP nt (.new nt) upd_same, hd⟩) he hb) hp hc hs
/-- a comprehension's turn: its element goes to the new list -/
def Elt (X : Cx) (elt tg : Expr) (ifs : List Expr) (scope : Scope) (vs : List Nat) (σ : L2.St) (x : V) (H : Hp) (Dl : Addr) (N : Hp → Prop) : Prop :=
  Bl X scope fun Z => Wg Z tg x (wipe σ vs) H fun σ2 H2 => wipe σ2 vs = wipe σ vs ∧ Bl X scope fun Z => Wts Z ifs σ2 H2 fun k H3 =>
    if k = true then Bl X scope fun Z => We Z elt σ2 H3 fun y H4 => ∃ acc, H4 Dl = some (.lst acc) ∧ acc.length < 100000 ∧ ∀ H5, Kp [Dl] H4 H5 → H5 Dl = some (.lst (acc ++ [y])) → N H5 else N H3
theorem elt_of {scope : Scope} {vs : List Nat} {x : V} {Dl : Addr} {N : Hp → Prop} (h : Elt X elt tg ifs scope vs σ x H Dl N) : Bl X scope fun Z => Wg Z tg x (wipe σ vs) H fun σ2 H2 => wipe σ2 vs = wipe σ vs ∧ Bl X scope fun Z => Wts Z ifs σ2 H2 fun k H3 =>
    if k = true then Bl X scope fun Z => We Z elt σ2 H3 fun y H4 => ∃ acc, H4 Dl = some (.lst acc) ∧ acc.length < sizeLine ∧ N (upd H4 Dl (.lst (acc ++ [y]))) else N H3 := by
  intro s H0 C cl fp
  refine ⟨fun pins s1 u I r => thn ((h s H0 C cl fp).run pins s1 u I r) fun _ s2 ⟨σ2, H2, I2, e2, q⟩ => ⟨σ2, H2, I2, e2, fun s H0 C cl fp => ?_⟩⟩
  have q1 := q s H0 C cl fp
  have conv : ∀ (k : Bool) H3, (if k = true then Bl X scope fun Z => We Z elt σ2 H3 fun y H4 => ∃ acc, H4 Dl = some (.lst acc) ∧ acc.length < 100000 ∧ ∀ H5, Kp [Dl] H4 H5 → H5 Dl = some (.lst (acc ++ [y])) → N H5 else N H3) →
      (if k = true then Bl X scope fun Z => We Z elt σ2 H3 fun y H4 => ∃ acc, H4 Dl = some (.lst acc) ∧ acc.length < sizeLine ∧ N (upd H4 Dl (.lst (acc ++ [y]))) else N H3) := fun k H3 g => by
    cases k with
    | false => exact g
    | true => exact iteT fun s H0 C cl fp => we_mono (g s H0 C cl fp) fun y H4 ⟨acc, g1, g2, g3⟩ => ⟨acc, g1, Nat.lt_of_lt_of_le g2 (by decide), g3 _ (.put g1) upd_same⟩
  match ifs, q1 with
  | [], q1 => exact conv true H2 q1
  | [c], q1 => exact ⟨fun pins s I => thn (q1.run pins s I) fun k s1 ⟨H3, I3, g⟩ => ⟨H3, I3, conv k H3 g⟩⟩
  | _ :: _ :: _, q1 => exact q1.elim
def LcD (X : Cx) (elt tg : Expr) (ifs : List Expr) (scope : Scope) (vs : List Nat) (σ : L2.St) (Q : VK) (n : Nat) (G : Hp → Prop) (Y : Nat → Hp → V → Hp → Prop) (H : Hp) : Prop := ∀ Dl H1, H Dl = none → Kp [] H H1 → H1 Dl = some (.lst []) → ∃ Pv : Nat → Hp → Prop, Pv 0 H1 ∧ (∀ i H', i ≤ n → Pv i H' → G H') ∧
  (∀ i x H' H'', i < n → Pv i H' → Y i H' x H'' → Elt X elt tg ifs scope vs σ x H'' Dl (Pv (i + 1))) ∧ ∀ H', Pv n H' → Q (.ref Dl) H'
theorem lcd {scope : Scope} {vs : List Nat} {J : It} {n : Nat} {G : Hp → Prop} {Y : Nat → Hp → V → Hp → Prop} (wk : Walk J n G Y) (h : LcD X elt tg ifs scope vs σ Q n G Y H) : LcW X elt tg ifs scope vs σ Q J H := fun Dl nD => by
  obtain ⟨Pv, h0, hG, ht, hd⟩ := h Dl _ nD (.new nD) upd_same
  exact ⟨n, G, Y, wk, Pv, h0, hG, fun i x H' H'' hi hP hY => elt_of (ht i x H' H'' hi hP hY), hd⟩
/-- the walked things of a comprehension -/
theorem lc_R {scope : Scope} {vs : List Nat} {R : VK} (hg : Gl X "range") (hm : X.mg "range" = none) (h : We X a σ H fun v H1 => ∃ j : Int, v = .int j ∧ -100000 ≤ j ∧ j ≤ 100000 ∧ LcD X elt tg ifs scope vs σ R j.toNat (fun _ => True) (YFn fun i => .int ((0 : Int) + (i : Int))) H1) (he : starEach [a] X.env = (false, eval a X.env) :: starEach [] X.env := by rfl) :
    Wit X tg (.Call (.Name "range" p) [a] [] pos) σ H (LcW X elt tg ifs scope vs σ R) := wit_range1 hg hm (we_mono h fun _ _ ⟨j, e1, h1, h2, h3⟩ => ⟨j, e1, by omega, by omega, lcd walk_range h3⟩) he
theorem lc_R2 {scope : Scope} {vs : List Nat} {R : VK} (hg : Gl X "range") (hm : X.mg "range" = none) (h : We X a σ H fun v H1 => We X b σ H1 fun w H2 => ∃ lo hi : Int, v = .int lo ∧ w = .int hi ∧ (-100000 ≤ lo ∧ lo ≤ 100000 ∧ -100000 ≤ hi ∧ hi ≤ 100000) ∧ LcD X elt tg ifs scope vs σ R (hi - lo).toNat (fun _ => True) (YFn fun i => .int (lo + (i : Int))) H2)
    (he : starEach [a, b] X.env = (false, eval a X.env) :: starEach [b] X.env := by rfl) (hb : starEach [b] X.env = (false, eval b X.env) :: starEach [] X.env := by rfl) : Wit X tg (.Call (.Name "range" p) [a, b] [] pos) σ H (LcW X elt tg ifs scope vs σ R) :=
  wit_range2 hg hm (we_mono h fun _ _ h' => we_mono h' fun _ _ ⟨lo, hi, e1, e2, h1, h3⟩ => ⟨lo, hi, e1, e2, by omega, lcd walk_range h3⟩) he hb
theorem lc_L {scope : Scope} {vs : List Nat} {R : VK} (h : We X it σ H fun v H1 => ∃ q xs, v = .ref q ∧ SqL X.K H1 q xs ∧ LcD X elt tg ifs scope vs σ R xs.length (fun H => SqL X.K H q xs) (YAt xs) H1) : Wit X tg it σ H (LcW X elt tg ifs scope vs σ R) :=
  wit_list (we_mono h fun _ _ ⟨q, xs, e1, h1, h3⟩ => ⟨q, e1, ⟨xs, h1⟩, lcd walk_list h3⟩)
theorem lc_E {scope : Scope} {vs : List Nat} {R : VK} {elts : List Expr} {kk : Nat} {tpos : Pos} (hg : Gl X "enumerate") (hm : X.mg "enumerate" = none) (h : We X e σ H fun v H1 => ∃ q xs, v = .ref q ∧ SqL X.K H1 q xs ∧ LcD X elt (.Tuple elts kk tpos) ifs scope vs σ R xs.length (fun H => SqL X.K H q xs) (YPair (fun i => some (.int (i : Nat))) (fun i => xs[i]?)) H1) (he : starEach [e] X.env = (false, eval e X.env) :: starEach [] X.env := by rfl) :
    Wit X (.Tuple elts kk tpos) (.Call (.Name "enumerate" p) [e] [] pos) σ H (LcW X elt (.Tuple elts kk tpos) ifs scope vs σ R) := wit_enum hg hm (we_mono h fun _ _ ⟨q, xs, e1, h1, h3⟩ => ⟨q, xs, e1, h1, lcd walk_enum h3⟩) he
end

/-! ### powers of ten -/
section
variable {X : Cx} {H : Hp} {Q : VK}
theorem b_p6 (h : Q (.int 1000000) H) : Bin X .Pow (.int 10) (.int 6) H Q := b_pow (by decide) (by rw [show (10 : Int) ^ (6 : Int).toNat = 1000000 from by decide +kernel]; exact h)
theorem b_p8 (h : Q (.int 100000000) H) : Bin X .Pow (.int 10) (.int 8) H Q := b_pow (by decide) (by rw [show (10 : Int) ^ (8 : Int).toNat = 100000000 from by decide +kernel]; exact h)
theorem b_p9 (h : Q (.int 1000000000) H) : Bin X .Pow (.int 10) (.int 9) H Q := b_pow (by decide) (by rw [show (10 : Int) ^ (9 : Int).toNat = 1000000000 from by decide +kernel]; exact h)
theorem b_p11 (h : Q (.int 100000000000) H) : Bin X .Pow (.int 10) (.int 11) H Q := b_pow (by decide) (by rw [show (10 : Int) ^ (11 : Int).toNat = 100000000000 from by decide +kernel]; exact h)
theorem b_p12 (h : Q (.int 1000000000000) H) : Bin X .Pow (.int 10) (.int 12) H Q := b_pow (by decide) (by rw [show (10 : Int) ^ (12 : Int).toNat = 1000000000000 from by decide +kernel]; exact h)
theorem b_p18 (h : Q (.int 1000000000000000000) H) : Bin X .Pow (.int 10) (.int 18) H Q := b_pow (by decide) (by rw [show (10 : Int) ^ (18 : Int).toNat = 1000000000000000000 from by decide +kernel]; exact h)
theorem b_p27 (h : Q (.int 1000000000000000000000000000) H) : Bin X .Pow (.int 10) (.int 27) H Q := b_pow (by decide) (by rw [show (10 : Int) ^ (27 : Int).toNat = 1000000000000000000000000000 from by decide +kernel]; exact h)
theorem b_p30 (h : Q (.int 1000000000000000000000000000000) H) : Bin X .Pow (.int 10) (.int 30) H Q := b_pow (by decide) (by rw [show (10 : Int) ^ (30 : Int).toNat = 1000000000000000000000000000000 from by decide +kernel]; exact h)
theorem b_p39 (h : Q (.int 1000000000000000000000000000000000000000) H) : Bin X .Pow (.int 10) (.int 39) H Q := b_pow (by decide) (by rw [show (10 : Int) ^ (39 : Int).toNat = 1000000000000000000000000000000000000000 from by decide +kernel]; exact h)
end

section
variable {X : Cx} {H : Hp} {Q : VK} {p : Addr} {i : Int}
theorem Kp.sq0 {K : PySem.W.Frag} {H H' : Hp} {a : Addr} {xs : List V} (k : Kp [] H H') (h : SqL K H a xs) : SqL K H' a xs := sqL_ext k.ex h
theorem Kp.st0 {K : PySem.W.Frag} {H H' : Hp} {a : Addr} {xs : List V} (k : Kp [] H H') (h : SqT K H a xs) : SqT K H' a xs := sqT_ext k.ex h
theorem iteB {b : Bool} {A B : Prop} (h1 : b = true → A) (h2 : b = false → B) : if b = true then A else B := by
  cases b with
  | true => exact iteT (h1 rfl)
  | false => exact iteF (h2 rfl)
theorem x_m2 {a b : Int} (h1 : H p = some (.lst [.int a, .int b])) (h0 : 0 ≤ i ∧ i < 2) (h : ∀ x, (x = a ∨ x = b) → Q (.int x) H) : Ixw X (.ref p) (.int i) H Q := x_mem (sqL (ints2 h1)) h0.1 h0.2 fun x hx => h x (by simpa using hx)
theorem x_m3 {a b c : Int} (h1 : H p = some (.lst [.int a, .int b, .int c])) (h0 : 0 ≤ i ∧ i < 3) (h : ∀ x, (x = a ∨ x = b ∨ x = c) → Q (.int x) H) : Ixw X (.ref p) (.int i) H Q := x_mem (sqL (ints3 h1)) h0.1 h0.2 fun x hx => h x (by simpa using hx)
theorem x_m4 {a b c d : Int} (h1 : H p = some (.lst [.int a, .int b, .int c, .int d])) (h0 : 0 ≤ i ∧ i < 4) (h : ∀ x, (x = a ∨ x = b ∨ x = c ∨ x = d) → Q (.int x) H) : Ixw X (.ref p) (.int i) H Q := x_mem (sqL (ints4 h1)) h0.1 h0.2 fun x hx => h x (by simpa using hx)
theorem x_m5 {a b c d e : Int} (h1 : H p = some (.lst [.int a, .int b, .int c, .int d, .int e])) (h0 : 0 ≤ i ∧ i < 5) (h : ∀ x, (x = a ∨ x = b ∨ x = c ∨ x = d ∨ x = e) → Q (.int x) H) : Ixw X (.ref p) (.int i) H Q := x_mem (sqL (ints5 h1)) h0.1 h0.2 fun x hx => h x (by simpa using hx)
theorem x_m6 {a b c d e g : Int} (h1 : H p = some (.lst [.int a, .int b, .int c, .int d, .int e, .int g])) (h0 : 0 ≤ i ∧ i < 6) (h : ∀ x, (x = a ∨ x = b ∨ x = c ∨ x = d ∨ x = e ∨ x = g) → Q (.int x) H) : Ixw X (.ref p) (.int i) H Q := x_mem (sqL (ints6 h1)) h0.1 h0.2 fun x hx => h x (by simpa using hx)
end

theorem ne_nn {H : Hp} {a b : Addr} {o : HO} (n : H b = none) (h : H a = some o) : a ≠ b := ne_of_none h n

theorem wss_cut {X : Cx} {σ : L2.St} {H : Hp} {D : Ends} {st : Stmt} {sts : List Stmt} (Mid : L2.St → Hp → Prop) (h1 : Ws X st { D with nx := Mid } σ H) (h2 : ∀ σ' H', Mid σ' H' → Wss X sts D σ' H') : Wss X (st :: sts) D σ H :=
  wss_cons ⟨fun pins s I => thn (h1.run pins s I) fun f s1 q => by
    cases f with
    | next => exact let ⟨σ', H', I', q'⟩ := q; ⟨σ', H', I', h2 σ' H' q'⟩
    | ret v => exact q
    | brk => exact q
    | cont => exact q⟩
theorem cutI_mem {ns : List Int} {lo hi : Option Int} {x : Int} (h : x ∈ cutI ns lo hi) : x ∈ ns := List.mem_of_mem_drop (List.mem_of_mem_take h)
theorem cutI_len (ns : List Int) (lo hi : Option Int) : (cutI ns lo hi).length ≤ ns.length := by
  unfold cutI
  rw [List.length_take, List.length_drop]
  omega
theorem cutI_to (ns : List Int) (n : Int) (h : 0 ≤ n) : cutI ns none (some n) = ns.take n.toNat := by
  unfold cutI
  have e : HT.sIx ns.length ns.length (some n) = min n.toNat ns.length := by
    have := HT.sIx_nat ns.length ns.length n.toNat
    rwa [Int.toNat_of_nonneg h] at this
  rw [e, HT.sIx_none, List.drop_zero, Nat.sub_zero]
  rcases Nat.le_total n.toNat ns.length with hl | hl
  · rw [Nat.min_eq_left hl]
  · rw [Nat.min_eq_right hl, List.take_length, List.take_of_length_le hl]
theorem cutI_all (ns : List Int) : cutI ns none none = ns := by
  unfold cutI
  rw [HT.sIx_none, HT.sIx_none, List.drop_zero, Nat.sub_zero, List.take_length]
theorem cutI_from (ns : List Int) (n : Int) (h : 0 ≤ n) : cutI ns (some n) none = ns.drop n.toNat := by
  unfold cutI
  have e : HT.sIx ns.length 0 (some n) = min n.toNat ns.length := by
    have := HT.sIx_nat ns.length 0 n.toNat
    rwa [Int.toNat_of_nonneg h] at this
  rw [e, HT.sIx_none]
  rcases Nat.le_total n.toNat ns.length with hl | hl
  · rw [Nat.min_eq_left hl]
    exact List.take_of_length_le (by rw [List.length_drop]; exact Nat.le_refl _)
  · rw [Nat.min_eq_right hl, List.drop_length, List.take_nil, List.drop_of_length_le hl]
theorem cutI_both (ns : List Int) (a b : Int) (h : 0 ≤ a) (h2 : a ≤ b) (h3 : b ≤ ns.length) : cutI ns (some a) (some b) = (ns.drop a.toNat).take (b.toNat - a.toNat) := by
  unfold cutI
  have e : HT.sIx ns.length 0 (some a) = min a.toNat ns.length := by
    have := HT.sIx_nat ns.length 0 a.toNat
    rwa [Int.toNat_of_nonneg h] at this
  have e2 : HT.sIx ns.length ns.length (some b) = min b.toNat ns.length := by
    have := HT.sIx_nat ns.length ns.length b.toNat
    rwa [Int.toNat_of_nonneg (by omega)] at this
  rw [e, e2, Nat.min_eq_left (by omega), Nat.min_eq_left (by omega)]
theorem wt_loc {sc : Scope} {x : Str} (h : sc.names.lookup x = some .local) : Loc sc x := .inl h

theorem wts_nil {X : Cx} {σ : L2.St} {H : Hp} {R : Bool → Hp → Prop} (h : R true H) : Wts X [] σ H R := h
theorem wts_one {X : Cx} {σ : L2.St} {H : Hp} {c : Expr} {R : Bool → Hp → Prop} (h : Wt X c σ H R) : Wts X [c] σ H R := h
end SL

/-! more rules by values -/
namespace SL
open PySem PySem.Spec PyProof.Rows L2

/-- a number whose text is short -/
def Szd (x : Int) : Prop := x.natAbs.log2 < 1900
theorem szd_of {x : Int} (h : -1000000000000000000000000000000000000000000000000 ≤ x ∧ x ≤ 1000000000000000000000000000000000000000000000000) : Szd x := by
  unfold Szd
  by_cases e : x.natAbs = 0
  · rw [e]; decide
  · rw [Nat.log2_lt e]
    exact Nat.lt_of_lt_of_le (show x.natAbs < 2 ^ 200 from by
      have : (2 : Nat) ^ 200 = 1606938044258990275541962092341162602522202993782792835301376 := by decide +kernel
      omega) (Nat.pow_le_pow_right (by decide) (by decide))
section
variable {X : Cx} {σ : L2.St} {H : Hp} {Q : VK} {a p : Addr} {ns : List Int} {v : Int}
theorem x_lastI (h1 : SqL X.K H p (ns.map V.int)) (h2 : ns.getLast? = some v) (h : Q (.int v) H) : Ixw X (.ref p) (.int (-1)) H Q := x_lst h1 (atI_m1 (by rw [List.getLast?_map, h2]; rfl)) h
theorem shownAll_ints : ∀ ns : List Int, PyData.shownAll (ns.map PyData.int) = ns.map fun i => PySem.Str.ofString (toString i)
  | [] => rfl
  | n :: ns => by
    show PyData.shown (.int n) :: PyData.shownAll (ns.map PyData.int) = _
    rw [shownAll_ints ns]; rfl
theorem showable_ints : ∀ {ns : List Int}, (∀ x ∈ ns, Szd x) → PyData.showableAll (ns.map PyData.int) = true
  | [], _ => rfl
  | n :: ns, h => by
    show (PyData.showable (.int n) && PyData.showableAll (ns.map PyData.int)) = true
    rw [showable_ints (fun x hx => h x (List.mem_cons_of_mem _ hx)), Bool.and_true]
    show decide (n.natAbs.log2 < 1920) = true
    have := h n List.mem_cons_self
    unfold Szd at this
    exact decide_eq_true (by omega)
theorem sum_le_const {α : Type} (g : α → Nat) (c : Nat) : ∀ {xs : List α}, (∀ x ∈ xs, g x ≤ c) → (xs.map g).sum ≤ c * xs.length
  | [], _ => Nat.zero_le _
  | x :: xs, h => by
    rw [List.map_cons, List.sum_cons, List.length_cons, Nat.mul_succ]
    have h1 := sum_le_const g c (xs := xs) fun y hy => h y (List.mem_cons_of_mem _ hy)
    have h2 := h x List.mem_cons_self
    omega
theorem shown_ints_len {ns : List Int} (h : ∀ x ∈ ns, Szd x) (hl : ns.length ≤ 1000) : (dI ns).shown.length ≤ sizeLine := by
  have e : (dI ns).shown = listText (PyData.shownAll (ns.map PyData.int)) := by unfold dI; rw [PyData.shown]
  rw [e, shownAll_ints]
  refine Nat.le_trans (listText_len_le _) ?_
  rw [List.map_map, List.length_map]
  have h1 := sum_le_const (fun i : Int => (PySem.Str.ofString (toString i)).length) 1921 (xs := ns) fun x hx => int_text_len_1921 (by have := h x hx; unfold Szd at this; omega)
  have h2 : (ns.map ((fun x : Str => x.length) ∘ fun i : Int => PySem.Str.ofString (toString i))).sum ≤ 1921 * ns.length := h1
  have : sizeLine = 16777216 := rfl
  omega
theorem hasDict_ints : ∀ ns : List Int, PyData.hasDictAll (ns.map PyData.int) = false
  | [] => rfl
  | n :: ns => by
    show (PyData.hasDict (.int n) || PyData.hasDictAll (ns.map PyData.int)) = false
    rw [hasDict_ints ns]; rfl
theorem depth_ints : ∀ ns : List Int, PyData.depthAll (ns.map PyData.int) = 0
  | [] => rfl
  | n :: ns => by
    show max (PyData.depth (.int n)) (PyData.depthAll (ns.map PyData.int)) = 0
    rw [depth_ints ns]; rfl
/-- repr of a list of whole numbers -/
theorem k_reprI {k : Nat} (hr : Room k X.A) (hgd : X.A.guards = some []) (h1 : SqL X.K H a (ns.map V.int)) (hb : ∀ x ∈ ns, Szd x) (hl : ns.length ≤ 1000) (h : Q (.str (dI ns).shown) H) : Cal X (.builtin "repr") [.ref a] H Q :=
  k_repr hr hgd (dp_ints h1) (by unfold dI; rw [PyData.showable]; exact showable_ints hb) (by unfold dI; rw [PyData.hasDict]; exact hasDict_ints ns) (by unfold dI; rw [PyData.depth, depth_ints]; decide) (shown_ints_len hb hl) h
end
theorem Kp.sqK {K : PySem.W.Frag} {H H' : Hp} {a : Addr} {xs : List V} (h : SqL K H a xs) (k : Kp [] H H') : SqL K H' a xs := k.sq0 h
theorem Kp.stK {K : PySem.W.Frag} {H H' : Hp} {a : Addr} {xs : List V} (h : SqT K H a xs) (k : Kp [] H H') : SqT K H' a xs := k.st0 h
def Th (H : Hp) (a : Addr) : Prop := ∃ o, H a = some o
theorem Kp.th {M : List Addr} {H H' : Hp} {a : Addr} (k : Kp M H H') (h : Th H a) : Th H' a := by
  obtain ⟨o, e⟩ := h
  cases q : H' a with
  | none => rw [k.dom a q] at e; cases e
  | some u => exact ⟨u, q⟩
theorem ne_th {H : Hp} {a b : Addr} (n : H b = none) (h : Th H a) : a ≠ b := fun z => by
  obtain ⟨o, e⟩ := h
  rw [z, n] at e; cases e
theorem mapI_get {ns : List Int} {i : Nat} {x : V} (h : (ns.map V.int)[i]? = some x) : ∃ n : Int, ns[i]? = some n ∧ x = .int n := by
  rw [List.getElem?_map] at h
  cases q : ns[i]? with
  | none => rw [q] at h; cases h
  | some n => rw [q] at h; cases h; exact ⟨n, rfl, rfl⟩
theorem mapI_app (ns : List Int) (v : Int) : ns.map V.int ++ [V.int v] = (ns ++ [v]).map V.int := by rw [List.map_append]; rfl
section
variable {H : Hp} {l p : Addr} {ns : List Int} {xs : List V} {y : V} {v : Int}
theorem appI {R : Hp → Prop} (h1 : H l = some (.lst (ns.map V.int))) (hl : ns.length < 100000) (h : ∀ H', Kp [l] H H' → H' l = some (.lst ((ns ++ [v]).map V.int)) → R H') : ∃ xs, H l = some (.lst xs) ∧ xs.length < 100000 ∧ ∀ H', Kp [l] H H' → H' l = some (.lst (xs ++ [.int v])) → R H' :=
  ⟨_, h1, by rw [List.length_map]; exact hl, fun H' k e => h H' k (by rw [e, mapI_app])⟩
theorem appV {R : Hp → Prop} (h1 : H l = some (.lst xs)) (hl : xs.length < 100000) (h : ∀ H', Kp [l] H H' → H' l = some (.lst (xs ++ [y])) → R H') : ∃ xs, H l = some (.lst xs) ∧ xs.length < 100000 ∧ ∀ H', Kp [l] H H' → H' l = some (.lst (xs ++ [y])) → R H' :=
  ⟨_, h1, hl, h⟩
theorem popI {R : V → Hp → Prop} (h1 : H p = some (.lst (ns.map V.int))) (h2 : ns.getLast? = some v) (h : ∀ H', Kp [p] H H' → H' p = some (.lst (ns.dropLast.map V.int)) → R (.int v) H') :
    ∃ l xs y, V.ref p = .ref l ∧ H l = some (.lst xs) ∧ xs.getLast? = some y ∧ ∀ H', Kp [l] H H' → H' l = some (.lst xs.dropLast) → R y H' :=
  ⟨p, _, _, rfl, h1, by rw [List.getLast?_map, h2]; rfl, fun H' k e => h H' k (by rw [e, List.map_dropLast])⟩
end
theorem nin1 {a p : Addr} (h : a ≠ p) : a ∉ [p] := by simp [h]
theorem Kp.gX {M : List Addr} {H H' : Hp} {b : Addr} {o : HO} (k : Kp M H H') (h : H b = some o) (n : b ∉ M ∨ Imm o) : H' b = some o := k.get b o h n
theorem sub0 {M : List Addr} {H : Hp} : ∀ x ∈ ([] : List Addr), x ∈ M ∨ H x = none := fun x hx => by cases hx
theorem sub1 {M : List Addr} {H : Hp} {p : Addr} (h : p ∈ M ∨ H p = none) : ∀ x ∈ [p], x ∈ M ∨ H x = none := fun x hx => by rw [List.mem_singleton.mp hx]; exact h
theorem subS {M : List Addr} {H : Hp} : ∀ x ∈ M, x ∈ M ∨ H x = none := fun x hx => .inl hx
theorem subC {M M' : List Addr} {H : Hp} {p : Addr} (h : p ∈ M ∨ H p = none) (h' : ∀ x ∈ M', x ∈ M ∨ H x = none) : ∀ x ∈ p :: M', x ∈ M ∨ H x = none := fun x hx => by
  rcases List.mem_cons.mp hx with e | e
  · rw [e]; exact h
  · exact h' x e
theorem Kp.trX {M M' : List Addr} {H H1 H2 : Hp} (b : Kp M' H1 H2) (a : Kp M H H1) (h : ∀ x ∈ M', x ∈ M ∨ H x = none) : Kp M H H2 := a.trans b h
end SL

/-! lists of pairs, slices stored -/
namespace SL
open PySem PySem.Spec PyProof.Rows L2

/-- at p a list of pairs of whole numbers -/
structure PL (H : Hp) (p : Addr) (ps : List (Int × Int)) : Prop where
  ex : ∃ ts : List Addr, H p = some (.lst (ts.map V.ref)) ∧ ts.length = ps.length ∧ ∀ (j : Nat) t, ts[j]? = some t → ∃ q, ps[j]? = some q ∧ H t = some (.tup [.int q.1, .int q.2])
theorem PL.kp {M : List Addr} {H H' : Hp} {p : Addr} {ps : List (Int × Int)} (h : PL H p ps) (k : Kp M H H') (n : p ∉ M) : PL H' p ps := by
  obtain ⟨ts, h1, h2, h3⟩ := h.ex
  refine ⟨ts, k.gM n h1, h2, fun j t hj => ?_⟩
  obtain ⟨q, e1, e2⟩ := h3 j t hj
  exact ⟨q, e1, k.gT e2⟩
theorem PL.kp0 {H H' : Hp} {p : Addr} {ps : List (Int × Int)} (h : PL H p ps) (k : Kp [] H H') : PL H' p ps := h.kp k (by simp)
theorem PL.k0 {H H' : Hp} {p : Addr} {ps : List (Int × Int)} (k : Kp [] H H') (h : PL H p ps) : PL H' p ps := h.kp k (by simp)
theorem PL.kM {M : List Addr} {H H' : Hp} {p : Addr} {ps : List (Int × Int)} (k : Kp M H H') (n : p ∉ M) (h : PL H p ps) : PL H' p ps := h.kp k n
theorem PL.kX {M : List Addr} {H H' : Hp} {p : Addr} {ps : List (Int × Int)} (k : Kp M H H') (h : PL H p ps) (n : p ∉ M) : PL H' p ps := h.kp k n
theorem PL.at {H : Hp} {p : Addr} {ps : List (Int × Int)} (h : PL H p ps) : ∃ ts : List Addr, H p = some (.lst (ts.map V.ref)) := let ⟨ts, h1, _⟩ := h.ex; ⟨ts, h1⟩
theorem PL.th {H : Hp} {p : Addr} {ps : List (Int × Int)} (h : PL H p ps) : Th H p := let ⟨ts, h1, _⟩ := h.ex; ⟨_, h1⟩
theorem PL.nil {H : Hp} {p : Addr} (h : H p = some (.lst [])) : PL H p [] := ⟨[], h, rfl, fun j t hj => by simp at hj⟩
theorem PL.app {H H' : Hp} {p t : Addr} {ts : List Addr} {ps : List (Int × Int)} {q : Int × Int} (h : PL H p ps) (hp : H p = some (.lst (ts.map V.ref))) (ht : H t = some (.tup [.int q.1, .int q.2])) (k : Kp [p] H H') (e : H' p = some (.lst (ts.map V.ref ++ [.ref t]))) : PL H' p (ps ++ [q]) := by
  obtain ⟨us, h1, h2, h3⟩ := h.ex
  have eu : us.map V.ref = ts.map V.ref := HO.lst.inj (Option.some.inj (h1.symm.trans hp))
  refine ⟨us ++ [t], by rw [e, List.map_append, eu]; rfl, by rw [List.length_append, List.length_append, h2]; rfl, fun j u hj => ?_⟩
  by_cases hlt : j < us.length
  · rw [List.getElem?_append_left hlt] at hj
    obtain ⟨q', e1, e2⟩ := h3 j u hj
    exact ⟨q', by rw [List.getElem?_append_left (by omega)]; exact e1, k.gT e2⟩
  · have hj' := (List.getElem?_eq_some_iff.mp hj).1
    rw [List.length_append] at hj'
    have ej : j = us.length := by
      have : [t].length = 1 := rfl
      omega
    subst ej
    rw [List.getElem?_concat_length] at hj
    cases hj
    exact ⟨q, by rw [h2, List.getElem?_concat_length], k.gT ht⟩
theorem PL.l3 {H : Hp} {p a b c : Addr} {x1 y1 x2 y2 x3 y3 : Int} (h : H p = some (.lst [.ref a, .ref b, .ref c])) (h1 : H a = some (.tup [.int x1, .int y1])) (h2 : H b = some (.tup [.int x2, .int y2])) (h3 : H c = some (.tup [.int x3, .int y3])) : PL H p [(x1, y1), (x2, y2), (x3, y3)] :=
  ⟨[a, b, c], h, rfl, fun j t hj => match j, hj with
    | 0, hj => ⟨_, rfl, by cases hj; exact h1⟩
    | 1, hj => ⟨_, rfl, by cases hj; exact h2⟩
    | 2, hj => ⟨_, rfl, by cases hj; exact h3⟩
    | n + 3, hj => by simp at hj⟩
section
variable {K : PySem.W.Frag} {H : Hp}
theorem dpAll_pairs : ∀ {ts : List Addr} {ps : List (Int × Int)}, ts.length = ps.length → (∀ (j : Nat) t, ts[j]? = some t → ∃ q, ps[j]? = some q ∧ H t = some (.tup [.int q.1, .int q.2])) → DpAll K H (ts.map V.ref) (ps.map fun p => .tuple [.int p.1, .int p.2])
  | [], [], _, _ => .nil
  | t :: ts, p :: ps, hl, h => by
    obtain ⟨q, e1, e2⟩ := h 0 t rfl
    have e1' : p = q := by simpa using e1
    subst e1'
    exact .cons (.tup (sqT e2) (.cons (.int _) (.cons (.int _) .nil))) (dpAll_pairs (Nat.succ.inj hl) fun j u hj => h (j + 1) u hj)
  | [], _ :: _, hl, _ => by cases hl
  | _ :: _, [], hl, _ => by cases hl
theorem PL.dp {p : Addr} {ps : List (Int × Int)} (h : PL H p ps) : Dp K H (.ref p) (dP ps) := by
  obtain ⟨ts, h1, h2, h3⟩ := h.ex
  exact .lst (sqL h1) (dpAll_pairs h2 h3)
theorem eqvAll_pairs : ∀ ps qs : List (Int × Int), PyData.eqvAll (ps.map fun p => .tuple [.int p.1, .int p.2]) (qs.map fun p => .tuple [.int p.1, .int p.2]) = decide (ps = qs)
  | [], [] => by simp [PyData.eqvAll]
  | [], _ :: _ => by simp [PyData.eqvAll]
  | _ :: _, [] => by simp [PyData.eqvAll]
  | (a, b) :: ps, (c, d) :: qs => by
    show (PyData.eqv (.tuple [.int a, .int b]) (.tuple [.int c, .int d]) && PyData.eqvAll (ps.map fun p => .tuple [.int p.1, .int p.2]) (qs.map fun p => .tuple [.int p.1, .int p.2])) = _
    rw [eqvAll_pairs ps qs]
    simp only [PyData.eqv, PyData.eqvAll]
    by_cases h1 : a = c <;> by_cases h2 : b = d <;> by_cases h3 : ps = qs <;> simp [h1, h2, h3]
theorem eqv_pairs (ps qs : List (Int × Int)) : PyData.eqv (dP ps) (dP qs) = decide (ps = qs) := by
  unfold dP
  rw [PyData.eqv]
  exact eqvAll_pairs ps qs
theorem shaped_pairs (ps : List (Int × Int)) : SeqAt.shaped (dP ps) = true := by
  have h1 : ∀ ps : List (Int × Int), PyData.canLayAll0 (ps.map fun p => .tuple [.int p.1, .int p.2]) = true := fun ps => by
    induction ps with
    | nil => rfl
    | cons p ps ih => show (PyData.canLay0 (.tuple [.int p.1, .int p.2]) && PyData.canLayAll0 (ps.map fun p => .tuple [.int p.1, .int p.2])) = true; rw [ih]; rfl
  have h2 : ∀ ps : List (Int × Int), PyData.depthAll (ps.map fun p => .tuple [.int p.1, .int p.2]) ≤ 1 := fun ps => by
    induction ps with
    | nil => exact Nat.zero_le _
    | cons p ps ih =>
      show max (PyData.depth (.tuple [.int p.1, .int p.2])) (PyData.depthAll (ps.map fun p => .tuple [.int p.1, .int p.2])) ≤ 1
      exact Nat.max_le.mpr ⟨Nat.le_refl 1, ih⟩
  unfold SeqAt.shaped dP
  rw [PyData.canLay0, PyData.depth, h1 ps, Bool.true_and]
  have := h2 ps
  exact decide_eq_true (by omega)
theorem showable_pairs : ∀ {ps : List (Int × Int)}, (∀ x ∈ ps, Szd x.1 ∧ Szd x.2) → PyData.showableAll (ps.map fun p => .tuple [.int p.1, .int p.2]) = true
  | [], _ => rfl
  | p :: ps, h => by
    show (PyData.showable (.tuple [.int p.1, .int p.2]) && PyData.showableAll (ps.map fun p => .tuple [.int p.1, .int p.2])) = true
    rw [showable_pairs (fun x hx => h x (List.mem_cons_of_mem _ hx)), Bool.and_true]
    exact showable_ints (ns := [p.1, p.2]) fun x hx => by
      have := h p List.mem_cons_self
      rcases List.mem_cons.mp hx with e | e
      · rw [e]; exact this.1
      · rw [List.mem_singleton.mp e]; exact this.2
theorem hasDict_pairs : ∀ ps : List (Int × Int), PyData.hasDictAll (ps.map fun p => .tuple [.int p.1, .int p.2]) = false
  | [] => rfl
  | p :: ps => by
    show (PyData.hasDict (.tuple [.int p.1, .int p.2]) || PyData.hasDictAll (ps.map fun p => .tuple [.int p.1, .int p.2])) = false
    rw [hasDict_pairs ps]; rfl
theorem shownAll_pairs : ∀ ps : List (Int × Int), PyData.shownAll (ps.map fun p => .tuple [.int p.1, .int p.2]) = ps.map fun p => tupleText [PySem.Str.ofString (toString p.1), PySem.Str.ofString (toString p.2)]
  | [] => rfl
  | p :: ps => by
    show PyData.shown (.tuple [.int p.1, .int p.2]) :: PyData.shownAll (ps.map fun p => .tuple [.int p.1, .int p.2]) = _
    rw [shownAll_pairs ps]; rfl
theorem shown_pairs_len {ps : List (Int × Int)} (h : ∀ x ∈ ps, Szd x.1 ∧ Szd x.2) (hl : ps.length ≤ 1000) : (dP ps).shown.length ≤ sizeLine := by
  have e : (dP ps).shown = listText (PyData.shownAll (ps.map fun p => .tuple [.int p.1, .int p.2])) := by unfold dP; rw [PyData.shown]
  rw [e, shownAll_pairs]
  refine Nat.le_trans (listText_len_le _) ?_
  rw [List.map_map, List.length_map]
  have h1 := sum_le_const (fun p : Int × Int => (tupleText [PySem.Str.ofString (toString p.1), PySem.Str.ofString (toString p.2)]).length) 3900 (xs := ps) fun x hx => by
    have g := h x hx
    have g1 := int_text_len_1921 (i := x.1) (by have := g.1; unfold Szd at this; omega)
    have g2 := int_text_len_1921 (i := x.2) (by have := g.2; unfold Szd at this; omega)
    have g3 := tupleText_len_le [PySem.Str.ofString (toString x.1), PySem.Str.ofString (toString x.2)]
    simp only [List.map_cons, List.map_nil, List.sum_cons, List.sum_nil, List.length_cons, List.length_nil] at g3
    omega
  have h2 : (ps.map ((fun x : Str => x.length) ∘ fun p : Int × Int => tupleText [PySem.Str.ofString (toString p.1), PySem.Str.ofString (toString p.2)])).sum ≤ 3900 * ps.length := h1
  have : sizeLine = 16777216 := rfl
  omega
end
section
variable {X : Cx} {H : Hp} {Q : VK} {p q : Addr} {ps qs : List (Int × Int)} {k : Nat}
theorem k_reprP (hr : Room k X.A) (hgd : X.A.guards = some []) (h1 : PL H p ps) (hb : ∀ x ∈ ps, Szd x.1 ∧ Szd x.2) (hl : ps.length ≤ 1000) (h : Q (.str (dP ps).shown) H) : Cal X (.builtin "repr") [.ref p] H Q :=
  k_repr hr hgd h1.dp (by unfold dP; rw [PyData.showable]; exact showable_pairs hb) (by unfold dP; rw [PyData.hasDict]; exact hasDict_pairs ps) (by
    have h2 := SeqAt.depth_of_shaped (shaped_pairs ps)
    omega) (shown_pairs_len hb hl) h
theorem c_eqP (hr : Room k X.A) (h1 : PL H p ps) (h2 : PL H q qs) (h : Q (.bl (decide (ps = qs))) H) : Cmp X .Eq (.ref p) (.ref q) H Q := c_eqD hr h1.dp h2.dp (shaped_pairs _) (shaped_pairs _) (by rw [eqv_pairs]; exact h)
theorem c_neP (hr : Room k X.A) (h1 : PL H p ps) (h2 : PL H q qs) (h : Q (.bl (!decide (ps = qs))) H) : Cmp X .NotEq (.ref p) (.ref q) H Q := c_neD hr h1.dp h2.dp (shaped_pairs _) (shaped_pairs _) (by rw [eqv_pairs]; exact h)
theorem k_isiP {n : String} {b : Bool} (h1 : PL H p ps) (hk : kitB "list" n = some b) (h : Q (.bl b) H) : Cal X (.builtin "isinstance") [.ref p, .ty n] H Q := let ⟨_, e⟩ := h1.at; k_isiL e hk h
theorem k_lenP (h1 : PL H p ps) (h : Q (.int (ps.length : Int)) H) : Cal X (.builtin "len") [.ref p] H Q := by
  obtain ⟨ts, e1, e2, _⟩ := h1.ex
  exact k_len (sqL e1) (by rw [List.length_map, e2]; exact h)
theorem k_listP (h1 : PL H p ps) (h : ∀ p' H', H p' = none → Kp [] H H' → PL H' p' ps → Q (.ref p') H') : Cal X (.type "list") [.ref p] H Q := by
  obtain ⟨ts, e1, e2, e3⟩ := h1.ex
  exact k_list (.inl (sqL e1)) fun p' H' n k e => h p' H' n k ⟨ts, e, e2, fun j t hj => let ⟨q, f1, f2⟩ := e3 j t hj; ⟨q, f1, k.gT f2⟩⟩
end

section
variable {X : Cx} {H : Hp} {Q : VK} {l b p : Addr} {ps qs : List (Int × Int)} {i : Int}
theorem b_catP (h1 : PL H l ps) (h2 : PL H b qs) (hz : ps.length + qs.length ≤ 100000) (h : ∀ p H', H p = none → Kp [] H H' → PL H' p (ps ++ qs) → Q (.ref p) H') : Bin X .Add (.ref l) (.ref b) H Q := by
  obtain ⟨ts, e1, e2, e3⟩ := h1.ex
  obtain ⟨us, f1, f2, f3⟩ := h2.ex
  refine b_cat e1 f1 (by rw [List.length_map, List.length_map, e2, f2]; exact hz) fun p H' n k e => h p H' n k ⟨ts ++ us, by rw [e, List.map_append], by rw [List.length_append, List.length_append, e2, f2], fun j t hj => ?_⟩
  by_cases hlt : j < ts.length
  · rw [List.getElem?_append_left hlt] at hj
    obtain ⟨q, g1, g2⟩ := e3 j t hj
    exact ⟨q, by rw [List.getElem?_append_left (by omega)]; exact g1, k.gT g2⟩
  · rw [List.getElem?_append_right (by omega)] at hj
    obtain ⟨q, g1, g2⟩ := f3 _ t hj
    exact ⟨q, by rw [List.getElem?_append_right (by omega), ← e2]; exact g1, k.gT g2⟩
theorem x_r3 {a b c : Addr} (h1 : H p = some (.lst [.ref a, .ref b, .ref c])) (h0 : 0 ≤ i ∧ i < 3) (ha : Q (.ref a) H) (hb : Q (.ref b) H) (hc : Q (.ref c) H) : Ixw X (.ref p) (.int i) H Q := by
  have hi : i = 0 ∨ i = 1 ∨ i = 2 := by omega
  rcases hi with rfl | rfl | rfl
  · exact x_lst (sqL h1) rfl ha
  · exact x_lst (sqL h1) rfl hb
  · exact x_lst (sqL h1) rfl hc
theorem PL.get {H : Hp} {p : Addr} {ps : List (Int × Int)} (h : PL H p ps) {xs : List V} (e : H p = some (.lst xs)) {j : Nat} {x : V} (hj : xs[j]? = some x) : ∃ t q, x = .ref t ∧ ps[j]? = some q ∧ H t = some (.tup [.int q.1, .int q.2]) := by
  obtain ⟨ts, e1, e2, e3⟩ := h.ex
  have := HO.lst.inj (Option.some.inj (e1.symm.trans e))
  subst this
  rw [List.getElem?_map] at hj
  obtain ⟨t, ht, rfl⟩ := Option.map_eq_some_iff.mp hj
  obtain ⟨q, g1, g2⟩ := e3 j t ht
  exact ⟨t, q, rfl, g1, g2⟩
theorem PL.l1 {H : Hp} {p a : Addr} {x y : Int} (h : H p = some (.lst [.ref a])) (h1 : H a = some (.tup [.int x, .int y])) : PL H p [(x, y)] :=
  ⟨[a], h, rfl, fun j t hj => match j, hj with
    | 0, hj => ⟨_, rfl, by cases hj; exact h1⟩
    | n + 1, hj => by simp at hj⟩
theorem PL.l2 {H : Hp} {p a b : Addr} {x1 y1 x2 y2 : Int} (h : H p = some (.lst [.ref a, .ref b])) (h1 : H a = some (.tup [.int x1, .int y1])) (h2 : H b = some (.tup [.int x2, .int y2])) : PL H p [(x1, y1), (x2, y2)] :=
  ⟨[a, b], h, rfl, fun j t hj => match j, hj with
    | 0, hj => ⟨_, rfl, by cases hj; exact h1⟩
    | 1, hj => ⟨_, rfl, by cases hj; exact h2⟩
    | n + 2, hj => by simp at hj⟩
end

/-! ### xs[:c] = ys -/
section
variable {prog : Program} {w : World} {A : Around} {E : Value → Shared → Prop} {s : Shared}
theorem bounds_to {c n : Nat} (hc : c ≤ n) : sliceBounds none (some (c : Int)) none n = ((0 : Int), (c : Int), 1) := by
  have h2 : ¬ ((c : Int) < 0) := by omega
  simp only [sliceBounds, Option.getD_none, h2, if_false, show (1 : Int) > 0 by decide, if_true]
  congr 2
  omega
theorem setItem_to {l b sl : Addr} {items new : Array Value} {n n2 : Nat} {vu : Value} {c : Nat} {Q : Unit → Shared → Prop} (e : s.heap.get? l = some { cls := .type "list", data := .seq items n }) (e2 : s.heap.get? b = some { cls := .type "list", data := .seq new n2 }) (hne : l ≠ b) (hs : s.heap.IsSliceOf sl .none vu .none)
    (pu : IsPart vu (some (c : Int))) (hc : c ≤ items.size) (hsz : items.size + new.size ≤ sizeLine) (h : Q () { s with heap := s.heap.update l (Obj.mapSeq fun xs => xs.extract 0 0 ++ new ++ xs.extract c xs.size) }) : wpAny (model prog w) A (setItem (.ref l) (.ref sl) (.ref b)) Q E s := by
  have hl : s.heap.IsList l items := PySem.IsL.isList e; have hb : s.heap.IsList b new := PySem.IsL.isList e2
  obtain ⟨os, hos, hcs, hds⟩ := id hs
  have hTs : s.TypeIs (.ref sl) "slice" := ⟨os, hos, hcs⟩; have hstep : ¬ ((rawPart none == rawInt 0) = true) := Bool.false_ne_true
  have hsame : Builtin.List.listSameRef (.ref l) (.ref b) = false := by unfold Builtin.List.listSameRef; exact beq_eq_false_iff_ne.mpr hne
  have hz' : ((fun xs : Array Value => xs.extract 0 0 ++ new ++ xs.extract c xs.size) items).size ≤ sizeLine + 1 := by simp only [Array.size_append, Array.size_extract]; omega
  unfold setItem; try with_reducible refine wpAny_holding ?_
  first | refine wpAny_bind (wpAny_pure ?_) | skip
  refine wpAny_bind (wpAny_sequenceKey hl.typeIs (by decide) ?_); refine wpAny_bind (wpAny_callSpecial?_slot (name := Str.ofString "__setitem__") hl.typeIs F.slot_list_setitem (wpAny_call_entry F.slot_list_setitem hl.typeIs F.entry_list_setitem ?_ (F.args_list_setitem_3 _ _ _)))
  show wpAny _ _ (Builtin.List.listSubscript? (.ref sl) >>= _) _ _ s; refine wpAny_bind ?_; unfold Builtin.List.listSubscript?
  refine wpAny_bind (wpAny_specialOf hTs slice_no_index ?_); simp only [Option.isNone_none, if_true]; refine wpAny_pure ?_
  show wpAny _ _ (typeOf (.ref sl) >>= _) _ _ s; refine wpAny_bind (wpAny_typeOf hTs ?_)
  first | rw [if_neg (by decide)] | refine PySem.W.KFB.if_not (by decide) ?_
  rw [listSliceParts_eq]; refine wpAny_bind (wpAny_bind (wpAny_field hos hds (x := .none) rfl (wpAny_bind (wpAny_listPart .none ?_)))); rw [if_neg hstep]
  refine wpAny_bind (wpAny_field hos hds (x := .none) rfl (wpAny_bind (wpAny_listPart .none ?_))); refine wpAny_bind (wpAny_field hos hds (x := vu) rfl (wpAny_bind (wpAny_listPart pu (wpAny_pure ?_))))
  first | simp only [hsame, Bool.false_eq_true, if_false] | refine PySem.W.KFB.if_not hsame ?_ | (dsimp only; rw [if_neg (by rw [hsame]; exact Bool.false_ne_true)])
  refine wpAny_bind (m := Builtin.List.listAllItems (.ref b) "must assign iterable to extended slice") ?_; unfold Builtin.List.listAllItems; refine wpAny_bind (wpAny_typeOf hb.typeIs ?_)
  first | refine PySem.W.KFB.if_so (by decide) ?_ | rw [if_pos (by decide)] | simp only [beq_self_eq_true, Bool.true_or, if_true]
  unfold Builtin.List.listItems; refine wpAny_bind (wpAny_seqItems e2 rfl (wpAny_pure ?_)); refine wpAny_bind (wpAny_bind (wpAny_seqItems e rfl (wpAny_pure ?_)))
  refine wpAny_bind (wpAny_of_eq ((sliceIndices_raw none (some (c : Int)) none items.size (by simp)).trans (congrArg (pure : Int × Int × Int → Sem (Int × Int × Int)) (bounds_to hc))) ?_)
  show wpAny _ _ (if ((1 : Int) == 1) = true then _ else _) _ _ s; rw [if_pos (by decide)]; refine wpAny_bind (wpAny_rule ?_)
  first | simp only [notLongL hsz, Bool.false_eq_true, if_false] | refine PySem.W.KFB.if_not (notLongL hsz) ?_
  first | refine wpAny_bind (wpAny_pure ?_) | skip
  show wpAny _ _ (updateSeq l (fun xs => xs.extract 0 ((0 : Int)).toNat ++ new ++ xs.extract (max (0 : Int) (c : Int)).toNat xs.size) >>= _) _ _ s
  rw [show (max (0 : Int) (c : Int)).toNat = c from by omega, show ((0 : Int)).toNat = 0 from rfl]; refine wpAny_bind (wpAny_updateSeq (hz := Nat.le_trans (Nat.le_add_right _ _) hsz) (_hz' := hz') e rfl ?_); refine wpAny_bind (wpAny_letGo ?_)
  first | exact wpAny_bind (wpAny_pure (wpAny_pure ⟨.none, rfl, wpAny_pure h⟩)) | exact wpAny_pure ⟨.none, rfl, wpAny_pure h⟩
end
section
variable {X : Cx} {σ : L2.St} {H : Hp} {o hi : Expr} {pos p2 : Pos} {G : L2.St → Hp → Prop} {v : V}
theorem wg_cut (h : We X o σ H fun x H1 => We X hi σ H1 fun y H2 => ∃ (l b : Addr) (xs ys : List V) (c : Int), x = .ref l ∧ y = .int c ∧ v = .ref b ∧ H2 l = some (.lst xs) ∧ H2 b = some (.lst ys) ∧ l ≠ b ∧ (0 ≤ c ∧ c ≤ xs.length) ∧ xs.length + ys.length ≤ 100000 ∧ ∀ H', Kp [l] H2 H' → H' l = some (.lst (ys ++ xs.drop c.toNat)) → G σ H')
    (ha : ∀ v, assign (.Subscript o (.Slice none (some hi) none p2) pos) X.env v = (do
      let ov ← holding [v] (eval o X.env)
      let iv ← holding [v, ov] (eval (.Slice none (some hi) none p2) X.env)
      standAt pos
      holding [v, ov, iv] (setItem ov iv v)
      release [iv, v, ov] []) := by intro _; rfl) : Wg X (.Subscript o (.Slice none (some hi) none p2) pos) v σ H G := by
  refine ⟨fun pins s u I r => ?_⟩
  rw [ha]
  refine wpAny_bind (wpAny_holding (thn (h.run pins s I) fun ov s1 ⟨x, H1, I1, r1, q1⟩ => ?_))
  refine wpAny_bind (wpAny_holding (wpAny_Slice ?_))
  rw [evalPart_none]
  refine wpAny_pure ?_
  have hpo : PO X (some hi) (Wp X (some hi)) := Wp.po
  refine thn (hpo.run pins s1 σ H1 (fun u H2 => ∃ c, u = some c ∧ ∃ (l b : Addr) (xs ys : List V), x = .ref l ∧ v = .ref b ∧ H2 l = some (.lst xs) ∧ H2 b = some (.lst ys) ∧ l ≠ b ∧ (0 ≤ c ∧ c ≤ xs.length) ∧ xs.length + ys.length ≤ 100000 ∧ ∀ H', Kp [l] H2 H' → H' l = some (.lst (ys ++ xs.drop c.toNat)) → G σ H') I1 ?_) fun vu s2 ⟨cu, H2, I2, pu, c, ecu, l, b, xs, ys, ex, ev, hl, hb, hne, hc, hz, hG⟩ => ?_
  · show We X hi σ H1 _
    exact we_mono q1 fun y H2 ⟨l, b, xs, ys, c, e1, e2, e3, g⟩ => ⟨c, e2, c, rfl, l, b, xs, ys, e1, e3, g⟩
  subst ecu ex ev
  cases r1
  cases r
  refine wpAny_pure ?_
  have I4 : Inv X pins σ H2 { s2 with heap := s2.heap.push { cls := .type "slice", data := .fields #[.none, vu, .none] } } := I2.kept (t' := s2.toks) fun b ob q => Heap.get?_push_of_some _ q
  refine wpAny_bind (wpAny_standAt (wpAny_bind (wpAny_holding ?_)))
  obtain ⟨z, its, n, r, hll, e⟩ := I4.lstM hl
  obtain ⟨z2, its2, n2, r2, hl2, e2⟩ := I4.lstM hb
  obtain ⟨c', rfl⟩ := Int.eq_ofNat_of_zero_le hc.1
  have hln := r.length
  have hln2 := r2.length
  have hbig : (100000 : Nat) ≤ sizeLine := by decide
  refine setItem_to (c := c') e e2 hne (Heap.IsSliceOf.new ..) pu (by rw [List.size_toArray]; omega) (by rw [List.size_toArray, List.size_toArray]; omega) (wpAny_release ⟨σ, upd H2 l (.lst (ys ++ xs.drop c')), ?_, hG _ (.put hl) upd_same⟩)
  refine I4.lset (its' := its2 ++ its.drop c') (t' := s2.toks) hl e ?_ (Vals.append r2 (r.drop _)) ?_
  · have := splice_eq its its2 0 c'
    simpa using this
  · rw [List.length_append, List.length_drop]
    omega
end

/-! ### comprehensions whose end is plain -/
theorem wg_mono {X : Cx} {tg : Expr} {v : V} {σ : L2.St} {H : Hp} {G G' : L2.St → Hp → Prop} (h : Wg X tg v σ H G) (hg : ∀ σ' H', G σ' H' → G' σ' H') : Wg X tg v σ H G' := ⟨fun pins s u I r => thn (h.run pins s u I r) fun _ _ ⟨σ', H', I', g⟩ => ⟨σ', H', I', hg σ' H' g⟩⟩
theorem wt_mono {X : Cx} {c : Expr} {σ : L2.St} {H : Hp} {Q Q' : Bool → Hp → Prop} (h : Wt X c σ H Q) (hq : ∀ k H1, Q k H1 → Q' k H1) : Wt X c σ H Q' := ⟨fun pins s I => thn (h.run pins s I) fun k _ ⟨H1, I1, q⟩ => ⟨H1, I1, hq k H1 q⟩⟩
section
variable {X : Cx} {elt tg c : Expr} {scope : Scope} {vs : List Nat} {σ : L2.St} {R : VK} {q : Addr} {ns : List Int} {H : Hp}
theorem lcd_map (g : Int → Int) (hS : SqL X.K H q (ns.map V.int)) (hl : ns.length ≤ 10000)
    (he : ∀ x ∈ ns, ∀ H1, Kp [] H H1 → Bl X scope fun Z => Wg Z tg (.int x) (wipe σ vs) H1 fun σ2 H2 => wipe σ2 vs = wipe σ vs ∧ Bl X scope fun Z => We Z elt σ2 H2 fun y H3 => y = .int (g x) ∧ Kp [] H1 H3)
    (hd : ∀ Dl H', H Dl = none → Kp [] H H' → H' Dl = some (.lst ((ns.map g).map V.int)) → R (.ref Dl) H') :
    LcD X elt tg [] scope vs σ R (ns.map V.int).length (fun H => SqL X.K H q (ns.map V.int)) (YAt (ns.map V.int)) H := by
  intro Dl H1 nD kD hD
  refine ⟨fun i H' => Kp [] H H' ∧ H' Dl = some (.lst (((ns.take i).map g).map V.int)), ⟨kD, hD⟩, fun i H' _ h => Kp.sqK hS h.1, ?_, ?_⟩
  · rintro i x H2 H3 hi ⟨k2, hD2⟩ ⟨rfl, hx⟩
    obtain ⟨v, hv, rfl⟩ := mapI_get hx
    intro s0 H0 C cl fp
    refine wg_mono (he v (List.mem_of_getElem? hv) _ k2 s0 H0 C cl fp) fun σ2 H4 ⟨e1, h2⟩ => ⟨e1, fun s0 H0 C cl fp => ?_⟩
    refine wts_nil (iteT fun s0 H0 C cl fp => we_mono (h2 s0 H0 C cl fp) fun y H5 ⟨ey, k5⟩ => ?_)
    subst ey
    refine appI (k5.g0 hD2) (by rw [List.length_map, List.length_take]; omega) fun H6 k6 hD6 => ⟨(k2.tr0 k5).trN k6 nD, ?_⟩
    have et : (ns.take (i + 1)).map g = (ns.take i).map g ++ [g v] := by
      rw [List.take_succ, hv, List.map_append]
      rfl
    rw [hD6, et]
  · rintro H2 ⟨k2, hD2⟩
    rw [List.length_map, List.take_length] at hD2
    exact hd Dl H2 nD k2 hD2
/-- none is let by -/
theorem lcd_none {n : Nat} {G : Hp → Prop} {Y : Nat → Hp → V → Hp → Prop} (hG : ∀ H1, Kp [] H H1 → G H1)
    (he : ∀ i x H1 H2, i < n → Kp [] H H1 → Y i H1 x H2 → Bl X scope fun Z => Wg Z tg x (wipe σ vs) H2 fun σ2 H3 => wipe σ2 vs = wipe σ vs ∧ Bl X scope fun Z => Wt Z c σ2 H3 fun k H4 => k = false ∧ Kp [] H1 H4)
    (hd : ∀ Dl H', H Dl = none → Kp [] H H' → H' Dl = some (.lst []) → R (.ref Dl) H') : LcD X elt tg [c] scope vs σ R n G Y H := by
  intro Dl H1 nD kD hD
  refine ⟨fun i H' => Kp [] H H' ∧ H' Dl = some (.lst []), ⟨kD, hD⟩, fun i H' _ h => hG H' h.1, ?_, fun H2 h => hd Dl H2 nD h.1 h.2⟩
  rintro i x H2 H3 hi ⟨k2, hD2⟩ hY
  intro s0 H0 C cl fp
  refine wg_mono (he i x H2 H3 hi k2 hY s0 H0 C cl fp) fun σ2 H4 ⟨e1, h2⟩ => ⟨e1, fun s0 H0 C cl fp => ?_⟩
  refine wts_one (wt_mono (h2 s0 H0 C cl fp) fun k H5 ⟨ek, k5⟩ => ?_)
  subst ek
  exact iteF ⟨k2.tr0 k5, k5.g0 hD2⟩
end
section
variable {X : Cx} {H : Hp} {Q : VK} {p : Addr} {ns : List Int} {x : Int}
theorem inV_ints (x : Int) : ∀ ns : List Int, inV (.int x) (ns.map V.int) = decide (x ∈ ns)
  | [] => rfl
  | n :: ns => by
    have h := inV_ints x ns
    unfold inV at h ⊢
    rw [List.map_cons, List.any_cons, h]
    by_cases e : n = x
    · simp [eqV, e]
    · have e' : ¬ x = n := fun z => e z.symm
      simp [eqV, e, e']
theorem flat_ints : ∀ ns : List Int, (ns.map V.int).all flatV = true
  | [] => rfl
  | n :: ns => by
    rw [List.map_cons, List.all_cons, flat_ints ns]
    rfl
theorem c_inI (h1 : SqL X.K H p (ns.map V.int)) (h : Q (.bl (decide (x ∈ ns))) H) : Cmp X .In (.int x) (.ref p) H Q := ⟨_, op_in_seq, p, _, rfl, .inl h1, rfl, flat_ints ns, by rw [if_neg (by decide), inV_ints]; exact h⟩
theorem c_ninI (h1 : SqL X.K H p (ns.map V.int)) (h : Q (.bl (!decide (x ∈ ns))) H) : Cmp X .NotIn (.int x) (.ref p) H Q := ⟨_, op_notIn_seq, p, _, rfl, .inl h1, rfl, flat_ints ns, by rw [if_pos rfl, inV_ints]; exact h⟩
end
section
variable {X : Cx} {H : Hp} {Q : VK} {p : Addr} {ns : List Int} {i : Int}
theorem b_p3 (h : Q (.int 1000) H) : Bin X .Pow (.int 10) (.int 3) H Q := b_pow (by decide) (by rw [show (10 : Int) ^ (3 : Int).toNat = 1000 from by decide +kernel]; exact h)
theorem b_p4 (h : Q (.int 10000) H) : Bin X .Pow (.int 10) (.int 4) H Q := b_pow (by decide) (by rw [show (10 : Int) ^ (4 : Int).toNat = 10000 from by decide +kernel]; exact h)
theorem b_p5 (h : Q (.int 100000) H) : Bin X .Pow (.int 10) (.int 5) H Q := b_pow (by decide) (by rw [show (10 : Int) ^ (5 : Int).toNat = 100000 from by decide +kernel]; exact h)
theorem b_p7 (h : Q (.int 10000000) H) : Bin X .Pow (.int 10) (.int 7) H Q := b_pow (by decide) (by rw [show (10 : Int) ^ (7 : Int).toNat = 10000000 from by decide +kernel]; exact h)
theorem b_p10 (h : Q (.int 10000000000) H) : Bin X .Pow (.int 10) (.int 10) H Q := b_pow (by decide) (by rw [show (10 : Int) ^ (10 : Int).toNat = 10000000000 from by decide +kernel]; exact h)
theorem b_p13 (h : Q (.int 10000000000000) H) : Bin X .Pow (.int 10) (.int 13) H Q := b_pow (by decide) (by rw [show (10 : Int) ^ (13 : Int).toNat = 10000000000000 from by decide +kernel]; exact h)
theorem b_p15 (h : Q (.int 1000000000000000) H) : Bin X .Pow (.int 10) (.int 15) H Q := b_pow (by decide) (by rw [show (10 : Int) ^ (15 : Int).toNat = 1000000000000000 from by decide +kernel]; exact h)
theorem b_p16 (h : Q (.int 10000000000000000) H) : Bin X .Pow (.int 10) (.int 16) H Q := b_pow (by decide) (by rw [show (10 : Int) ^ (16 : Int).toNat = 10000000000000000 from by decide +kernel]; exact h)
theorem b_p17 (h : Q (.int 100000000000000000) H) : Bin X .Pow (.int 10) (.int 17) H Q := b_pow (by decide) (by rw [show (10 : Int) ^ (17 : Int).toNat = 100000000000000000 from by decide +kernel]; exact h)
theorem b_p24 (h : Q (.int 1000000000000000000000000) H) : Bin X .Pow (.int 10) (.int 24) H Q := b_pow (by decide) (by rw [show (10 : Int) ^ (24 : Int).toNat = 1000000000000000000000000 from by decide +kernel]; exact h)
/-- some item of a list of whole numbers, from behind too -/
theorem x_memN (h1 : SqL X.K H p (ns.map V.int)) (h0 : -(ns.length : Int) ≤ i) (h2 : i < ns.length) (h : ∀ x, x ∈ ns → Q (.int x) H) : Ixw X (.ref p) (.int i) H Q := by
  by_cases hi : 0 ≤ i
  · exact x_mem h1 hi h2 h
  · have hl : (i + ns.length).toNat < ns.length := by omega
    refine x_lst h1 (v := .int ns[(i + ns.length).toNat]) ?_ (h _ (List.getElem_mem hl))
    unfold atI
    have e : ixN (ns.map V.int).length i = some (i + ns.length).toNat := by
      unfold ixN
      rw [List.length_map, if_neg hi, if_pos (by omega)]
    rw [e]
    show (ns.map V.int)[(i + ns.length).toNat]? = _
    rw [List.getElem?_map, List.getElem?_eq_getElem hl]
    rfl
end
section
variable {X : Cx} {σ : L2.St} {H : Hp} {Q : VK} {e o : Expr} {apos : Pos}
/-- xs.extend(ys), ys another list -/
theorem we_extend {cpos : Pos} (h : We X o σ H fun x H1 => ∃ l, x = .ref l ∧ (∃ xs, H1 l = some (.lst xs)) ∧ We X e σ H1 fun y H2 => ∃ b xs ys, y = .ref b ∧ H2 l = some (.lst xs) ∧ H2 b = some (.lst ys) ∧ xs.length + ys.length ≤ 100000 ∧ ∀ H', Kp [l] H2 H' → H' l = some (.lst (xs ++ ys)) → Q .non H')
    (hbase : attributeBase o "extend" X.env (eval o X.env) = eval o X.env := by rfl)
    (hfew : ((backTo cpos (starEach [e] X.env)).all (fun x => !x.1) && (backToKw cpos (keywordEach [] X.env)).all (fun x => x.1.isSome) && decide ([e].length + ([] : List Keyword).length + (if ([] : List Keyword).isEmpty then 0 else 1) < 30)) = true := by rfl)
    (hline : (apos.endLine == cpos.line) = true := by rfl) (hs : starEach [e] X.env = (false, eval e X.env) :: starEach [] X.env := by rfl) (hplain : (backTo cpos (starEach [] X.env)).any (·.1) = false := by rfl) :
    We X (.Call (.Attribute o "extend" apos) [e] [] cpos) σ H Q :=
  we_of (pe_bm PySem.F.plainAttrs_list PySem.F.slot_list_extend PySem.F.type_list_extend mt_extend We.pe (pa_cons We.pe pa_nil hs) hbase hfew hline hs hplain) (by
    refine ⟨fun pins s I => thn (h.run pins s I) fun u s1 ⟨v, H1, I1, r1, l, ev, ⟨xs, hl⟩, h2⟩ => ⟨v, H1, I1, r1, ?_, ?_⟩⟩
    · rw [ev]
      exact .inl ⟨rfl, xs, sqL hl⟩
    · refine ⟨fun pins s I => thn (h2.run pins s I) fun u s1 ⟨w, H2, I2, r2, b, xs, ys, ew, hl, hb, hz, h3⟩ => ⟨w, H2, I2, r2, ?_⟩⟩
      exact ⟨l, b, xs, ys, ev, by rw [ew], hl, hb, Nat.le_trans hz (by decide), h3 _ (.put hl) upd_same⟩)
end
/-- a list of pairs made longer by another one -/
theorem PL.ext {H H' : Hp} {p b : Addr} {ts us : List Addr} {ps qs : List (Int × Int)} (h : PL H p ps) (hq : PL H b qs) (hp : H p = some (.lst (ts.map V.ref))) (hb : H b = some (.lst (us.map V.ref))) (k : Kp [p] H H') (e : H' p = some (.lst (ts.map V.ref ++ us.map V.ref))) : PL H' p (ps ++ qs) := by
  obtain ⟨ts', e1, e2, e3⟩ := h.ex
  obtain ⟨us', f1, f2, f3⟩ := hq.ex
  have g1 : ts'.map V.ref = ts.map V.ref := HO.lst.inj (Option.some.inj (e1.symm.trans hp))
  have g2 : us'.map V.ref = us.map V.ref := HO.lst.inj (Option.some.inj (f1.symm.trans hb))
  refine ⟨ts' ++ us', by rw [e, List.map_append, g1, g2], by rw [List.length_append, List.length_append, e2, f2], fun j t hj => ?_⟩
  by_cases hlt : j < ts'.length
  · rw [List.getElem?_append_left hlt] at hj
    obtain ⟨q, c1, c2⟩ := e3 j t hj
    exact ⟨q, by rw [List.getElem?_append_left (by omega)]; exact c1, k.gT c2⟩
  · rw [List.getElem?_append_right (by omega)] at hj
    obtain ⟨q, c1, c2⟩ := f3 _ t hj
    exact ⟨q, by rw [List.getElem?_append_right (by omega), ← e2]; exact c1, k.gT c2⟩
end SL

/-! lists of tuples of any kind, more comprehensions -/
namespace SL
open PySem PySem.Spec PyProof.Rows L2

/-- at p a list of tuples, each told by a letter -/
structure RL {α : Type} (enc : α → List V) (H : Hp) (p : Addr) (xs : List α) : Prop where
  ex : ∃ ts : List Addr, H p = some (.lst (ts.map V.ref)) ∧ ts.length = xs.length ∧ ∀ (j : Nat) t, ts[j]? = some t → ∃ x, xs[j]? = some x ∧ H t = some (.tup (enc x))
section
variable {α : Type} {enc : α → List V} {M : List Addr} {H H' : Hp} {p t : Addr} {xs : List α} {x : α}
theorem RL.kp (h : RL enc H p xs) (k : Kp M H H') (n : p ∉ M) : RL enc H' p xs := by
  obtain ⟨ts, h1, h2, h3⟩ := h.ex
  refine ⟨ts, k.gM n h1, h2, fun j t hj => ?_⟩
  obtain ⟨q, e1, e2⟩ := h3 j t hj
  exact ⟨q, e1, k.gT e2⟩
theorem RL.kX (k : Kp M H H') (h : RL enc H p xs) (n : p ∉ M) : RL enc H' p xs := h.kp k n
theorem RL.th (h : RL enc H p xs) : Th H p := let ⟨ts, h1, _⟩ := h.ex; ⟨_, h1⟩
theorem RL.nil (h : H p = some (.lst [])) : RL enc H p [] := ⟨[], h, rfl, fun j t hj => by simp at hj⟩
theorem RL.app {ts : List Addr} (h : RL enc H p xs) (hp : H p = some (.lst (ts.map V.ref))) (ht : H t = some (.tup (enc x))) (k : Kp [p] H H') (e : H' p = some (.lst (ts.map V.ref ++ [.ref t]))) : RL enc H' p (xs ++ [x]) := by
  obtain ⟨us, h1, h2, h3⟩ := h.ex
  have eu : us.map V.ref = ts.map V.ref := HO.lst.inj (Option.some.inj (h1.symm.trans hp))
  refine ⟨us ++ [t], by rw [e, List.map_append, eu]; rfl, by rw [List.length_append, List.length_append, h2]; rfl, fun j u hj => ?_⟩
  by_cases hlt : j < us.length
  · rw [List.getElem?_append_left hlt] at hj
    obtain ⟨q', e1, e2⟩ := h3 j u hj
    exact ⟨q', by rw [List.getElem?_append_left (by omega)]; exact e1, k.gT e2⟩
  · have hj' := (List.getElem?_eq_some_iff.mp hj).1
    rw [List.length_append] at hj'
    have ej : j = us.length := by
      have : [t].length = 1 := rfl
      omega
    subst ej
    rw [List.getElem?_concat_length] at hj
    cases hj
    exact ⟨x, by rw [h2, List.getElem?_concat_length], k.gT ht⟩
theorem RL.get (h : RL enc H p xs) {vs : List V} (e : H p = some (.lst vs)) {j : Nat} {v : V} (hj : vs[j]? = some v) : ∃ t x, v = .ref t ∧ xs[j]? = some x ∧ H t = some (.tup (enc x)) := by
  obtain ⟨ts, e1, e2, e3⟩ := h.ex
  have := HO.lst.inj (Option.some.inj (e1.symm.trans e))
  subst this
  rw [List.getElem?_map] at hj
  obtain ⟨t, ht, rfl⟩ := Option.map_eq_some_iff.mp hj
  obtain ⟨q, g1, g2⟩ := e3 j t ht
  exact ⟨t, q, rfl, g1, g2⟩
theorem PL.rl {H : Hp} {p : Addr} {ps : List (Int × Int)} (h : PL H p ps) : RL (fun q : Int × Int => [.int q.1, .int q.2]) H p ps := ⟨h.ex⟩
theorem RL.pl {H : Hp} {p : Addr} {ps : List (Int × Int)} (h : RL (fun q : Int × Int => [.int q.1, .int q.2]) H p ps) : PL H p ps := ⟨h.ex⟩
end
def e3 : Int × Int × Int → List V := fun q => [.int q.1, .int q.2.1, .int q.2.2]
section
variable {X : Cx} {elt tg c a b : Expr} {scope : Scope} {vs : List Nat} {σ : L2.St} {R : VK} {q : Addr} {ns : List Int} {H : Hp} {ifs : List Expr} {p pos : Pos}
/-- [elt for x in xs if test], whole numbers -/
theorem lcd_filter (P : Int → Prop) [DecidablePred P] (g : Int → Int) (hS : SqL X.K H q (ns.map V.int)) (hl : ns.length ≤ 99999)
    (he : ∀ x ∈ ns, ∀ H1, Kp [] H H1 → Bl X scope fun Z => Wg Z tg (.int x) (wipe σ vs) H1 fun σ2 H2 => wipe σ2 vs = wipe σ vs ∧ Bl X scope fun Z => Wt Z c σ2 H2 fun k H3 => k = decide (P x) ∧ Kp [] H1 H3 ∧ Bl X scope fun Z => We Z elt σ2 H3 fun y H4 => y = .int (g x) ∧ Kp [] H3 H4)
    (hd : ∀ Dl H', H Dl = none → Kp [] H H' → H' Dl = some (.lst (((ns.filter fun x => decide (P x)).map g).map V.int)) → R (.ref Dl) H') :
    LcD X elt tg [c] scope vs σ R (ns.map V.int).length (fun H => SqL X.K H q (ns.map V.int)) (YAt (ns.map V.int)) H := by
  intro Dl H1 nD kD hD
  refine ⟨fun i H' => Kp [] H H' ∧ H' Dl = some (.lst ((((ns.take i).filter fun x => decide (P x)).map g).map V.int)), ⟨kD, hD⟩, fun i H' _ h => Kp.sqK hS h.1, ?_, ?_⟩
  · rintro i x H2 H3 hi ⟨k2, hD2⟩ ⟨rfl, hx⟩
    obtain ⟨v, hv, rfl⟩ := mapI_get hx
    intro s0 H0 C cl fp
    refine wg_mono (he v (List.mem_of_getElem? hv) _ k2 s0 H0 C cl fp) fun σ2 H4 ⟨e1, h2⟩ => ⟨e1, fun s0 H0 C cl fp => ?_⟩
    refine wts_one (wt_mono (h2 s0 H0 C cl fp) fun k H5 ⟨ek, k5, h3⟩ => ?_)
    subst ek
    have et : (ns.take (i + 1)).filter (fun x => decide (P x)) = (ns.take i).filter (fun x => decide (P x)) ++ [v].filter (fun x => decide (P x)) := by
      rw [List.take_succ, hv, List.filter_append]
      rfl
    by_cases hp : P v
    · rw [decide_eq_true hp]
      refine iteT fun s0 H0 C cl fp => we_mono (h3 s0 H0 C cl fp) fun y H6 ⟨ey, k6⟩ => ?_
      subst ey
      refine appI (k6.g0 (k5.g0 hD2)) (by
        rw [List.length_map]
        have h1 := List.length_filter_le (fun x => decide (P x)) (ns.take i)
        rw [List.length_take] at h1
        omega) fun H7 k7 hD7 => ⟨((k2.tr0 k5).tr0 k6).trN k7 nD, ?_⟩
      rw [hD7, et, List.filter_cons_of_pos (by exact decide_eq_true hp), List.filter_nil, List.map_append (l₂ := [v])]
      rfl
    · rw [decide_eq_false hp]
      refine iteF ⟨k2.tr0 k5, ?_⟩
      rw [et, List.filter_cons_of_neg (by rw [decide_eq_false hp]; decide), List.filter_nil, List.append_nil]
      exact k5.g0 hD2
  · rintro H2 ⟨k2, hD2⟩
    rw [List.length_map, List.take_length] at hD2
    exact hd Dl H2 nD k2 hD2
theorem lc_Z {elts : List Expr} {kk : Nat} {tpos : Pos} (hg : Gl X "zip") (hm : X.mg "zip" = none) (h : We X a σ H fun v H0 => We X b σ H0 fun w H1 => ∃ q r xs ys, v = .ref q ∧ w = .ref r ∧ SqL X.K H1 q xs ∧ SqL X.K H1 r ys ∧ LcD X elt (.Tuple elts kk tpos) ifs scope vs σ R (min xs.length ys.length) (fun H => SqL X.K H q xs ∧ SqL X.K H r ys) (YPair (fun i => xs[i]?) (fun i => ys[i]?)) H1)
    (he : starEach [a, b] X.env = (false, eval a X.env) :: starEach [b] X.env := by rfl) (hb : starEach [b] X.env = (false, eval b X.env) :: starEach [] X.env := by rfl) :
    Wit X (.Tuple elts kk tpos) (.Call (.Name "zip" p) [a, b] [] pos) σ H (LcW X elt (.Tuple elts kk tpos) ifs scope vs σ R) :=
  wit_zip hg hm (we_mono h fun _ _ h' => we_mono h' fun _ _ ⟨q, r, xs, ys, e1, e2, h1, h2, h3⟩ => ⟨q, r, xs, ys, e1, e2, h1, h2, lcd (walk_zip rfl) h3⟩) he hb
/-- the first, second, .. of a list of tuples -/
theorem lcd_tup {α : Type} {enc : α → List V} {xs : List α} {ts : List Addr} (g : α → Int) (hp : H q = some (.lst (ts.map V.ref))) (hR : RL enc H q xs) (hl : xs.length ≤ 99999)
    (he : ∀ x ∈ xs, ∀ t H1, Kp [] H H1 → H1 t = some (.tup (enc x)) → Bl X scope fun Z => Wg Z tg (.ref t) (wipe σ vs) H1 fun σ2 H2 => wipe σ2 vs = wipe σ vs ∧ Bl X scope fun Z => We Z elt σ2 H2 fun y H3 => y = .int (g x) ∧ Kp [] H1 H3)
    (hd : ∀ Dl H', H Dl = none → Kp [] H H' → H' Dl = some (.lst ((xs.map g).map V.int)) → R (.ref Dl) H') :
    LcD X elt tg [] scope vs σ R (ts.map V.ref).length (fun H => SqL X.K H q (ts.map V.ref)) (YAt (ts.map V.ref)) H := by
  obtain ⟨us, f1, f2, f3⟩ := hR.ex
  have eu : us.map V.ref = ts.map V.ref := HO.lst.inj (Option.some.inj (f1.symm.trans hp))
  have elen : (ts.map V.ref).length = xs.length := by rw [← eu, List.length_map, f2]
  intro Dl H1 nD kD hD
  refine ⟨fun i H' => Kp [] H H' ∧ H' Dl = some (.lst (((xs.take i).map g).map V.int)), ⟨kD, hD⟩, fun i H' _ h => sqL (h.1.g0 hp), ?_, ?_⟩
  · rintro i v H2 H3 hi ⟨k2, hD2⟩ ⟨rfl, hx⟩
    obtain ⟨t, x, rfl, g1, g2⟩ := hR.get hp hx
    intro s0 H0 C cl fp
    refine wg_mono (he x (List.mem_of_getElem? g1) t _ k2 (k2.g0 g2) s0 H0 C cl fp) fun σ2 H4 ⟨e1, h2⟩ => ⟨e1, fun s0 H0 C cl fp => ?_⟩
    refine wts_nil (iteT fun s0 H0 C cl fp => we_mono (h2 s0 H0 C cl fp) fun y H5 ⟨ey, k5⟩ => ?_)
    subst ey
    refine appI (k5.g0 hD2) (by rw [List.length_map, List.length_take]; omega) fun H6 k6 hD6 => ⟨(k2.tr0 k5).trN k6 nD, ?_⟩
    have et : (xs.take (i + 1)).map g = (xs.take i).map g ++ [g x] := by
      rw [List.take_succ, g1, List.map_append]
      rfl
    rw [hD6, et]
  · rintro H2 ⟨k2, hD2⟩
    rw [elen, List.take_length] at hD2
    exact hd Dl H2 nD k2 hD2
end
theorem x_headI {X : Cx} {H : Hp} {Q : VK} {p : Addr} {x : Int} {xs : List Int} (h1 : H p = some (.lst ((x :: xs).map V.int))) (h : Q (.int x) H) : Ixw X (.ref p) (.int 0) H Q := x_lst (sqL h1) (atI_of (by omega) rfl) h
end SL

/-! min, max of lists of triples; tuples compared -/
namespace SL
open PySem PySem.Spec PyProof.Rows L2
open PySem.W (keyToksAll dataLt dataLt_tuple dataLt_int dataLt_all_yes dataLt_all_no alike alikeAll AlikeAll minD maxD)

def d3 (x : Int × Int × Int) : PyData := .tuple [.int x.1, .int x.2.1, .int x.2.2]
/-- the order of triples -/
def lt3 (x y : Int × Int × Int) : Prop := x.1 < y.1 ∨ (x.1 = y.1 ∧ (x.2.1 < y.2.1 ∨ (x.2.1 = y.2.1 ∧ x.2.2 < y.2.2)))
instance (x y : Int × Int × Int) : Decidable (lt3 x y) := by unfold lt3; exact inferInstance
theorem eqv_int (a b : Int) : PyData.eqv (.int a) (.int b) = decide (a = b) := by
  simp only [PyData.eqv]
  by_cases h : a = b
  · simp [h]
  · simp [h]
theorem lexAll_int (a b : Int) (xs ys : List PyData) : PyProof.Rows.lexLt itemOrd (keyToksAll (.int a :: xs)) (keyToksAll (.int b :: ys)) = if a = b then PyProof.Rows.lexLt itemOrd (keyToksAll xs) (keyToksAll ys) else decide (a < b) := by
  by_cases e : a = b
  · rw [if_pos e, dataLt_all_yes rfl (by rw [eqv_int]; exact decide_eq_true e)]
  · rw [if_neg e, dataLt_all_no rfl (by rw [eqv_int]; exact decide_eq_false e), dataLt_int]
theorem dataLt_t3 (x y : Int × Int × Int) : dataLt (d3 x) (d3 y) = decide (lt3 x y) := by
  obtain ⟨a, b, c⟩ := x
  obtain ⟨a', b', c'⟩ := y
  unfold d3 lt3
  rw [dataLt_tuple, lexAll_int, lexAll_int, lexAll_int]
  have e0 : PyProof.Rows.lexLt itemOrd (keyToksAll []) (keyToksAll []) = false := rfl
  rw [e0]
  dsimp only
  by_cases h1 : a = a'
  · rw [if_pos h1]
    by_cases h2 : b = b'
    · rw [if_pos h2]
      by_cases h3 : c = c'
      · rw [if_pos h3]; exact (decide_eq_false (by omega)).symm
      · rw [if_neg h3]
        exact decide_eq_decide.mpr (by omega)
    · rw [if_neg h2]
      exact decide_eq_decide.mpr (by omega)
  · rw [if_neg h1]
    exact decide_eq_decide.mpr (by omega)
theorem dpAll_t3 {K : PySem.W.Frag} {H : Hp} : ∀ {ts : List Addr} {xs : List (Int × Int × Int)}, ts.length = xs.length → (∀ (j : Nat) t, ts[j]? = some t → ∃ q, xs[j]? = some q ∧ H t = some (.tup (e3 q))) → DpAll K H (ts.map V.ref) (xs.map d3)
  | [], [], _, _ => .nil
  | t :: ts, p :: ps, hl, h => by
    obtain ⟨q, e1, e2⟩ := h 0 t rfl
    have e1' : p = q := by simpa using e1
    subst e1'
    exact .cons (.tup (sqT e2) (.cons (.int _) (.cons (.int _) (.cons (.int _) .nil)))) (dpAll_t3 (Nat.succ.inj hl) fun j u hj => h (j + 1) u hj)
  | [], _ :: _, hl, _ => by cases hl
  | _ :: _, [], hl, _ => by cases hl
theorem alike_t3 (xs : List (Int × Int × Int)) : AlikeAll (xs.map d3) := by
  refine ⟨fun x hx y hy => ?_, fun x hx => ?_⟩
  · obtain ⟨a, _, rfl⟩ := List.mem_map.mp hx
    obtain ⟨b, _, rfl⟩ := List.mem_map.mp hy
    rfl
  · obtain ⟨a, _, rfl⟩ := List.mem_map.mp hx
    intro z
    cases z
theorem depth_t3 : ∀ xs : List (Int × Int × Int), PyData.depthAll (xs.map d3) ≤ 1
  | [] => Nat.zero_le _
  | x :: xs => by
    show max (PyData.depth (d3 x)) (PyData.depthAll (xs.map d3)) ≤ 1
    exact Nat.max_le.mpr ⟨Nat.le_refl 1, depth_t3 xs⟩
/-- the first of the least, the first of the greatest -/
def min3 (x : Int × Int × Int) (xs : List (Int × Int × Int)) : Int × Int × Int := xs.foldl (fun a y => if lt3 y a then y else a) x
def max3 (x : Int × Int × Int) (xs : List (Int × Int × Int)) : Int × Int × Int := xs.foldl (fun a y => if lt3 a y then y else a) x
theorem minD_t3 : ∀ (xs : List (Int × Int × Int)) (x : Int × Int × Int), minD (d3 x) (xs.map d3) = d3 (min3 x xs)
  | [], _ => rfl
  | y :: xs, x => by
    show minD (if dataLt (d3 y) (d3 x) = true then d3 y else d3 x) (xs.map d3) = d3 (min3 (if lt3 y x then y else x) xs)
    rw [dataLt_t3]
    by_cases h : lt3 y x
    · rw [if_pos (decide_eq_true h), if_pos h]; exact minD_t3 xs y
    · rw [if_neg (by rw [decide_eq_false h]; decide), if_neg h]; exact minD_t3 xs x
theorem maxD_t3 : ∀ (xs : List (Int × Int × Int)) (x : Int × Int × Int), maxD (d3 x) (xs.map d3) = d3 (max3 x xs)
  | [], _ => rfl
  | y :: xs, x => by
    show maxD (if dataLt (d3 x) (d3 y) = true then d3 y else d3 x) (xs.map d3) = d3 (max3 (if lt3 x y then y else x) xs)
    rw [dataLt_t3]
    by_cases h : lt3 x y
    · rw [if_pos (decide_eq_true h), if_pos h]; exact maxD_t3 xs y
    · rw [if_neg (by rw [decide_eq_false h]; decide), if_neg h]; exact maxD_t3 xs x
section
variable {X : Cx} {H : Hp} {Q : VK} {p : Addr} {x : Int × Int × Int} {xs : List (Int × Int × Int)} {k : Nat}
/-- what is read of a triple's address -/
theorem read_t3 {pins : List (Addr × Obj)} {σ : L2.St} {s : Shared} {h' : Heap} {xs : List (Int × Int × Int)} {ts : List Addr} {its : List Value} {i : Nat} {v : Value} {bs : List Addr} {m : Int × Int × Int} (I : Inv X pins σ H s) (hlt : ts.length = xs.length) (ht : ∀ (j : Nat) t, ts[j]? = some t → ∃ q, xs[j]? = some q ∧ H t = some (.tup (e3 q)))
    (rv : Vals (ts.map V.ref) its) (hi : its[i]? = some v) (hr : Reads h' v (d3 m) bs) (hk : ∀ b o, s.heap.get? b = some o → h'.get? b = some o) : ∃ t, v = .ref t ∧ H t = some (.tup (e3 m)) := by
  have hl := rv.length
  have hit : i < ts.length := by
    have := (List.getElem?_eq_some_iff.mp hi).1
    rw [List.length_map] at hl
    omega
  obtain ⟨q, hq, hH⟩ := ht i ts[i] (List.getElem?_eq_getElem hit)
  have hx : (ts.map V.ref)[i]? = some (V.ref ts[i]) := by rw [List.getElem?_map, List.getElem?_eq_getElem hit]; rfl
  obtain ⟨u, hu, ru⟩ := rv.get hx
  rw [hi] at hu
  cases hu
  cases ru
  have hD : Dp X.K H (.ref ts[i]) (d3 q) := .tup (sqT hH) (.cons (.int _) (.cons (.int _) (.cons (.int _) .nil)))
  obtain ⟨cs, r2⟩ := Dp.reads I _ _ _ hD rfl
  have e := (PyProof.Rows.reads_det (h := s.heap) (h' := h') (fun b o e _ => hk b o e) r2 hr).1
  have e2 : m = q := by
    obtain ⟨m1, m2, m3⟩ := m
    obtain ⟨q1, q2, q3⟩ := q
    simp only [d3, PyData.tuple.injEq, List.cons.injEq, PyData.int.injEq, and_true] at e
    obtain ⟨rfl, rfl, rfl⟩ := e
    rfl
  exact ⟨ts[i], rfl, by rw [e2]; exact hH⟩
/-- min of a list of triples: one of them -/
theorem k_min3 (hc : X.calm = true) (hr : Room k X.A) (h1 : RL e3 H p (x :: xs)) (h : ∀ t, H t = some (.tup (e3 (min3 x xs))) → Q (.ref t) H) : Cal X (.builtin "min") [.ref p] H Q := by
  refine ⟨fun vs H Q => vs = [.ref p] ∧ RL e3 H p (x :: xs) ∧ ∀ t, H t = some (.tup (e3 (min3 x xs))) → Q (.ref t) H, ?_, rfl, h1, h⟩
  intro pins s σ H vs us Q I r h
  obtain ⟨rfl, hR, q⟩ := h
  rw [Vals.ref1 r]
  obtain ⟨ts, e1, e2, e3'⟩ := hR.ex
  obtain ⟨its, rv, pl, hz⟩ := I.list (sqL e1)
  obtain ⟨as, hra⟩ := Dp.readsAll I ((x :: xs).map d3) _ its (dpAll_t3 e2 e3') rv
  have hu := hr.units
  have hd : PyData.depthAll (d3 x :: xs.map d3) ≤ 1 := depth_t3 (x :: xs)
  refine PySem.W.min_list_data (I.ok.hd hc) pl.isList (by simpa using hra) (alike_t3 (x :: xs)) (by omega) fun i v h' tk bs hi hR hk => ?_
  rw [minD_t3] at hR
  obtain ⟨t, rfl, hH⟩ := read_t3 I e2 e3' rv (by simpa using hi) hR hk
  exact ⟨.ref t, H, I.kept hk, rfl, q t hH⟩
theorem k_max3 (hc : X.calm = true) (hr : Room k X.A) (h1 : RL e3 H p (x :: xs)) (h : ∀ t, H t = some (.tup (e3 (max3 x xs))) → Q (.ref t) H) : Cal X (.builtin "max") [.ref p] H Q := by
  refine ⟨fun vs H Q => vs = [.ref p] ∧ RL e3 H p (x :: xs) ∧ ∀ t, H t = some (.tup (e3 (max3 x xs))) → Q (.ref t) H, ?_, rfl, h1, h⟩
  intro pins s σ H vs us Q I r h
  obtain ⟨rfl, hR, q⟩ := h
  rw [Vals.ref1 r]
  obtain ⟨ts, e1, e2, e3'⟩ := hR.ex
  obtain ⟨its, rv, pl, hz⟩ := I.list (sqL e1)
  obtain ⟨as, hra⟩ := Dp.readsAll I ((x :: xs).map d3) _ its (dpAll_t3 e2 e3') rv
  have hu := hr.units
  have hd : PyData.depthAll (d3 x :: xs.map d3) ≤ 1 := depth_t3 (x :: xs)
  refine PySem.W.max_list_data (I.ok.hd hc) pl.isList (by simpa using hra) (alike_t3 (x :: xs)) (by omega) fun i v h' tk bs hi hR hk => ?_
  rw [maxD_t3] at hR
  obtain ⟨t, rfl, hH⟩ := read_t3 I e2 e3' rv (by simpa using hi) hR hk
  exact ⟨.ref t, H, I.kept hk, rfl, q t hH⟩
end
section
variable {X : Cx} {H : Hp} {Q : VK} {p q : Addr} {ns ms : List Int} {k : Nat}
/-- tuples of whole numbers compared -/
theorem dp_tup (h : SqT X.K H p (ns.map V.int)) : Dp X.K H (.ref p) (.tuple (ns.map PyData.int)) := .tup h (dpAll_ints ns)
theorem eqv_tups (ns ms : List Int) : PyData.eqv (.tuple (ns.map PyData.int)) (.tuple (ms.map PyData.int)) = decide (ns = ms) := by
  rw [← eqvAll_ints]
  simp [PyData.eqv]
theorem shaped_tups (ns : List Int) : SeqAt.shaped (.tuple (ns.map PyData.int)) = true := by
  have := shaped_ints ns
  simp only [dI, SeqAt.shaped] at this ⊢
  exact this
theorem c_eqT (hr : Room k X.A) (h1 : SqT X.K H p (ns.map V.int)) (h2 : SqT X.K H q (ms.map V.int)) (h : Q (.bl (decide (ns = ms))) H) : Cmp X .Eq (.ref p) (.ref q) H Q := c_eqD hr (dp_tup h1) (dp_tup h2) (shaped_tups _) (shaped_tups _) (by rw [eqv_tups]; exact h)
theorem c_neT (hr : Room k X.A) (h1 : SqT X.K H p (ns.map V.int)) (h2 : SqT X.K H q (ms.map V.int)) (h : Q (.bl (!decide (ns = ms))) H) : Cmp X .NotEq (.ref p) (.ref q) H Q := c_neD hr (dp_tup h1) (dp_tup h2) (shaped_tups _) (shaped_tups _) (by rw [eqv_tups]; exact h)
theorem c_ltT (hr : Room k X.A) (h1 : SqT X.K H p (ns.map V.int)) (h2 : SqT X.K H q (ms.map V.int)) (h : Q (.bl (HT.lexLt ns ms)) H) : Cmp X .Lt (.ref p) (.ref q) H Q := ⟨_, op_ltT (by have := hr.units; omega), p, q, ns, ms, rfl, rfl, h1, h2, h⟩
theorem lex3 (x y : Int × Int × Int) : HT.lexLt [x.1, x.2.1, x.2.2] [y.1, y.2.1, y.2.2] = decide (lt3 x y) := by
  obtain ⟨a, b, c⟩ := x
  obtain ⟨d, e, f⟩ := y
  show (if a = d then (if b = e then (if c = f then false else decide (c < f)) else decide (b < e)) else decide (a < d)) = decide (lt3 (a, b, c) (d, e, f))
  unfold lt3
  by_cases h1 : a = d
  · rw [if_pos h1]
    by_cases h2 : b = e
    · rw [if_pos h2]
      by_cases h3 : c = f
      · rw [if_pos h3]
        exact (decide_eq_false (by dsimp only; omega)).symm
      · rw [if_neg h3]
        exact decide_eq_decide.mpr (by dsimp only; omega)
    · rw [if_neg h2]
      exact decide_eq_decide.mpr (by dsimp only; omega)
  · rw [if_neg h1]
    exact decide_eq_decide.mpr (by dsimp only; omega)
theorem c_lt3 {x y : Int × Int × Int} (hr : Room k X.A) (h1 : H p = some (.tup (e3 x))) (h2 : H q = some (.tup (e3 y))) (h : Q (.bl (decide (lt3 x y))) H) : Cmp X .Lt (.ref p) (.ref q) H Q :=
  c_ltT (ns := [x.1, x.2.1, x.2.2]) (ms := [y.1, y.2.1, y.2.2]) hr (sqT h1) (sqT h2) (by rw [lex3]; exact h)
theorem tup2 {o : Hp} {a b : Int} (h : o p = some (.tup [.int a, .int b])) : o p = some (.tup ([a, b].map V.int)) := h
theorem tup3 {o : Hp} {a b c : Int} (h : o p = some (.tup [.int a, .int b, .int c])) : o p = some (.tup ([a, b, c].map V.int)) := h
theorem k_isiTu {n : String} {b : Bool} {xs : List V} (h1 : H p = some (.tup xs)) (hk : kitB "tuple" n = some b) (h : Q (.bl b) H) : Cal X (.builtin "isinstance") [.ref p, .ty n] H Q := k_isiT h1 hk h
theorem it_tup : kitB "tuple" "tuple" = some true := by decide +kernel
end
end SL

/-! lists of tuples: slices, reversed, filtered, mapped, walked; range downwards -/
namespace SL
open PySem PySem.Spec PyProof.Rows L2
section
variable {X : Cx} {σ : L2.St} {H : Hp} {Q : VK} {D : Ends} {a b c e it tg elt : Expr} {ifs : List Expr} {pos p : Pos} {body : List Stmt} {R : It → Hp → Prop}
/-- range(a, b, -1) -/
theorem wit_down (hg : Gl X "range") (hm : X.mg "range" = none) (h : We X a σ H fun v H1 => We X b σ H1 fun w H2 => We X c σ H2 fun u H3 => ∃ i j : Int, v = .int i ∧ w = .int j ∧ u = .int (-1) ∧ (-100000 ≤ i ∧ i ≤ 100000 ∧ -100000 ≤ j ∧ j ≤ 100000) ∧ R (Itc i (-1) (i - j).toNat) H3)
    (he : starEach [a, b, c] X.env = (false, eval a X.env) :: starEach [b, c] X.env := by rfl) (hb : starEach [b, c] X.env = (false, eval b X.env) :: starEach [c] X.env := by rfl) (hc : starEach [c] X.env = (false, eval c X.env) :: starEach [] X.env := by rfl) : Wit X tg (.Call (.Name "range" p) [a, b, c] [] pos) σ H R :=
  wit_of (pi_range3 hg hm (pa_cons We.pe (pa_cons We.pe (pa_cons We.pe pa_nil hc) hb) he) he (by rw [hb, hc]; rfl)) (by
    refine ⟨fun pins s I => thn (h.run pins s I) fun u s1 ⟨v, H1, I1, r1, h2⟩ => ⟨v, H1, I1, r1, ⟨fun pins s I => thn (h2.run pins s I) fun u s1 ⟨w, H2, I2, r2, h3⟩ => ⟨w, H2, I2, r2, ⟨fun pins s I => thn (h3.run pins s I) fun u s1 ⟨z, H3, I3, r3, i, j, e1, e2, e3, h3, h4⟩ => ⟨z, H3, I3, r3, i, j, -1, (i - j).toNat, ?_, ?_, h4⟩⟩⟩⟩⟩⟩
    · rw [e1, e2, e3]
    · exact RgC.neg (by omega) (by omega) (by omega) (by omega))
theorem ws_forD (hg : Gl X "range") (hm : X.mg "range" = none) (h : We X a σ H fun v H1 => We X b σ H1 fun w H2 => We X c σ H2 fun u H3 => ∃ lo hi : Int, v = .int lo ∧ w = .int hi ∧ u = .int (-1) ∧ (-100000 ≤ lo ∧ lo ≤ 100000 ∧ -100000 ≤ hi ∧ hi ≤ 100000) ∧ ∃ Pv : Nat → L2.St → Hp → Prop, Pv 0 σ H3 ∧
      (∀ (i : Nat) σ' H', (i : Int) < lo - hi → Pv i σ' H' → Wg X tg (.int (lo - (i : Int))) σ' H' (Body X body D Pv i)) ∧ ∀ σ' H', Pv (lo - hi).toNat σ' H' → D.nx σ' H')
    (hp : PassesOwn (model X.prog X.w) X.A X.env X.xe) (hcl : X.calm = true) (he : starEach [a, b, c] X.env = (false, eval a X.env) :: starEach [b, c] X.env := by rfl) (hb : starEach [b, c] X.env = (false, eval b X.env) :: starEach [c] X.env := by rfl) (hc : starEach [c] X.env = (false, eval c X.env) :: starEach [] X.env := by rfl)
    (hs : ∀ x, foldedSetIterable (.Call (.Name "range" p) [a, b, c] [] pos) X.env x = pure x := by intro _; rfl) {pos2 : Pos} : Ws X (.For tg (.Call (.Name "range" p) [a, b, c] [] pos) body [] pos2) D σ H :=
  ws_for (wit_down hg hm (we_mono h fun _ _ h' => we_mono h' fun _ _ h'' => we_mono h'' fun _ _ ⟨lo, hi, e1, e2, e3, h1, Pv, h0, ht, hd⟩ => ⟨lo, hi, e1, e2, e3, h1, (lo - hi).toNat, _, _, walk_rangeC, Pv, h0, fun _ _ _ _ _ => trivial, fun i x σ' H' H'' hi hP hY => by
    obtain ⟨rfl, rfl⟩ := hY
    show Wg X tg (.int (lo + (i : Int) * -1)) σ' _ _
    rw [show lo + (i : Int) * -1 = lo - (i : Int) from by omega]
    exact ht i σ' _ (by omega) hP, hd⟩) he hb hc) hp hcl hs
end
/-! ### slices of any list -/
def cutG {α : Type} (xs : List α) (lo hi : Option Int) : List α := (xs.drop (HT.sIx xs.length 0 lo)).take (HT.sIx xs.length xs.length hi - HT.sIx xs.length 0 lo)
theorem cutG_I (ns : List Int) (lo hi : Option Int) : cutG ns lo hi = cutI ns lo hi := rfl
theorem cutG_map {α β : Type} (g : α → β) (xs : List α) (lo hi : Option Int) : (cutG xs lo hi).map g = cutG (xs.map g) lo hi := by
  unfold cutG
  rw [List.length_map, List.map_take, List.map_drop]
theorem cutV_G (xs : List V) (lo hi : Option Int) : cutV xs lo hi = cutG xs lo hi := rfl
theorem cutG_get {α : Type} {xs : List α} {lo hi : Option Int} {j : Nat} {x : α} (h : (cutG xs lo hi)[j]? = some x) : xs[HT.sIx xs.length 0 lo + j]? = some x := by
  unfold cutG at h
  rw [List.getElem?_take] at h
  split at h
  · rw [List.getElem?_drop] at h
    exact h
  · cases h
theorem cutG_of {α β : Type} {xs : List α} {ys : List β} {lo hi : Option Int} {j : Nat} {x : α} {y : β} (hl : xs.length = ys.length) (h : (cutG xs lo hi)[j]? = some x) (hy : ys[HT.sIx xs.length 0 lo + j]? = some y) : (cutG ys lo hi)[j]? = some y := by
  unfold cutG at h ⊢
  rw [List.getElem?_take] at h ⊢
  rw [← hl]
  split at h
  · rename_i h1
    rw [if_pos h1, List.getElem?_drop]
    exact hy
  · cases h
theorem cutG_to {α : Type} (xs : List α) (n : Int) (h : 0 ≤ n) : cutG xs none (some n) = xs.take n.toNat := by
  have hl : ((List.range xs.length).map Int.ofNat).length = xs.length := by simp
  have e := cutI_to ((List.range xs.length).map Int.ofNat) n h
  unfold cutI at e
  unfold cutG
  rw [hl] at e
  have e2 := congrArg List.length e
  rw [List.length_take, List.length_drop, List.length_take, hl] at e2
  have e0 : HT.sIx xs.length 0 none = 0 := rfl
  rw [e0] at e2 ⊢
  rw [List.drop_zero, Nat.sub_zero] at *
  apply List.ext_getElem?
  intro i
  rw [List.getElem?_take, List.getElem?_take]
  by_cases h1 : i < xs.length
  · by_cases h2 : i < n.toNat
    · rw [if_pos h2, if_pos (by omega)]
    · rw [if_neg h2, if_neg (by omega)]
  · rw [List.getElem?_eq_none (by omega)]
    split <;> split <;> rfl
section
variable {α : Type} {enc : α → List V} {X : Cx} {σ : L2.St} {H : Hp} {Q : VK} {p : Addr} {xs : List α} {lo hi : Option Int} {e : Expr} {pos p1 p2 p3 : Pos} {k : Nat} {i : Int}
theorem x_slR (h1 : RL enc H p xs) (h : ∀ q H', H q = none → Kp [] H H' → RL enc H' q (cutG xs lo hi) → Q (.ref q) H') : Slw X (.ref p) lo hi H Q := by
  obtain ⟨ts, e1, e2, e3⟩ := h1.ex
  refine x_sl (sqL e1) fun q H' n k e => h q H' n k ⟨cutG ts lo hi, by rw [e, cutV_G, ← cutG_map], ?_, fun j t hj => ?_⟩
  · unfold cutG
    rw [List.length_take, List.length_drop, List.length_take, List.length_drop, e2]
  · obtain ⟨x, f1, f2⟩ := e3 _ t (cutG_get hj)
    exact ⟨x, cutG_of e2 hj f1, k.g0 f2⟩
theorem we_revR (h : We X e σ H fun x H1 => ∃ a, x = .ref a ∧ ∃ xs : List α, RL enc H1 a xs ∧ ∀ p H', H1 p = none → Kp [] H1 H' → RL enc H' p xs.reverse → Q (.ref p) H') :
    We X (.Subscript e (.Slice none none (some (.UnaryOp .USub (.Constant (.int 1) k p1) p2)) p3) pos) σ H Q :=
  we_revK (we_mono h fun _ _ ⟨a, e1, xs, h1, h2⟩ => by
    obtain ⟨ts, f1, f2, f3⟩ := h1.ex
    refine ⟨a, ts.map V.ref, e1, sqL f1, fun p H' n kk e => h2 p H' n kk ⟨ts.reverse, by rw [e, List.map_reverse], by rw [List.length_reverse, List.length_reverse, f2], fun j t hj => ?_⟩⟩
    have hjl : j < ts.length := by
      have := (List.getElem?_eq_some_iff.mp hj).1
      rwa [List.length_reverse] at this
    rw [List.getElem?_reverse hjl] at hj
    obtain ⟨x, g1, g2⟩ := f3 _ t hj
    refine ⟨x, ?_, kk.g0 g2⟩
    rw [List.getElem?_reverse (by omega), ← f2]
    exact g1)
theorem k_lenR (h1 : RL enc H p xs) (h : Q (.int (xs.length : Int)) H) : Cal X (.builtin "len") [.ref p] H Q := by
  obtain ⟨ts, e1, e2, _⟩ := h1.ex
  exact k_len (sqL e1) (by rw [List.length_map, e2]; exact h)
theorem k_listR (h1 : RL enc H p xs) (h : ∀ p' H', H p' = none → Kp [] H H' → RL enc H' p' xs → Q (.ref p') H') : Cal X (.type "list") [.ref p] H Q := by
  obtain ⟨ts, e1, e2, e3⟩ := h1.ex
  exact k_list (.inl (sqL e1)) fun p' H' n k e => h p' H' n k ⟨ts, e, e2, fun j t hj => let ⟨x, f1, f2⟩ := e3 j t hj; ⟨x, f1, k.g0 f2⟩⟩
/-- an item, a tuple -/
theorem x_itemR (h1 : RL enc H p xs) (h0 : 0 ≤ i) (h2 : i < xs.length) (h : ∀ t x, xs[i.toNat]? = some x → H t = some (.tup (enc x)) → Q (.ref t) H) : Ixw X (.ref p) (.int i) H Q := by
  obtain ⟨ts, e1, e2, e3⟩ := h1.ex
  have hil : i.toNat < ts.length := by omega
  obtain ⟨x, f1, f2⟩ := e3 _ _ (List.getElem?_eq_getElem hil)
  exact x_lst (sqL e1) (atI_of h0 (by rw [List.getElem?_map, List.getElem?_eq_getElem hil]; rfl)) (h _ x f1 f2)
theorem b_catR {l b : Addr} {ys : List α} (h1 : RL enc H l xs) (h2 : RL enc H b ys) (hz : xs.length + ys.length ≤ 100000) (h : ∀ p H', H p = none → Kp [] H H' → RL enc H' p (xs ++ ys) → Q (.ref p) H') : Bin X .Add (.ref l) (.ref b) H Q := by
  obtain ⟨ts, e1, e2, e3⟩ := h1.ex
  obtain ⟨us, f1, f2, f3⟩ := h2.ex
  refine b_cat e1 f1 (by rw [List.length_map, List.length_map]; omega) fun p H' n k e => h p H' n k ⟨ts ++ us, by rw [e, List.map_append], by rw [List.length_append, List.length_append, e2, f2], fun j t hj => ?_⟩
  by_cases hjl : j < ts.length
  · rw [List.getElem?_append_left hjl] at hj
    obtain ⟨x, g1, g2⟩ := e3 j t hj
    exact ⟨x, by rw [List.getElem?_append_left (by omega)]; exact g1, k.g0 g2⟩
  · rw [List.getElem?_append_right (by omega)] at hj
    obtain ⟨x, g1, g2⟩ := f3 _ t hj
    exact ⟨x, by rw [List.getElem?_append_right (by omega), ← e2]; exact g1, k.g0 g2⟩
theorem RL.l1 {a : Addr} {x : α} (h : H p = some (.lst [.ref a])) (h1 : H a = some (.tup (enc x))) : RL enc H p [x] := ⟨[a], h, rfl, fun j t hj => by
  cases j with
  | zero => cases hj; exact ⟨_, rfl, h1⟩
  | succ j => simp at hj⟩
end
/-- all is as it was but where q is not -/
def KpE (q : Addr) (H H' : Hp) : Prop := ∃ M, Kp M H H' ∧ q ∉ M
theorem KpE.of0 {q : Addr} {H H' : Hp} (k : Kp [] H H') : KpE q H H' := ⟨[], k, by simp⟩
theorem KpE.of1 {q p : Addr} {H H' : Hp} (k : Kp [p] H H') (n : q ≠ p) : KpE q H H' := ⟨[p], k, by simp [n]⟩
section
variable {α : Type} {enc : α → List V} {X : Cx} {σ : L2.St} {H : Hp} {Q : VK} {D : Ends} {it tg elt c : Expr} {pos : Pos} {body : List Stmt}
/-- a for over a list of tuples -/
theorem ws_forT (enc : α → List V) (h : We X it σ H fun v H1 => ∃ q xs, v = .ref q ∧ RL enc H1 q xs ∧ ∃ Pv : Nat → L2.St → Hp → Prop, Pv 0 σ H1 ∧ (∀ i σ' H', i ≤ xs.length → Pv i σ' H' → KpE q H1 H') ∧
      (∀ i x t σ' H', xs[i]? = some x → H' t = some (.tup (enc x)) → Pv i σ' H' → Wg X tg (.ref t) σ' H' (Body X body D Pv i)) ∧ ∀ σ' H', Pv xs.length σ' H' → D.nx σ' H')
    (hp : PassesOwn (model X.prog X.w) X.A X.env X.xe) (hc : X.calm = true) (hs : ∀ x, foldedSetIterable it X.env x = pure x := by intro _; rfl) : Ws X (.For tg it body [] pos) D σ H :=
  ws_forL (we_mono h fun v H1 ⟨q, xs, e1, hR, Pv, h0, hk, ht, hd⟩ => by
    obtain ⟨ts, f1, f2, f3⟩ := hR.ex
    have hl : (ts.map V.ref).length = xs.length := by rw [List.length_map, f2]
    refine ⟨q, ts.map V.ref, e1, sqL f1, Pv, h0, fun i σ' H' hi hP => ?_, fun i x σ' H' hx hP => ?_, fun σ' H' hP => hd σ' H' (by rw [← hl]; exact hP)⟩
    · obtain ⟨M, k, n⟩ := hk i σ' H' (by omega) hP
      exact sqL (k.gM n f1)
    · obtain ⟨t, y, rfl, g1, g2⟩ := hR.get f1 hx
      have hil : i < xs.length := (List.getElem?_eq_some_iff.mp g1).1
      obtain ⟨M, k, n⟩ := hk i σ' H' (by omega) hP
      exact ht i y t σ' H' g1 (k.gT g2) hP) hp hc hs
variable {scope : Scope} {vs : List Nat} {R : VK} {q : Addr} {xs : List α} {ts : List Addr}
/-- [t for t in ts if test], tuples -/
theorem lcd_selR (P : α → Prop) [DecidablePred P] (hp : H q = some (.lst (ts.map V.ref))) (hR : RL enc H q xs) (hl : xs.length ≤ 99999)
    (he : ∀ x ∈ xs, ∀ t H1, Kp [] H H1 → H1 t = some (.tup (enc x)) → Bl X scope fun Z => Wg Z tg (.ref t) (wipe σ vs) H1 fun σ2 H2 => wipe σ2 vs = wipe σ vs ∧ Bl X scope fun Z => Wt Z c σ2 H2 fun k H3 => k = decide (P x) ∧ Kp [] H1 H3 ∧ Bl X scope fun Z => We Z elt σ2 H3 fun y H4 => y = .ref t ∧ Kp [] H3 H4)
    (hd : ∀ Dl H', H Dl = none → Kp [] H H' → RL enc H' Dl (xs.filter fun x => decide (P x)) → R (.ref Dl) H') :
    LcD X elt tg [c] scope vs σ R (ts.map V.ref).length (fun H => SqL X.K H q (ts.map V.ref)) (YAt (ts.map V.ref)) H := by
  obtain ⟨us, f1, f2, f3⟩ := hR.ex
  have eu : us.map V.ref = ts.map V.ref := HO.lst.inj (Option.some.inj (f1.symm.trans hp))
  have elen : (ts.map V.ref).length = xs.length := by rw [← eu, List.length_map, f2]
  intro Dl H1 nD kD hD
  refine ⟨fun i H' => Kp [] H H' ∧ RL enc H' Dl ((xs.take i).filter fun x => decide (P x)), ⟨kD, .nil hD⟩, fun i H' _ h => sqL (h.1.g0 hp), ?_, ?_⟩
  · rintro i v H2 H3 hi ⟨k2, hD2⟩ ⟨rfl, hx⟩
    obtain ⟨t, x, rfl, g1, g2⟩ := hR.get hp hx
    intro s0 H0 C cl fp
    refine wg_mono (he x (List.mem_of_getElem? g1) t _ k2 (k2.g0 g2) s0 H0 C cl fp) fun σ2 H4 ⟨e1, h2⟩ => ⟨e1, fun s0 H0 C cl fp => ?_⟩
    refine wts_one (wt_mono (h2 s0 H0 C cl fp) fun k H5 ⟨ek, k5, h3⟩ => ?_)
    subst ek
    have et : (xs.take (i + 1)).filter (fun x => decide (P x)) = (xs.take i).filter (fun x => decide (P x)) ++ [x].filter (fun x => decide (P x)) := by
      rw [List.take_succ, g1, List.filter_append]
      rfl
    by_cases hq : P x
    · rw [decide_eq_true hq]
      refine iteT fun s0 H0 C cl fp => we_mono (h3 s0 H0 C cl fp) fun y H6 ⟨ey, k6⟩ => ?_
      subst ey
      have hD6 : RL enc H6 Dl ((xs.take i).filter fun x => decide (P x)) := (hD2.kp k5 (by simp)).kp k6 (by simp)
      obtain ⟨ws, w1, w2, w3⟩ := hD6.ex
      have h1 := List.length_filter_le (fun x => decide (P x)) (xs.take i)
      rw [List.length_take] at h1
      refine ⟨ws.map V.ref, w1, by rw [List.length_map]; omega, fun H7 k7 hD7 => ⟨((k2.tr0 k5).tr0 k6).trN k7 nD, ?_⟩⟩
      rw [et, List.filter_cons_of_pos (by exact decide_eq_true hq), List.filter_nil]
      exact RL.app hD6 w1 (k6.g0 (k5.g0 (k2.g0 g2))) k7 hD7
    · rw [decide_eq_false hq]
      refine iteF ⟨k2.tr0 k5, ?_⟩
      rw [et, List.filter_cons_of_neg (by rw [decide_eq_false hq]; decide), List.filter_nil, List.append_nil]
      exact hD2.kp k5 (by simp)
  · rintro H2 ⟨k2, hD2⟩
    rw [elen, List.take_length] at hD2
    exact hd Dl H2 nD k2 hD2
/-- [(..) for t in ts], tuples to tuples -/
theorem lcd_mapR {β : Type} {enc2 : β → List V} (g : α → β) (hp : H q = some (.lst (ts.map V.ref))) (hR : RL enc H q xs) (hl : xs.length ≤ 99999)
    (he : ∀ x ∈ xs, ∀ t H1, Kp [] H H1 → H1 t = some (.tup (enc x)) → Bl X scope fun Z => Wg Z tg (.ref t) (wipe σ vs) H1 fun σ2 H2 => wipe σ2 vs = wipe σ vs ∧ Bl X scope fun Z => We Z elt σ2 H2 fun y H3 => ∃ u, y = .ref u ∧ H3 u = some (.tup (enc2 (g x))) ∧ Kp [] H1 H3)
    (hd : ∀ Dl H', H Dl = none → Kp [] H H' → RL enc2 H' Dl (xs.map g) → R (.ref Dl) H') :
    LcD X elt tg [] scope vs σ R (ts.map V.ref).length (fun H => SqL X.K H q (ts.map V.ref)) (YAt (ts.map V.ref)) H := by
  obtain ⟨us, f1, f2, f3⟩ := hR.ex
  have eu : us.map V.ref = ts.map V.ref := HO.lst.inj (Option.some.inj (f1.symm.trans hp))
  have elen : (ts.map V.ref).length = xs.length := by rw [← eu, List.length_map, f2]
  intro Dl H1 nD kD hD
  refine ⟨fun i H' => Kp [] H H' ∧ RL enc2 H' Dl ((xs.take i).map g), ⟨kD, .nil hD⟩, fun i H' _ h => sqL (h.1.g0 hp), ?_, ?_⟩
  · rintro i v H2 H3 hi ⟨k2, hD2⟩ ⟨rfl, hx⟩
    obtain ⟨t, x, rfl, g1, g2⟩ := hR.get hp hx
    intro s0 H0 C cl fp
    refine wg_mono (he x (List.mem_of_getElem? g1) t _ k2 (k2.g0 g2) s0 H0 C cl fp) fun σ2 H4 ⟨e1, h2⟩ => ⟨e1, fun s0 H0 C cl fp => ?_⟩
    refine wts_nil (iteT fun s0 H0 C cl fp => we_mono (h2 s0 H0 C cl fp) fun y H5 ⟨u, ey, hu, k5⟩ => ?_)
    subst ey
    have hD5 : RL enc2 H5 Dl ((xs.take i).map g) := hD2.kp k5 (by simp)
    obtain ⟨ws, w1, w2, w3⟩ := hD5.ex
    refine ⟨ws.map V.ref, w1, by rw [List.length_map, w2, List.length_map, List.length_take]; omega, fun H6 k6 hD6 => ⟨(k2.tr0 k5).trN k6 nD, ?_⟩⟩
    rw [List.take_succ, g1, List.map_append]
    exact RL.app hD5 w1 hu k6 hD6
  · rintro H2 ⟨k2, hD2⟩
    rw [elen, List.take_length] at hD2
    exact hd Dl H2 nD k2 hD2
/-- [(..) for x in xs], whole numbers to tuples -/
theorem lcd_mapIR {ns : List Int} (g : Int → α) (hS : SqL X.K H q (ns.map V.int)) (hl : ns.length ≤ 99999)
    (he : ∀ x ∈ ns, ∀ H1, Kp [] H H1 → Bl X scope fun Z => Wg Z tg (.int x) (wipe σ vs) H1 fun σ2 H2 => wipe σ2 vs = wipe σ vs ∧ Bl X scope fun Z => We Z elt σ2 H2 fun y H3 => ∃ u, y = .ref u ∧ H3 u = some (.tup (enc (g x))) ∧ Kp [] H1 H3)
    (hd : ∀ Dl H', H Dl = none → Kp [] H H' → RL enc H' Dl (ns.map g) → R (.ref Dl) H') :
    LcD X elt tg [] scope vs σ R (ns.map V.int).length (fun H => SqL X.K H q (ns.map V.int)) (YAt (ns.map V.int)) H := by
  intro Dl H1 nD kD hD
  refine ⟨fun i H' => Kp [] H H' ∧ RL enc H' Dl ((ns.take i).map g), ⟨kD, .nil hD⟩, fun i H' _ h => Kp.sqK hS h.1, ?_, ?_⟩
  · rintro i x H2 H3 hi ⟨k2, hD2⟩ ⟨rfl, hx⟩
    obtain ⟨v, hv, rfl⟩ := mapI_get hx
    intro s0 H0 C cl fp
    refine wg_mono (he v (List.mem_of_getElem? hv) _ k2 s0 H0 C cl fp) fun σ2 H4 ⟨e1, h2⟩ => ⟨e1, fun s0 H0 C cl fp => ?_⟩
    refine wts_nil (iteT fun s0 H0 C cl fp => we_mono (h2 s0 H0 C cl fp) fun y H5 ⟨u, ey, hu, k5⟩ => ?_)
    subst ey
    have hD5 : RL enc H5 Dl ((ns.take i).map g) := hD2.kp k5 (by simp)
    obtain ⟨ws, w1, w2, w3⟩ := hD5.ex
    refine ⟨ws.map V.ref, w1, by rw [List.length_map, w2, List.length_map, List.length_take]; omega, fun H6 k6 hD6 => ⟨(k2.tr0 k5).trN k6 nD, ?_⟩⟩
    rw [List.take_succ, hv, List.map_append]
    exact RL.app hD5 w1 hu k6 hD6
  · rintro H2 ⟨k2, hD2⟩
    rw [List.length_map, List.take_length] at hD2
    exact hd Dl H2 nD k2 hD2
end
def e2 : Int × Int → List V := fun q => [.int q.1, .int q.2]
theorem PL.rl2 {H : Hp} {p : Addr} {ps : List (Int × Int)} (h : PL H p ps) : RL e2 H p ps := ⟨h.ex⟩
theorem RL.pl2 {H : Hp} {p : Addr} {ps : List (Int × Int)} (h : RL e2 H p ps) : PL H p ps := ⟨h.ex⟩
end SL

/-! comprehensions over tuples; more of lists of tuples -/
namespace SL
open PySem PySem.Spec PyProof.Rows L2
section
variable {X : Cx} {σ : L2.St} {H : Hp} {Q : VK} {D : Ends} {a b c e it tg elt : Expr} {ifs : List Expr} {pos p : Pos} {body : List Stmt}
theorem lc_T {scope : Scope} {vs : List Nat} {R : VK} (h : We X it σ H fun v H1 => ∃ q xs, v = .ref q ∧ SqT X.K H1 q xs ∧ LcD X elt tg ifs scope vs σ R xs.length (fun H => SqT X.K H q xs) (YAt xs) H1) : Wit X tg it σ H (LcW X elt tg ifs scope vs σ R) :=
  wit_tup (we_mono h fun _ _ ⟨q, xs, e1, h1, h3⟩ => ⟨q, e1, ⟨xs, h1⟩, lcd walk_tup h3⟩)
/-- a for over a tuple -/
theorem ws_forTu (h : We X it σ H fun v H1 => ∃ q xs, v = .ref q ∧ SqT X.K H1 q xs ∧ ∃ Pv : Nat → L2.St → Hp → Prop, Pv 0 σ H1 ∧ (∀ i σ' H', i ≤ xs.length → Pv i σ' H' → SqT X.K H' q xs) ∧
      (∀ i x σ' H', xs[i]? = some x → Pv i σ' H' → Wg X tg x σ' H' (Body X body D Pv i)) ∧ ∀ σ' H', Pv xs.length σ' H' → D.nx σ' H')
    (hp : PassesOwn (model X.prog X.w) X.A X.env X.xe) (hc : X.calm = true) (hs : ∀ x, foldedSetIterable it X.env x = pure x := by intro _; rfl) : Ws X (.For tg it body [] pos) D σ H :=
  ws_for (wit_tup (we_mono h fun _ _ ⟨q, xs, e1, h1, Pv, h0, hl, ht, hd⟩ => ⟨q, e1, ⟨xs, h1⟩, xs.length, _, _, walk_tup (xs := xs), Pv, h0, hl, fun i x σ' H' H'' hi hP hY => by
    obtain ⟨rfl, hx⟩ := hY
    exact ht i x σ' _ hx hP, hd⟩)) hp hc hs
end
theorem RL.two {α : Type} {enc : α → List V} {H H1 H2 : Hp} {p t : Addr} {xs : List α} {x : α} {ts : List Addr} (h : RL enc H p xs) (hp : H p = some (.lst (ts.map V.ref))) : ts.length = xs.length := by
  obtain ⟨us, f1, f2, f3⟩ := h.ex
  have eu : us.map V.ref = ts.map V.ref := HO.lst.inj (Option.some.inj (f1.symm.trans hp))
  have := congrArg List.length eu
  rw [List.length_map, List.length_map] at this
  omega
/-- append to a list of tuples -/
theorem appR {α : Type} {enc : α → List V} {H : Hp} {l t : Addr} {xs : List α} {x : α} {R : Hp → Prop} (h1 : RL enc H l xs) (ht : H t = some (.tup (enc x))) (hl : xs.length < 100000) (h : ∀ H', Kp [l] H H' → RL enc H' l (xs ++ [x]) → R H') : ∃ ys, H l = some (.lst ys) ∧ ys.length < 100000 ∧ ∀ H', Kp [l] H H' → H' l = some (.lst (ys ++ [.ref t])) → R H' := by
  obtain ⟨us, f1, f2, f3⟩ := h1.ex
  exact ⟨us.map V.ref, f1, by rw [List.length_map]; omega, fun H' k e => h H' k (RL.app h1 f1 ht k e)⟩
theorem appRx {α : Type} {enc : α → List V} {H : Hp} {l : Addr} {xs : List α} (h1 : RL enc H l xs) : ∃ ys, H l = some (.lst ys) := by
  obtain ⟨us, f1, f2, f3⟩ := h1.ex
  exact ⟨_, f1⟩
theorem ref_non {a : Addr} : ¬ (V.ref a = V.non) := fun z => nomatch z
/-! ### lists of tuples of whole numbers compared -/
def dT (ns : List Int) : PyData := .tuple (ns.map PyData.int)
section
variable {K : PySem.W.Frag} {H : Hp} {α : Type} {enc : α → List V} {g : α → List Int}
theorem dpAll_R (hg : ∀ x, enc x = (g x).map V.int) : ∀ {ts : List Addr} {xs : List α}, ts.length = xs.length → (∀ (j : Nat) t, ts[j]? = some t → ∃ q, xs[j]? = some q ∧ H t = some (.tup (enc q))) → DpAll K H (ts.map V.ref) (xs.map fun x => dT (g x))
  | [], [], _, _ => .nil
  | t :: ts, p :: ps, hl, h => by
    obtain ⟨q, e1, e2⟩ := h 0 t rfl
    have e1' : p = q := by simpa using e1
    subst e1'
    rw [hg] at e2
    exact .cons (.tup (sqT e2) (dpAll_ints _)) (dpAll_R hg (Nat.succ.inj hl) fun j u hj => h (j + 1) u hj)
  | [], _ :: _, hl, _ => by cases hl
  | _ :: _, [], hl, _ => by cases hl
theorem eqvAll_T : ∀ xs ys : List (List Int), PyData.eqvAll (xs.map dT) (ys.map dT) = decide (xs = ys)
  | [], [] => by simp [PyData.eqvAll]
  | [], _ :: _ => by simp [PyData.eqvAll]
  | _ :: _, [] => by simp [PyData.eqvAll]
  | x :: xs, y :: ys => by
    show (PyData.eqv (dT x) (dT y) && PyData.eqvAll (xs.map dT) (ys.map dT)) = _
    rw [eqvAll_T xs ys]
    have e : PyData.eqv (dT x) (dT y) = decide (x = y) := by
      rw [← eqvAll_ints]
      simp [dT, PyData.eqv]
    rw [e]
    by_cases h1 : x = y <;> by_cases h3 : xs = ys <;> simp [h1, h3]
theorem shaped_T (xs : List (List Int)) : SeqAt.shaped (.list (xs.map dT)) = true := by
  have h0 : ∀ ns : List Int, PyData.canLayAll0 (ns.map PyData.int) = true := fun ns => by
    induction ns with
    | nil => rfl
    | cons n ns ih => show (PyData.canLay0 (.int n) && PyData.canLayAll0 (ns.map PyData.int)) = true; rw [ih]; rfl
  have h1 : ∀ xs : List (List Int), PyData.canLayAll0 (xs.map dT) = true := fun xs => by
    induction xs with
    | nil => rfl
    | cons p ps ih =>
      show (PyData.canLay0 (dT p) && PyData.canLayAll0 (ps.map dT)) = true
      rw [ih, Bool.and_true]
      show PyData.canLayAll0 (p.map PyData.int) = true
      exact h0 p
  have h2 : ∀ xs : List (List Int), PyData.depthAll (xs.map dT) ≤ 1 := fun xs => by
    induction xs with
    | nil => exact Nat.zero_le _
    | cons p ps ih =>
      show max (PyData.depth (dT p)) (PyData.depthAll (ps.map dT)) ≤ 1
      refine Nat.max_le.mpr ⟨?_, ih⟩
      show PyData.depthAll (p.map PyData.int) + 1 ≤ 1
      rw [depth_ints]
      exact Nat.le_refl 1
  unfold SeqAt.shaped
  rw [PyData.canLay0, PyData.depth, h1 xs, Bool.true_and]
  have := h2 xs
  exact decide_eq_true (by omega)
theorem RL.dpT (hg : ∀ x, enc x = (g x).map V.int) {p : Addr} {xs : List α} (h : RL enc H p xs) : Dp K H (.ref p) (.list ((xs.map g).map dT)) := by
  obtain ⟨ts, h1, h2, h3⟩ := h.ex
  rw [List.map_map]
  exact .lst (sqL h1) (dpAll_R hg h2 h3)
theorem eqv_T (xs ys : List (List Int)) : PyData.eqv (.list (xs.map dT)) (.list (ys.map dT)) = decide (xs = ys) := by
  rw [PyData.eqv]
  exact eqvAll_T xs ys
end
section
variable {X : Cx} {H : Hp} {Q : VK} {p q : Addr} {k : Nat} {α : Type} {enc : α → List V} {g : α → List Int} {xs ys : List α}
theorem c_eqR (g : α → List Int) (hg : ∀ x, enc x = (g x).map V.int) (hr : Room k X.A) (h1 : RL enc H p xs) (h2 : RL enc H q ys) (h : Q (.bl (decide (xs.map g = ys.map g))) H) : Cmp X .Eq (.ref p) (.ref q) H Q := c_eqD hr (h1.dpT hg) (h2.dpT hg) (shaped_T _) (shaped_T _) (by rw [eqv_T]; exact h)
theorem c_neR (g : α → List Int) (hg : ∀ x, enc x = (g x).map V.int) (hr : Room k X.A) (h1 : RL enc H p xs) (h2 : RL enc H q ys) (h : Q (.bl (!decide (xs.map g = ys.map g))) H) : Cmp X .NotEq (.ref p) (.ref q) H Q := c_neD hr (h1.dpT hg) (h2.dpT hg) (shaped_T _) (shaped_T _) (by rw [eqv_T]; exact h)
end
def g2 (q : Int × Int) : List Int := [q.1, q.2]
def g3 (q : Int × Int × Int) : List Int := [q.1, q.2.1, q.2.2]
theorem map_inj' {α β : Type} {g : α → β} (hg : ∀ x y, g x = g y → x = y) : ∀ {xs ys : List α}, xs.map g = ys.map g ↔ xs = ys
  | [], [] => by simp
  | [], _ :: _ => by simp
  | _ :: _, [] => by simp
  | x :: xs, y :: ys => by
    rw [List.map_cons, List.map_cons, List.cons.injEq, List.cons.injEq, map_inj' hg]
    exact ⟨fun ⟨a, b⟩ => ⟨hg _ _ a, b⟩, fun ⟨a, b⟩ => ⟨by rw [a], b⟩⟩
theorem g2_inj (x y : Int × Int) (h : g2 x = g2 y) : x = y := by
  obtain ⟨a, b⟩ := x
  obtain ⟨c, d⟩ := y
  simp only [g2, List.cons.injEq, and_true] at h
  rw [h.1, h.2]
theorem g3_inj (x y : Int × Int × Int) (h : g3 x = g3 y) : x = y := by
  obtain ⟨a, b, e⟩ := x
  obtain ⟨c, d, f⟩ := y
  simp only [g3, List.cons.injEq, and_true] at h
  rw [h.1, h.2.1, h.2.2]
section
variable {X : Cx} {H : Hp} {Q : VK} {p q : Addr} {k : Nat}
theorem c_eq2 {xs ys : List (Int × Int)} (hr : Room k X.A) (h1 : RL e2 H p xs) (h2 : RL e2 H q ys) (h : Q (.bl (decide (xs = ys))) H) : Cmp X .Eq (.ref p) (.ref q) H Q := c_eqR g2 (fun _ => rfl) hr h1 h2 (by rw [decide_eq_decide.mpr (map_inj' g2_inj)]; exact h)
theorem c_ne2 {xs ys : List (Int × Int)} (hr : Room k X.A) (h1 : RL e2 H p xs) (h2 : RL e2 H q ys) (h : Q (.bl (!decide (xs = ys))) H) : Cmp X .NotEq (.ref p) (.ref q) H Q := c_neR g2 (fun _ => rfl) hr h1 h2 (by rw [decide_eq_decide.mpr (map_inj' g2_inj)]; exact h)
theorem c_eq3 {xs ys : List (Int × Int × Int)} (hr : Room k X.A) (h1 : RL e3 H p xs) (h2 : RL e3 H q ys) (h : Q (.bl (decide (xs = ys))) H) : Cmp X .Eq (.ref p) (.ref q) H Q := c_eqR g3 (fun _ => rfl) hr h1 h2 (by rw [decide_eq_decide.mpr (map_inj' g3_inj)]; exact h)
theorem c_ne3 {xs ys : List (Int × Int × Int)} (hr : Room k X.A) (h1 : RL e3 H p xs) (h2 : RL e3 H q ys) (h : Q (.bl (!decide (xs = ys))) H) : Cmp X .NotEq (.ref p) (.ref q) H Q := c_neR g3 (fun _ => rfl) hr h1 h2 (by rw [decide_eq_decide.mpr (map_inj' g3_inj)]; exact h)
end
/-! ### pairs compared -/
def lt2 (x y : Int × Int) : Prop := x.1 < y.1 ∨ (x.1 = y.1 ∧ x.2 < y.2)
instance (x y : Int × Int) : Decidable (lt2 x y) := by unfold lt2; exact inferInstance
theorem dataLt_t2 (x y : Int × Int) : PySem.W.dataLt (dT (g2 x)) (dT (g2 y)) = decide (lt2 x y) := by
  obtain ⟨a, b⟩ := x
  obtain ⟨a', b'⟩ := y
  show PySem.W.dataLt (.tuple [.int a, .int b]) (.tuple [.int a', .int b']) = _
  unfold lt2
  rw [PySem.W.dataLt_tuple, lexAll_int, lexAll_int]
  have e0 : PyProof.Rows.lexLt itemOrd (PySem.W.keyToksAll []) (PySem.W.keyToksAll []) = false := rfl
  rw [e0]
  dsimp only
  by_cases h1 : a = a'
  · rw [if_pos h1]
    by_cases h2 : b = b'
    · rw [if_pos h2]; exact (decide_eq_false (by omega)).symm
    · rw [if_neg h2]
      exact decide_eq_decide.mpr (by omega)
  · rw [if_neg h1]
    exact decide_eq_decide.mpr (by omega)
theorem c_ge2 {X : Cx} {H : Hp} {Q : VK} {p q : Addr} {k : Nat} {x y : Int × Int} (hr : Room k X.A) (h1 : H p = some (.tup (e2 x))) (h2 : H q = some (.tup (e2 y))) (h : Q (.bl (!decide (lt2 x y))) H) : Cmp X .GtE (.ref p) (.ref q) H Q := by
  refine ⟨fun a b H Q => a = .ref p ∧ b = .ref q ∧ H p = some (.tup (e2 x)) ∧ H q = some (.tup (e2 y)) ∧ Q (.bl (!decide (lt2 x y))) H, ?_, rfl, rfl, h1, h2, h⟩
  intro pins s σ H a b v u Q I ra rb hh
  obtain ⟨rfl, rfl, h1, h2, h⟩ := hh
  have d1 : Dp X.K H (.ref p) (dT (g2 x)) := .tup (sqT (xs := (g2 x).map V.int) h1) (dpAll_ints _)
  have d2 : Dp X.K H (.ref q) (dT (g2 y)) := .tup (sqT (xs := (g2 y).map V.int) h2) (dpAll_ints _)
  obtain ⟨as, r1⟩ := Dp.reads I _ _ _ d1 ra
  obtain ⟨bs, r2⟩ := Dp.reads I _ _ _ d2 rb
  have hu := hr.units
  have dx : (dT (g2 x)).depth = 1 := rfl
  have dy : (dT (g2 y)).depth = 1 := rfl
  refine PySem.W.ge_data r1 r2 rfl (fun z => nomatch z) (by rw [dx, dy]; omega) ⟨.bl _, H, I, rfl, ?_⟩
  rw [dataLt_t2]
  exact h
section
variable {α : Type} {enc : α → List V} {X : Cx} {σ : L2.St} {H : Hp} {tg elt c : Expr} {scope : Scope} {vs : List Nat} {R : VK}
/-- [.. for i in range(a, b)], whole numbers -/
theorem lcd_rangeI {n : Nat} {lo : Int} (g : Nat → Int) (hl : n ≤ 99999)
    (he : ∀ i, i < n → ∀ H1, Kp [] H H1 → Bl X scope fun Z => Wg Z tg (.int (lo + (i : Int))) (wipe σ vs) H1 fun σ2 H2 => wipe σ2 vs = wipe σ vs ∧ Bl X scope fun Z => We Z elt σ2 H2 fun y H3 => y = .int (g i) ∧ Kp [] H1 H3)
    (hd : ∀ Dl H', H Dl = none → Kp [] H H' → H' Dl = some (.lst (((List.range n).map g).map V.int)) → R (.ref Dl) H') :
    LcD X elt tg [] scope vs σ R n (fun _ => True) (YFn fun i => .int (lo + (i : Int))) H := by
  intro Dl H1 nD kD hD
  refine ⟨fun i H' => Kp [] H H' ∧ H' Dl = some (.lst (((List.range i).map g).map V.int)), ⟨kD, hD⟩, fun _ _ _ _ => trivial, ?_, ?_⟩
  · rintro i x H2 H3 hi ⟨k2, hD2⟩ ⟨rfl, rfl⟩
    intro s0 H0 C cl fp
    refine wg_mono (he i hi _ k2 s0 H0 C cl fp) fun σ2 H4 ⟨e1, h2⟩ => ⟨e1, fun s0 H0 C cl fp => ?_⟩
    refine wts_nil (iteT fun s0 H0 C cl fp => we_mono (h2 s0 H0 C cl fp) fun y H5 ⟨ey, k5⟩ => ?_)
    subst ey
    refine appI (k5.g0 hD2) (by rw [List.length_map, List.length_range]; omega) fun H6 k6 hD6 => ⟨(k2.tr0 k5).trN k6 nD, ?_⟩
    rw [hD6, List.range_succ, List.map_append (l₂ := [i])]
    rfl
  · rintro H2 ⟨k2, hD2⟩
    exact hd Dl H2 nD k2 hD2
/-- [(..) for i in range(n)] -/
theorem lcd_rangeR {n : Nat} (g : Nat → α) (hl : n ≤ 99999)
    (he : ∀ i, i < n → ∀ H1, Kp [] H H1 → Bl X scope fun Z => Wg Z tg (.int (i : Int)) (wipe σ vs) H1 fun σ2 H2 => wipe σ2 vs = wipe σ vs ∧ Bl X scope fun Z => We Z elt σ2 H2 fun y H3 => ∃ u, y = .ref u ∧ H3 u = some (.tup (enc (g i))) ∧ Kp [] H1 H3)
    (hd : ∀ Dl H', H Dl = none → Kp [] H H' → RL enc H' Dl ((List.range n).map g) → R (.ref Dl) H') :
    LcD X elt tg [] scope vs σ R n (fun _ => True) (YFn fun i => .int ((0 : Int) + (i : Int))) H := by
  intro Dl H1 nD kD hD
  refine ⟨fun i H' => Kp [] H H' ∧ RL enc H' Dl ((List.range i).map g), ⟨kD, .nil hD⟩, fun _ _ _ _ => trivial, ?_, ?_⟩
  · rintro i x H2 H3 hi ⟨k2, hD2⟩ ⟨rfl, rfl⟩
    intro s0 H0 C cl fp
    show Wg _ _ (.int ((0 : Int) + (i : Int))) _ _ _
    rw [Int.zero_add]
    refine wg_mono (he i hi _ k2 s0 H0 C cl fp) fun σ2 H4 ⟨e1, h2⟩ => ⟨e1, fun s0 H0 C cl fp => ?_⟩
    refine wts_nil (iteT fun s0 H0 C cl fp => we_mono (h2 s0 H0 C cl fp) fun y H5 ⟨u, ey, hu, k5⟩ => ?_)
    subst ey
    have hD5 : RL enc H5 Dl ((List.range i).map g) := hD2.kp k5 (by simp)
    obtain ⟨ws, w1, w2, w3⟩ := hD5.ex
    refine ⟨ws.map V.ref, w1, by rw [List.length_map, w2, List.length_map, List.length_range]; omega, fun H6 k6 hD6 => ⟨(k2.tr0 k5).trN k6 nD, ?_⟩⟩
    rw [List.range_succ, List.map_append]
    exact RL.app hD5 w1 hu k6 hD6
  · rintro H2 ⟨k2, hD2⟩
    exact hd Dl H2 nD k2 hD2
end
end SL

/-! objects: fields, methods, makings -/
namespace SL
open PySem PySem.Spec PyProof.Rows L2
section
variable {P : Program} {w : World} {K : PySem.W.Frag} {mg : Str → Option Value} {base : Heap}
/-- a method of the class at C, with its promise -/
structure Me (P : Program) (w : World) (K : PySem.W.Frag) (mg : Str → Option Value) (base : Heap) (k : Nat) (C : Addr) (m : Str) (sp : Sp) : Prop where
  ex : ∃ f fd ps, FnG P w K mg base CX0 k f fd ps sp ∧ Meth K C m f ∧ Binds K fd ps []
/-- the making of an object by its __init__ -/
structure Mak (P : Program) (w : World) (K : PySem.W.Frag) (mg : Str → Option Value) (base : Heap) (k : Nat) (x : Str) (C : Addr) (sp : Sp) : Prop where
  ex : ∃ f fd ps, FnG P w K mg base CX0 k f fd ps sp ∧ Mk K C f ∧ mg x = some (.ref C) ∧ Binds K fd ps []
/-- the class itself: plain, without these names -/
structure Kl (K : PySem.W.Frag) (C : Addr) (fs : List Str) : Prop where
  cl : Cls K C
  na : ∀ f ∈ fs, NoAttr K C f
theorem me_mk {k : Nat} {C f : Addr} {m : Str} {fd : FuncData} {ps : List Str} {sp : Sp} (F : FnG P w K mg base CX0 k f fd ps sp) (h : Meth K C m f) (b : Binds K fd ps []) : Me P w K mg base k C m sp := ⟨f, fd, ps, F, h, b⟩
theorem mak_mk {k : Nat} {C f : Addr} {x : Str} {fd : FuncData} {ps : List Str} {sp : Sp} (F : FnG P w K mg base CX0 k f fd ps sp) (h : Mk K C f) (g : mg x = some (.ref C)) (b : Binds K fd ps []) : Mak P w K mg base k x C sp := ⟨f, fd, ps, F, h, g, b⟩
end
section
variable {X : Cx} {σ : L2.St} {H : Hp} {Q : VK} {D : Ends} {e o value : Expr} {es : List Expr} {p pos pos' apos : Pos} {x m f : Str} {k j : Nat} {sp : Sp} {C : Addr} {fs : List Str}
/-- o.f -/
theorem we_fld (T : Kl X.K C fs) (hf : f ∈ fs) (h : We X o σ H fun x H1 => ∃ a, x = .ref a ∧ ∃ dx fv v, H1 a = some (.ins C dx fv) ∧ fv.lookup f = some v ∧ Q v H1) (hb : attributeBase o f X.env (eval o X.env) = eval o X.env := by rfl) : We X (.Attribute o f pos) σ H Q :=
  we_of (pe_fld We.pe hb) (we_mono h fun x H1 ⟨a, e1, dx, fv, v, h1, h2, q⟩ => ⟨a, C, dx, fv, v, e1, h1, T.cl, T.na f hf, h2, q⟩)
theorem Kp.putI {H : Hp} {p C dx : Addr} {fv : List (Str × V)} {o : HO} (n : H p = some (.ins C dx fv)) : Kp [p] H (upd H p o) := ⟨fun b u e h => by
    rcases h with h | h
    · rw [upd_ne (by simpa using h)]; exact e
    · by_cases z : b = p
      · rw [z, n] at e
        cases e
        exact h.elim
      · rw [upd_ne z]; exact e, fun b e => by
    by_cases z : b = p
    · rw [z, upd_same] at e; cases e
    · rw [upd_ne z] at e; exact e⟩
/-- o.f = e -/
theorem ws_fld (T : Kl X.K C fs) (hf : f ∈ fs) (h : We X value σ H fun y H1 => We X o σ H1 fun x H2 => ∃ a, x = .ref a ∧ ∃ dx fv, H2 a = some (.ins C dx fv) ∧ fv.length < 1000 ∧ ∀ H', Kp [a] H2 H' → H' a = some (.ins C dx (putF f y fv)) → D.nx σ H')
    (hs : swapsWith value (some (.Attribute o f pos')) pos.line X.env = pure false := by rfl) : Ws X (.Assign [.Attribute o f pos'] value pos) D σ H :=
  ws_of (ps_fld We.pe We.pe hs) (we_mono h fun y H1 h1 => we_mono h1 fun x H2 ⟨a, e1, dx, fv, h2, h3, q⟩ => ⟨a, C, dx, fv, e1, h2, T.cl, T.na f hf, h3, q _ (.putI h2) upd_same⟩)
theorem run_fnG {pins : List (Addr × Obj)} {s : Shared} {us : List Value} {vs : List V} {f : Addr} {fd : FuncData} {ps : List Str} (F : FnG X.prog X.w X.K X.mg X.base CX0 k f fd ps sp) (hr : Room k X.A) (hgd : X.A.guards = some []) (b : Binds X.K fd ps [])
    (I : Inv X pins σ H s) (r : Vals vs us) (h : sp vs H Q E0) : wpAny (model X.prog X.w) X.A (call (.ref f) us) (EP X pins σ Q) X.xe s := by
  have hl : us.length = ps.length := r.length.symm.trans (F.len _ _ _ _ h)
  have hb := b s us I.kIn (by rw [List.append_nil]; exact hl)
  rw [List.append_nil] at hb
  refine wpAny_call (codeAny_mono (F.run X.A X.stack s H ⟨us, []⟩ us vs Q E0 hr hgd I.env0 hb r h) fun r s' hq => ?_)
  cases r with
  | error e => exact hq.elim
  | ok fl => cases fl with
    | ret u => exact I.after hq
    | next => exact hq.elim
    | brk => exact hq.elim
    | cont => exact hq.elim
/-- o.m(e, ..) -/
theorem we_meth {pl : Sem Bool} (T : Kl X.K C fs) (M : Me X.prog X.w X.K X.mg X.base k C m sp) (hr : Room j X.A) (hk : k ≤ j) (hgd : X.A.guards = some [])
    (h : We X o σ H fun x H1 => ∃ a, x = .ref a ∧ ∃ dx fv, H1 a = some (.ins C dx fv) ∧ fv.lookup m = none ∧ Wa X (e :: es) σ H1 fun vs H2 => sp (.ref a :: vs) H2 Q E0)
    (hst : starEach (e :: es) X.env = (false, eval e X.env) :: starEach es X.env := by rfl) (hpl : (backTo pos (starEach es X.env)).any (·.1) = false := by rfl)
    (ht : eval (.Call (.Attribute o m apos) (e :: es) [] pos) X.env = (do
      let ov ← eval o X.env
      standAt apos.atName
      let (f, first) ← holding [ov] (getMethod ov m pl)
      callWith pos f first (backTo pos (starEach (e :: es) X.env)) (backToKw pos (keywordEach [] X.env))) := by rfl) : We X (.Call (.Attribute o m apos) (e :: es) [] pos) σ H Q := by
  obtain ⟨f, fd, ps, F, hm, b⟩ := M.ex
  refine ⟨fun pins s I => ?_⟩
  refine PySem.W.methodCall_KW (pl := pl) (thn (h.run pins s I) fun u s1 ⟨x, H1, I1, rx, a, ex, dx, fv, ea, l, q⟩ => ?_) ht
  subst ex
  obtain rfl : u = Value.ref a := rx
  refine getmeth_ok I1 ea T.cl hm l ?_
  refine PySem.W.callWith_K (first := [.ref a]) (h₀ := X.base) I.ok.mod.kin hm.kp (thn (q.run pos pins s1 I1) fun us s2 ⟨vs, H2, I2, r, q2⟩ => ⟨I2.kIn, ?_⟩) hst hpl
  exact run_fnG (us := .ref a :: us) (vs := .ref a :: vs) F (hr.mono hk) hgd b I2 (.cons rfl r) q2
theorem we_meth0 {pl : Sem Bool} (T : Kl X.K C fs) (M : Me X.prog X.w X.K X.mg X.base k C m sp) (hr : Room j X.A) (hk : k ≤ j) (hgd : X.A.guards = some [])
    (h : We X o σ H fun x H1 => ∃ a, x = .ref a ∧ ∃ dx fv, H1 a = some (.ins C dx fv) ∧ fv.lookup m = none ∧ sp [.ref a] H1 Q E0)
    (ht : eval (.Call (.Attribute o m apos) [] [] pos) X.env = (do
      let ov ← eval o X.env
      standAt apos.atName
      let (f, first) ← holding [ov] (getMethod ov m pl)
      callWith pos f first (backTo pos (starEach [] X.env)) (backToKw pos (keywordEach [] X.env))) := by rfl) : We X (.Call (.Attribute o m apos) [] [] pos) σ H Q := by
  obtain ⟨f, fd, ps, F, hm, b⟩ := M.ex
  refine ⟨fun pins s I => ?_⟩
  refine PySem.W.methodCall_KW (pl := pl) (thn (h.run pins s I) fun u s1 ⟨x, H1, I1, rx, a, ex, dx, fv, ea, l, q⟩ => ?_) ht
  subst ex
  obtain rfl : u = Value.ref a := rx
  refine getmeth_ok I1 ea T.cl hm l ?_
  exact PySem.W.callWith_K0 (first := [.ref a]) I1.kIn hm.kp (run_fnG (us := [.ref a]) (vs := [.ref a]) F (hr.mono hk) hgd b I1 (.cons rfl .nil) q)
theorem run_makeG {pins : List (Addr × Obj)} {s : Shared} {us : List Value} {vs : List V} {f : Addr} {fd : FuncData} {ps : List Str} (M : Mk X.K C f) (F : FnG X.prog X.w X.K X.mg X.base CX0 k f fd ps sp) (hr : Room (k + 1) X.A) (hgd : X.A.guards = some []) (hb : Binds X.K fd ps [])
    (I : Inv X pins σ H s) (r : Vals vs us)
    (h : ∀ x dx, H x = none → H dx = none → dx ≠ x → sp (.ref x :: vs) (upd (upd H dx (.own x)) x (.ins C dx [])) (fun v H2 => v = .non ∧ Q (.ref x) H2) E0) :
    wpAny (model X.prog X.w) X.A (call (.ref C) us) (EP X pins σ Q) X.xe s := by
  have hq := h (s.heap.objs.size + 1) s.heap.objs.size (I.hok.fresh (Nat.le_succ _)) (I.hok.fresh (Nat.le_refl _)) (Nat.ne_of_lt (Nat.lt_succ_self _))
  have I2 := Inv.made (C := C) I
  have r2 : Vals (V.ref (s.heap.objs.size + 1) :: vs) (Value.ref (s.heap.objs.size + 1) :: us) := .cons rfl r
  have hl : (Value.ref (s.heap.objs.size + 1) :: us).length = ps.length := by
    have e := r2.length
    rw [F.len _ _ _ _ hq] at e
    exact e.symm
  have hb2 := hb _ (Value.ref (s.heap.objs.size + 1) :: us) I2.kIn (by rw [List.append_nil]; exact hl)
  rw [List.append_nil] at hb2
  refine wpAny_call (make_map (f := f) I.kIn M.makes M.init (beq_iff_eq.mp M.fn) (codeAny_mono (F.run _ X.stack _ _ ⟨Value.ref (s.heap.objs.size + 1) :: us, []⟩ (Value.ref (s.heap.objs.size + 1) :: us) _ _ E0 (hr.make C us []) hgd
    (I2.env0.make C us []) hb2 r2 hq) fun r s' hq' => ?_))
  cases r with
  | error e => exact hq'.elim
  | ok fl =>
    cases fl with
    | ret u =>
      obtain ⟨v, H', I3, rv, ev, q3⟩ := I2.after hq'
      subst ev
      exact ⟨rv, ⟨V.ref (s.heap.objs.size + 1), H', I3, rfl, q3⟩⟩
    | next => exact False.elim hq'
    | brk => exact False.elim hq'
    | cont => exact False.elim hq'
theorem kp_made {H : Hp} {x dx : Addr} {o u : HO} (nx : H x = none) (nd : H dx = none) : Kp [] H (upd (upd H dx o) x u) := .ext fun b v e => by rw [upd_ne (ne_of_none e nx), upd_ne (ne_of_none e nd)]; exact e
/-- C(e, ..) -/
theorem we_make (M : Mak X.prog X.w X.K X.mg X.base k x C sp) (hr : Room j X.A) (hk : k + 1 ≤ j) (hgd : X.A.guards = some []) (hg : Gl X x)
    (h : Wa X (e :: es) σ H fun vs H1 => ∀ a dx H2, H1 a = none → Kp [] H1 H2 → H2 a = some (.ins C dx []) → sp (.ref a :: vs) H2 (fun v H3 => v = .non ∧ Q (.ref a) H3) E0) (hdb : (x == ("__debug__" : Str)) = false := by decide)
    (he : starEach (e :: es) X.env = (false, eval e X.env) :: starEach es X.env := by rfl) (hpl : (backTo pos (starEach es X.env)).any (·.1) = false := by rfl) : We X (.Call (.Name x p) (e :: es) [] pos) σ H Q := by
  obtain ⟨f, fd, ps, F, hm, g, b⟩ := M.ex
  refine ⟨fun pins s I => ?_⟩
  refine wpAny_Call_Name_kw (ld_glob I hg g ?_ hdb)
  refine PySem.W.callWith_K (h₀ := X.base) I.ok.mod.kin hm.kp (thn (h.run pos pins s I) fun us s1 ⟨vs, H1, I1, r, q⟩ => ⟨I1.kIn, ?_⟩) he hpl
  exact run_makeG hm F (hr.mono hk) hgd b I1 r fun a dx na nd _ => q a dx _ na (kp_made na nd) upd_same
/-- C() -/
theorem we_make0 (M : Mak X.prog X.w X.K X.mg X.base k x C sp) (hr : Room j X.A) (hk : k + 1 ≤ j) (hgd : X.A.guards = some []) (hg : Gl X x)
    (h : ∀ a dx H2, H a = none → Kp [] H H2 → H2 a = some (.ins C dx []) → sp [.ref a] H2 (fun v H3 => v = .non ∧ Q (.ref a) H3) E0) (hdb : (x == ("__debug__" : Str)) = false := by decide) : We X (.Call (.Name x p) [] [] pos) σ H Q := by
  obtain ⟨f, fd, ps, F, hm, g, b⟩ := M.ex
  refine ⟨fun pins s I => ?_⟩
  refine wpAny_Call_Name_kw (ld_glob I hg g ?_ hdb)
  exact PySem.W.callWith_K0 I.kIn hm.kp (run_makeG (us := []) (vs := []) hm F (hr.mono hk) hgd b I .nil fun a dx na nd _ => h a dx _ na (kp_made na nd) upd_same)
end
section
variable {X : Cx} {σ : L2.St} {H : Hp} {Q : VK} {D : Ends} {e o value : Expr} {es : List Expr} {p pos pos' apos : Pos} {x m f : Str} {k j : Nat} {sp : Sp} {C a dx : Addr} {fs : List Str} {fv : List (Str × V)} {y v : V} {R : Hp → Prop}
/-- a field of the object at a -/
structure Fw (X : Cx) (a : Addr) (f : Str) (H : Hp) (Q : VK) : Prop where
  ex : ∃ C fs dx fv v, Kl X.K C fs ∧ f ∈ fs ∧ H a = some (.ins C dx fv) ∧ fv.lookup f = some v ∧ Q v H
theorem fw_of (h1 : H a = some (.ins C dx fv)) (T : Kl X.K C fs) (hf : f ∈ fs) (h2 : fv.lookup f = some v) (h : Q v H) : Fw X a f H Q := ⟨C, fs, dx, fv, v, T, hf, h1, h2, h⟩
theorem we_fldF (h : We X o σ H fun x H1 => ∃ a, x = .ref a ∧ Fw X a f H1 Q) (hb : attributeBase o f X.env (eval o X.env) = eval o X.env := by rfl) : We X (.Attribute o f pos) σ H Q :=
  we_of (pe_fld We.pe hb) (we_mono h fun x H1 ⟨a, e1, h2⟩ => let ⟨C, fs, dx, fv, v, T, hf, h1, h3, q⟩ := h2.ex; ⟨a, C, dx, fv, v, e1, h1, T.cl, T.na f hf, h3, q⟩)
/-- a store to a field of the object at a -/
structure Sw (X : Cx) (a : Addr) (f : Str) (y : V) (H : Hp) (R : Hp → Prop) : Prop where
  ex : ∃ C fs dx fv, Kl X.K C fs ∧ f ∈ fs ∧ H a = some (.ins C dx fv) ∧ fv.length < 1000 ∧ R (upd H a (.ins C dx (putF f y fv)))
theorem sw_of (h1 : H a = some (.ins C dx fv)) (T : Kl X.K C fs) (hf : f ∈ fs) (h2 : fv.length < 1000) {fv' : List (Str × V)} (h3 : putF f y fv = fv') (h : ∀ H', Kp [a] H H' → H' a = some (.ins C dx fv') → R H') : Sw X a f y H R := ⟨C, fs, dx, fv, T, hf, h1, h2, h _ (.putI h1) (by rw [h3]; exact upd_same)⟩
theorem ws_fldS (h : We X value σ H fun y H1 => We X o σ H1 fun x H2 => ∃ a, x = .ref a ∧ Sw X a f y H2 fun H3 => D.nx σ H3)
    (hs : swapsWith value (some (.Attribute o f pos')) pos.line X.env = pure false := by rfl) : Ws X (.Assign [.Attribute o f pos'] value pos) D σ H :=
  ws_of (ps_fld We.pe We.pe hs) (we_mono h fun y H1 h1 => we_mono h1 fun x H2 ⟨a, e1, h2⟩ => let ⟨C, fs, dx, fv, T, hf, h3, h4, q⟩ := h2.ex; ⟨a, C, dx, fv, e1, h3, T.cl, T.na f hf, h4, q⟩)
/-- a method of the object at a -/
structure Mw (X : Cx) (a : Addr) (m : Str) (es : List Expr) (σ : L2.St) (H : Hp) (Q : VK) : Prop where
  ex : ∃ C fs k j sp dx fv, Kl X.K C fs ∧ Me X.prog X.w X.K X.mg X.base k C m sp ∧ Room j X.A ∧ k ≤ j ∧ X.A.guards = some [] ∧ H a = some (.ins C dx fv) ∧ fv.lookup m = none ∧ Wa X es σ H fun vs H2 => sp (.ref a :: vs) H2 Q E0
theorem mw_of (h1 : H a = some (.ins C dx fv)) (T : Kl X.K C fs) (M : Me X.prog X.w X.K X.mg X.base k C m sp) (hr : Room j X.A) (hk : k ≤ j) (hgd : X.A.guards = some []) (h2 : fv.lookup m = none) (h : Wa X es σ H fun vs H2 => sp (.ref a :: vs) H2 Q E0) : Mw X a m es σ H Q := ⟨C, fs, k, j, sp, dx, fv, T, M, hr, hk, hgd, h1, h2, h⟩
theorem we_methM {pl : Sem Bool} (h : We X o σ H fun x H1 => ∃ a, x = .ref a ∧ Mw X a m (e :: es) σ H1 Q)
    (hst : starEach (e :: es) X.env = (false, eval e X.env) :: starEach es X.env := by rfl) (hpl : (backTo pos (starEach es X.env)).any (·.1) = false := by rfl)
    (ht : eval (.Call (.Attribute o m apos) (e :: es) [] pos) X.env = (do
      let ov ← eval o X.env
      standAt apos.atName
      let (f, first) ← holding [ov] (getMethod ov m pl)
      callWith pos f first (backTo pos (starEach (e :: es) X.env)) (backToKw pos (keywordEach [] X.env))) := by rfl) : We X (.Call (.Attribute o m apos) (e :: es) [] pos) σ H Q := by
  refine ⟨fun pins s I => ?_⟩
  refine PySem.W.methodCall_KW (pl := pl) (thn (h.run pins s I) fun u s1 ⟨x, H1, I1, rx, a, ex, hw⟩ => ?_) ht
  obtain ⟨C, fs, k, j, sp, dx, fv, T, M, hr, hk, hgd, ea, l, q⟩ := hw.ex
  obtain ⟨f, fd, ps, F, hm, b⟩ := M.ex
  subst ex
  obtain rfl : u = Value.ref a := rx
  refine getmeth_ok I1 ea T.cl hm l ?_
  refine PySem.W.callWith_K (first := [.ref a]) (h₀ := X.base) I.ok.mod.kin hm.kp (thn (q.run pos pins s1 I1) fun us s2 ⟨vs, H2, I2, r, q2⟩ => ⟨I2.kIn, ?_⟩) hst hpl
  exact run_fnG (us := .ref a :: us) (vs := .ref a :: vs) F (hr.mono hk) hgd b I2 (.cons rfl r) q2
structure Mw0 (X : Cx) (a : Addr) (m : Str) (H : Hp) (Q : VK) : Prop where
  ex : ∃ C fs k j sp dx fv, Kl X.K C fs ∧ Me X.prog X.w X.K X.mg X.base k C m sp ∧ Room j X.A ∧ k ≤ j ∧ X.A.guards = some [] ∧ H a = some (.ins C dx fv) ∧ fv.lookup m = none ∧ sp [.ref a] H Q E0
theorem mw0_of (h1 : H a = some (.ins C dx fv)) (T : Kl X.K C fs) (M : Me X.prog X.w X.K X.mg X.base k C m sp) (hr : Room j X.A) (hk : k ≤ j) (hgd : X.A.guards = some []) (h2 : fv.lookup m = none) (h : sp [.ref a] H Q E0) : Mw0 X a m H Q := ⟨C, fs, k, j, sp, dx, fv, T, M, hr, hk, hgd, h1, h2, h⟩
theorem we_methM0 {pl : Sem Bool} (h : We X o σ H fun x H1 => ∃ a, x = .ref a ∧ Mw0 X a m H1 Q)
    (ht : eval (.Call (.Attribute o m apos) [] [] pos) X.env = (do
      let ov ← eval o X.env
      standAt apos.atName
      let (f, first) ← holding [ov] (getMethod ov m pl)
      callWith pos f first (backTo pos (starEach [] X.env)) (backToKw pos (keywordEach [] X.env))) := by rfl) : We X (.Call (.Attribute o m apos) [] [] pos) σ H Q := by
  refine ⟨fun pins s I => ?_⟩
  refine PySem.W.methodCall_KW (pl := pl) (thn (h.run pins s I) fun u s1 ⟨x, H1, I1, rx, a, ex, hw⟩ => ?_) ht
  obtain ⟨C, fs, k, j, sp, dx, fv, T, M, hr, hk, hgd, ea, l, q⟩ := hw.ex
  obtain ⟨f, fd, ps, F, hm, b⟩ := M.ex
  subst ex
  obtain rfl : u = Value.ref a := rx
  refine getmeth_ok I1 ea T.cl hm l ?_
  exact PySem.W.callWith_K0 (first := [.ref a]) I1.kIn hm.kp (run_fnG (us := [.ref a]) (vs := [.ref a]) F (hr.mono hk) hgd b I1 (.cons rfl .nil) q)
end
theorem putF_one (f : Str) (v : V) : putF f v [] = [(f, v)] := rfl
theorem lk_one {f : Str} {v : V} : ([(f, v)] : List (Str × V)).lookup f = some v := by simp [List.lookup]
theorem lk_no {f g : Str} {v : V} (h : (g == f) = false) : ([(f, v)] : List (Str × V)).lookup g = none := by simp [List.lookup, h]
theorem rgV_of (n : Int) : rgV 0 n = ((List.range n.toNat).map Int.ofNat).map V.int := by
  unfold rgV
  rw [List.map_map, Int.sub_zero]
  refine List.map_congr_left fun i _ => ?_
  show V.int (0 + (i : Int)) = V.int (i : Int)
  rw [Int.zero_add]
/-- list(range(n)) -/
theorem we_listRange {X : Cx} {σ : L2.St} {H : Hp} {Q : VK} {a : Expr} {p p2 pos q : Pos} (hc : X.calm = true) (hg : Gl X "list") (hm : X.mg "list" = none) (hg2 : Gl X "range") (hm2 : X.mg "range" = none) (h : We X a σ H fun v H1 => ∃ n : Int, v = .int n ∧ n ≤ 100000 ∧ -100000 ≤ n ∧ ∀ r H', H1 r = none → Kp [] H1 H' → H' r = some (.lst (((List.range n.toNat).map Int.ofNat).map V.int)) → Q (.ref r) H') (na : starEach [a] X.env = (false, eval a X.env) :: starEach [] X.env := by rfl)
    (nb : starEach [.Call (.Name "range" p2) [a] [] q] X.env = (false, eval (.Call (.Name "range" p2) [a] [] q) X.env) :: starEach [] X.env := by rfl) :
    We X (.Call (.Name "list" p) [.Call (.Name "range" p2) [a] [] q] [] pos) σ H Q :=
  we_of (pe_listRg hc hg hm (prg_1 hg2 hm2 We.pe na) nb) (we_mono h fun v H1 ⟨n, e, h1, h2, h3⟩ => ⟨n, e, ⟨by omega, by omega, by omega, by omega, by omega⟩, fun r hr => h3 r _ hr (.new hr) (by rw [upd_same, rgV_of])⟩)
end SL

/-! dicts of whole numbers -/
namespace SL
open PySem PySem.Spec PyProof.Rows L2
def encK (ps : List (Int × Int)) : List (Key × V) := ps.map fun q => ((Sum.inl q.1 : Key), V.int q.2)
def lkI (ps : List (Int × Int)) (k : Int) : Option Int := (ps.find? fun q => decide (q.1 = k)).map (·.2)
def ptI (ps : List (Int × Int)) (k v : Int) : List (Int × Int) := if (ps.any fun q => decide (q.1 = k)) = true then ps.map (fun q => if q.1 = k then (q.1, v) else q) else ps ++ [(k, v)]
theorem inl_dec (a k : Int) : decide ((Sum.inl a : Key) = Sum.inl k) = decide (a = k) := decide_eq_decide.mpr ⟨fun z => Sum.inl.inj z, fun z => by rw [z]⟩
theorem valV_enc (k : Int) : ∀ ps : List (Int × Int), valV (encK ps) (Sum.inl k : Key) = (lkI ps k).map V.int
  | [] => rfl
  | q :: ps => by
    by_cases h : q.1 = k
    · have e1 : valV (encK (q :: ps)) (Sum.inl k : Key) = some (V.int q.2) := valV_pos (p := ((Sum.inl q.1 : Key), V.int q.2)) (by rw [h])
      rw [e1]
      simp [lkI, List.find?_cons, h]
    · have e1 : valV (encK (q :: ps)) (Sum.inl k : Key) = valV (encK ps) (Sum.inl k : Key) := valV_neg (p := ((Sum.inl q.1 : Key), V.int q.2)) (fun z => h (Sum.inl.inj z))
      rw [e1, valV_enc k ps]
      simp [lkI, List.find?_cons, h]
theorem putK_enc (ps : List (Int × Int)) (k v : Int) : putK (encK ps) (Sum.inl k : Key) (V.int v) = encK (ptI ps k v) := by
  unfold putK ptI encK
  rw [List.any_map]
  have e : (fun kv : Key × V => decide (kv.1 = (Sum.inl k : Key))) ∘ (fun q : Int × Int => ((Sum.inl q.1 : Key), V.int q.2)) = fun q => decide (q.1 = k) := by
    funext q
    exact inl_dec q.1 k
  rw [e]
  split
  · rw [List.map_map, List.map_map]
    refine List.map_congr_left fun q _ => ?_
    show (if (Sum.inl q.1 : Key) = Sum.inl k then _ else _) = _
    by_cases h : q.1 = k
    · rw [if_pos (by rw [h])]
      show _ = ((Sum.inl (if q.1 = k then (q.1, v) else q).1 : Key), V.int (if q.1 = k then (q.1, v) else q).2)
      rw [if_pos h]
    · rw [if_neg (fun z => h (Sum.inl.inj z))]
      show _ = ((Sum.inl (if q.1 = k then (q.1, v) else q).1 : Key), V.int (if q.1 = k then (q.1, v) else q).2)
      rw [if_neg h]
  · rw [List.map_append]
    rfl
theorem Kp.putD {H : Hp} {p : Addr} {kvs : List (Key × V)} {o : HO} (n : H p = some (.dK kvs)) : Kp [p] H (upd H p o) := ⟨fun b u e h => by
    rcases h with h | h
    · rw [upd_ne (by simpa using h)]; exact e
    · by_cases z : b = p
      · rw [z, n] at e
        cases e
        exact h.elim
      · rw [upd_ne z]; exact e, fun b e => by
    by_cases z : b = p
    · rw [z, upd_same] at e; cases e
    · rw [upd_ne z] at e; exact e⟩
section
variable {X : Cx} {σ : L2.St} {H : Hp} {Q : VK} {o e f : Expr} {pos apos cpos : Pos} {k : Nat} {a : Addr} {ps : List (Int × Int)} {i v : Int}
theorem we_dict0 (h : ∀ d H', H d = none → Kp [] H H' → H' d = some (.dK (encK [])) → Q (.ref d) H') : We X (.Dict [] [] pos) σ H Q := we_of pe_dnewK fun d nd => h d _ nd (.new nd) upd_same
theorem we_dget2 (hr : Room k X.A) (h : We X o σ H fun x H1 => ∃ a, x = .ref a ∧ (∃ ps, H1 a = some (.dK (encK ps))) ∧ We X e σ H1 fun y H2 => We X f σ H2 fun z H3 => ∃ ps i d, H3 a = some (.dK (encK ps)) ∧ y = .int i ∧ z = .int d ∧ Q (.int ((lkI ps i).getD d)) H3)
    (m1 : attributeBase o "get" X.env (eval o X.env) = eval o X.env := by rfl)
    (m2 : ((backTo cpos (starEach [e, f] X.env)).all (fun x => !x.1) && (backToKw cpos (keywordEach [] X.env)).all (fun x => x.1.isSome)
    && decide (([e, f] : List Expr).length + ([] : List Keyword).length + (if ([] : List Keyword).isEmpty then 0 else 1) < 30)) = true := by rfl)
    (m3 : (apos.endLine == cpos.line) = true := by rfl) (m4 : backTo cpos (starEach [e, f] X.env) = [(false, eval e X.env), (false, eval f X.env)] := by rfl) : We X (.Call (.Attribute o "get" apos) [e, f] [] cpos) σ H Q :=
  we_of (pe_dget2 (by have := hr.units; omega) We.pe We.pe We.pe ⟨m1, m2, m3, m4⟩) (we_mono h fun x H1 ⟨a, e1, ⟨ps, h1⟩, h2⟩ => ⟨a, e1, .inl ⟨_, .inl h1⟩, we_mono h2 fun y H2 h3 => we_mono h3 fun z H3 ⟨ps, i, d, h4, ey, ez, q⟩ => by
    subst ey ez
    refine ⟨_, DGet.k (k := Sum.inl i) h4, ?_⟩
    rw [valV_enc]
    cases hl : lkI ps i with
    | none => rw [hl] at q; exact q
    | some w => rw [hl] at q; exact q⟩)
theorem x_setD {G : Hp → Prop} (hr : Room k X.A) (h1 : H a = some (.dK (encK ps))) (hl : ps.length < 100000) (h : ∀ H', Kp [a] H H' → H' a = some (.dK (encK (ptI ps i v))) → G H') : Setw X (.ref a) (.int i) (.int v) H G := by
  refine ⟨fun o i v H Q => ∃ a H', o = .ref a ∧ DPut H a i v H' ∧ Q H', ?_, a, _, rfl, DPut.k (k := Sum.inl i) h1 (by
    have : sizeLine = 16777216 := rfl
    unfold encK
    rw [List.length_map]
    omega), h _ (.putD h1) (by rw [upd_same, putK_enc])⟩
  intro pins s σ H o i v ov iv u Q I r1 r2 r3 h
  obtain ⟨a, H', rfl, g, q⟩ := h
  obtain rfl : ov = Value.ref a := r1
  exact d_setItem (by have := hr.units; omega) I g r2 r3 fun s' I' => ⟨H', I', q⟩
/-- d[k], the key is there -/
theorem x_getD (hr : Room k X.A) (h1 : H a = some (.dK (encK ps))) (h2 : lkI ps i = some v) (h : Q (.int v) H) (hp : PlainIx e := by exact fun _ _ => rfl) {σ : L2.St} {Q : VK} : True := trivial
theorem we_dgetS (hr : Room k X.A) (h : We X o σ H fun x H1 => We X e σ H1 fun y H2 => ∃ a ps i v, x = .ref a ∧ H2 a = some (.dK (encK ps)) ∧ y = .int i ∧ lkI ps i = some v ∧ Q (.int v) H2) (hs : NoSl e := by exact fun _ _ => rfl) : We X (.Subscript o e pos) σ H Q :=
  we_of (pe_dget (by have := hr.units; omega) We.pe We.pe hs) (we_mono h fun x H1 h1 => we_mono h1 fun y H2 ⟨a, ps, i, v, e1, h2, ey, h3, q⟩ => ⟨a, .int v, e1, by
    subst ey
    have := DGet.k (k := Sum.inl i) h2
    rw [valV_enc, h3] at this
    exact this, q⟩)
end
/-! ### sorted(d.items()) -/
/-- new pairs of whole numbers, and a new list of some order of them -/
theorem pairs_laid2 {X : Cx} {pins : List (Addr × Obj)} {σ : L2.St} {H : Hp} {s : Shared} {h' : Heap} {tk : Nat} {S : Addr} {ps : List (V × V)} {acc : Array Value} {c : Nat} {as bs : List Addr} (I : Inv X pins σ H s) (hz : bs.length ≤ sizeLine) (hSs : s.heap.objs.size ≤ S)
    (hk : ∀ b o, s.heap.get? b = some o → h'.get? b = some o) (hS : h'.get? S = some { cls := .type "list", dict := none, data := .seq acc c, slots := #[] }) (hl : as.length = ps.length) (nd : as.Nodup) (hab : ∀ a ∈ as, s.heap.objs.size ≤ a) (hSn : S ∉ as) (hacc : acc.toList = bs.map Value.ref)
    (hpair : ∀ (j : Nat) (a : Addr) (p : V × V), as[j]? = some a → ps[j]? = some p → ∃ k v, RelV p.1 k ∧ RelV p.2 v ∧ h'.get? a = some { cls := .type "tuple", data := .seq #[k, v] }) :
    ∃ H' : Hp, (∀ b o, H b = some o → H' b = some o) ∧ H S = none ∧ (∀ t ∈ as, H t = none) ∧ H' S = some (.lst (bs.map V.ref)) ∧ (∀ (j : Nat) (a : Addr) (p : V × V), as[j]? = some a → ps[j]? = some p → H' a = some (.tup [p.1, p.2])) ∧ Inv X pins σ H' { s with heap := h', toks := tk } := by
  have new : ∀ t ∈ as, H t = none := fun t ht => I.hok.fresh (hab t ht)
  have newS : H S = none := I.hok.fresh hSs
  have atP := putP_at as ps (upd H S (.lst (bs.map V.ref))) hl nd
  have off : ∀ b, b ∉ as → b ≠ S → putP (upd H S (.lst (bs.map V.ref))) as ps b = H b := fun b h1 h2 => by rw [putP_off as ps _ h1, upd_ne h2]
  have low : ∀ b o, s.heap.get? b = some o → b ∉ as ∧ b ≠ S := fun b o e => ⟨fun z => Nat.lt_irrefl b (Nat.lt_of_lt_of_le (Heap.lt_size e) (hab b z)), fun z => Nat.lt_irrefl b (Nat.lt_of_lt_of_le (Heap.lt_size e) (by rw [z]; exact hSs))⟩
  have kp : ∀ b u, H b = some u → (putP (upd H S (.lst (bs.map V.ref))) as ps) b = some u := fun b u e => by
    rw [off b (fun z => by rw [new b z] at e; cases e) (fun z => by rw [z, newS] at e; cases e)]
    exact e
  have eS : putP (upd H S (.lst (bs.map V.ref))) as ps S = some (.lst (bs.map V.ref)) := by rw [putP_off as ps _ hSn, upd_same]
  refine ⟨putP (upd H S (.lst (bs.map V.ref))) as ps, kp, newS, new, eS, atP, ?_⟩
  refine I.call' (ch := []) rfl ⟨fun b o q _ _ _ => hk b o q, fun b o q _ _ _ => ⟨o.slots, hk b o q⟩, fun b o q n _ => ?_, fun b o q _ => ⟨o, hk b o q⟩, fun b xs q => kp b _ q, fun b o u q => kp b _ q, fun b ps q => ⟨#[], by rw [kp b _ q]; simp⟩⟩ (fun b u q => ?_) I.bare fun b z => by simp at z
  · obtain ⟨z1, z2⟩ := low b o q
    rw [off b z1 z2]
    exact n
  · by_cases hb : b ∈ as
    · obtain ⟨j, hj⟩ := List.mem_iff_getElem?.mp hb
      have hjl : j < ps.length := by rw [← hl]; exact (List.getElem?_eq_some_iff.mp hj).1
      have e3 := atP j b _ hj (List.getElem?_eq_getElem hjl)
      rw [e3] at q
      cases q
      obtain ⟨k, v, r1, r2, f3⟩ := hpair j b _ hj (List.getElem?_eq_getElem hjl)
      exact ⟨by show 2 ≤ sizeLine; decide, [k, v], .cons r1 (.cons r2 .nil), ⟨_, f3, rfl, _, rfl⟩⟩
    · by_cases hb2 : b = S
      · rw [hb2] at q ⊢
        rw [eS] at q
        cases q
        refine ⟨by rw [List.length_map]; omega, acc.toList, c, by rw [hacc]; exact vals_refs bs, ?_⟩
        rw [Array.toArray_toList]
        exact hS
      · rw [off b hb hb2] at q
        exact (I.hok b u q).stay (fun d v _ y => hk d v y) (fun d y => kp d _ y) fun d xs y => kp d _ y
theorem pairs_get {P : Program} {w : World} {es : List DictEntry} {vs : List (Key × Value)} (h : Pairs (mixKind P w) es vs) : ∀ {j : Nat} {en : DictEntry}, es[j]? = some en → ∃ kv, vs[j]? = some kv ∧ (mixKind P w).is kv.1 en.key = true ∧ en.val = kv.2 := by
  induction h with
  | nil => intro j en h; cases h
  | cons h1 h2 _ ih =>
    intro j en h
    cases j with
    | zero => cases h; exact ⟨_, rfl, h1, h2⟩
    | succ j => exact ih h
theorem kv_get {kvs : List (Key × V)} {vs : List (Key × Value)} (h : KV kvs vs) : ∀ {j : Nat} {kv : Key × Value}, vs[j]? = some kv → ∃ p, kvs[j]? = some p ∧ p.1 = kv.1 ∧ RelV p.2 kv.2 := by
  unfold KV at h
  induction h with
  | nil => intro j en h; cases h
  | cons h1 _ ih =>
    intro j en h
    cases j with
    | zero => cases h; exact ⟨_, rfl, h1.1, h1.2⟩
    | succ j => exact ih h
theorem lookup_zip : ∀ {as : List Addr} {ps : List (Int × Int)} {j : Nat} {b : Addr} {y : Int × Int}, as.Nodup → as[j]? = some b → ps[j]? = some y → (as.zip ps).lookup b = some y
  | [], _, _, _, _, _, h, _ => by cases h
  | _ :: _, [], _, _, _, _, _, h => by cases h
  | a :: as, p :: ps, 0, b, y, _, h1, h2 => by
    cases h1
    cases h2
    simp [List.lookup]
  | a :: as, p :: ps, j + 1, b, y, hn, h1, h2 => by
    have hn' := List.nodup_cons.mp hn
    have hb : b ∈ as := List.mem_of_getElem? (i := j) h1
    have hne : (b == a) = false := by
      rw [beq_eq_false_iff_ne]
      exact fun z => hn'.1 (z ▸ hb)
    show (((a, p) :: as.zip ps).lookup b) = some y
    rw [List.lookup_cons, hne]
    exact lookup_zip hn'.2 h1 h2
theorem perm_ref {as bs : List Addr} (h : (bs.map Value.ref).Perm (as.map Value.ref)) : bs.Perm as := by
  have := h.map fun v => match v with | Value.ref b => b | _ => 0
  rw [List.map_map, List.map_map] at this
  have e : ∀ xs : List Addr, xs.map ((fun v => match v with | Value.ref b => b | _ => 0) ∘ Value.ref) = xs := fun xs => by
    induction xs with
    | nil => rfl
    | cons x xs ih => rw [List.map_cons, ih]; rfl
  rw [e, e] at this
  exact this
theorem pairs_len {P : Program} {w : World} : ∀ {es : List DictEntry} {vs : List (Key × Value)}, Pairs (mixKind P w) es vs → es.length = vs.length
  | _, _, .nil => rfl
  | _, _, .cons _ _ r => congrArg Nat.succ (pairs_len r)
section
variable {X : Cx} {σ : L2.St} {H : Hp} {Q : VK} {o : Expr} {pos apos cpos p : Pos} {k : Nat}
def Srt2 (xs : List (Int × Int)) : Prop := xs.Pairwise fun x y => ¬ lt2 y x
theorem lexB_lt2 (x y : Int × Int) : SrtO.lexB x y = decide (lt2 x y) := by
  have h := @SrtO.lexB_iff x y
  by_cases q : lt2 x y
  · rw [decide_eq_true q]; exact h.mpr q
  · rw [decide_eq_false q]
    cases e : SrtO.lexB x y with
    | false => rfl
    | true => exact absurd (h.mp e) q
theorem we_sortedItems (hc : X.calm = true) (hg : Gl X "sorted") (hm : X.mg "sorted" = none)
    (h : We X o σ H fun x H1 => ∃ d ps, x = .ref d ∧ H1 d = some (.dK (encK ps)) ∧ ∀ r H' qs, H1 r = none → Kp [] H1 H' → RL e2 H' r qs → qs.Perm ps → Srt2 qs → Q (.ref r) H')
    (hbase : attributeBase o "items" X.env (eval o X.env) = eval o X.env := by rfl) (hline : (apos.endLine == cpos.line) = true := by rfl)
    (hs : starEach [.Call (.Attribute o "items" apos) [] [] cpos] X.env = (false, eval (.Call (.Attribute o "items" apos) [] [] cpos) X.env) :: starEach [] X.env := by rfl) : We X (.Call (.Name "sorted" p) [.Call (.Attribute o "items" apos) [] [] cpos] [] pos) σ H Q := by
  have mi : MtR X "dict.items" (fun x xs H Q => ∃ (a : Addr) (kvs : List (Key × V)), x = .ref a ∧ xs = [] ∧ H a = some (.dK kvs) ∧ ∀ p, H p = none → Q (.ref p) (upd H p (L2.DX.itemsO p a))) := by
    intro pins s σ H x xs v us Q I rx rxs h
    obtain ⟨a, kvs, rfl, rfl, ha, q⟩ := h
    cases rx
    cases rxs
    obtain ⟨z, hd, vs, rel, ob, es, ep, ho, hx, hdat, _⟩ := dk_of I.hok ha
    refine DT.callItems (es := es) (ep := ep) hd ⟨ob, ho, hx, hdat⟩ ?_
    have hf : H s.heap.objs.size = none := I.hok.fresh (Nat.le_refl _)
    exact ⟨.ref s.heap.objs.size, upd H s.heap.objs.size (L2.DX.itemsO s.heap.objs.size a), I.laid (t' := s.toks) (fun b u e => Heap.get?_push_of_some _ e) (Nat.le_refl _) (L2.DX.itemsO_ok (Heap.get?_push_size _ rfl)), rfl, q _ hf⟩
  have cs : CallR X (.builtin "sorted") (fun vs H Q => ∃ (v d : Addr) (ps : List (Int × Int)), vs = [.ref v] ∧ H v = some (L2.DX.itemsO v d) ∧ H d = some (.dK (encK ps)) ∧ ∀ r H' qs, H r = none → Kp [] H H' → RL e2 H' r qs → qs.Perm ps → Srt2 qs → Q (.ref r) H') := by
    intro pins s σ H xs us Q I r h
    obtain ⟨v, d, ps, rfl, hv, hd, q⟩ := h
    obtain rfl := Vals.ref1 r
    have view : s.heap.IsItemsView v d := (show ObjOk X.prog X.w H s.heap v (L2.DX.itemsO v d) from I.hok v _ hv).1
    obtain ⟨hz, hdm, vs, rel, ob, es, ep, ho, hx, hdat, hks, hpr, hnd⟩ := dk_of I.hok hd
    have hlv : (encK ps).length = vs.length := Paired.length rel
    have hle : es.toList.length = vs.length := pairs_len hpr
    have hlp : (encK ps).length = ps.length := List.length_map _
    have hes : es.size = ps.length := by rw [← Array.length_toList]; omega
    have hh : X.A.handled = none := I.ok.hd hc
    refine DT.sortedI (es := es) (ep := ep) hh view ⟨ob, ho, hx, hdat⟩ (by rw [hes, ← hlp]; exact hz) fun h' tk as hk hlt hl hG => ?_
    have nd : as.Nodup := List.Pairwise.imp (fun {a b} (h : a < b) => Nat.ne_of_lt h) hG.rise
    have hal : as.length = ps.length := by omega
    -- what each new tuple holds
    have pr : ∀ (j : Nat) (b : Addr), as[j]? = some b → ∃ (y : Int × Int) (t u : Tok), ps[j]? = some y ∧ h'.get? b = some { cls := .type "tuple", data := .seq #[Value.int y.1 t, Value.int y.2 u] } := fun j b hj => by
      obtain ⟨en, he, hg⟩ := hG.pairs j b hj
      have he' : es.toList[j]? = some en := by rw [Array.getElem?_toList]; exact he
      obtain ⟨kv, h1, h2, h3⟩ := pairs_get hpr he'
      obtain ⟨pv, g1, g2, g3⟩ := kv_get rel h1
      unfold encK at g1
      rw [List.getElem?_map] at g1
      obtain ⟨y, hy, rfl⟩ := Option.map_eq_some_iff.mp g1
      have g2' : (Sum.inl y.1 : Key) = kv.1 := g2
      rw [← g2'] at h2
      have h2' : keyIs (Sum.inl y.1 : Key) en.key = true := h2
      rcases keyIs_shape h2' with ⟨i, t, e1, e2'⟩ | ⟨x, t, e1, e2'⟩
      · have e1' : y.1 = i := Sum.inl.inj e1
        obtain ⟨u, e3⟩ : ∃ u, kv.2 = Value.int y.2 u := g3
        refine ⟨y, t, u, hy, ?_⟩
        rw [hg, e2', h3, e3, e1']
      · cases e1
    -- the pair at an address
    have kex : ∃ kf : Value → Int × Int, ∀ (j : Nat) (b : Addr) (y : Int × Int), as[j]? = some b → ps[j]? = some y → kf (.ref b) = y := by
      refine ⟨fun v => match v with | .ref b => ((as.zip ps).lookup b).getD (0, 0) | _ => (0, 0), fun j b y hj hy => ?_⟩
      show ((as.zip ps).lookup b).getD (0, 0) = y
      rw [lookup_zip nd hj hy]
      rfl
    obtain ⟨kf, hkf⟩ := kex
    have ispair : ∀ u ∈ as.map Value.ref, Srt.IsPair h' u (kf u).1 (kf u).2 := fun u hu => by
      obtain ⟨b, hb, rfl⟩ := List.mem_map.mp hu
      obtain ⟨j, hj⟩ := List.mem_iff_getElem?.mp hb
      obtain ⟨y, t, u, hy, hg⟩ := pr j b hj
      rw [hkf j b y hj hy]
      exact ⟨b, _, t, u, _, rfl, hg, rfl, rfl⟩
    have hoL : (h'.push { cls := .type "list", data := .seq (as.map Value.ref).toArray }).get? h'.objs.size = some (seqObj "list" (as.map Value.ref).toArray 0) := Heap.get?_push_size _ rfl
    have keep2 : ∀ b o, h'.get? b = some o → b ≠ h'.objs.size ∧ (h'.push { cls := .type "list", data := .seq (as.map Value.ref).toArray }).get? b = some o := fun b o e => ⟨Nat.ne_of_lt (Heap.lt_size e), Heap.get?_push_of_some _ e⟩
    have hzl : (as.map Value.ref).length ≤ sizeLine := by rw [List.length_map, hal, ← hlp]; exact hz
    refine wpAny_call_entry slot_list_sort ⟨_, hoL, rfl⟩ entry_list_sort (SrtO.list_sort_ord (SrtO.swo_lex kf) hoL hzl (fun h2 => ?_) fun out hso hbo => ?_) (args_list_sort _)
    · refine SrtO.pairs_sortableO (by omega) (fun u hu => ?_) fun o e => ?_
      · exact Srt.IsPair.keeps (ispair u hu) fun b o e _ => (keep2 b o e).2
      · have e' : some o = some (seqObj "list" (as.map Value.ref).toArray 0) := e.symm.trans hoL
        cases e'
        intro c
        exact absurd (Value.type.inj c) (by decide)
    · -- the end
      have hout : ∃ bs : List Addr, out = bs.map Value.ref := by
        have : ∀ u ∈ out, ∃ b, u = Value.ref b := fun u hu => by
          obtain ⟨b, _, rfl⟩ := List.mem_map.mp (hbo.perm.mem_iff.mp hu)
          exact ⟨b, rfl⟩
        clear hso hbo
        induction out with
        | nil => exact ⟨[], rfl⟩
        | cons u out ih =>
          obtain ⟨b, rfl⟩ := this u List.mem_cons_self
          obtain ⟨bs, rfl⟩ := ih fun u hu => this u (List.mem_cons_of_mem _ hu)
          exact ⟨b :: bs, rfl⟩
      obtain ⟨bs, rfl⟩ := hout
      have hperm : bs.Perm as := by
        have := hbo.perm
        exact perm_ref this
      obtain ⟨e0, hS⟩ := sortedHeap_at (out := (bs.map Value.ref).toArray) hoL
      have hkk : ∀ b o, h'.get? b = some o → (sortedHeap (h'.push { cls := .type "list", data := .seq (as.map Value.ref).toArray }) h'.objs.size (as.map Value.ref) (bs.map Value.ref).toArray).get? b = some o := fun b o e => by
        have hb := Heap.lt_size e
        rw [sortedHeap_old (Nat.ne_of_lt hb) (by rw [Heap.size_push]; exact Nat.lt_succ_of_lt hb)]
        exact (keep2 b o e).2
      have hbl : bs.length = ps.length := by rw [hperm.length_eq, hal]
      obtain ⟨H', k1, k2, k3, k4, k5, J⟩ := pairs_laid2 (tk := tk) (ps := ps.map fun y => (V.int y.1, V.int y.2)) (as := as) (bs := bs) I (by rw [hbl, ← hlp]; exact hz) (S := h'.objs.size) (Nat.le_of_lt hlt) (fun b o e => hkk b o (hk b o e)) hS (by rw [List.length_map]; exact hal) nd (fun a ha => Nat.le_of_lt (hG.above a ha)) (fun z => Nat.lt_irrefl _ (hG.there z)) rfl (fun j a p hj hp => by
        obtain ⟨y, t, u, hy, hg⟩ := pr j a hj
        rw [List.getElem?_map, hy] at hp
        cases hp
        exact ⟨_, _, ⟨t, rfl⟩, ⟨u, rfl⟩, hkk a _ hg⟩)
      have hkas : as.map (fun b => kf (.ref b)) = ps := by
        apply List.ext_getElem?
        intro j
        rw [List.getElem?_map]
        cases hj : as[j]? with
        | none =>
          rw [List.getElem?_eq_none_iff] at hj
          rw [List.getElem?_eq_none (by omega)]
          rfl
        | some b =>
          obtain ⟨y, _, _, hy, _⟩ := pr j b hj
          rw [hy]
          show some (kf (.ref b)) = some y
          rw [hkf j b y hj hy]
      refine ⟨_, rfl, .ref h'.objs.size, H', J, rfl, q h'.objs.size H' (bs.map fun b => kf (.ref b)) k2 (Kp.ext k1) ⟨bs, k4, by rw [List.length_map], fun j t hj => ?_⟩ ?_ ?_⟩
      · refine ⟨kf (.ref t), by rw [List.getElem?_map, hj]; rfl, ?_⟩
        have ht : t ∈ as := hperm.mem_iff.mp (List.mem_of_getElem? hj)
        obtain ⟨i, hi⟩ := List.mem_iff_getElem?.mp ht
        obtain ⟨y, _, _, hy, _⟩ := pr i t hi
        rw [hkf i t y hi hy]
        exact k5 i t (V.int y.1, V.int y.2) hi (by rw [List.getElem?_map, hy]; rfl)
      · have := hperm.map fun b => kf (.ref b)
        rw [hkas] at this
        exact this
      · have hso' : (bs.map Value.ref).Pairwise fun x y => SrtO.lexB (kf y) (kf x) = false := hso
        rw [List.pairwise_map] at hso'
        unfold Srt2
        rw [List.pairwise_map]
        refine List.Pairwise.imp (fun {a b} hab => ?_) hso'
        rw [lexB_lt2] at hab
        exact of_decide_eq_false hab
  have he : PE X (.Call (.Attribute o "items" apos) [] [] cpos) _ := pe_bm0 PySem.F.plainAttrs_dict PySem.F.slot_dict_items PySem.F.type_dict_items mi (We.pe (X := X) (e := o)) hbase hline
  refine we_of (pe_callB cs hg hm boot_sorted (pa_cons he pa_nil hs) (he := hs)) ?_
  refine we_mono h fun x H1 ⟨d, ps, ex, hd, hq⟩ => ?_
  subst ex
  refine ⟨.inr (.inr (.inl ⟨rfl, .inl ⟨_, hd⟩⟩)), d, _, rfl, rfl, hd, fun v nv => ?_⟩
  have kv : Kp [] H1 (upd H1 v (L2.DX.itemsO v d)) := .new nv
  refine ⟨v, d, ps, rfl, upd_same, kv.g0 hd, fun r H' qs nr k hR hp hs => hq r H' qs (kv.nn nr) (kv.tr0 k) hR hp hs⟩
end
end SL

/-! lists of triples sorted -/
namespace SL
open PySem PySem.Spec PyProof.Rows L2
def IsTri (h : Heap) (v : Value) (q : Int × Int × Int) : Prop := ∃ a o t u w n, v = .ref a ∧ h.get? a = some o ∧ o.cls = .type "tuple" ∧ o.data = .seq #[.int q.1 t, .int q.2.1 u, .int q.2.2 w] n
theorem IsTri.keeps {h h' : Heap} {v : Value} {q : Int × Int × Int} (p : IsTri h v q) (k : ∀ b o, h.get? b = some o → o.cls = .type "tuple" → h'.get? b = some o) : IsTri h' v q := by
  obtain ⟨a, o, t, u, w, n, e, ho, hc, hd⟩ := p
  exact ⟨a, o, t, u, w, n, e, k _ _ ho hc, hc, hd⟩
theorem tri_firsts {h : Heap} {k : Value → Int × Int × Int} : ∀ {vs : List Value}, (∀ v ∈ vs, IsTri h v (k v)) → ∃ fs : List Value, PySem.W.KatTups h vs fs ∧ fs.length = vs.length ∧ ∀ f ∈ fs, ∃ x t, f = Value.int x t
  | [], _ => ⟨[], PySem.W.KatTups.nil, rfl, fun _ hm => by simp at hm⟩
  | v :: vs, hp => by
    obtain ⟨fs, h1, h2, h3⟩ := tri_firsts (vs := vs) fun v' hm => hp v' (List.mem_cons_of_mem _ hm)
    obtain ⟨a, o, t, u, w, n, e, ho, hc, hd⟩ := hp v (List.mem_cons_self ..)
    subst e
    refine ⟨.int (k (.ref a)).1 t :: fs, PySem.W.KatTups.cons ho hc hd rfl h1, by rw [List.length_cons, List.length_cons, h2], fun f hm => ?_⟩
    rcases List.mem_cons.mp hm with rfl | hm
    · exact ⟨_, t, rfl⟩
    · exact h3 f hm
def tb3 (p q : Int × Int × Int) : Bool := if p.1 = q.1 then (if p.2.1 = q.2.1 then decide (p.2.2 < q.2.2) else decide (p.2.1 < q.2.1)) else decide (p.1 < q.1)
theorem tb3_lt (p q : Int × Int × Int) : tb3 p q = decide (lt3 p q) := by
  unfold tb3 lt3
  by_cases h1 : p.1 = q.1
  · rw [if_pos h1]
    by_cases h2 : p.2.1 = q.2.1
    · rw [if_pos h2]; exact decide_eq_decide.mpr (by omega)
    · rw [if_neg h2]; exact decide_eq_decide.mpr (by omega)
  · rw [if_neg h1]; exact decide_eq_decide.mpr (by omega)
theorem swo_tb3 (k : Value → Int × Int × Int) : SrtO.Swo fun v u => tb3 (k v) (k u) := by
  refine ⟨fun x y h => ?_, fun x y z h1 h2 => ?_⟩
  · rw [tb3_lt] at h ⊢
    have a := of_decide_eq_true h
    unfold lt3 at a
    exact decide_eq_false (by unfold lt3; omega)
  · rw [tb3_lt] at h1 h2 ⊢
    have a := of_decide_eq_false h1
    have b := of_decide_eq_false h2
    unfold lt3 at a b
    exact decide_eq_false (by unfold lt3; omega)
section
variable {prog : Program} {w : World} {A : Around} {E : Value → Shared → Prop} {s : Shared}
theorem tri_cmp {vs : List Value} {k : Value → Int × Int × Int} (hp : ∀ v ∈ vs, IsTri s.heap v (k v)) : SrtO.Cmp prog w A s (tuples' true) (fun p => p.1 ∈ vs) (SrtO.lt2 fun v u => tb3 (k v) (k u)) := by
  intro p q hm hm'
  have h1 := hp _ hm
  have h2 := hp _ hm'
  show wpAny (model prog w) A (keyLt' (tuples' true) p.1 q.1) (fun r s' => s' = s ∧ r = tb3 (k p.1) (k q.1)) (fun _ _ => False) s
  unfold tb3
  obtain ⟨a, o, t, u, v, n, e, ho, hc, hd⟩ := h1
  obtain ⟨a', o', t', u', v', n', e', ho', hc', hd'⟩ := h2
  generalize (k p.1).1 = x at hd ⊢
  generalize (k p.1).2.1 = y at hd ⊢
  generalize (k p.1).2.2 = z at hd ⊢
  generalize (k q.1).1 = x' at hd' ⊢
  generalize (k q.1).2.1 = y' at hd' ⊢
  generalize (k q.1).2.2 = z' at hd' ⊢
  rw [e, e']
  refine PySem.W.kat_lt ho hd ho' hd' ?_
  show PySem.W.KatLex prog w A true (decide (3 < 3)) _ [(.int x t, .int x' t'), (.int y u, .int y' u'), (.int z v, .int z' v')] 0 s
  refine PySem.W.kat_cons (SeqAt.EqAt.int_int x t x' t' prog w _ _ ?_)
  refine PySem.W.kat_go (fun e1 => ?_) (fun e1 => ?_)
  · have ex : x = x' := by simpa using e1
    rw [if_pos ex]
    refine PySem.W.kat_yes (PySem.W.kat_cons (SeqAt.EqAt.int_int y u y' u' prog w _ _ ?_))
    refine PySem.W.kat_go (fun e2 => ?_) (fun e2 => ?_)
    · have ey : y = y' := by simpa using e2
      rw [if_pos ey]
      refine PySem.W.kat_yes (PySem.W.kat_cons (SeqAt.EqAt.int_int z v z' v' prog w _ _ ?_))
      refine PySem.W.kat_go (fun e3 => ?_) (fun e3 => ?_)
      · have ez : z = z' := by simpa using e3
        exact PySem.W.kat_yes (PySem.W.kat_nil ⟨rfl, (decide_eq_false (by omega)).symm⟩)
      · refine PySem.W.kat_no (PySem.W.kat_one _ _ (PyProof.Rows.lt_int ?_))
        exact ⟨rfl, rfl⟩
    · have ey : ¬ y = y' := by simpa using e2
      rw [if_neg ey]
      refine PySem.W.kat_no (PySem.W.kat_one _ _ (PyProof.Rows.lt_int ?_))
      exact ⟨rfl, rfl⟩
  · have ex : ¬ x = x' := by simpa using e1
    rw [if_neg ex]
    exact PySem.W.kat_no (oneLt_int ⟨rfl, rfl⟩)
theorem tri_sortable {a : Addr} {vs : List Value} {k : Value → Int × Int × Int} (h0 : 0 < vs.length) (hp : ∀ v ∈ vs, IsTri s.heap v (k v)) (ha : ∀ o, s.heap.get? a = some o → o.cls ≠ .type "tuple") : SrtO.SortableO prog w A s a vs fun v u => tb3 (k v) (k u) := by
  intro h' keep
  have hp' : ∀ v ∈ vs, IsTri h' v (k v) := fun v hm => (hp v hm).keeps fun b o e c => keep b o (fun z => by subst z; exact ha o e c) e
  obtain ⟨fs, h1, h2, h3⟩ := tri_firsts hp'
  refine ⟨tuples' true, fun Q E hq => ?_, tri_cmp hp'⟩
  refine PySem.W.kat_kind (T := .type "int") h1 (by omega) (fun f hm => ?_) (by rfl) ?_
  · obtain ⟨x, t, rfl⟩ := h3 f hm
    exact PySem.W.Looks.now
  · have e : (Value.type "int" != Value.type "tuple") = true := by first | decide +kernel | rfl | decide
    rw [e]
    exact hq
end
def Srt3 (xs : List (Int × Int × Int)) : Prop := xs.Pairwise fun x y => ¬ lt3 y x
def triAt (H : Hp) (v : Value) : Int × Int × Int := match v with
  | .ref t => match H t with
    | some (.tup [.int a, .int b, .int c]) => (a, b, c)
    | _ => (0, 0, 0)
  | _ => (0, 0, 0)
theorem triAt_of {H : Hp} {t : Addr} {q : Int × Int × Int} (h : H t = some (.tup (e3 q))) : triAt H (.ref t) = q := by
  show (match H t with | some (.tup [.int a, .int b, .int c]) => (a, b, c) | _ => (0, 0, 0)) = q
  rw [h]
  rfl
theorem k_sorted3 {X : Cx} {H : Hp} {Q : VK} {p : Addr} {xs : List (Int × Int × Int)} (h1 : RL e3 H p xs) (h : ∀ r H' qs, H r = none → Kp [] H H' → RL e3 H' r qs → qs.Perm xs → Srt3 qs → Q (.ref r) H') : Cal X (.builtin "sorted") [.ref p] H Q := by
  refine ⟨fun vs H Q => vs = [.ref p] ∧ RL e3 H p xs ∧ ∀ r H' qs, H r = none → Kp [] H H' → RL e3 H' r qs → qs.Perm xs → Srt3 qs → Q (.ref r) H', ?_, rfl, h1, h⟩
  intro pins s σ H vs us Q I r h
  obtain ⟨rfl, hR, q⟩ := h
  rw [Vals.ref1 r]
  obtain ⟨ts, e1, e2, e3'⟩ := hR.ex
  obtain ⟨its, rv, hl, hz⟩ := I.list (sqL e1)
  obtain ⟨g1, g2⟩ := refs_back rv fun x m => by
    obtain ⟨t, _, rfl⟩ := List.mem_map.mp m
    exact ⟨t, rfl⟩
  have hits : its = ts.map Value.ref := by
    clear hl hz
    have gg : ∀ (ts : List Addr) (its : List Value), ts.map V.ref = its.map backV → (∀ u ∈ its, ∃ a, u = Value.ref a) → its = ts.map Value.ref := by
      intro ts
      induction ts with
      | nil =>
        intro its h _
        cases its with
        | nil => rfl
        | cons u its => cases h
      | cons t ts ih =>
        intro its h h2
        cases its with
        | nil => cases h
        | cons u its =>
          obtain ⟨b, rfl⟩ := h2 u List.mem_cons_self
          rw [List.map_cons, List.map_cons, List.cons.injEq] at h
          have hb : t = b := V.ref.inj h.1
          rw [List.map_cons, hb, ih its h.2 fun u hu => h2 u (List.mem_cons_of_mem _ hu)]
    exact gg ts its g1 g2
  subst hits
  have hmem : ∀ t ∈ ts, ∃ y, y ∈ xs ∧ H t = some (.tup (e3 y)) := fun t ht => by
    obtain ⟨j, hj⟩ := List.mem_iff_getElem?.mp ht
    obtain ⟨y, f1, f2⟩ := e3' j t hj
    exact ⟨y, List.mem_of_getElem? f1, f2⟩
  have htri : ∀ v ∈ ts.map Value.ref, IsTri s.heap v (triAt H v) := fun v hv => by
    obtain ⟨t, ht, rfl⟩ := List.mem_map.mp hv
    obtain ⟨y, _, hy⟩ := hmem t ht
    rw [triAt_of hy]
    obtain ⟨_, its2, r2, o, ho, hc, n, hd⟩ := I.hok _ _ hy
    cases r2 with
    | cons ra r2 =>
      cases r2 with
      | cons rb r2 =>
        cases r2 with
        | cons rc r2 =>
          cases r2
          obtain ⟨t1, rfl⟩ := ra
          obtain ⟨t2, rfl⟩ := rb
          obtain ⟨t3, rfl⟩ := rc
          exact ⟨t, o, t1, t2, t3, n, rfl, ho, hc, hd⟩
  have hlen : (ts.map Value.ref).length ≤ sizeLine := by
    rw [List.length_map] at hz ⊢
    exact hz
  refine SrtO.sorted_ord (swo_tb3 (triAt H)) hl.isList hlen (fun h2 h₁ a ha kk => ?_) fun out hso hbo => ?_
  · refine tri_sortable (s := { s with heap := h₁ }) (by omega) (fun v hm => (htri v hm).keeps fun b o e _ => (kk b o e).2) fun o e => ?_
    have e' : some o = some (seqObj "list" (ts.map Value.ref).toArray 0) := e.symm.trans ha
    cases e'
    intro c
    exact absurd (Value.type.inj c) (by decide)
  · have h3 : ∀ u ∈ out, ∃ a, u = Value.ref a := fun u hu => g2 u (hbo.perm.mem_iff.mp hu)
    obtain ⟨n, hn⟩ := sortedAll_at s.heap (ts.map Value.ref) out.toArray
    have hkp : ∀ b o, s.heap.get? b = some o → (sortedAll s.heap (ts.map Value.ref) out.toArray).get? b = some o := fun b o e => sortedAll_old e
    have hfr : H (s.heap.objs.size + 1) = none := I.hok.fresh (Nat.le_succ _)
    have hol : out.length = xs.length := by
      rw [hbo.perm.length_eq, List.length_map, e2]
    refine ⟨.ref (s.heap.objs.size + 1), upd H (s.heap.objs.size + 1) (.lst (out.map backV)), I.laid (t' := s.toks) hkp (Nat.le_succ _) ⟨?_, out, n, vals_back h3, hn⟩, rfl, q _ _ (out.map (triAt H)) hfr (.new hfr) ?_ ?_ ?_⟩
    · rw [List.length_map, hbo.perm.length_eq]
      exact hlen
    · have hb : ∃ bs : List Addr, out = bs.map Value.ref := by
        clear hso hbo hn hkp hol
        induction out with
        | nil => exact ⟨[], rfl⟩
        | cons u out ih =>
          obtain ⟨b, rfl⟩ := h3 u List.mem_cons_self
          obtain ⟨bs, rfl⟩ := ih fun u hu => h3 u (List.mem_cons_of_mem _ hu)
          exact ⟨b :: bs, rfl⟩
      obtain ⟨bs, rfl⟩ := hb
      refine ⟨bs, ?_, by rw [List.length_map, List.length_map], fun j t hj => ?_⟩
      · rw [upd_same, List.map_map]
        congr 2
      · have ht : t ∈ ts := by
          have : Value.ref t ∈ ts.map Value.ref := hbo.perm.mem_iff.mp (List.mem_map_of_mem (List.mem_of_getElem? hj))
          obtain ⟨t', h1, h2⟩ := List.mem_map.mp this
          cases h2
          exact h1
        obtain ⟨y, _, hy⟩ := hmem t ht
        refine ⟨triAt H (.ref t), by rw [List.getElem?_map, List.getElem?_map, hj]; rfl, ?_⟩
        rw [triAt_of hy, upd_ne (ne_of_none hy hfr)]
        exact hy
    · have hp := hbo.perm.map (triAt H)
      rw [List.map_map] at hp
      have ex : ts.map (triAt H ∘ Value.ref) = xs := by
        apply List.ext_getElem?
        intro j
        rw [List.getElem?_map]
        cases hj : ts[j]? with
        | none =>
          rw [List.getElem?_eq_none_iff] at hj
          rw [List.getElem?_eq_none (by omega)]
          rfl
        | some b =>
          obtain ⟨y, hy, hH⟩ := e3' j b hj
          rw [hy]
          show some (triAt H (.ref b)) = some y
          rw [triAt_of hH]
      rw [ex] at hp
      exact hp
    · unfold Srt3
      rw [List.pairwise_map]
      have hso' : out.Pairwise fun x y => tb3 (triAt H y) (triAt H x) = false := hso
      refine List.Pairwise.imp (fun {a b} hab => ?_) hso'
      rw [tb3_lt] at hab
      exact of_decide_eq_false hab
section
variable {X : Cx} {elt tg c : Expr} {scope : Scope} {vs : List Nat} {σ : L2.St} {R : VK} {q : Addr} {H : Hp}
/-- [elt for t in ts if test], tuples to whole numbers -/
theorem lcd_tupF {α : Type} {enc : α → List V} {xs : List α} {ts : List Addr} (P : α → Prop) [DecidablePred P] (g : α → Int) (hp : H q = some (.lst (ts.map V.ref))) (hR : RL enc H q xs) (hl : xs.length ≤ 99999)
    (he : ∀ x ∈ xs, ∀ t H1, Kp [] H H1 → H1 t = some (.tup (enc x)) → Bl X scope fun Z => Wg Z tg (.ref t) (wipe σ vs) H1 fun σ2 H2 => wipe σ2 vs = wipe σ vs ∧ Bl X scope fun Z => Wt Z c σ2 H2 fun k H3 => k = decide (P x) ∧ Kp [] H1 H3 ∧ Bl X scope fun Z => We Z elt σ2 H3 fun y H4 => y = .int (g x) ∧ Kp [] H3 H4)
    (hd : ∀ Dl H', H Dl = none → Kp [] H H' → H' Dl = some (.lst (((xs.filter fun x => decide (P x)).map g).map V.int)) → R (.ref Dl) H') :
    LcD X elt tg [c] scope vs σ R (ts.map V.ref).length (fun H => SqL X.K H q (ts.map V.ref)) (YAt (ts.map V.ref)) H := by
  obtain ⟨us, f1, f2, f3⟩ := hR.ex
  have eu : us.map V.ref = ts.map V.ref := HO.lst.inj (Option.some.inj (f1.symm.trans hp))
  have elen : (ts.map V.ref).length = xs.length := by rw [← eu, List.length_map, f2]
  intro Dl H1 nD kD hD
  refine ⟨fun i H' => Kp [] H H' ∧ H' Dl = some (.lst ((((xs.take i).filter fun x => decide (P x)).map g).map V.int)), ⟨kD, hD⟩, fun i H' _ h => sqL (h.1.g0 hp), ?_, ?_⟩
  · rintro i v H2 H3 hi ⟨k2, hD2⟩ ⟨rfl, hx⟩
    obtain ⟨t, x, rfl, g1, g2⟩ := hR.get hp hx
    intro s0 H0 C cl fp
    refine wg_mono (he x (List.mem_of_getElem? g1) t _ k2 (k2.g0 g2) s0 H0 C cl fp) fun σ2 H4 ⟨e1, h2⟩ => ⟨e1, fun s0 H0 C cl fp => ?_⟩
    refine wts_one (wt_mono (h2 s0 H0 C cl fp) fun k H5 ⟨ek, k5, h3⟩ => ?_)
    subst ek
    have et : (xs.take (i + 1)).filter (fun x => decide (P x)) = (xs.take i).filter (fun x => decide (P x)) ++ [x].filter (fun x => decide (P x)) := by
      rw [List.take_succ, g1, List.filter_append]
      rfl
    by_cases hq : P x
    · rw [decide_eq_true hq]
      refine iteT fun s0 H0 C cl fp => we_mono (h3 s0 H0 C cl fp) fun y H6 ⟨ey, k6⟩ => ?_
      subst ey
      have h1 := List.length_filter_le (fun x => decide (P x)) (xs.take i)
      rw [List.length_take] at h1
      refine appI (k6.g0 (k5.g0 hD2)) (by rw [List.length_map]; omega) fun H7 k7 hD7 => ⟨((k2.tr0 k5).tr0 k6).trN k7 nD, ?_⟩
      rw [hD7, et, List.filter_cons_of_pos (by exact decide_eq_true hq), List.filter_nil, List.map_append (l₂ := [x])]
      rfl
    · rw [decide_eq_false hq]
      refine iteF ⟨k2.tr0 k5, ?_⟩
      rw [et, List.filter_cons_of_neg (by rw [decide_eq_false hq]; decide), List.filter_nil, List.append_nil]
      exact k5.g0 hD2
  · rintro H2 ⟨k2, hD2⟩
    rw [elen, List.take_length] at hD2
    exact hd Dl H2 nD k2 hD2
end
theorem b_p29 {X : Cx} {H : Hp} {Q : VK} (h : Q (.int 100000000000000000000000000000) H) : Bin X .Pow (.int 10) (.int 29) H Q := b_pow (by decide) (by rw [show (10 : Int) ^ (29 : Int).toNat = 100000000000000000000000000000 from by decide +kernel]; exact h)
section
variable {X : Cx} {elt tg : Expr} {scope : Scope} {vs : List Nat} {σ : L2.St} {R : VK} {q : Addr} {H : Hp}
/-- [elt for i, t in enumerate(ts)], tuples to whole numbers -/
theorem lcd_enumT {α : Type} {enc : α → List V} {xs : List α} {ts : List Addr} (g : Nat → Int) (hp : H q = some (.lst (ts.map V.ref))) (hR : RL enc H q xs) (hl : xs.length ≤ 99999)
    (he : ∀ (i : Nat) x, xs[i]? = some x → ∀ u t H1, Kp [] H H1 → H1 u = some (.tup [.int (i : Int), .ref t]) → H1 t = some (.tup (enc x)) → Bl X scope fun Z => Wg Z tg (.ref u) (wipe σ vs) H1 fun σ2 H2 => wipe σ2 vs = wipe σ vs ∧ Bl X scope fun Z => We Z elt σ2 H2 fun y H3 => y = .int (g i) ∧ Kp [] H1 H3)
    (hd : ∀ Dl H', H Dl = none → Kp [] H H' → H' Dl = some (.lst (((List.range xs.length).map g).map V.int)) → R (.ref Dl) H') :
    LcD X elt tg [] scope vs σ R (ts.map V.ref).length (fun H => SqL X.K H q (ts.map V.ref)) (YPair (fun i => some (.int (i : Nat))) (fun i => (ts.map V.ref)[i]?)) H := by
  obtain ⟨us, f1, f2, f3⟩ := hR.ex
  have eu : us.map V.ref = ts.map V.ref := HO.lst.inj (Option.some.inj (f1.symm.trans hp))
  have elen : (ts.map V.ref).length = xs.length := by rw [← eu, List.length_map, f2]
  intro Dl H1 nD kD hD
  refine ⟨fun i H' => Kp [] H H' ∧ H' Dl = some (.lst (((List.range i).map g).map V.int)), ⟨kD, hD⟩, fun i H' _ h => sqL (h.1.g0 hp), ?_, ?_⟩
  · rintro i v H2 H3 hi ⟨k2, hD2⟩ ⟨u, y, z, rfl, nu, rfl, ey, ez⟩
    cases ey
    obtain ⟨t, x, rfl, g1, g2⟩ := hR.get hp ez
    have kn : Kp [] H2 (upd H2 u (.tup [.int (i : Int), .ref t])) := .new nu
    intro s0 H0 C cl fp
    refine wg_mono (he i x g1 u t _ (k2.tr0 kn) upd_same (kn.g0 (k2.g0 g2)) s0 H0 C cl fp) fun σ2 H4 ⟨e1, h2⟩ => ⟨e1, fun s0 H0 C cl fp => ?_⟩
    refine wts_nil (iteT fun s0 H0 C cl fp => we_mono (h2 s0 H0 C cl fp) fun y H5 ⟨ey, k5⟩ => ?_)
    subst ey
    have hil := (List.getElem?_eq_some_iff.mp g1).1
    refine appI (k5.g0 (kn.g0 hD2)) (by rw [List.length_map, List.length_range]; omega) fun H6 k6 hD6 => ⟨((k2.tr0 kn).tr0 k5).trN k6 nD, ?_⟩
    rw [hD6, List.range_succ, List.map_append (l₂ := [i])]
    rfl
  · rintro H2 ⟨k2, hD2⟩
    rw [elen] at hD2
    exact hd Dl H2 nD k2 hD2
end
section
variable {X : Cx} {elt tg : Expr} {scope : Scope} {vs : List Nat} {σ : L2.St} {R : VK} {q : Addr} {H : Hp}
/-- [elt for i, x in enumerate(ns)], whole numbers -/
theorem lcd_enumI {ns : List Int} (g : Nat → Int) (hS : SqL X.K H q (ns.map V.int)) (hl : ns.length ≤ 99999)
    (he : ∀ (i : Nat) x, ns[i]? = some x → ∀ u H1, Kp [] H H1 → H1 u = some (.tup [.int (i : Int), .int x]) → Bl X scope fun Z => Wg Z tg (.ref u) (wipe σ vs) H1 fun σ2 H2 => wipe σ2 vs = wipe σ vs ∧ Bl X scope fun Z => We Z elt σ2 H2 fun y H3 => y = .int (g i) ∧ Kp [] H1 H3)
    (hd : ∀ Dl H', H Dl = none → Kp [] H H' → H' Dl = some (.lst (((List.range ns.length).map g).map V.int)) → R (.ref Dl) H') :
    LcD X elt tg [] scope vs σ R (ns.map V.int).length (fun H => SqL X.K H q (ns.map V.int)) (YPair (fun i => some (.int (i : Nat))) (fun i => (ns.map V.int)[i]?)) H := by
  have elen := mapI_len ns
  intro Dl H1 nD kD hD
  refine ⟨fun i H' => Kp [] H H' ∧ H' Dl = some (.lst (((List.range i).map g).map V.int)), ⟨kD, hD⟩, fun i H' _ h => Kp.sqK hS h.1, ?_, ?_⟩
  · rintro i v H2 H3 hi ⟨k2, hD2⟩ ⟨u, y, z, rfl, nu, rfl, ey, ez⟩
    cases ey
    obtain ⟨x, g1, rfl⟩ := mapI_get ez
    have kn : Kp [] H2 (upd H2 u (.tup [.int (i : Int), .int x])) := .new nu
    intro s0 H0 C cl fp
    refine wg_mono (he i x g1 u _ (k2.tr0 kn) upd_same s0 H0 C cl fp) fun σ2 H4 ⟨e1, h2⟩ => ⟨e1, fun s0 H0 C cl fp => ?_⟩
    refine wts_nil (iteT fun s0 H0 C cl fp => we_mono (h2 s0 H0 C cl fp) fun y H5 ⟨ey, k5⟩ => ?_)
    subst ey
    have hil := (List.getElem?_eq_some_iff.mp g1).1
    refine appI (k5.g0 (kn.g0 hD2)) (by rw [List.length_map, List.length_range]; omega) fun H6 k6 hD6 => ⟨((k2.tr0 kn).tr0 k5).trN k6 nD, ?_⟩
    rw [hD6, List.range_succ, List.map_append (l₂ := [i])]
    rfl
  · rintro H2 ⟨k2, hD2⟩
    rw [elen] at hD2
    exact hd Dl H2 nD k2 hD2
/-- [.. for i in range(n)], whole numbers -/
theorem lcd_rangeN {n : Nat} (g : Nat → Int) (hl : n ≤ 99999)
    (he : ∀ i, i < n → ∀ H1, Kp [] H H1 → Bl X scope fun Z => Wg Z tg (.int (i : Int)) (wipe σ vs) H1 fun σ2 H2 => wipe σ2 vs = wipe σ vs ∧ Bl X scope fun Z => We Z elt σ2 H2 fun y H3 => y = .int (g i) ∧ Kp [] H1 H3)
    (hd : ∀ Dl H', H Dl = none → Kp [] H H' → H' Dl = some (.lst (((List.range n).map g).map V.int)) → R (.ref Dl) H') :
    LcD X elt tg [] scope vs σ R n (fun _ => True) (YFn fun i => .int ((0 : Int) + (i : Int))) H := by
  intro Dl H1 nD kD hD
  refine ⟨fun i H' => Kp [] H H' ∧ H' Dl = some (.lst (((List.range i).map g).map V.int)), ⟨kD, hD⟩, fun _ _ _ _ => trivial, ?_, ?_⟩
  · rintro i x H2 H3 hi ⟨k2, hD2⟩ ⟨rfl, rfl⟩
    intro s0 H0 C cl fp
    show Wg _ _ (.int ((0 : Int) + (i : Int))) _ _ _
    rw [Int.zero_add]
    refine wg_mono (he i hi _ k2 s0 H0 C cl fp) fun σ2 H4 ⟨e1, h2⟩ => ⟨e1, fun s0 H0 C cl fp => ?_⟩
    refine wts_nil (iteT fun s0 H0 C cl fp => we_mono (h2 s0 H0 C cl fp) fun y H5 ⟨ey, k5⟩ => ?_)
    subst ey
    refine appI (k5.g0 hD2) (by rw [List.length_map, List.length_range]; omega) fun H6 k6 hD6 => ⟨(k2.tr0 k5).trN k6 nD, ?_⟩
    rw [hD6, List.range_succ, List.map_append (l₂ := [i])]
    rfl
  · rintro H2 ⟨k2, hD2⟩
    exact hd Dl H2 nD k2 hD2
end
/-- the last item, a tuple -/
theorem x_lastR {α : Type} {enc : α → List V} {X : Cx} {H : Hp} {Q : VK} {p : Addr} {xs : List α} {x : α} (h1 : RL enc H p xs) (h2 : xs.getLast? = some x) (h : ∀ t, H t = some (.tup (enc x)) → Q (.ref t) H) : Ixw X (.ref p) (.int (-1)) H Q := by
  obtain ⟨ts, e1, e2, e3⟩ := h1.ex
  rw [List.getLast?_eq_getElem?] at h2
  have hl := (List.getElem?_eq_some_iff.mp h2).1
  have hil : ts.length - 1 < ts.length := by omega
  obtain ⟨y, f1, f2⟩ := e3 _ _ (List.getElem?_eq_getElem hil)
  rw [e2, h2] at f1
  cases f1
  exact x_lst (sqL e1) (atI_m1 (by rw [List.getLast?_map, List.getLast?_eq_getElem?, List.getElem?_eq_getElem hil]; rfl)) (h _ f2)
/-- tuples, none or once -/
theorem b_rep0R {X : Cx} {H : Hp} {Q : VK} {l : Addr} {α : Type} {enc : α → List V} {xs : List α} (h1 : RL enc H l xs) (hz : xs.length ≤ 1000) (h : ∀ p H', H p = none → Kp [] H H' → RL enc H' p [] → Q (.ref p) H') : Bin X .Mult (.ref l) (.int 0) H Q := by
  obtain ⟨ts, e1, e2, e3⟩ := h1.ex
  exact b_rep e1 (by omega) (by rw [List.length_map]; show _ * 0 ≤ _; omega) fun p H' n k e => h p H' n k (RL.nil e)
theorem b_rep1R {X : Cx} {H : Hp} {Q : VK} {l : Addr} {α : Type} {enc : α → List V} {xs : List α} (h1 : RL enc H l xs) (hz : xs.length ≤ 1000) (h : ∀ p H', H p = none → Kp [] H H' → RL enc H' p xs → Q (.ref p) H') : Bin X .Mult (.ref l) (.int 1) H Q := by
  obtain ⟨ts, e1, e2, e3⟩ := h1.ex
  refine b_rep e1 (by omega) (by rw [List.length_map]; show _ * 1 ≤ _; omega) fun p H' n k e => h p H' n k ⟨ts, ?_, e2, fun j t hj => let ⟨x, f1, f2⟩ := e3 j t hj; ⟨x, f1, k.g0 f2⟩⟩
  rw [e]
  show some (HO.lst (List.replicate 1 _).flatten) = _
  simp
/-- x, y = a, b -/
theorem ws_par {X : Cx} {σ : L2.St} {H : Hp} {D : Ends} (i j : Nat) {x y : Str} {a b : Expr} {px py pt pos pt2 : Pos} {kt k2 : Nat} (hc : X.calm = true) (hN : X.N.Nodup) (hi : X.N[i]? = some x) (hj : X.N[j]? = some y) (hij : i ≠ j) (hx : X.env.scope.names.lookup x = some .local) (hy : X.env.scope.names.lookup y = some .local)
    (hw : swappedStores [.Tuple [.Name x px, .Name y py] kt pt] (.Tuple [a, b] k2 pt2) X.env = pure (some [x, y])) (h : We X a σ H fun v H1 => We X b σ H1 fun w H2 => D.nx ((σ.set i (some v)).set j (some w)) H2)
    (he : starEach [a, b] X.env = (false, eval a X.env) :: starEach [b] X.env := by rfl) (hb : starEach [b] X.env = (false, eval b X.env) :: starEach [] X.env := by rfl) (hs : swapsWithSole [.Tuple [.Name x px, .Name y py] kt pt] (.Tuple [a, b] k2 pt2) pos.line X.env = pure false := by rfl) :
    Ws X (.Assign [.Tuple [.Name x px, .Name y py] kt pt] (.Tuple [a, b] k2 pt2) pos) D σ H :=
  ws_of (ps_par hc hN hi hj hij hx hy (pa_cons We.pe (pa_cons We.pe pa_nil hb) he) hw hs) (we_mono h fun v H1 h1 => we_mono h1 fun w H2 h2 => ⟨v, w, rfl, h2⟩)
end SL

/-! pop(i), slices by steps, lists of whole numbers and None -/
namespace SL
open PySem PySem.Spec PyProof.Rows L2
section
variable {X : Cx} {σ : L2.St} {H : Hp} {Q : VK} {D : Ends} {a b c e o : Expr} {pos p p2 apos : Pos}
theorem ixs_of {n : Nat} {i : Int} (h0 : 0 ≤ i) (h1 : i < n) : seqIndex? i n = some i.toNat := by
  unfold seqIndex?
  simp only [show ¬ i < 0 from by omega, if_false]
  exact if_pos (by first | omega | (simp; omega))
theorem erase_map : ∀ (ns : List Int) (k : Nat), (ns.map V.int).eraseIdx k = (ns.eraseIdx k).map V.int
  | [], _ => rfl
  | _ :: _, 0 => rfl
  | n :: ns, k + 1 => by
    show V.int n :: (ns.map V.int).eraseIdx k = V.int n :: (ns.eraseIdx k).map V.int
    rw [erase_map ns k]
theorem we_popAt {cpos : Pos} (h : We X o σ H fun x H1 => ∃ l, x = .ref l ∧ (∃ xs, H1 l = some (.lst xs)) ∧ We X e σ H1 fun y H2 => ∃ (xs : List V) (i : Int) (v : V), y = .int i ∧ H2 l = some (.lst xs) ∧ 0 ≤ i ∧ xs[i.toNat]? = some v ∧ xs.length ≤ 100000 ∧ ∀ H', Kp [l] H2 H' → H' l = some (.lst (xs.eraseIdx i.toNat)) → Q v H')
    (hbase : attributeBase o "pop" X.env (eval o X.env) = eval o X.env := by rfl)
    (hfew : ((backTo cpos (starEach [e] X.env)).all (fun x => !x.1) && (backToKw cpos (keywordEach [] X.env)).all (fun x => x.1.isSome) && decide ([e].length + ([] : List Keyword).length + (if ([] : List Keyword).isEmpty then 0 else 1) < 30)) = true := by rfl)
    (hline : (apos.endLine == cpos.line) = true := by rfl) (hs : starEach [e] X.env = (false, eval e X.env) :: starEach [] X.env := by rfl) (hplain : (backTo cpos (starEach [] X.env)).any (·.1) = false := by rfl) :
    We X (.Call (.Attribute o "pop" apos) [e] [] cpos) σ H Q :=
  we_of (pe_bm PySem.F.plainAttrs_list PySem.F.slot_list_pop PySem.F.type_list_pop mt_popAt We.pe (pa_cons We.pe pa_nil hs) hbase hfew hline hs hplain) (by
    refine ⟨fun pins s I => thn (h.run pins s I) fun u s1 ⟨v, H1, I1, r1, l, ev, ⟨xs, hl⟩, h2⟩ => ⟨v, H1, I1, r1, ?_, ?_⟩⟩
    · rw [ev]
      exact .inl ⟨rfl, xs, sqL hl⟩
    · refine ⟨fun pins s I => thn (h2.run pins s I) fun u s1 ⟨w, H2, I2, r2, ys, i, y, ew, hy, h0, hg, hz, h3⟩ => ⟨w, H2, I2, r2, ?_⟩⟩
      have hlt := (List.getElem?_eq_some_iff.mp hg).1
      exact ⟨l, ys, i, i.toNat, y, ev, by rw [ew], hy, by omega, by omega, ixs_of h0 (by omega), hg, h3 _ (.put hy) upd_same⟩)
theorem popAtI {H : Hp} {l : Addr} {ns : List Int} {i : Int} {R : V → Hp → Prop} (h1 : H l = some (.lst (ns.map V.int))) (h0 : 0 ≤ i) (h2 : i < ns.length) (hz : ns.length ≤ 100000) (h : ∀ H', Kp [l] H H' → H' l = some (.lst ((ns.eraseIdx i.toNat).map V.int)) → R (.int (ns.getD i.toNat 0)) H') :
    ∃ (xs : List V) (j : Int) (v : V), V.int i = V.int j ∧ H l = some (.lst xs) ∧ 0 ≤ j ∧ xs[j.toNat]? = some v ∧ xs.length ≤ 100000 ∧ ∀ H', Kp [l] H H' → H' l = some (.lst (xs.eraseIdx j.toNat)) → R v H' := by
  refine ⟨_, i, .int (ns.getD i.toNat 0), rfl, h1, h0, ?_, by rw [List.length_map]; exact hz, fun H' k e => h H' k (by rw [e, erase_map])⟩
  rw [List.getElem?_map, List.getElem?_eq_getElem (by omega), List.getD_eq_getElem?_getD, List.getElem?_eq_getElem (by omega)]
  rfl
/-- xs[a::k], xs[::k], whole numbers: what is told of it is that its numbers are the list's -/
theorem we_stepI {k : Int} {j : Nat} {pk p3 : Pos} {lo : Option Expr} (hk : 0 < k) (h : We X e σ H fun x H1 => Wp X lo σ H1 fun l H2 => ∃ q, x = .ref q ∧ ∃ ns : List Int, SqL X.K H2 q (ns.map V.int) ∧ ∀ r H' (ms : List Int), H2 r = none → Kp [] H2 H' → H' r = some (.lst (ms.map V.int)) → ms = pickNums ns l none (some k) → ms.length ≤ ns.length → (∀ z ∈ ms, z ∈ ns) → Q (.ref r) H') :
    We X (.Subscript e (.Slice lo none (some (.Constant (.int k) j pk)) p3) pos) σ H Q := by
  refine ⟨fun pins s I => ?_⟩
  refine Subscript_ (thn (h.run pins s I) fun v s1 ⟨x, H1, I1, r1, q1⟩ => ?_)
  have hst : PO X (some (.Constant (.int k) j pk)) (tPart (tC (.int k))) := po_some pe_int
  refine wpAny_Slice (thn (Wp.po.run pins s1 σ H1 _ I1 q1) fun vl s2 ⟨l, H2, I2, pl, g⟩ => ?_)
  obtain ⟨q, ex, ns, hx, gq⟩ := g
  subst ex
  cases r1
  refine thn (po_none.run pins s2 σ H2 (fun o H3 => o = none ∧ H3 = H2) I2 ⟨rfl, rfl⟩) fun vu s3 ⟨u, H3, I3, pu, eu, e3⟩ => ?_
  subst eu e3
  refine thn (hst.run pins s3 σ H3 (fun o H4 => o = some k ∧ H4 = H3) I3 ⟨k, rfl, rfl, rfl⟩) fun vs s4 ⟨o, H4, I4, ps, eo, e4⟩ => ?_
  subst eo e4
  have I5 : Inv X pins σ H4 { s4 with heap := s4.heap.push { cls := .type "slice", data := .fields #[vl, vu, vs] } } := I4.kept (t' := s4.toks) fun b ob q => Heap.get?_push_of_some _ q
  obtain ⟨its, r, ht, hz⟩ := I5.list hx
  have hlen := r.length
  have hI := Vals.ints r
  show wpAny (model X.prog X.w) X.A (subscriptTail e (.Slice lo none (some (.Constant (.int k) j pk)) p3) (.ref q) (.ref s4.heap.objs.size)) (EP X pins σ Q) X.xe { s4 with heap := s4.heap.push { cls := .type "slice", data := .fields #[vl, vu, vs] } }
  refine tail_any (ops := [.ref q, .ref s4.heap.objs.size]) ht.isList.typeIs (PySem.slot_list_getitem.lookup) ?_ (by with_unfolding_all rfl)
  refine wpAny_getItem_list_slice ht.isList (Heap.IsSliceOf.new _ vl vu vs) pl pu ps (by intro z; have := Option.some.inj z; omega) ?_ (by rw [List.size_toArray]; omega)
  have hP := hI.pick l none (some k)
  have hpl := length_pickNums_le hI l none (some k)
  have hml := mapI_len ns
  have hsz : slicePick its.toArray l none (some k) = (slicePick its.toArray l none (some k)).toList.toArray := by simp
  rw [hsz]
  refine ⟨.ref _, _, I5.laid (t' := s4.toks) (o := .lst ((pickNums ns l none (some k)).map V.int)) (fun b ob q => Heap.get?_push_of_some _ q) (Nat.le_refl _) ?_, rfl, gq _ _ (pickNums ns l none (some k)) (I5.hok.fresh (Nat.le_refl _)) (.new (I5.hok.fresh (Nat.le_refl _))) upd_same rfl hpl ?_⟩
  · exact ⟨by rw [List.length_map]; omega, _, 0, vals_of_ints hP, Heap.get?_push_size _ rfl⟩
  · intro z hz'
    unfold pickNums at hz'
    obtain ⟨i, _, hi⟩ := List.mem_filterMap.mp hz'
    exact List.mem_of_getElem? hi
theorem iteNT {A B : Prop} (h : B) : if (!true) = true then A else B := h
theorem iteNF {A B : Prop} (h : A) : if (!false) = true then A else B := h
theorem bounds2 (n : Nat) : sliceBounds none none (some 2) n = ((0 : Int), (n : Int), 2) := rfl
theorem bounds21 (n : Nat) : sliceBounds (some 1) none (some 2) n = (max 0 (min 1 (n : Int)), (n : Int), 2) := rfl
theorem pick_ev (ns : List Int) : (pickNums ns none none (some 2)).length ≤ (ns.length + 1) / 2 := by
  unfold pickNums
  rw [bounds2]
  refine Nat.le_trans (List.length_filterMap_le _ _) ?_
  unfold sliceRange
  rw [List.length_map, List.length_range]
  simp only [show (2 : Int) > 0 from by omega, if_true]
  split <;> omega
theorem pick_od (ns : List Int) : (pickNums ns (some 1) none (some 2)).length ≤ ns.length / 2 := by
  unfold pickNums
  rw [bounds21]
  refine Nat.le_trans (List.length_filterMap_le _ _) ?_
  unfold sliceRange
  rw [List.length_map, List.length_range]
  simp only [show (2 : Int) > 0 from by omega, if_true]
  split <;> omega
end
end SL

/-! lists of whole numbers and None -/
namespace SL
open PySem PySem.Spec PyProof.Rows L2
def oV : Option Int → V
  | none => .non
  | some i => .int i
def oD : Option Int → PyData
  | none => .none
  | some i => .int i
section
variable {K : PySem.W.Frag} {H : Hp}
theorem dp_o : ∀ o : Option Int, Dp K H (oV o) (oD o)
  | none => .non
  | some i => .int i
theorem dpAll_o : ∀ os : List (Option Int), DpAll K H (os.map oV) (os.map oD)
  | [] => .nil
  | o :: os => .cons (dp_o o) (dpAll_o os)
theorem eqv_o (a b : Option Int) : PyData.eqv (oD a) (oD b) = decide (a = b) := by
  cases a with
  | none => cases b with
    | none => simp [oD, PyData.eqv]
    | some j => simp [oD, PyData.eqv]
  | some i => cases b with
    | none => simp [oD, PyData.eqv]
    | some j =>
      show PyData.eqv (.int i) (.int j) = _
      rw [eqv_int]
      simp
theorem eqvAll_o : ∀ xs ys : List (Option Int), PyData.eqvAll (xs.map oD) (ys.map oD) = decide (xs = ys)
  | [], [] => by simp [PyData.eqvAll]
  | [], _ :: _ => by simp [PyData.eqvAll]
  | _ :: _, [] => by simp [PyData.eqvAll]
  | n :: ns, m :: ms => by
    show (PyData.eqv (oD n) (oD m) && PyData.eqvAll (ns.map oD) (ms.map oD)) = _
    rw [eqvAll_o ns ms, eqv_o]
    by_cases h1 : n = m
    · by_cases h2 : ns = ms
      · simp [h1, h2]
      · simp [h1, h2]
    · simp [h1]
theorem shaped_o (xs : List (Option Int)) : SeqAt.shaped (.list (xs.map oD)) = true := by
  have h1 : ∀ xs : List (Option Int), PyData.canLayAll0 (xs.map oD) = true := fun xs => by
    induction xs with
    | nil => rfl
    | cons n ns ih => show (PyData.canLay0 (oD n) && PyData.canLayAll0 (ns.map oD)) = true; rw [ih]; cases n <;> rfl
  have h2 : ∀ xs : List (Option Int), PyData.depthAll (xs.map oD) = 0 := fun xs => by
    induction xs with
    | nil => rfl
    | cons n ns ih => show max (PyData.depth (oD n)) (PyData.depthAll (ns.map oD)) = 0; rw [ih]; cases n <;> rfl
  unfold SeqAt.shaped
  have e1 : PyData.canLay0 (.list (xs.map oD)) = true := by
    show PyData.canLayAll0 (xs.map oD) = true
    exact h1 xs
  have e2 : PyData.depth (.list (xs.map oD)) = 1 := by
    show PyData.depthAll (xs.map oD) + 1 = 1
    rw [h2 xs]
  rw [e1, e2]
  rfl
end
section
variable {X : Cx} {σ : L2.St} {H : Hp} {Q : VK} {p q : Addr} {xs ys : List (Option Int)} {k : Nat}
theorem c_eqO (hr : Room k X.A) (h1 : H p = some (.lst (xs.map oV))) (h2 : H q = some (.lst (ys.map oV))) (h : Q (.bl (decide (xs = ys))) H) : Cmp X .Eq (.ref p) (.ref q) H Q := c_eqD hr (.lst (sqL h1) (dpAll_o xs)) (.lst (sqL h2) (dpAll_o ys)) (shaped_o _) (shaped_o _) (by
  rw [show PyData.eqv (.list (xs.map oD)) (.list (ys.map oD)) = decide (xs = ys) from by rw [PyData.eqv]; exact eqvAll_o xs ys]
  exact h)
theorem c_neO (hr : Room k X.A) (h1 : H p = some (.lst (xs.map oV))) (h2 : H q = some (.lst (ys.map oV))) (h : Q (.bl (!decide (xs = ys))) H) : Cmp X .NotEq (.ref p) (.ref q) H Q := c_neD hr (.lst (sqL h1) (dpAll_o xs)) (.lst (sqL h2) (dpAll_o ys)) (shaped_o _) (shaped_o _) (by
  rw [show PyData.eqv (.list (xs.map oD)) (.list (ys.map oD)) = decide (xs = ys) from by rw [PyData.eqv]; exact eqvAll_o xs ys]
  exact h)
theorem o0 {o : Hp} (h : o p = some (.lst [])) : o p = some (.lst (([] : List (Option Int)).map oV)) := h
theorem rep_non (m : Nat) : (List.replicate m [V.non]).flatten = (List.replicate m (none : Option Int)).map oV := by
  induction m with
  | zero => rfl
  | succ m ih => rw [List.replicate_succ, List.flatten_cons, ih, List.replicate_succ]; rfl
theorem set_o (xs : List (Option Int)) (i : Nat) (o : Option Int) : (xs.map oV).set i (oV o) = (xs.set i o).map oV := by rw [List.map_set]
theorem x_setO {G : Hp → Prop} {i : Int} (o : Option Int) {v : V} (e : v = oV o) (h1 : H p = some (.lst (xs.map oV))) (h0 : 0 ≤ i) (h2 : i < xs.length) (h : ∀ H', Kp [p] H H' → H' p = some (.lst ((xs.set i.toNat o).map oV)) → G H') : Setw X (.ref p) (.int i) v H G :=
  x_set h1 (ixN_of h0 (by rw [List.length_map]; exact h2)) fun H' k e' => h H' k (by rw [e', e, set_o])
theorem x_ixO {i : Int} {o : Option Int} (h1 : H p = some (.lst (xs.map oV))) (h0 : 0 ≤ i) (h2 : xs[i.toNat]? = some o) (h : Q (oV o) H) : Ixw X (.ref p) (.int i) H Q := x_lst (sqL h1) (atI_of h0 (by rw [List.getElem?_map, h2]; rfl)) h
theorem lenO : (xs.map oV).length = xs.length := List.length_map _
end
theorem int_non {i : Int} : ¬ (V.int i = V.non) := fun z => nomatch z
theorem in_int : kitB "NoneType" "int" = some false := by decide +kernel
theorem k_isiN {X : Cx} {H : Hp} {Q : VK} {n : String} {b : Bool} (hk : kitB "NoneType" n = some b) (h : Q (.bl b) H) : Cal X (.builtin "isinstance") [.non, .ty n] H Q := k_isi (.base .non) (kit_ty hk) h
theorem subT {M : List Addr} {H : Hp} {p : Addr} : ∀ x ∈ M, x ∈ p :: M ∨ H x = none := fun x hx => .inl (List.mem_cons_of_mem _ hx)
theorem subT2 {M : List Addr} {H : Hp} {p q : Addr} : ∀ x ∈ M, x ∈ p :: q :: M ∨ H x = none := fun x hx => .inl (List.mem_cons_of_mem _ (List.mem_cons_of_mem _ hx))
section
variable {X : Cx} {elt tg : Expr} {scope : Scope} {vs : List Nat} {σ : L2.St} {R : VK} {q r : Addr} {H : Hp}
/-- [elt for x, y in zip(xs, ys)], whole numbers -/
theorem lcd_zipI {xs ys : List Int} (g : Int → Int → Int) (hx : SqL X.K H q (xs.map V.int)) (hy : SqL X.K H r (ys.map V.int)) (hl : xs.length = ys.length) (hz : xs.length ≤ 99999)
    (he : ∀ x y u H1, Kp [] H H1 → H1 u = some (.tup [.int x, .int y]) → Bl X scope fun Z => Wg Z tg (.ref u) (wipe σ vs) H1 fun σ2 H2 => wipe σ2 vs = wipe σ vs ∧ Bl X scope fun Z => We Z elt σ2 H2 fun w H3 => w = .int (g x y) ∧ Kp [] H1 H3)
    (hd : ∀ Dl H', H Dl = none → Kp [] H H' → H' Dl = some (.lst ((List.zipWith g xs ys).map V.int)) → R (.ref Dl) H') :
    LcD X elt tg [] scope vs σ R (min (xs.map V.int).length (ys.map V.int).length) (fun H => SqL X.K H q (xs.map V.int) ∧ SqL X.K H r (ys.map V.int)) (YPair (fun i => (xs.map V.int)[i]?) (fun i => (ys.map V.int)[i]?)) H := by
  intro Dl H1 nD kD hD
  refine ⟨fun i H' => Kp [] H H' ∧ H' Dl = some (.lst ((List.zipWith g (xs.take i) (ys.take i)).map V.int)), ⟨kD, by rw [List.take_zero, List.take_zero]; exact hD⟩, fun i H' _ h => ⟨Kp.sqK hx h.1, Kp.sqK hy h.1⟩, ?_, ?_⟩
  · rintro i v H2 H3 hi ⟨k2, hD2⟩ ⟨u, y, z, rfl, nu, rfl, ey, ez⟩
    obtain ⟨a, ha, rfl⟩ := mapI_get ey
    obtain ⟨b, hb, rfl⟩ := mapI_get ez
    have kn : Kp [] H2 (upd H2 u (.tup [.int a, .int b])) := .new nu
    intro s0 H0 C cl fp
    refine wg_mono (he a b u _ (k2.tr0 kn) upd_same s0 H0 C cl fp) fun σ2 H4 ⟨e1, h2⟩ => ⟨e1, fun s0 H0 C cl fp => ?_⟩
    refine wts_nil (iteT fun s0 H0 C cl fp => we_mono (h2 s0 H0 C cl fp) fun y H5 ⟨ey, k5⟩ => ?_)
    subst ey
    have hil := (List.getElem?_eq_some_iff.mp ha).1
    refine appI (k5.g0 (kn.g0 hD2)) (by rw [List.length_zipWith, List.length_take, List.length_take]; omega) fun H6 k6 hD6 => ⟨((k2.tr0 kn).tr0 k5).trN k6 nD, ?_⟩
    rw [hD6, List.take_succ, List.take_succ, ha, hb, List.zipWith_append (by rw [List.length_take, List.length_take]; omega)]
    rfl
  · rintro H2 ⟨k2, hD2⟩
    rw [List.length_map, List.length_map, ← hl, Nat.min_self, List.take_length, hl, List.take_length] at hD2
    exact hd Dl H2 nD k2 hD2
end
/-! ### segments: (begin, end, above) -/
def eS : Nat × Nat × Option Int → List V := fun q => [.int (q.1 : Int), .int (q.2.1 : Int), oV q.2.2]
def dS : Nat × Nat × Option Int → PyData := fun q => .tuple [.int (q.1 : Int), .int (q.2.1 : Int), oD q.2.2]
theorem dpAll_S {K : PySem.W.Frag} {H : Hp} : ∀ {ts : List Addr} {xs : List (Nat × Nat × Option Int)}, ts.length = xs.length → (∀ (j : Nat) t, ts[j]? = some t → ∃ q, xs[j]? = some q ∧ H t = some (.tup (eS q))) → DpAll K H (ts.map V.ref) (xs.map dS)
  | [], [], _, _ => .nil
  | [], _ :: _, h, _ => by cases h
  | _ :: _, [], h, _ => by cases h
  | t :: ts, x :: xs, h, g => by
    obtain ⟨q, e1, e2⟩ := g 0 t rfl
    cases e1
    refine .cons (.tup (sqT e2) (.cons (.int _) (.cons (.int _) (.cons (dp_o _) .nil)))) (dpAll_S (Nat.succ.inj h) fun j t hj => g (j + 1) t hj)
theorem shaped_S (xs : List (Nat × Nat × Option Int)) : SeqAt.shaped (.list (xs.map dS)) = true := by
  have h1 : ∀ xs : List (Nat × Nat × Option Int), PyData.canLayAll0 (xs.map dS) = true := fun xs => by
    induction xs with
    | nil => rfl
    | cons n ns ih => show (PyData.canLay0 (dS n) && PyData.canLayAll0 (ns.map dS)) = true; rw [ih]; rcases n with ⟨a, b, c⟩; cases c <;> rfl
  have h2 : ∀ xs : List (Nat × Nat × Option Int), PyData.depthAll (xs.map dS) ≤ 1 := fun xs => by
    induction xs with
    | nil => exact Nat.zero_le _
    | cons n ns ih =>
      have e : PyData.depth (dS n) = 1 := by rcases n with ⟨a, b, c⟩; cases c <;> rfl
      show max (PyData.depth (dS n)) (PyData.depthAll (ns.map dS)) ≤ 1
      rw [e]
      omega
  unfold SeqAt.shaped
  have e1 : PyData.canLay0 (.list (xs.map dS)) = true := by
    show PyData.canLayAll0 (xs.map dS) = true
    exact h1 xs
  have e2 : PyData.depth (.list (xs.map dS)) ≤ 2 := by
    show PyData.depthAll (xs.map dS) + 1 ≤ 2
    have := h2 xs
    omega
  rw [e1]
  simp only [Bool.true_and]
  exact decide_eq_true (by omega)
theorem c_neS0 {X : Cx} {H : Hp} {Q : VK} {p q : Addr} {k : Nat} {xs : List (Nat × Nat × Option Int)} (hr : Room k X.A) (h1 : RL eS H p xs) (h2 : H q = some (.lst [])) (h : Q (.bl (!decide (xs = []))) H) : Cmp X .NotEq (.ref p) (.ref q) H Q := by
  obtain ⟨ts, e1, e2, e3⟩ := h1.ex
  refine c_neD hr (.lst (sqL e1) (dpAll_S e2 e3)) (.lst (sqL h2) .nil) (shaped_S _) (shaped_o []) ?_
  rw [show PyData.eqv (.list (xs.map dS)) (.list []) = decide (xs = []) from by
    rw [PyData.eqv]
    cases xs <;> simp [PyData.eqvAll]]
  exact h
/-- pop of the last, a list of tuples -/
theorem popR {α : Type} {enc : α → List V} {H : Hp} {p : Addr} {xs : List α} {x : α} {R : V → Hp → Prop} (h1 : RL enc H p (xs ++ [x])) (h : ∀ t H', Kp [p] H H' → H' t = some (.tup (enc x)) → RL enc H' p xs → R (.ref t) H') :
    ∃ l ys y, V.ref p = V.ref l ∧ H l = some (.lst ys) ∧ ys.getLast? = some y ∧ ∀ H', Kp [l] H H' → H' l = some (.lst ys.dropLast) → R y H' := by
  obtain ⟨ts, e1, e2, e3⟩ := h1.ex
  have hne : ts ≠ [] := fun z => by
    rw [z, List.length_append] at e2
    simp at e2
  obtain ⟨us, t, rfl⟩ : ∃ us t, ts = us ++ [t] := ⟨ts.dropLast, ts.getLast hne, (List.dropLast_concat_getLast hne).symm⟩
  have hl : us.length = xs.length := by
    rw [List.length_append, List.length_append] at e2
    simpa using e2
  have ht : H t = some (.tup (enc x)) := by
    obtain ⟨q, g1, g2⟩ := e3 us.length t (by rw [List.getElem?_concat_length])
    rw [hl, List.getElem?_concat_length] at g1
    cases g1
    exact g2
  refine ⟨p, _, .ref t, rfl, e1, by rw [List.map_append]; exact List.getLast?_concat, fun H' k e => h t H' k (k.gT ht) ?_⟩
  rw [List.map_append] at e
  have e' : H' p = some (.lst (us.map V.ref)) := by rw [e]; exact congrArg (fun z => some (HO.lst z)) List.dropLast_concat
  refine ⟨us, e', hl, fun j t' hj => ?_⟩
  have hjl := (List.getElem?_eq_some_iff.mp hj).1
  obtain ⟨q, g1, g2⟩ := e3 j t' (by rw [List.getElem?_append_left hjl]; exact hj)
  rw [List.getElem?_append_left (by omega)] at g1
  exact ⟨q, g1, k.gT g2⟩
end SL

/-! sorted(d), reverse, count -/
namespace SL
open PySem PySem.Spec PyProof.Rows L2
section
variable {X : Cx} {H : Hp} {Q : VK} {a : Addr} {ps : List (Int × Int)}
theorem keys_enc (ps : List (Int × Int)) : (encK ps).map (·.1) = (ps.map (·.1)).map Sum.inl := by
  unfold encK
  rw [List.map_map, List.map_map]
  rfl
theorem k_sortedD (hc : X.calm = true) (h1 : H a = some (.dK (encK ps))) (hn : ps.length ≤ 100000) (h : ∀ (ms : List Int) p H', ms.Perm (ps.map (·.1)) → ms.Pairwise (· ≤ ·) → H p = none → Kp [] H H' → H' p = some (.lst (ms.map V.int)) → Q (.ref p) H') : Cal X (.builtin "sorted") [.ref a] H Q := by
  refine ⟨fun xs H Q => xs = [.ref a] ∧ H a = some (.dK (encK ps)) ∧ ∀ (ms : List Int) p H', ms.Perm (ps.map (·.1)) → ms.Pairwise (· ≤ ·) → H p = none → Kp [] H H' → H' p = some (.lst (ms.map V.int)) → Q (.ref p) H', ?_, rfl, h1, h⟩
  clear h h1
  intro pins s σ H xs us Q I r q
  obtain ⟨rfl, hd, q⟩ := q
  obtain ⟨u, rfl, rx⟩ := vals1 r
  cases rx
  obtain ⟨z, lo, vs, rel, dd⟩ := dk_rd I.hok (.inl hd)
  obtain ⟨ep, hat⟩ := dd.dictAt
  have hkk : vs.map (·.1) = (ps.map (·.1)).map Sum.inl := (KV.keys rel).symm.trans (keys_enc ps)
  have hl : vs.length = ps.length := by
    have e := congrArg List.length hkk
    simpa using e
  have hbig : vs.length ≤ sizeLine := by rw [hl]; exact Nat.le_trans hn (by decide)
  refine Calls.call_function_entry PyProof.Rows.kind_sorted PyProof.Rows.plain_sorted PyProof.Rows.entry_sorted (args_sorted1 _) ?_
  unfold Builtin.«sorted»
  refine wpAny_bind (m := checkCount "sorted" 1 1 _) (wpAny_pure ?_)
  refine wpAny_bind (PySem.W.kdu_collect (A := X.A.in1) (PySem.W.kdl_dict (knd := mixKind X.prog X.w) (kvs := vs) (ep := ep) lo) (I.ok.hd hc) hat hbig fun h' tk acc hk hacc => ?_)
  have hal : acc.toList.length = (ps.map (·.1)).length := by rw [Array.length_toList, hacc.1, hl, List.length_map]
  have hS : IntsAre acc.toList (ps.map (·.1)) := ints_each hal fun j v e => by
    obtain ⟨k, x, e1, e2⟩ := hacc.2 j v (by rw [← Array.getElem?_toList]; exact e)
    have e3 : (vs.map (·.1))[j]? = some k := by rw [List.getElem?_map, e1]; rfl
    rw [hkk, List.getElem?_map] at e3
    obtain ⟨y, e4, e5⟩ := Option.map_eq_some_iff.mp e3
    subst e5
    rcases keyIs_shape (show keyIs (Sum.inl y) v = true from e2) with ⟨i, t, ek, ev⟩ | ⟨z, t, ek, ev⟩
    · cases ek
      exact ⟨y, t, e4, ev⟩
    · cases ek
  have J : Inv X pins σ H { s with heap := h', toks := tk } := I.kept hk
  have hz : acc.toList.length ≤ sizeLine := by rw [hal, List.length_map]; exact Nat.le_trans hn (by decide)
  refine wpAny_bind (wpAny_newList ?_ hz)
  have hoL : (h'.push (seqObj "list" acc.toList.toArray 0)).get? h'.objs.size = some (seqObj "list" acc.toList.toArray 0) := Heap.get?_push_size h' rfl
  refine wpAny_bind (wpAny_holding (wpAny_call_entry PyProof.Rows.slot_list_sort ⟨_, hoL, rfl⟩ PyProof.Rows.entry_list_sort
    (SrtO.list_sort_ord (s := { s with heap := h'.push (seqObj "list" acc.toList.toArray 0), toks := tk }) SrtO.swo_int hoL hz (fun h2 => SrtO.ints_sortable hS h2) fun out g1 g2 => ⟨_, rfl, ?_⟩) (args_list_sort _)))
  obtain ⟨k1, k2, k3⟩ := SrtO.ints_out hS g1 g2
  obtain ⟨ep', he'⟩ := PyProof.Rows.sortedHeap_at (vs := acc.toList) (out := out.toArray) hoL
  have hlen : ((out.map SrtO.iv).map V.int).length ≤ sizeLine := by
    rw [List.length_map, k2.length_eq, List.length_map]
    exact Nat.le_trans hn (by decide)
  have nn := J.hok.fresh (Nat.le_refl _)
  refine wpAny_pure ⟨_, rfl, .ref h'.objs.size, upd H h'.objs.size (.lst ((out.map SrtO.iv).map V.int)), J.laid (t' := tk) (fun b u e => ?_) (Nat.le_refl _)
    (show ObjOk X.prog X.w _ _ _ (.lst ((out.map SrtO.iv).map V.int)) from ⟨hlen, out, ep', vals_of_ints k1, he'⟩), rfl, q _ _ _ k2 k3 nn (.new nn) upd_same⟩
  have hb : b < h'.objs.size := Heap.lt_size e
  rw [sortedHeap_old (Nat.ne_of_lt hb) (by rw [size_push']; exact Nat.lt_succ_of_lt hb)]
  exact Heap.get?_push_of_some _ e
end
section
variable {X : Cx} {σ : L2.St} {H : Hp} {Q : VK} {o : Expr} {apos cpos : Pos}
/-- xs.reverse() -/
theorem we_reverse (h : We X o σ H fun x H1 => ∃ l xs, x = .ref l ∧ H1 l = some (.lst xs) ∧ ∀ H', Kp [l] H1 H' → H' l = some (.lst xs.reverse) → Q .non H')
    (hbase : attributeBase o "reverse" X.env (eval o X.env) = eval o X.env := by rfl) (hline : (apos.endLine == cpos.line) = true := by rfl) : We X (.Call (.Attribute o "reverse" apos) [] [] cpos) σ H Q :=
  we_of (pe_bm0 PySem.F.plainAttrs_list PySem.F.slot_list_reverse PySem.F.type_list_reverse mt_reverse We.pe hbase hline) (by
    refine ⟨fun pins s I => thn (h.run pins s I) fun u s1 ⟨v, H1, I1, r1, l, xs, ev, hl, h2⟩ => ⟨v, H1, I1, r1, ?_, ?_⟩⟩
    · rw [ev]
      exact .inl ⟨rfl, xs, sqL hl⟩
    · exact ⟨l, xs, ev, rfl, hl, h2 _ (.put hl) upd_same⟩)
end
end SL

/-! what is raised: defs that raise, try, what was caught -/
namespace SL
open PySem PySem.Spec PyProof.Rows L2

/-! ### defs that may raise -/
section
variable {P : Program} {w : World} {K : PySem.W.Frag} {mg : Str → Option Value} {base : Heap}
structure DfX (P : Program) (w : World) (K : PySem.W.Frag) (mg : Str → Option Value) (base : Heap) (k : Nat) (x : Str) (sp : Sp) : Prop where
  ex : ∃ f fd ps, FnG P w K mg base (L2.CX P w) k f fd ps sp ∧ mg x = some (.ref f) ∧ PySem.W.keepIn K (.ref f) = true ∧ Binds K fd ps []
theorem dfx_mk {x : Str} {k : Nat} {f : Addr} {fd : FuncData} {ps : List Str} {sp : Sp} (F : FnG P w K mg base (L2.CX P w) k f fd ps sp) (g : mg x = some (.ref f)) (kp : PySem.W.keepIn K (.ref f) = true) (b : Binds K fd ps []) : DfX P w K mg base k x sp := ⟨f, fd, ps, F, g, kp, b⟩
/-- THE RULE for a def that may raise -/
theorem okX {x qual : Str} {st : Stmt} {f : Addr} {fd : FuncData} {N ps : List Str} {k : Nat} {sp : Sp} (F : Fun K x qual st f fd) (S : FnScope N ps (defScope st)) (len : ∀ vs H Q E, sp vs H Q E → vs.length = ps.length)
    (hb : ∀ (cdv : Value) (A : Around) (outer : List Env) (s : Shared) (H : Hp) (vs : List V) (Q : VK) (E : XK), Room k (A.deeper (envOfC qual (defScope st) s.heap.objs.size f cdv)) → (A.deeper (envOfC qual (defScope st) s.heap.objs.size f cdv)).guards = some [] → sp vs H Q E →
      Wss (cxOf (L2.CX P w) P w K mg base N qual (defScope st) f cdv A outer s H E) (defBody st) { nx := fun _ H' => Q .non H', rt := Q } (start N vs) H) : FnG P w K mg base (L2.CX P w) (k + 1) f fd ps sp := by
  obtain ⟨oc, od, kV, doc, pm, an, cdv, ct, osl, rfl, lk, hcd⟩ := F.ex
  refine ⟨len, fun A outer s H args us vs Q E hr hgd e0 hbind r hsp => ?_⟩
  have KX : K.In s.heap := e0.mod.kin.keeps fun b o e => (e0.bs b o e).1
  have lim : s.heap.NoLimit := e0.mod.nolimit.keeps fun b o e => (e0.bs b o e).1
  refine codeAny_call_function hr.depth (KX _ _ lk) rfl S.co S.gen rfl (PySem.W.codeRec_of KX hcd) (hbind _ _ _ _ (wpAny_newFunctionEnv_cells S.kind (fun y hy => ?_) fun env he s1 x => ?_))
  · rcases S.par y.1 (List.of_mem_zip hy).1 with q | q
    · exact .inl q
    · exact .inr ⟨q, PySem.W.cellsFrom_some _ _ _ (.inl q)⟩
  · subst he
    refine ⟨lim.keeps x.toInCall.keep, codeAny_func (wpAny_mono (Wss.pss.run [] s1 (start N vs) H _ (inv_start S hr.hd e0 (len _ _ _ _ hsp) r x) (hb cdv A outer s H vs Q E (hr.deeper _) hgd hsp)) (fun fl s' hs => ?_) fun e s' hs => hs)⟩
    cases fl with
    | ret u => exact let ⟨v, _, H', J, rv, q⟩ := hs; ⟨v, H', J.os, J.bare, J.base, J.hok, rv, q⟩
    | next => exact let ⟨_, H', J, q⟩ := hs; ⟨.non, H', J.os, J.bare, J.base, J.hok, rfl, q⟩
    | brk => exact let ⟨_, _, _, q⟩ := hs; q.elim
    | cont => exact let ⟨_, _, _, q⟩ := hs; q.elim
end
section
variable {X : Cx} {σ : L2.St} {H : Hp} {Q : VK} {W : WX} {e : Expr} {es : List Expr} {p pos : Pos} {x : Str} {k j : Nat} {sp : Sp}
theorem run_fnX {pins : List (Addr × Obj)} {s : Shared} {us : List Value} {vs : List V} {f : Addr} {fd : FuncData} {ps : List Str} (F : FnG X.prog X.w X.K X.mg X.base (L2.CX X.prog X.w) k f fd ps sp) (hr : Room k X.A) (hgd : X.A.guards = some []) (b : Binds X.K fd ps []) (tk : Takes X W)
    (I : Inv X pins σ H s) (r : Vals vs us) (h : sp vs H Q fun cls d H' => W cls d σ H') : wpAny (model X.prog X.w) X.A (call (.ref f) us) (EP X pins σ Q) X.xe s := by
  have hl : us.length = ps.length := r.length.symm.trans (F.len _ _ _ _ h)
  have hb := b s us I.kIn (by rw [List.append_nil]; exact hl)
  rw [List.append_nil] at hb
  refine wpAny_call (codeAny_mono (F.run X.A X.stack s H ⟨us, []⟩ us vs Q _ hr hgd I.env0 hb r h) fun r s' hq => ?_)
  cases r with
  | error e => exact tk e s' (XE.of_call I (fun _ _ _ z => z) hq)
  | ok fl => cases fl with
    | ret u => exact I.after hq
    | next => exact hq.elim
    | brk => exact hq.elim
    | cont => exact hq.elim
/-- f(e, ..), f may raise -/
theorem we_callX (D : DfX X.prog X.w X.K X.mg X.base k x sp) (hr : Room j X.A) (hk : k ≤ j) (hgd : X.A.guards = some []) (hg : Gl X x) (tk : Takes X W) (h : Wa X (e :: es) σ H fun vs H1 => sp vs H1 Q fun cls d H' => W cls d σ H') (hdb : (x == ("__debug__" : Str)) = false := by decide)
    (he : starEach (e :: es) X.env = (false, eval e X.env) :: starEach es X.env := by rfl) (hpl : (backTo pos (starEach es X.env)).any (·.1) = false := by rfl) : We X (.Call (.Name x p) (e :: es) [] pos) σ H Q := by
  obtain ⟨f, fd, ps, F, g, kp, b⟩ := D.ex
  refine ⟨fun pins s I => ?_⟩
  exact wpAny_Call_Name_kw (ld_glob I hg g (PySem.W.callWith_K (h₀ := X.base) I.ok.mod.kin kp (thn (h.run pos pins s I) fun us s1 ⟨vs, H1, I1, r, q⟩ => ⟨I1.kIn, run_fnX F (hr.mono hk) hgd b tk I1 r q⟩) he hpl) hdb)
theorem takes0 {X : Cx} : Takes X (fun _ _ _ _ => False) := fun _ _ ⟨_, _, _, _, _, _, _, _, _, _, _, _, _, _, _, _, z⟩ => z.elim
end

/-! ### own exception classes -/
abbrev veM : List Value := [.type "ValueError", .type "Exception", .type "BaseException", .type "object"]
structure ExK (K : PySem.W.Frag) (mg : Str → Option Value) (x : Str) (C : Addr) : Prop where
  g : mg x = some (.ref C)
  q : PySem.W.excIn K C veM "ValueError.__new__" = true
  kp : PySem.W.keepIn K (.ref C) = true
  b : PySem.W.subIn K (.ref C) (.type "BaseException") = some true
  t : PySem.W.typeIn K (.ref C) = some (.type "type")
  cl : (PySem.W.clsIn K C).isSome = true
  ga : PySem.W.findIn K (.ref C) "__getattribute__" = some (some (.builtin "BaseException.__getattribute__"))
  gt : PySem.W.findIn K (.ref C) "__getattr__" = some none
  ha : PySem.W.findIn K (.ref C) "__class__" = some (some (.builtin "object.__class__"))
  hn : PySem.W.specialIn K (.builtin "object.__class__") "__get__" = some (some (.builtin "getset_descriptor.__get__"))
  tk : PySem.W.takesIn K (.builtin "object.__class__") = some true
  hm : PySem.W.mroIn K C (.type "object") = some true
section
variable {X : Cx} {σ : L2.St} {H : Hp} {Q : VK} {W : WX} {D : Ends} {C a : Addr} {x m : Str} {j : Nat} {p p2 pos pos' : Pos}
/-- raise C("..") -/
theorem ws_raise (hc : X.calm = true) (tk : Takes X W) (T : ExK X.K X.mg x C) (hg : Gl X x) (h : W (.ref C) none σ H) (hdb : (x == ("__debug__" : Str)) = false := by decide) : Ws X (.Raise (some (.Call (.Name x p) [.Constant (.str m) j p2] [] pos)) none pos') D σ H :=
  ws_of (ps_raise hc tk (pmk_own PySem.F.excBase_ValueError T.q T.g T.kp (raises_own T.b T.t) hg hdb)) h
/-- the class itself, by its name -/
theorem we_exc (T : ExK X.K X.mg x C) (hg : Gl X x) (h : Q (.ref C) H) (hd : (x == ("__debug__" : Str)) = false := by decide) : We X (.Name x pos) σ H Q := we_glob (v := .ref C) hg T.g rfl h hd
/-- an exception that was caught, at a -/
def XO (C a : Addr) : HO := .ext fun h => ∃ (oe : Obj) (vs : Array Value), h.get? a = some oe ∧ oe.cls = .ref C ∧ oe.dict = none ∧ oe.data = .fields vs
theorem xo_ok {P : Program} {w : World} {H : Hp} {h : Heap} {oe : Obj} {vs : Array Value} (e : h.get? a = some oe) (z : Zc (.ref C) none oe) (d : oe.data = .fields vs) : ObjOk P w H h a (XO C a) :=
  ⟨⟨oe, vs, e, z.1, z.2, d⟩, ⟨oe, e⟩, fun _ _ ⟨o, v, q, r⟩ k => ⟨o, v, k o q, r⟩⟩
theorem xo_inst {pins : List (Addr × Obj)} {s : Shared} (I : Inv X pins σ H s) (h1 : H a = some (XO C a)) : ∃ ox, PySem.W.InstAt s.heap a ox C none := by
  obtain ⟨⟨oe, vs, e, z1, z2, d⟩, _, _⟩ := (show ObjOk X.prog X.w H s.heap a (XO C a) from I.hok a _ h1)
  refine ⟨oe, e, z1, ?_, ?_⟩
  · unfold PySem.W.notCls
    rw [d]
  · rw [z2]
    trivial
/-- isinstance(e, c) of such -/
theorem k_isiE {c : V} {u : Value} {b : Bool} (h1 : H a = some (XO C a)) (T : ExK X.K X.mg x C) (hcv : ClsV c u) (hk : PySem.W.kitOne X.K (.ref C) u = some b) (h : Q (.bl b) H) : Cal X (.builtin "isinstance") [.ref a, c] H Q := by
  refine ⟨fun xs H Q => xs = [.ref a, c] ∧ H a = some (XO C a) ∧ Q (.bl b) H, ?_, rfl, h1, h⟩
  intro pins s σ H xs us Q I r h
  obtain ⟨rfl, h1, q⟩ := h
  obtain ⟨u1, u2, rfl, r1, r2⟩ := vals2 r
  have e2 := hcv.eq r2
  subst e2
  cases r1
  obtain ⟨ox, J⟩ := xo_inst I h1
  exact PySem.W.kia_one (PySem.W.kitx_exc T.cl T.ga T.gt T.b T.ha T.hn T.tk T.hm) I.kIn J hk (fun z => nomatch z) fun tk => ⟨.bl b, H, I.tok tk, rfl, q⟩
/-- isinstance(e, (c1, c2, ..)) -/
theorem k_isiET {tp : Addr} {cs : List V} {us : List Value} {b : Bool} (h1 : H a = some (XO C a)) (T : ExK X.K X.mg x C) (h2 : H tp = some (.tup cs)) (hcv : Paired ClsV cs us) (hk : PySem.W.kitAny X.K (.ref C) us = some b) (h : Q (.bl b) H) : Cal X (.builtin "isinstance") [.ref a, .ref tp] H Q := by
  refine ⟨fun xs H Q => xs = [.ref a, .ref tp] ∧ H a = some (XO C a) ∧ H tp = some (.tup cs) ∧ Q (.bl b) H, ?_, rfl, h1, h2, h⟩
  intro pins s σ H xs ws Q I r h
  obtain ⟨rfl, h1, h2, q⟩ := h
  obtain ⟨u1, u2, rfl, r1, r2⟩ := vals2 r
  cases r1
  cases r2
  obtain ⟨ox, J⟩ := xo_inst I h1
  obtain ⟨_, its, rv, o, g1, g2, n, g3⟩ := (show ObjOk X.prog X.w H s.heap tp (.tup cs) from I.hok tp _ h2)
  have e3 := ClsV.all hcv rv
  subst e3
  obtain ⟨oc, od, dt, sl⟩ := o
  simp only at g2 g3
  subst g2 g3
  exact PySem.W.kia_tup (PySem.W.kitx_exc T.cl T.ga T.gt T.b T.ha T.hn T.tk T.hm) I.kIn J g1 hk (fun z => nomatch z) fun tk => ⟨.bl b, H, I.tok tk, rfl, q⟩
end

/-! ### try: .. except x as n: .. -/
section
variable {X : Cx} {pins : List (Addr × Obj)} {σ : L2.St} {H : Hp} {s : Shared}
/-- an object of ours that was laid behind our back is tracked from here on -/
theorem inv_track {a : Addr} {o : HO} (I : Inv X pins σ H s) (na : H a = none) (n0 : X.s_0.heap.get? a = none) (nL : a ≠ X.env.locals) (nC : ∀ x c, X.env.cells.lookup x = some c → c ≠ a) (nP : ∀ p ∈ X.pn ++ pins, p.1 ≠ a) (new : ObjOk X.prog X.w (upd H a o) s.heap a o) : Inv X pins σ (upd H a o) s where
  ok := I.ok
  os := I.os
  bare := I.bare
  base := ⟨I.base.keep, I.base.slot, fun b u e n hb => by rw [upd_ne (fun z => by rw [z, n0] at e; cases e)]; exact I.base.free b u e n hb, I.base.there,
    fun b xs e => by rw [upd_ne (ne_of_none (I.base.tups b xs e) na)]; exact I.base.tups b xs e, fun b ob u e => by rw [upd_ne (ne_of_none (I.base.frzs b ob u e) na)]; exact I.base.frzs b ob u e,
    fun b ps e => by
      obtain ⟨more, z⟩ := I.base.tbls b ps e
      exact ⟨more, by rw [upd_ne (ne_of_none z na)]; exact z⟩⟩
  loc := I.loc
  cell := I.cell
  free := by rw [upd_ne (Ne.symm nL)]; exact I.free
  freeC := fun x c e => by rw [upd_ne (nC x c e)]; exact I.freeC x c e
  pin := fun p hp => by
    obtain ⟨e1, e2, e3⟩ := I.pin p hp
    exact ⟨e1, by rw [upd_ne (nP p hp)]; exact e2, e3⟩
  hok := HOk.laidN I.hok (fun _ _ z => z) na new
  len := I.len
/-- the context of a suite in which what was caught is tracked -/
abbrev suT (X : Cx) (a : Addr) : Cx := { X with A := X.A.mark (some (.ref a)), calm := false, xe := fun _ _ => False }
theorem suT_ok {X : Cx} (ok : X.Ok) (a : Addr) : (suT X a).Ok :=
  ⟨ok.mod, ok.kind, ok.glob, ok.blt, ok.above, ok.inj, ok.has, ok.cab, fun z => Bool.noConfusion z, ok.frames, ok.stk, ok.exf, ok.bs, ok.bsz, ok.noex, ok.exfs, ok.funs, ok.frf⟩
theorem inv_toSu (I : Inv X pins σ H s) (a : Addr) : Inv (suT X a) pins σ H s := ⟨suT_ok I.ok a, I.os, I.bare, I.base, I.loc, I.cell, I.free, I.freeC, I.pin, I.hok, I.len⟩
theorem inv_ofSu {a : Addr} (I : Inv (suT X a) pins σ H s) (ok : X.Ok) : Inv X pins σ H s := ⟨ok, I.os, I.bare, I.base, I.loc, I.cell, I.free, I.freeC, I.pin, I.hok, I.len⟩
end
/-- what is wished of what the body raises -/
def TryW (X : Cx) (c : Value) (i : Nat) (suite : List Stmt) (D : Ends) : WX := fun cls d σ H => ∃ C, cls = .ref C ∧ d = none ∧ PySem.W.exmOne X.K cls c = some true ∧
  ∀ a H', H a = none → Kp [] H H' → H' a = some (XO C a) → Wss (suT X a) suite { nx := fun σ' H' => D.nx (σ'.set i none) H', rt := D.rt, bk := fun σ' H' => D.bk (σ'.set i none) H', ct := fun σ' H' => D.ct (σ'.set i none) H' } (σ.set i (some (.ref a))) H'
section
variable {X : Cx} {σ : L2.St} {H : Hp} {D : Ends} {x n : Str} {c : Value} {i : Nat} {body suite : List Stmt} {b₀ : Stmt} {np pos pos' : Pos}
theorem ws_tryAs (hs : X.stack = X.env :: X.outer) (hf : X.env.frame = some X.env.locals) (hex : X.ex = []) (hN : X.N.Nodup) (hi : X.N[i]? = some n) (hln : X.env.kindOf n = some .local) (hc : Names X x c)
    (h : ∀ (pn : List (Addr × Obj)) (xe : Value → Shared → Prop), Takes (X.tr pn xe) (TryW X c i (b₀ :: suite) D) → PassesOwn (model X.prog X.w) X.A X.env xe → Wss (X.tr pn xe) body D σ H) :
    Ws X (.Try body [.ExceptHandler (some (.Name x np)) (some n) (b₀ :: suite) pos'] [] [] pos) D σ H := by
  refine ⟨fun pins s I => ?_⟩
  have ok := I.ok
  have frm : X.A.frames = some (X.env :: X.outer) := ok.frames.trans (congrArg some hs)
  have lc : Loc X.env.scope n := Or.inl hln
  apply wpAny_Try_except
  refine wpAny_mono ((h (X.pn ++ pins) (fun e t1 => wpAny (model X.prog X.w) X.A (noteFrame e X.env) (fun _ t2 => wpAny (model X.prog X.w) X.A (setFlight e none) (fun _ t3 => wpAny (model X.prog X.w) X.A (handleBy e X.env [.ExceptHandler (some (.Name x np)) (some n) (b₀ :: suite) pos']) (SP X pins D) X.xe t3) X.xe t2) X.xe t1)
    (fun v t ht => ?_) PassesOwn.looking).run [] s (I.toTry _)) (fun fl t ht => ?_) (fun _ _ z => z)
  · obtain ⟨a, B, sI, pins', τ, G, cls, d, rfl, J', nb, up, sky, na, os, ag, C, rfl, rfl, hm, hw⟩ := ht
    have J : Inv X pins τ G sI := J'.ofTry ok
    have sk : Sky B (X.env :: X.outer) a (Zc (.ref C) none) X.env.locals t.heap := hs ▸ sky
    refine Sky.land (s := t) Zc.steady frm hf sk fun h3 fl3 up3 => ?_
    have J3 : Inv X pins τ G { t with heap := h3 } := J.landed nb fl3.1 (up.trans up3) os ag
    obtain ⟨o3, v3, he3, hz3, hd3⟩ := HandSPX.FlyingZ.there fl3
    -- what a is not
    have nfr : a ∉ frs (X.env :: X.outer) := fun hm => by
      obtain ⟨_, o', e', hnf⟩ := fl3.2.2.1.mem hm
      rw [he3] at e'
      cases e'
      exact hnf _ hd3
    have nI : sI.heap.get? a = none := by
      cases q : sI.heap.get? a with
      | none => rfl
      | some o =>
        have z := nb a o q (by rw [hs]; exact nfr)
        rw [fl3.2.1] at z
        cases z
    have nL : a ≠ X.env.locals := fun z => nfr (List.mem_filterMap.mpr ⟨X.env, List.mem_cons_self, by rw [hf, z]⟩)
    have n0 : X.s_0.heap.get? a = none := by
      cases q : X.s_0.heap.get? a with
      | none => rfl
      | some o =>
        obtain ⟨o', z⟩ := J.base.there a o q (by rw [hex]; exact List.not_mem_nil)
        rw [nI] at z
        cases z
    have nC : ∀ y c', X.env.cells.lookup y = some c' → c' ≠ a := fun y c' e z => by
      obtain ⟨w', o', e', _⟩ := J.cell y c' e
      rw [z, nI] at e'
      cases e'
    have nP : ∀ p ∈ X.pn ++ pins, p.1 ≠ a := fun p hp z => by
      have e := (J.pin p hp).1
      rw [z, nI] at e
      cases e
    refine wpAny_handleBy_cons (codeAny_handlers_test ?_) (fun q => by cases q)
    have lty : PySem.W.Looks (model X.prog X.w) h3 (typeOf (.ref a)) (.ref C) := fun A Q E s k q => wpAny_typeOf_ref (k _ _ he3) (by rw [hz3.1]; exact q)
    have lmt := PySem.W.exm_one (M := model X.prog X.w) J3.kIn lty hm
    have tst : ∀ {Q : Value → Shared → Prop} {E : Value → Shared → Prop}, Q c { t with heap := h3 } → wpAny (model X.prog X.w) (X.A.mark (some (.ref a))) (eval (.Name x np) X.env) Q E { t with heap := h3 } := fun {Q E} q => by
      obtain ⟨hg, hdb, hm | ⟨hm, hv, hnn⟩⟩ := hc
      · exact ld_glob (X := suT X a) (inv_toSu J3 a) hg hm q hdb
      · exact ld_blt (X := suT X a) (inv_toSu J3 a) hg hm hv q hnn hdb
    refine tst (lmt.here (codeAny_handlers_suite_as (HandSPX.lands_againZ fl3 fun h4 fl4 up4 => ?_)))
    have J4 : Inv X pins τ G { t with heap := h4 } := J.landed nb fl4.1 ((up.trans up3).trans up4) os ag
    obtain ⟨o4, v4, he4, hz4, hd4⟩ := HandSPX.FlyingZ.there fl4
    have K4 : Inv (suT X a) pins τ (upd G a (XO C a)) { t with heap := h4 } := inv_toSu (inv_track J4 na n0 nL nC nP (xo_ok he4 hz4 hd4)) a
    refine store_ok (X := suT X a) (v := .ref a) K4 hN hi lc rfl (fun t5 K5 => ?_) (.inr hln)
    refine wpAny_mono ((hw a _ na (.new na) upd_same).run pins t5 K5) (fun fl t6 z6 => ?_) (fun _ _ z => z.elim)
    have fin : ∀ {τ6 : L2.St} {G6 : Hp} {R : Shared → Prop}, Inv (suT X a) pins τ6 G6 t6 → (∀ t7, Inv X pins (τ6.set i none) G6 t7 → R t7) → wpAny (model X.prog X.w) X.A (do bindName X.env n .none; unbindBehindTheSuite X.env n pos') (fun _ t7 => R t7) X.xe t6 :=
      fun {τ6 G6 R} K6 hq => gone_ok (inv_ofSu K6 ok) hN hi hln hq
    cases fl with
    | next =>
      obtain ⟨τ6, G6, K6, q6⟩ := z6
      exact fin K6 fun t7 J7 => ⟨_, _, J7, q6⟩
    | brk =>
      obtain ⟨τ6, G6, K6, q6⟩ := z6
      exact fin K6 fun t7 J7 => ⟨_, _, J7, q6⟩
    | cont =>
      obtain ⟨τ6, G6, K6, q6⟩ := z6
      exact fin K6 fun t7 J7 => ⟨_, _, J7, q6⟩
    | ret u =>
      obtain ⟨w6, τ6, G6, K6, r6, q6⟩ := z6
      exact fin K6 fun t7 J7 => ⟨_, _, _, J7, r6, q6⟩
  · cases fl with
    | next =>
      obtain ⟨τ, G, J', q⟩ := ht
      exact wpAny_execs_nil ⟨τ, G, J'.ofTry ok, q⟩
    | brk =>
      obtain ⟨τ, G, J', q⟩ := ht
      exact ⟨τ, G, J'.ofTry ok, q⟩
    | cont =>
      obtain ⟨τ, G, J', q⟩ := ht
      exact ⟨τ, G, J'.ofTry ok, q⟩
    | ret u =>
      obtain ⟨w, τ, G, J', r, q⟩ := ht
      exact ⟨w, τ, G, J'.ofTry ok, r, q⟩
end

/-! ### methods that may raise -/
structure MeX (P : Program) (w : World) (K : PySem.W.Frag) (mg : Str → Option Value) (base : Heap) (k : Nat) (C : Addr) (m : Str) (sp : Sp) : Prop where
  ex : ∃ f fd ps, FnG P w K mg base (L2.CX P w) k f fd ps sp ∧ Meth K C m f ∧ Binds K fd ps []
theorem mex_mk {P : Program} {w : World} {K : PySem.W.Frag} {mg : Str → Option Value} {base : Heap} {k : Nat} {C f : Addr} {m : Str} {fd : FuncData} {ps : List Str} {sp : Sp} (F : FnG P w K mg base (L2.CX P w) k f fd ps sp) (h : Meth K C m f) (b : Binds K fd ps []) : MeX P w K mg base k C m sp := ⟨f, fd, ps, F, h, b⟩
section
variable {X : Cx} {σ : L2.St} {H : Hp} {Q : VK} {W : WX} {C a dx : Addr} {fs : List Str} {fv : List (Str × V)} {m : Str} {k j : Nat} {sp : Sp} {o e : Expr} {es : List Expr} {apos pos : Pos}
structure MwX (X : Cx) (a : Addr) (m : Str) (es : List Expr) (σ : L2.St) (H : Hp) (Q : VK) : Prop where
  ex : Mw X a m es σ H Q ∨ ∃ C fs k j sp dx fv W, Kl X.K C fs ∧ MeX X.prog X.w X.K X.mg X.base k C m sp ∧ Room j X.A ∧ k ≤ j ∧ X.A.guards = some [] ∧ H a = some (.ins C dx fv) ∧ fv.lookup m = none ∧ Takes X W ∧ Wa X es σ H fun vs H2 => sp (.ref a :: vs) H2 Q fun cls d H' => W cls d σ H'
theorem mwx_o (h : Mw X a m es σ H Q) : MwX X a m es σ H Q := ⟨.inl h⟩
theorem mwx_r (h1 : H a = some (.ins C dx fv)) (T : Kl X.K C fs) (M : MeX X.prog X.w X.K X.mg X.base k C m sp) (hr : Room j X.A) (hk : k ≤ j) (hgd : X.A.guards = some []) (h2 : fv.lookup m = none) (tk : Takes X W) (h : Wa X es σ H fun vs H2 => sp (.ref a :: vs) H2 Q fun cls d H' => W cls d σ H') : MwX X a m es σ H Q := ⟨.inr ⟨C, fs, k, j, sp, dx, fv, W, T, M, hr, hk, hgd, h1, h2, tk, h⟩⟩
theorem we_methX {pl : Sem Bool} (h : We X o σ H fun x H1 => ∃ a, x = .ref a ∧ MwX X a m (e :: es) σ H1 Q)
    (hst : starEach (e :: es) X.env = (false, eval e X.env) :: starEach es X.env := by rfl) (hpl : (backTo pos (starEach es X.env)).any (·.1) = false := by rfl)
    (ht : eval (.Call (.Attribute o m apos) (e :: es) [] pos) X.env = (do
      let ov ← eval o X.env
      standAt apos.atName
      let (f, first) ← holding [ov] (getMethod ov m pl)
      callWith pos f first (backTo pos (starEach (e :: es) X.env)) (backToKw pos (keywordEach [] X.env))) := by rfl) : We X (.Call (.Attribute o m apos) (e :: es) [] pos) σ H Q := by
  refine ⟨fun pins s I => ?_⟩
  refine PySem.W.methodCall_KW (pl := pl) (thn (h.run pins s I) fun u s1 ⟨x, H1, I1, rx, a, ex, hw⟩ => ?_) ht
  subst ex
  obtain rfl : u = Value.ref a := rx
  rcases hw.ex with hw | ⟨C, fs, k, j, sp, dx, fv, W, T, M, hr, hk, hgd, ea, l, tk, q⟩
  · obtain ⟨C, fs, k, j, sp, dx, fv, T, M, hr, hk, hgd, ea, l, q⟩ := hw.ex
    obtain ⟨f, fd, ps, F, hm, b⟩ := M.ex
    refine getmeth_ok I1 ea T.cl hm l ?_
    refine PySem.W.callWith_K (first := [.ref a]) (h₀ := X.base) I.ok.mod.kin hm.kp (thn (q.run pos pins s1 I1) fun us s2 ⟨vs, H2, I2, r, q2⟩ => ⟨I2.kIn, ?_⟩) hst hpl
    exact run_fnG (us := .ref a :: us) (vs := .ref a :: vs) F (hr.mono hk) hgd b I2 (.cons rfl r) q2
  · obtain ⟨f, fd, ps, F, hm, b⟩ := M.ex
    refine getmeth_ok I1 ea T.cl hm l ?_
    refine PySem.W.callWith_K (first := [.ref a]) (h₀ := X.base) I.ok.mod.kin hm.kp (thn (q.run pos pins s1 I1) fun us s2 ⟨vs, H2, I2, r, q2⟩ => ⟨I2.kIn, ?_⟩) hst hpl
    exact run_fnX (us := .ref a :: us) (vs := .ref a :: vs) F (hr.mono hk) hgd b tk I2 (.cons rfl r) q2
end
section
variable {K : PySem.W.Frag} {A B : Addr} {v : Bool}
theorem cl_of {C : Addr} {c : Value} {b : Bool} (h : PySem.W.mroIn K C c = some b) : (PySem.W.clsIn K C).isSome = true := by
  unfold PySem.W.mroIn at h
  cases e : PySem.W.clsIn K C with
  | none => rw [e] at h; cases h
  | some cd => rfl
theorem kcls_of (s : PySem.W.subIn K (.ref A) (.ref B) = some v) (cl : (PySem.W.clsIn K B).isSome = true) (t : PySem.W.typeIn K (.ref B) = some (.type "type")) : PySem.W.kitCls K (.ref A) (.ref B) = some v := by
  unfold PySem.W.kitCls
  dsimp only
  rw [cl, t, if_pos (by decide)]
  exact s
theorem kit_ofS (s : PySem.W.subIn K (.ref A) (.ref B) = some v) (cl : (PySem.W.clsIn K B).isSome = true) (t : PySem.W.typeIn K (.ref B) = some (.type "type")) (hv : v = true ∨ A ≠ B) : PySem.W.kitOne K (.ref A) (.ref B) = some v := by
  unfold PySem.W.kitOne
  by_cases z : ((Value.ref A) == (Value.ref B)) = true
  · rw [if_pos z]
    rcases hv with h | h
    · rw [h]
    · exact absurd (Value.ref.inj (beq_iff_eq.mp z)) h
  · rw [if_neg z]
    exact kcls_of s cl t
theorem exm_ofS (s : PySem.W.subIn K (.ref A) (.ref B) = some v) (cl : (PySem.W.clsIn K B).isSome = true) (t : PySem.W.typeIn K (.ref B) = some (.type "type")) (b : PySem.W.subIn K (.ref B) (.type "BaseException") = some true) : PySem.W.exmOne K (.ref A) (.ref B) = some v := by
  unfold PySem.W.exmOne
  rw [b, if_pos (by decide)]
  exact kcls_of s cl t
theorem kit_ofV (s : PySem.W.subIn K (.ref A) (.type "ValueError") = some true) : PySem.W.kitOne K (.ref A) (.type "ValueError") = some true := by
  have e : PySem.W.kitCls K (.ref A) (.type "ValueError") = some true := by
    unfold PySem.W.kitCls
    dsimp only
    rw [if_pos (by decide +kernel)]
    exact s
  unfold PySem.W.kitOne
  rw [if_neg (fun z => by have := beq_iff_eq.mp z; cases this)]
  exact e
end
end SL

/-! odd things: what is no whole number -/
namespace SL
open PySem PySem.Spec PyProof.Rows L2

/-- an exception of ValueError itself, at a, as a value -/
def VO (a : Addr) : HO := .ext fun h => ∃ oe : Obj, h.get? a = some oe ∧ oe.cls = .type "ValueError"
theorem vo_ok {P : Program} {w : World} {H : Hp} {h : Heap} {a : Addr} {oe : Obj} (e : h.get? a = some oe) (z : oe.cls = .type "ValueError") : ObjOk P w H h a (VO a) :=
  ⟨⟨oe, e, z⟩, ⟨oe, e⟩, fun _ _ ⟨o, q, r⟩ k => ⟨o, k o q, r⟩⟩
section
variable {X : Cx} {σ : L2.St} {H : Hp} {Q : VK} {a : Addr} {m : Str} {j : Nat} {p p2 pos : Pos}
/-- ValueError("..") -/
theorem we_verr (hg : Gl X "ValueError") (hm : X.mg "ValueError" = none) (h : ∀ a H', H a = none → Kp [] H H' → H' a = some (VO a) → Q (.ref a) H') : We X (.Call (.Name "ValueError" p) [.Constant (.str m) j p2] [] pos) σ H Q := by
  refine ⟨fun pins s I => ?_⟩
  refine wpAny_Call_Name_kw (ld_blt I hg hm L2.boot_ValueError ?_)
  have ha : PA X [.Constant (.str m) j p2] (tCons (tC (.str m)) tNil) := pa_cons pe_str pa_nil
  refine PyProof.Rows.callWith_type1 (thn (ha.run pos pins s σ H (fun vs H1 => vs = [V.str m] ∧ H = H1) I ⟨rfl, rfl⟩) fun us s1 hh => ?_) rfl rfl
  obtain ⟨vs, H1, I1, r1, ev, eH⟩ := hh
  subst ev
  subst eH
  refine PyProof.Rows.call_exc excClass_ValueError (fun h' a mk => ?_) (by rw [← r1.length]; exact Nat.le_trans (show [V.str m].length ≤ 1 from Nat.le_refl 1) (by decide))
  obtain ⟨ob, t0, ha', hcls, hd⟩ := mk.there
  have nn := I1.hok.gone mk.new
  exact ⟨.ref a, upd H a (VO a), I1.laidN (t' := s1.toks) mk.keeps mk.new nn (vo_ok ha' hcls), rfl, h a _ nn (.new nn) upd_same⟩
/-- isinstance(e, T) of such -/
theorem k_isiV {n : String} {b : Bool} (h1 : H a = some (VO a)) (hk : kitB "ValueError" n = some b) (h : Q (.bl b) H) : Cal X (.builtin "isinstance") [.ref a, .ty n] H Q := by
  refine ⟨fun xs H Q => xs = [.ref a, .ty n] ∧ H a = some (VO a) ∧ Q (.bl b) H, ?_, rfl, h1, h⟩
  intro pins s σ H xs us Q I r h
  obtain ⟨rfl, h1, q⟩ := h
  obtain ⟨u1, u2, rfl, r1, r2⟩ := vals2 r
  cases r1
  have e2 := (ClsV.ty n).eq r2
  subst e2
  obtain ⟨⟨oe, e, z⟩, _, _⟩ := (show ObjOk X.prog X.w H s.heap a (VO a) from I.hok a _ h1)
  exact PySem.W.kia_one (PySem.W.kitx_bexc PySem.F.excAttr_ValueError PySem.F.lkClass_ValueError PySem.F.soClass_ValueError (by decide)) I.kIn ⟨oe, e, z⟩ (kit_ty hk) (fun z => nomatch z) fun tk => ⟨.bl b, H, I.tok tk, rfl, q⟩
/-- some item of a list -/
theorem x_memV {i : Int} {xs : List V} (h1 : SqL X.K H a xs) (h0 : 0 ≤ i) (h2 : i < xs.length) (h : ∀ v, v ∈ xs → Q v H) : Ixw X (.ref a) (.int i) H Q := by
  have hl : i.toNat < xs.length := by omega
  exact x_lst h1 (atI_of h0 (List.getElem?_eq_getElem hl)) (h _ (List.getElem_mem hl))
end

/-- what is no whole number: its place, if it has one, is none of F -/
inductive Odd (F : List Addr) (H : Hp) : V → Prop where
  | non : Odd F H .non
  | bl (b : Bool) : Odd F H (.bl b)
  | str (s : Str) : Odd F H (.str s)
  | lst {a : Addr} {xs : List V} (h : H a = some (.lst xs)) (n : a ∉ F) : Odd F H (.ref a)
  | tup {a : Addr} {xs : List V} (h : H a = some (.tup xs)) : Odd F H (.ref a)
  | dict {a : Addr} {ps : List (Int × Int)} (h : H a = some (.dK (encK ps))) (n : a ∉ F) : Odd F H (.ref a)
  | exc {a : Addr} (h : H a = some (VO a)) (n : a ∉ F) : Odd F H (.ref a)
theorem Odd.kp {F M : List Addr} {H H' : Hp} {v : V} (h : Odd F H v) (k : Kp M H H') (hM : ∀ y ∈ M, y ∈ F ∨ H y = none) : Odd F H' v := by
  have no : ∀ {y : Addr} {o : HO}, y ∉ F → H y = some o → y ∉ M := fun {y o} n e z => by
    rcases hM y z with w | w
    · exact n w
    · rw [w] at e; cases e
  cases h with
  | non => exact .non
  | bl b => exact .bl b
  | str s => exact .str s
  | lst h n => exact .lst (k.gM (no n h) h) n
  | tup h => exact .tup (k.gT h)
  | dict h n => exact .dict (k.gM (no n h) h) n
  | exc h n => exact .exc (k.gM (no n h) h) n
theorem Odd.k0 {F : List Addr} {H H' : Hp} {v : V} (h : Odd F H v) (k : Kp [] H H') : Odd F H' v := h.kp k fun _ z => nomatch z
theorem ko_non : kitB "NoneType" "int" = some false := by decide +kernel
theorem ko_str : kitB "str" "int" = some false := by decide +kernel
theorem ko_lst : kitB "list" "int" = some false := by decide +kernel
theorem ko_tup : kitB "tuple" "int" = some false := by decide +kernel
theorem ko_dict : kitB "dict" "int" = some false := by decide +kernel
theorem ko_exc : kitB "ValueError" "int" = some false := by decide +kernel
/-- isinstance(v, int) of an odd thing that is no truth -/
theorem Odd.isi {F : List Addr} {X : Cx} {H : Hp} {Q : VK} {v : V} (h : Odd F H v) (hb : ∀ b, v ≠ .bl b) (q : Q (.bl false) H) : Cal X (.builtin "isinstance") [v, .ty "int"] H Q := by
  cases h with
  | non => exact k_isi (.base .non) (kit_ty ko_non) q
  | bl b => exact absurd rfl (hb b)
  | str s => exact k_isi (.base (.str s)) (kit_ty ko_str) q
  | lst h n => exact k_isiL h ko_lst q
  | tup h => exact k_isiT h ko_tup q
  | dict h n => exact k_isi (.base (.dK h)) (kit_ty ko_dict) q
  | exc h n => exact k_isiV h ko_exc q

/-! ### lists of truths -/
section
variable {X : Cx} {H : Hp} {Q : VK} {p q : Addr} {k : Nat} {K : PySem.W.Frag}
theorem dpAll_bs : ∀ bs : List Bool, DpAll K H (bs.map V.bl) (bs.map PyData.bool)
  | [] => .nil
  | b :: bs => .cons (.bl b) (dpAll_bs bs)
theorem eqv_b (a b : Bool) : PyData.eqv (.bool a) (.bool b) = decide (a = b) := by
  cases a <;> cases b <;> rfl
theorem eqvAll_bs : ∀ xs ys : List Bool, PyData.eqvAll (xs.map PyData.bool) (ys.map PyData.bool) = decide (xs = ys)
  | [], [] => by simp [PyData.eqvAll]
  | [], y :: ys => by simp [PyData.eqvAll]
  | x :: xs, [] => by simp [PyData.eqvAll]
  | x :: xs, y :: ys => by
    simp only [List.map_cons]
    unfold PyData.eqvAll
    rw [eqv_b, eqvAll_bs xs ys]
    by_cases h : x = y <;> by_cases g : xs = ys <;> simp [h, g]
theorem shaped_bs (xs : List Bool) : SeqAt.shaped (.list (xs.map PyData.bool)) = true := by
  have h1 : ∀ ys : List Bool, PyData.canLayAll0 (ys.map PyData.bool) = true := fun ys => by
    induction ys with
    | nil => rfl
    | cons n ns ih => show (PyData.canLay0 (.bool n) && PyData.canLayAll0 (ns.map PyData.bool)) = true; rw [ih]; rfl
  have h2 : ∀ ys : List Bool, PyData.depthAll (ys.map PyData.bool) = 0 := fun ys => by
    induction ys with
    | nil => rfl
    | cons n ns ih => show max (PyData.depth (.bool n)) (PyData.depthAll (ns.map PyData.bool)) = 0; rw [ih]; rfl
  unfold SeqAt.shaped
  have e1 : PyData.canLay0 (.list (xs.map PyData.bool)) = true := h1 xs
  have e2 : PyData.depth (.list (xs.map PyData.bool)) = 1 := by
    show PyData.depthAll (xs.map PyData.bool) + 1 = 1
    rw [h2 xs]
  rw [e1, e2]
  rfl
theorem c_eqBs {xs ys : List Bool} (hr : Room k X.A) (h1 : H p = some (.lst (xs.map V.bl))) (h2 : H q = some (.lst (ys.map V.bl))) (h : Q (.bl (decide (xs = ys))) H) : Cmp X .Eq (.ref p) (.ref q) H Q :=
  c_eqD hr (.lst (sqL h1) (dpAll_bs xs)) (.lst (sqL h2) (dpAll_bs ys)) (shaped_bs _) (shaped_bs _) (by
    have e : PyData.eqv (.list (xs.map PyData.bool)) (.list (ys.map PyData.bool)) = decide (xs = ys) := by
      unfold PyData.eqv
      exact eqvAll_bs xs ys
    rw [e]
    exact h)
end
theorem kany_f {K : PySem.W.Frag} {t c : Value} {cs : List Value} {b : Bool} (h : PySem.W.kitOne K t c = some false) (hr : PySem.W.kitAny K t cs = some b) : PySem.W.kitAny K t (c :: cs) = some b := by
  unfold PySem.W.kitAny
  rw [h]
  exact hr
theorem kany_t {K : PySem.W.Frag} {t c : Value} {cs : List Value} (h : PySem.W.kitOne K t c = some true) : PySem.W.kitAny K t (c :: cs) = some true := by
  unfold PySem.W.kitAny
  rw [h]
theorem kany_0 {K : PySem.W.Frag} {t : Value} : PySem.W.kitAny K t [] = some false := rfl
theorem bs2 {o : Hp} {p : Addr} {a b : Bool} (h : o p = some (.lst [.bl a, .bl b])) : o p = some (.lst ([a, b].map V.bl)) := h
theorem bs3 {o : Hp} {p : Addr} {a b c : Bool} (h : o p = some (.lst [.bl a, .bl b, .bl c])) : o p = some (.lst ([a, b, c].map V.bl)) := h
theorem bs6 {o : Hp} {p : Addr} {a b c d e g : Bool} (h : o p = some (.lst [.bl a, .bl b, .bl c, .bl d, .bl e, .bl g])) : o p = some (.lst ([a, b, c, d, e, g].map V.bl)) := h
/-- {i: v} -/
theorem we_dict1 {X : Cx} {σ : L2.St} {H : Hp} {Q : VK} {i v : Int} {j1 j2 : Nat} {p1 p2 pos : Pos} (h : ∀ d H', H d = none → Kp [] H H' → H' d = some (.dK (encK [(i, v)])) → Q (.ref d) H') : We X (.Dict [some (.Constant (.int i) j1 p1)] [.Constant (.int v) j2 p2] pos) σ H Q := by
  refine we_of (pe_disp (pps_cons pe_int pe_int pps_nil) rfl rfl (by simp) (by simp)) ?_
  intro d nd
  refine ⟨upd_same, [(Sum.inl i, .int v)], rfl, Nat.le_of_ble_eq_true rfl, ?_⟩
  refine h d _ nd (.ext fun b o e => ?_) (by rw [upd_same]; rfl)
  have hb : b ≠ d := ne_of_none e nd
  rw [upd_ne hb, upd_ne hb]
  exact e
/-- f() -/
theorem we_call0 {X : Cx} {σ : L2.St} {H : Hp} {Q : VK} {x : Str} {k j : Nat} {sp : Sp} {p pos : Pos} (D : Df X.prog X.w X.K X.mg X.base k x sp) (hr : Room j X.A) (hk : k ≤ j) (hgd : X.A.guards = some []) (hg : Gl X x) (h : sp [] H Q E0) (hdb : (x == ("__debug__" : Str)) = false := by decide) : We X (.Call (.Name x p) [] [] pos) σ H Q := by
  obtain ⟨f, fd, ps, F, g, kp, b⟩ := D.ex
  refine ⟨fun pins s I => ?_⟩
  exact wpAny_Call_Name_kw (ld_glob I hg g (PySem.W.callWith_K0 (first := []) I.kIn kp (run_fnG (us := []) (vs := []) F (hr.mono hk) hgd b I .nil h)) hdb)
end SL

/-! repr of lists of pairs of odd things -/
namespace SL
open PySem PySem.Spec PyProof.Rows L2
section
variable {X : Cx} {σ : L2.St} {H : Hp} {Q : VK} {es : List Expr} {pos : Pos}
theorem big_ne {pins : List (Addr × Obj)} {s : Shared} (I : Inv X pins σ H s) : s.heap.objs.size ≠ sysModules := Nat.ne_of_gt I.big
/-- [..]: its place is not that of sys.modules -/
theorem we_lstB (h : Wa X es σ H fun xs H1 => xs.length ≤ 1000 ∧ ∀ p H', p ≠ sysModules → H1 p = none → Kp [] H1 H' → H' p = some (.lst xs) → Q (.ref p) H') : We X (.List es pos) σ H Q := by
  refine ⟨fun pins s I => ?_⟩
  refine wpAny_List_spliced (thn (h.run pos pins s I) fun us s1 ⟨xs, H1, J, r, z, q⟩ => ⟨by rw [← r.length]; exact Nat.le_trans z (by decide), ?_⟩)
  have nn : H1 s1.heap.objs.size = none := J.hok.fresh (Nat.le_refl _)
  refine ⟨.ref s1.heap.objs.size, upd H1 s1.heap.objs.size (.lst xs), J.laid (t' := s1.toks) (fun b u e => Heap.get?_push_of_some _ e) (Nat.le_refl _) ?_, rfl, q _ _ (big_ne J) nn (.new nn) upd_same⟩
  exact ⟨Nat.le_trans z (by decide), us, 0, r, Heap.get?_push_size _ rfl⟩
/-- xs + ys likewise -/
theorem b_catB {l b : Addr} {xs zs : List V} (h1 : H l = some (.lst xs)) (h2 : H b = some (.lst zs)) (hz : xs.length + zs.length ≤ 100000) (h : ∀ p H', p ≠ sysModules → H p = none → Kp [] H H' → H' p = some (.lst (xs ++ zs)) → Q (.ref p) H') : Bin X .Add (.ref l) (.ref b) H Q := by
  refine ⟨fun x y H Q => x = .ref l ∧ y = .ref b ∧ H l = some (.lst xs) ∧ H b = some (.lst zs) ∧ ∀ p H', p ≠ sysModules → H p = none → Kp [] H H' → H' p = some (.lst (xs ++ zs)) → Q (.ref p) H', ?_, rfl, rfl, h1, h2, h⟩
  intro pins s σ H x y v u Q I rx ry hh
  obtain ⟨rfl, rfl, g1, g2, q⟩ := hh
  cases rx
  cases ry
  obtain ⟨z, its, n, r, hl, e⟩ := I.lstM g1
  obtain ⟨z2, its2, n2, r2, hl2, e2⟩ := I.lstM g2
  have hs : xs.length + zs.length ≤ sizeLine := Nat.le_trans hz (by decide)
  refine PySem.P.add_list e e2 ?_ (by rw [List.size_toArray, List.size_toArray]; omega)
  rw [show its.toArray ++ its2.toArray = (its ++ its2).toArray from by simp]
  exact ⟨.ref _, _, I.lnew (t' := s.toks) (r.append r2) (by rw [List.length_append]; omega), rfl, q _ _ (big_ne I) I.fresh (.new I.fresh) upd_same⟩
/-- xs[lo:hi] likewise -/
theorem x_slB {p : Addr} {xs : List V} {lo hi : Option Int} (h1 : SqL X.K H p xs) (h : ∀ q H', q ≠ sysModules → H q = none → Kp [] H H' → H' q = some (.lst (cutV xs lo hi)) → Q (.ref q) H') : Slw X (.ref p) lo hi H Q := by
  refine ⟨fun x lo' hi' H Q => x = .ref p ∧ lo' = lo ∧ hi' = hi ∧ SqL X.K H p xs ∧ ∀ q H', q ≠ sysModules → H q = none → Kp [] H H' → H' q = some (.lst (cutV xs lo hi)) → Q (.ref q) H', ?_, rfl, rfl, rfl, h1, h⟩
  intro pins s σ H x v vl vu lo' hi' sl Q I rx hs pl pu hh
  obtain ⟨rfl, rfl, rfl, hx, q⟩ := hh
  cases rx
  obtain ⟨its, r, ht, hz⟩ := I.list hx
  have hlen := r.length
  refine ⟨"list", _, slot_list_getitem.lookup, ht.isList.typeIs, ?_⟩
  refine wpAny_getItem_list_slice ht.isList hs pl pu .none (by simp) ?_ (by rw [List.size_toArray] <;> omega)
  rw [slicePick_cut, ← hlen]
  have nn := I.hok.fresh (Nat.le_refl s.heap.objs.size)
  refine ⟨.ref s.heap.objs.size, _, I.laid (t' := s.toks) (o := .lst (cutV xs lo' hi')) (fun b ob q => Heap.get?_push_of_some _ q) (Nat.le_refl _) ?_, rfl, q _ _ (big_ne I) nn (.new nn) upd_same⟩
  exact ⟨Nat.le_trans (cutV_length xs lo' hi') hz, _, 0, (r.drop (HT.sIx xs.length 0 lo')).take (HT.sIx xs.length xs.length hi' - HT.sIx xs.length 0 lo'), Heap.get?_push_size _ rfl⟩
end

/-- an item and what it reads as -/
inductive Q0 (F : List Addr) (H : Hp) : V → PyData → Prop where
  | non : Q0 F H .non .none
  | bl (b : Bool) : Q0 F H (.bl b) (.bool b)
  | int (i : Int) (h : Szd i) : Q0 F H (.int i) (.int i)
  | str (s : Str) (h : (PyData.str s).shown.length ≤ 1000) : Q0 F H (.str s) (.str s)
  | lst {a : Addr} {ns : List Int} (h : H a = some (.lst (ns.map V.int))) (n : a ∉ F) (b : a ≠ sysModules) (hs : ∀ x ∈ ns, Szd x) (hl : ns.length ≤ 2) : Q0 F H (.ref a) (dI ns)
  | tup {a : Addr} {ns : List Int} (h : H a = some (.tup (ns.map V.int))) (hs : ∀ x ∈ ns, Szd x) (hl : ns.length ≤ 2) : Q0 F H (.ref a) (dT ns)
  | dict {a : Addr} (h : H a = some (.dK (encK []))) (n : a ∉ F) : Q0 F H (.ref a) (.dict [])
theorem Q0.kp {F M : List Addr} {H H' : Hp} {v : V} {d : PyData} (h : Q0 F H v d) (k : Kp M H H') (hM : ∀ y ∈ M, y ∈ F ∨ H y = none) : Q0 F H' v d := by
  have no : ∀ {y : Addr} {o : HO}, y ∉ F → H y = some o → y ∉ M := fun {y o} n e z => by
    rcases hM y z with w | w
    · exact n w
    · rw [w] at e; cases e
  cases h with
  | non => exact .non
  | bl b => exact .bl b
  | int i h => exact .int i h
  | str s h => exact .str s h
  | lst h n b hs hl => exact .lst (k.gM (no n h) h) n b hs hl
  | tup h hs hl => exact .tup (k.gT h) hs hl
  | dict h n => exact .dict (k.gM (no n h) h) n
/-- what is no whole number is odd -/
theorem Q0.odd {F : List Addr} {H : Hp} {v : V} {d : PyData} (h : Q0 F H v d) : (∃ i, v = .int i) ∨ Odd F H v := by
  cases h with
  | non => exact .inr .non
  | bl b => exact .inr (.bl b)
  | int i h => exact .inl ⟨i, rfl⟩
  | str s h => exact .inr (.str s)
  | lst h n b hs hl => exact .inr (.lst h n)
  | tup h hs hl => exact .inr (.tup h)
  | dict h n => exact .inr (.dict h n)
section
variable {X : Cx} {pins : List (Addr × Obj)} {σ : L2.St} {H : Hp} {s : Shared} {F : List Addr}
theorem readsAll_ints {h : Heap} : ∀ {ns : List Int} {us : List Value}, Vals (ns.map V.int) us → ReadsAll h us (ns.map PyData.int) []
  | [], _, .nil => .nil
  | n :: ns, _, .cons r rs => by
    obtain ⟨t, rfl⟩ := r
    exact .cons (as := []) (bs := []) (.int n t) (readsAll_ints rs)
theorem Q0.reads (I : Inv X pins σ H s) {v : V} {d : PyData} {u : Value} (h : Q0 F H v d) (r : RelV v u) : ∃ as, Reads s.heap u d as ∧ sysModules ∉ as := by
  cases h with
  | non => cases r; exact ⟨_, .none, List.not_mem_nil⟩
  | bl b => cases r; exact ⟨_, .bool b, List.not_mem_nil⟩
  | int i h => obtain ⟨t, rfl⟩ := r; exact ⟨_, .int i t, List.not_mem_nil⟩
  | str x h => obtain ⟨t, rfl⟩ := r; exact ⟨_, .str x t, List.not_mem_nil⟩
  | @lst a ns h n b hs hl =>
    cases r
    obtain ⟨its, rv, ⟨o, n, ho, hc, _, hd⟩, _⟩ := I.list (sqL h)
    exact ⟨_, .list ho hc hd (by simpa using readsAll_ints rv), by simp [Ne.symm b]⟩
  | @tup a ns h hs hl =>
    cases r
    obtain ⟨its, rv, ⟨o, ho, hc, n, hd⟩, _⟩ := I.tuple (sqT h)
    exact ⟨_, .tuple ho hc hd (by simpa using readsAll_ints rv), List.not_mem_nil⟩
  | @dict a h n =>
    cases r
    obtain ⟨z, hd, vs, rel, ob, es, ep, ho, hx, hdat, hks, hpr, hnd⟩ := dk_of I.hok h
    have hv : vs = [] := by
      have := Paired.length rel
      cases vs with
      | nil => rfl
      | cons x xs => simp [encK] at this
    subst hv
    have he : es.toList = [] := by
      have := pairs_len hpr
      cases q : es.toList with
      | nil => rfl
      | cons x xs => rw [q] at this; simp at this
    refine ⟨_, .dict (kvs := []) (as := []) (bs := []) ho hx.1 hdat ?_ ?_, ?_⟩
    · rw [he]; exact .nil
    · rw [he]; exact .nil
    · have : a ≠ sysModules := by simpa using hd
      simp [Ne.symm this]
end
/-- pairs of such items -/
def QP (F : List Addr) (H : Hp) (u : V) (d : PyData) : Prop := ∃ t vb ve d1 d2, u = .ref t ∧ H t = some (.tup [vb, ve]) ∧ Q0 F H vb d1 ∧ Q0 F H ve d2 ∧ d = .tuple [d1, d2]
inductive QA (F : List Addr) (H : Hp) : List V → List PyData → Prop where
  | nil : QA F H [] []
  | cons {u : V} {d : PyData} {us : List V} {ds : List PyData} (h : QP F H u d) (r : QA F H us ds) : QA F H (u :: us) (d :: ds)
theorem QA.kp {F M : List Addr} {H H' : Hp} {us : List V} {ds : List PyData} (h : QA F H us ds) (k : Kp M H H') (hM : ∀ y ∈ M, y ∈ F ∨ H y = none) : QA F H' us ds := by
  induction h with
  | nil => exact .nil
  | cons h r ih =>
    obtain ⟨t, vb, ve, d1, d2, e1, e2, e3, e4, e5⟩ := h
    exact .cons ⟨t, vb, ve, d1, d2, e1, k.gT e2, e3.kp k hM, e4.kp k hM, e5⟩ ih
theorem QA.len {F : List Addr} {H : Hp} {us : List V} {ds : List PyData} (h : QA F H us ds) : us.length = ds.length := by
  induction h with
  | nil => rfl
  | cons h r ih => rw [List.length_cons, List.length_cons, ih]
theorem dIs {ns : List Int} : (dI ns).shown = listText (PyData.shownAll (ns.map PyData.int)) := by unfold dI; rw [PyData.shown]
theorem dTs {ns : List Int} : (dT ns).shown = tupleText (PyData.shownAll (ns.map PyData.int)) := by unfold dT; rw [PyData.shown]
theorem ints_few {ns : List Int} (h : ∀ x ∈ ns, Szd x) (hl : ns.length ≤ 2) : ((ns.map fun i => PySem.Str.ofString (toString i)).map fun x => x.length).sum ≤ 3842 := by
  have h1 := sum_le_const (fun i : Int => (PySem.Str.ofString (toString i)).length) 1921 (xs := ns) fun x hx => int_text_len_1921 (by have := h x hx; unfold Szd at this; omega)
  rw [List.map_map]
  have h2 : (ns.map ((fun x : Str => x.length) ∘ fun i : Int => PySem.Str.ofString (toString i))).sum ≤ 1921 * ns.length := h1
  omega
theorem Q0.small {F : List Addr} {H : Hp} {v : V} {d : PyData} (h : Q0 F H v d) : d.showable = true ∧ d.depth ≤ 1 ∧ d.shown.length ≤ 4000 := by
  cases h with
  | non => exact ⟨rfl, Nat.zero_le _, by decide⟩
  | bl b => cases b <;> exact ⟨rfl, Nat.zero_le _, by decide⟩
  | int i h =>
    refine ⟨?_, Nat.zero_le _, ?_⟩
    · show decide (i.natAbs.log2 < 1920) = true
      unfold Szd at h
      exact decide_eq_true (by omega)
    · have := int_text_len_1921 (i := i) (by unfold Szd at h; omega)
      show (PySem.Str.ofString (toString i)).length ≤ 4000
      omega
  | str s h => exact ⟨rfl, Nat.zero_le _, Nat.le_trans h (by decide)⟩
  | @lst a ns h n b hs hl =>
    refine ⟨showable_ints hs, ?_, ?_⟩
    · show PyData.depthAll (ns.map PyData.int) + 1 ≤ 1
      rw [depth_ints]
      exact Nat.le_refl _
    · rw [dIs, shownAll_ints]
      refine Nat.le_trans (listText_len_le _) ?_
      have h1 := ints_few hs hl
      rw [List.length_map]
      omega
  | @tup a ns h hs hl =>
    refine ⟨showable_ints hs, ?_, ?_⟩
    · show PyData.depthAll (ns.map PyData.int) + 1 ≤ 1
      rw [depth_ints]
      exact Nat.le_refl _
    · rw [dTs, shownAll_ints]
      refine Nat.le_trans (tupleText_len_le _) ?_
      have h1 := ints_few hs hl
      rw [List.length_map]
      omega
  | dict h n => exact ⟨rfl, by decide, by decide⟩
theorem QP.small {F : List Addr} {H : Hp} {v : V} {d : PyData} (h : QP F H v d) : d.showable = true ∧ d.depth ≤ 2 ∧ d.shown.length ≤ 8100 := by
  obtain ⟨t, vb, ve, d1, d2, e1, e2, e3, e4, rfl⟩ := h
  obtain ⟨a1, a2, a3⟩ := e3.small
  obtain ⟨b1, b2, b3⟩ := e4.small
  refine ⟨?_, ?_, ?_⟩
  · show (d1.showable && (d2.showable && true)) = true
    rw [a1, b1]
    rfl
  · show max d1.depth (max d2.depth 0) + 1 ≤ 2
    omega
  · have e : (PyData.tuple [d1, d2]).shown = tupleText [d1.shown, d2.shown] := by
      rw [PyData.shown]
      rfl
    rw [e]
    have g3 := tupleText_len_le [d1.shown, d2.shown]
    simp only [List.map_cons, List.map_nil, List.sum_cons, List.sum_nil, List.length_cons, List.length_nil] at g3
    omega
theorem QA.small {F : List Addr} {H : Hp} {us : List V} {ds : List PyData} (h : QA F H us ds) : PyData.showableAll ds = true ∧ PyData.depthAll ds ≤ 2 ∧ ((PyData.shownAll ds).map fun x => x.length).sum ≤ 8100 * ds.length ∧ (PyData.shownAll ds).length = ds.length := by
  induction h with
  | nil => exact ⟨rfl, Nat.zero_le _, Nat.zero_le _, rfl⟩
  | @cons u d us ds h r ih =>
    obtain ⟨a1, a2, a3⟩ := h.small
    obtain ⟨b1, b2, b3, b4⟩ := ih
    refine ⟨?_, ?_, ?_, ?_⟩
    · show (d.showable && PyData.showableAll ds) = true
      rw [a1, b1]
      rfl
    · show max d.depth (PyData.depthAll ds) ≤ 2
      omega
    · show (d.shown.length :: ((PyData.shownAll ds).map fun x => x.length)).sum ≤ _
      rw [List.sum_cons, List.length_cons]
      omega
    · show (PyData.shownAll ds).length + 1 = ds.length + 1
      rw [b4]
section
variable {X : Cx} {pins : List (Addr × Obj)} {σ : L2.St} {H : Hp} {s : Shared} {F : List Addr} {Q : VK}
theorem QA.reads (I : Inv X pins σ H s) : ∀ {us : List V} {ds : List PyData} {ws : List Value}, QA F H us ds → Vals us ws → ∃ as, ReadsAll s.heap ws ds as ∧ sysModules ∉ as
  | _, _, _, .nil, .nil => ⟨_, .nil, List.not_mem_nil⟩
  | _, _, _, .cons h r, .cons rv rs => by
    obtain ⟨t, vb, ve, d1, d2, rfl, e2, e3, e4, rfl⟩ := h
    cases rv
    obtain ⟨bs, q2, n2⟩ := QA.reads I r rs
    obtain ⟨its, rv, ⟨o, ho, hc, n, hd⟩, _⟩ := I.tuple (sqT e2)
    obtain ⟨u1, u2, rfl, r1, r2⟩ := vals2 rv
    obtain ⟨a1, f1, m1⟩ := e3.reads I r1
    obtain ⟨a2, f2, m2⟩ := e4.reads I r2
    refine ⟨_, .cons (.tuple ho hc hd (.cons f1 (.cons f2 .nil))) q2, ?_⟩
    simp [m1, m2, n2]
/-- repr of a list of such pairs -/
theorem k_reprQ {p : Addr} {us : List V} {ds : List PyData} {k : Nat} (hr : Room k X.A) (hgd : X.A.guards = some []) (h1 : H p = some (.lst us)) (hb : p ≠ sysModules) (hq : QA F H us ds) (hl : ds.length ≤ 1000) (h : Q (.str (PyData.list ds).shown) H) : Cal X (.builtin "repr") [.ref p] H Q := by
  refine ⟨fun xs H Q => xs = [.ref p] ∧ H p = some (.lst us) ∧ QA F H us ds ∧ Q (.str (PyData.list ds).shown) H, ?_, rfl, h1, hq, h⟩
  intro pins s σ H xs ws Q I r hh
  obtain ⟨rfl, g1, gq, q⟩ := hh
  obtain ⟨u, rfl, rx⟩ := vals1 r
  cases rx
  obtain ⟨its, rv, ⟨o, n, ho, hc, _, hd⟩, _⟩ := I.list (sqL g1)
  obtain ⟨as, rd, na⟩ := QA.reads I gq rv
  obtain ⟨s1, s2, s3, s4⟩ := gq.small
  have rl : Reads s.heap (.ref p) (.list ds) (p :: as) := .list ho hc hd (by simpa using rd)
  have hdp : (PyData.list ds).depth ≤ 3 := by
    show PyData.depthAll ds + 1 ≤ 3
    omega
  have hz : (PyData.list ds).shown.length ≤ sizeLine := by
    have e : (PyData.list ds).shown = listText (PyData.shownAll ds) := by rw [PyData.shown]
    rw [e]
    refine Nat.le_trans (listText_len_le _) ?_
    have : sizeLine = 16777216 := rfl
    omega
  have hu : X.A.units + ((PyData.list ds).depth + 1) < cLine := by have := hr.un; omega
  exact repr_of_reads' (hsz := hz) rl s1 (fun _ => by simp [Ne.symm hb, na]) hgd hu (fun _ _ e => e) fun h' u tk hk => ⟨.str _, H, I.kept (t' := tk) hk, ⟨_, rfl⟩, q⟩
end
section
variable {X : Cx} {σ : L2.St} {H : Hp} {R : VK} {elt tg : Expr} {scope : Scope} {vs : List Nat}
/-- [.. for i in range(n)], truths -/
theorem lcd_rangeB {n : Nat} (g : Nat → Bool) (hl : n ≤ 99999)
    (he : ∀ i, i < n → ∀ H1, Kp [] H H1 → Bl X scope fun Z => Wg Z tg (.int (i : Int)) (wipe σ vs) H1 fun σ2 H2 => wipe σ2 vs = wipe σ vs ∧ Bl X scope fun Z => We Z elt σ2 H2 fun y H3 => y = .bl (g i) ∧ Kp [] H1 H3)
    (hd : ∀ Dl H', H Dl = none → Kp [] H H' → H' Dl = some (.lst (((List.range n).map g).map V.bl)) → R (.ref Dl) H') :
    LcD X elt tg [] scope vs σ R n (fun _ => True) (YFn fun i => .int ((0 : Int) + (i : Int))) H := by
  intro Dl H1 nD kD hD
  refine ⟨fun i H' => Kp [] H H' ∧ H' Dl = some (.lst (((List.range i).map g).map V.bl)), ⟨kD, hD⟩, fun _ _ _ _ => trivial, ?_, ?_⟩
  · rintro i x H2 H3 hi ⟨k2, hD2⟩ ⟨rfl, rfl⟩
    intro s0 H0 C cl fp
    have e0 : (0 : Int) + (i : Int) = (i : Int) := by omega
    dsimp only
    rw [e0]
    refine wg_mono (he i hi _ k2 s0 H0 C cl fp) fun σ2 H4 ⟨e1, h2⟩ => ⟨e1, fun s0 H0 C cl fp => ?_⟩
    refine wts_nil (iteT fun s0 H0 C cl fp => we_mono (h2 s0 H0 C cl fp) fun y H5 ⟨ey, k5⟩ => ?_)
    subst ey
    refine ⟨_, k5.g0 hD2, by rw [List.length_map, List.length_map, List.length_range]; omega, fun H6 k6 hD6 => ⟨(k2.tr0 k5).trN k6 nD, ?_⟩⟩
    rw [List.range_succ, List.map_append, List.map_append]
    exact hD6
  · rintro H2 ⟨k2, hD2⟩
    exact hd Dl H2 nD k2 hD2
end
/-- the slots written out -/
theorem wss_nf {X : Cx} {sts : List Stmt} {D : Ends} {σ σ' : L2.St} {H : Hp} (e : σ' = σ) (h : Wss X sts D σ' H) : Wss X sts D σ H := e ▸ h
end SL

/-! texts: length, parts, signs, joined, cut at a sign, read as numbers -/
namespace SL
open PySem PySem.Spec PyProof.Rows L2
abbrev TLs (x : Str) : List Nat := TL.tl x
section
variable {X : Cx} {σ : L2.St} {H : Hp} {Q : VK} {D : Ends} {e o it tg elt : Expr} {ifs : List Expr} {apos pos p : Pos} {body : List Stmt} {z a b : Str} {i : Int} {ys : List Str} {l : Addr}
theorem k_lenS (hz : z.length ≤ 16777216) (h : Q (.int (z.length : Int)) H) : Cal X (.builtin "len") [.str z] H Q := ⟨_, call_len_str, z, rfl, hz, h⟩
theorem k_isiS {n : String} {k : Bool} (hk : kitB "str" n = some k) (h : Q (.bl k) H) : Cal X (.builtin "isinstance") [.str z, .ty n] H Q := k_isi (.base (.str z)) (kit_ty hk) h
theorem is_str : kitB "str" "str" = some true := by decide +kernel
theorem k_intS {n : Int} (hn : PySem.intText? z = some n) (hl : z.length ≤ 640) (h : Q (.int n) H) : Cal X (.type "int") [.str z] H Q := ⟨_, call_int_str, z, n, rfl, hn, hl, h⟩
theorem x_str {c : Nat} (hz : z.length ≤ 16777216) (hc : atI z.cps.toList i = some c) (h : Q (.str ⟨#[c]⟩) H) : Ixw X (.str z) (.int i) H Q := ⟨_, ix_str, z, i, c, rfl, rfl, hz, hc, h⟩
theorem x_slS {lo hi : Option Int} (hz : z.length ≤ 16777216) (h : Q (.str (cutS z lo hi)) H) : Slw X (.str z) lo hi H Q := ⟨_, sl_str, z, rfl, hz, h⟩
theorem c_inS {c : Nat} (h : Q (.bl (decide (c ∈ z.cps.toList))) H) : Cmp X .In (.str ⟨#[c]⟩) (.str z) H Q := ⟨_, op_in_sign, c, z, rfl, rfl, h⟩
theorem c_ninS {c : Nat} (h : Q (.bl (!decide (c ∈ z.cps.toList))) H) : Cmp X .NotIn (.str ⟨#[c]⟩) (.str z) H Q := ⟨_, op_notIn_sign, c, z, rfl, rfl, h⟩
theorem b_addS (hz : a.length + b.length ≤ 16777216) (h : Q (.str (a ++ b)) H) : Bin X .Add (.str a) (.str b) H Q := ⟨_, op_add_str, a, b, rfl, rfl, hz, h⟩
/-- o.split(e) -/
theorem we_split (h : We X o σ H fun x H1 => ∃ a, x = .str a ∧ We X e σ H1 fun y H2 => ∃ b, y = .str b ∧ (b.length == 0) = false ∧ a.length ≤ 16000000 ∧ ∀ p H', H2 p = none → Kp [] H2 H' → H' p = some (.lst ((Txt.split a b).map V.str)) → Q (.ref p) H')
    (hs : starEach [e] X.env = [(false, eval e X.env)] := by rfl) (hbase : attributeBase o "split" X.env (eval o X.env) = eval o X.env := by rfl) (hline : (apos.endLine == pos.line) = true := by rfl) :
    We X (.Call (.Attribute o "split" apos) [e] [] pos) σ H Q :=
  we_of (pe_split We.pe We.pe hs hbase hline) (we_mono h fun _ _ ⟨a, e1, h1⟩ => ⟨⟨a, e1⟩, we_mono h1 fun _ _ ⟨b, e2, h2, h3, q⟩ => ⟨a, b, e1, by rw [e2], h2, by
    have : sizeLine = 16777216 := rfl
    omega, fun p n => q p _ n (.new n) upd_same⟩⟩)
/-- o.partition(e) -/
theorem we_partition (h : We X o σ H fun x H1 => ∃ a, x = .str a ∧ We X e σ H1 fun y H2 => ∃ b, y = .str b ∧ (b.length == 0) = false ∧ a.length ≤ 16000000 ∧ ∀ p H', H2 p = none → Kp [] H2 H' → H' p = some (.tup [.str (Txt.partition a b).1, .str (Txt.partition a b).2.1, .str (Txt.partition a b).2.2]) → Q (.ref p) H')
    (hs : starEach [e] X.env = [(false, eval e X.env)] := by rfl) (hbase : attributeBase o "partition" X.env (eval o X.env) = eval o X.env := by rfl) (hline : (apos.endLine == pos.line) = true := by rfl) :
    We X (.Call (.Attribute o "partition" apos) [e] [] pos) σ H Q :=
  we_of (pe_partition We.pe We.pe hs hbase hline) (we_mono h fun _ _ ⟨a, e1, h1⟩ => ⟨⟨a, e1⟩, we_mono h1 fun _ _ ⟨b, e2, h2, h3, q⟩ => ⟨a, b, e1, by rw [e2], h2, by
    have : sizeLine = 16777216 := rfl
    omega, fun p n => q p _ n (.new n) upd_same⟩⟩)
/-- o.join(e), e a list of texts -/
theorem we_join (h : We X o σ H fun x H1 => ∃ a, x = .str a ∧ We X e σ H1 fun y H2 => ∃ p ys, y = .ref p ∧ SqL X.K H2 p (ys.map V.str) ∧ (ys.map (·.length)).sum + ys.length * a.length ≤ 16777216 ∧ Q (.str (Txt.join a ys)) H2)
    (hs : starEach [e] X.env = [(false, eval e X.env)] := by rfl) (hbase : attributeBase o "join" X.env (eval o X.env) = eval o X.env := by rfl) (hline : (apos.endLine == pos.line) = true := by rfl) :
    We X (.Call (.Attribute o "join" apos) [e] [] pos) σ H Q :=
  we_of (pe_join We.pe We.pe hs hbase hline) (we_mono h fun _ _ ⟨a, e1, h1⟩ => ⟨⟨a, e1⟩, we_mono h1 fun _ _ ⟨p, ys, e2, h2, h3, q⟩ => ⟨a, p, ys, e1, by rw [e2], .inl h2, h3, q⟩⟩)
/-- o.upper() -/
theorem we_upper (h : We X o σ H fun x H1 => ∃ a, x = .str a ∧ a.length ≤ 5000000 ∧ Q (.str (Txt.upper a)) H1) (hbase : attributeBase o "upper" X.env (eval o X.env) = eval o X.env := by rfl) (hline : (apos.endLine == pos.line) = true := by rfl) :
    We X (.Call (.Attribute o "upper" apos) [] [] pos) σ H Q :=
  we_of (pe_upper We.pe hbase hline) (we_mono h fun _ _ ⟨a, e1, h1, q⟩ => ⟨⟨a, e1⟩, a, e1, rfl, by omega, q⟩)
/-- a for over a text -/
theorem ws_forS (h : We X it σ H fun v H1 => ∃ z : Str, v = .str z ∧ ∃ Pv : Nat → L2.St → Hp → Prop, Pv 0 σ H1 ∧
      (∀ (i : Nat) (c : Nat) σ' H', z.cps.toList[i]? = some c → Pv i σ' H' → Wg X tg (.str ⟨#[c]⟩) σ' H' (Body X body D Pv i)) ∧ ∀ σ' H', Pv z.cps.toList.length σ' H' → D.nx σ' H')
    (hp : PassesOwn (model X.prog X.w) X.A X.env X.xe) (hc : X.calm = true) (hs : ∀ x, foldedSetIterable it X.env x = pure x := by intro _; rfl) : Ws X (.For tg it body [] pos) D σ H :=
  ws_for (wit_of (pi_str We.pe) (we_mono h fun _ _ ⟨z, e1, Pv, h0, ht, hd⟩ => ⟨z, e1, z.cps.size, _, _, walk_str, Pv, h0, fun _ _ _ _ _ => trivial, fun i x σ' H' H'' hi hP hY => by
    obtain ⟨rfl, c, hc, rfl⟩ := hY
    exact ht i c σ' _ (by rw [Array.getElem?_toList]; exact hc) hP, fun σ' H' hP => hd σ' H' (by rw [Array.length_toList]; exact hP)⟩)) hp hc hs
/-- .. of a comprehension -/
theorem lc_S {scope : Scope} {vs : List Nat} {R : VK} (h : We X it σ H fun v H1 => ∃ z : Str, True ∧ v = .str z ∧ LcD X elt tg ifs scope vs σ R z.cps.size (fun _ => True) (fun i H v H' => H' = H ∧ ∃ c, z.cps[i]? = some c ∧ v = .str ⟨#[c]⟩) H1) : Wit X tg it σ H (LcW X elt tg ifs scope vs σ R) :=
  wit_of (pi_str We.pe) (we_mono h fun _ _ ⟨z, _, e1, h3⟩ => ⟨z, e1, lcd walk_str h3⟩)
/-- a global that holds a number, a text -/
def GKs (mg : Str → Option Value) (x : Str) (v : V) : Prop := ∃ u, mg x = some u ∧ RelV v u
theorem we_gkA {x : Str} {v : V} (g : GKs X.mg x v) (hg : Gl X x) (hd : (x == ("__debug__" : Str)) = false) (h : Q v H) : We X (.Name x pos) σ H Q := by
  obtain ⟨u, h1, h2⟩ := g
  exact we_glob hg h1 h2 h hd
end
section
variable {X : Cx} {elt tg : Expr} {scope : Scope} {vs : List Nat} {σ : L2.St} {R : VK} {q : Addr} {H : Hp} {α β : Type} {enc : α → V} {enc2 : β → V}
/-- [elt for x in xs], values of any kind; what is made tells more than its place -/
theorem lcd_mapW {xs : List α} (g : α → β) (hS : SqL X.K H q (xs.map enc)) (hl : xs.length ≤ 90000)
    (he : ∀ x ∈ xs, ∀ H1, Kp [] H H1 → Bl X scope fun Z => Wg Z tg (enc x) (wipe σ vs) H1 fun σ2 H2 => wipe σ2 vs = wipe σ vs ∧ Bl X scope fun Z => We Z elt σ2 H2 fun y H3 => y = enc2 (g x) ∧ Kp [] H1 H3)
    (hd : ∀ Dl H', H Dl = none → Kp [] H H' → H' Dl = some (.lst ((xs.map g).map enc2)) → R (.ref Dl) H') :
    LcD X elt tg [] scope vs σ R (xs.map enc).length (fun H => SqL X.K H q (xs.map enc)) (YAt (xs.map enc)) H := by
  intro Dl H1 nD kD hD
  refine ⟨fun i H' => Kp [] H H' ∧ H' Dl = some (.lst (((xs.take i).map g).map enc2)), ⟨kD, hD⟩, fun i H' _ h => Kp.sqK hS h.1, ?_, fun H2 ⟨k2, hD2⟩ => hd Dl H2 nD k2 (by rw [List.length_map, List.take_length] at hD2; exact hD2)⟩
  rintro i x H2 H3 hi ⟨k2, hD2⟩ ⟨rfl, hx⟩
  rw [List.getElem?_map] at hx
  obtain ⟨v, hv, rfl⟩ := Option.map_eq_some_iff.mp hx
  intro s0 H0 C cl fp
  refine wg_mono (he v (List.mem_of_getElem? hv) _ k2 s0 H0 C cl fp) fun σ2 H4 ⟨e1, h2⟩ => ⟨e1, fun s0 H0 C cl fp => wts_nil (iteT fun s0 H0 C cl fp => we_mono (h2 s0 H0 C cl fp) fun y H5 ⟨ey, k5⟩ => ?_)⟩
  subst ey
  have et : ((xs.take (i + 1)).map g).map enc2 = ((xs.take i).map g).map enc2 ++ [enc2 (g v)] := by rw [List.take_succ, hv, List.map_append, List.map_append]; rfl
  exact appV (k5.g0 hD2) (by rw [List.length_map, List.length_map, List.length_take]; omega) fun H6 k6 hD6 => ⟨(k2.tr0 k5).trN k6 nD, by rw [hD6, et]⟩
end
section
variable {X : Cx} {σ : L2.St} {H : Hp} {R : VK} {elt tg : Expr} {scope : Scope} {vs : List Nat}
/-- [.. for i in range(n)], where what is made may change what is there -/
theorem lcd_rangeH {n : Nat} {lo : Int} (I : Addr → Nat → List V → Hp → Prop) (hl : n ≤ 99999)
    (h0 : ∀ Dl H', H Dl = none → Kp [] H H' → H' Dl = some (.lst []) → I Dl 0 [] H')
    (he : ∀ Dl i us, i < n → ∀ H1, H1 Dl = some (.lst us) → I Dl i us H1 → Bl X scope fun Z => Wg Z tg (.int (lo + (i : Int))) (wipe σ vs) H1 fun σ2 H2 => wipe σ2 vs = wipe σ vs ∧ Bl X scope fun Z => We Z elt σ2 H2 fun y H3 => H3 Dl = some (.lst us) ∧ ∀ H4, Kp [Dl] H3 H4 → H4 Dl = some (.lst (us ++ [y])) → I Dl (i + 1) (us ++ [y]) H4)
    (hd : ∀ Dl us H', H' Dl = some (.lst us) → us.length = n → I Dl n us H' → R (.ref Dl) H') :
    LcD X elt tg [] scope vs σ R n (fun _ => True) (YFn fun i => .int (lo + (i : Int))) H := by
  intro Dl H1 nD kD hD
  refine ⟨fun i H' => ∃ us, us.length = i ∧ H' Dl = some (.lst us) ∧ I Dl i us H', ⟨[], rfl, hD, h0 Dl H1 nD kD hD⟩, fun _ _ _ _ => trivial, ?_, ?_⟩
  · rintro i x H2 H3 hi ⟨us, hu, hD2, hI⟩ ⟨rfl, rfl⟩
    intro s0 H0 C cl fp
    refine wg_mono (he Dl i us hi _ hD2 hI s0 H0 C cl fp) fun σ2 H4 ⟨e1, h2⟩ => ⟨e1, fun s0 H0 C cl fp => ?_⟩
    refine wts_nil (iteT fun s0 H0 C cl fp => we_mono (h2 s0 H0 C cl fp) fun y H5 ⟨e5, h5⟩ => ?_)
    exact ⟨us, e5, by omega, fun H6 k6 hD6 => ⟨us ++ [y], by rw [List.length_append, hu]; rfl, hD6, h5 H6 k6 hD6⟩⟩
  · rintro H2 ⟨us, hu, hD2, hI⟩
    exact hd Dl us H2 hD2 hu hI
end
/-! ### a deck: a cell, a way, a count -/
def Dk (H : Hp) (p : Addr) (k : Int) : Prop := ∃ x f j : Int, H p = some (.lst [.int x, .int f, .int j]) ∧ 0 ≤ j ∧ j ≤ k
theorem Dk.kX {M : List Addr} {H H' : Hp} {p : Addr} {k : Int} (kk : Kp M H H') (h : Dk H p k) (n : p ∉ M) : Dk H' p k := by
  obtain ⟨x, f, j, h1, h2⟩ := h
  exact ⟨x, f, j, kk.gM n h1, h2⟩
theorem Dk.mono {H : Hp} {p : Addr} {k m : Int} (h : Dk H p k) (hm : k ≤ m) : Dk H p m := by
  obtain ⟨x, f, j, h1, h2⟩ := h
  exact ⟨x, f, j, h1, by omega⟩
theorem Dk.th {H : Hp} {p : Addr} {k : Int} (h : Dk H p k) : Th H p := let ⟨_, _, _, h1, _⟩ := h; ⟨_, h1⟩
end SL

/-! a list comprehension whose element calls a def that may raise -/
namespace SL
open PySem PySem.Spec PyProof.Rows L2
/-- what a call let out, in the air of a block -/
def XF (Z : Cx) (W : XK) (u : Value) (s' : Shared) : Prop :=
  ∃ (a : Addr) (B : Heap) (t : Shared) (ps : List (Addr × Obj)) (σ : L2.St) (H : Hp) (c : Value) (d : Option Addr),
    u = .ref a ∧ Inv Z ps σ H t ∧ (∀ b o, t.heap.get? b = some o → b ∉ frs Z.stack → B.get? b = some o) ∧ t.heap.UpToSlots s'.heap ∧
      HandSPX.FlyingZ B Z.stack a (Zc c d) s'.heap ∧ H a = none ∧ s'.os = t.os ∧ AllBare s'.gens ∧ W c d H
/-- the block's context, with this wish -/
abbrev blkX (X : Cx) (W : XK) (s : Shared) (H : Hp) (scope : Scope) (ce : Env) (fp : List Addr) : Cx := (X.blk s H scope ce fp).wish (XF (X.blk s H scope ce fp) W)
def BlX (X : Cx) (W : XK) (scope : Scope) (F : Cx → Prop) : Prop := ∀ (s : Shared) (H : Hp) (C : Addr) (cl : List (Str × Addr)) (fp : List Addr), F (blkX X W s H scope (compEnvC scope cl C X.env) fp)
section
variable {X : Cx} {ps : List (Addr × Obj)} {σ : L2.St} {H : Hp} {s s' : Shared} {W E : XK}
theorem XF.made (I : Inv X ps σ H s) (hW : ∀ c d H', E c d H' → W c d H') {u : Value} (k : L2.CX X.prog X.w X.stack H s E u s') : XF X W u s' := by
  have x := XE.of_call (W := fun c d _ H => W c d H) I hW k
  obtain ⟨a, B0, H0, c0, d0, rfl, fl0, _⟩ := k
  obtain ⟨a', B, t, p2, σ2, H2, c, d, e, I2, nb, up, sky, r⟩ := x
  cases e
  refine ⟨a, B, t, p2, σ2, H2, c, d, rfl, I2, nb, up, ?_, r⟩
  rcases sky with ⟨_, _, _, oe, vs, h1, _, h2, h3⟩ | fl | ⟨_, _, _, oe, vs, T, oT, ts, h1, _, h2, h3, _, _, h4, h5, h6⟩
  · obtain ⟨_, _, _, oe', vs', T, oT, ts, g1, _, g2, g3, _⟩ := fl0
    rw [h1] at g1; cases g1
    rw [h2] at g2; cases g2
    rw [h3] at g3; cases g3
  · exact fl
  · obtain ⟨_, _, _, oe', vs', T', oT', ts', g1, _, g2, g3, _, _, g4, g5, g6⟩ := fl0
    rw [h1] at g1; cases g1
    rw [h2] at g2; cases g2
    rw [h3] at g3; cases g3
    rw [h4] at g4; cases g4
    rw [h5] at g5; cases g5
    rw [h6] at g6
    cases g6
end
/-! ### calls there -/
def TkF (X : Cx) (W : XK) : Prop := ∀ u s', XF X W u s' → X.xe u s'
theorem tkF_blk {X : Cx} {W : XK} {s : Shared} {H : Hp} {scope : Scope} {ce : Env} {fp : List Addr} : TkF (blkX X W s H scope ce fp) W := fun u s' ⟨a, B, t, ps, σ, H, c, d, e, I, r⟩ => ⟨a, B, t, ps, σ, H, c, d, e, I.unwish, r⟩
section
variable {X : Cx} {σ : L2.St} {H : Hp} {Q : VK} {W : XK} {e : Expr} {es : List Expr} {p pos : Pos} {x : Str} {k j : Nat} {sp : Sp}
theorem run_fnF {pins : List (Addr × Obj)} {s : Shared} {us : List Value} {vs : List V} {f : Addr} {fd : FuncData} {qs : List Str} (F : FnG X.prog X.w X.K X.mg X.base (L2.CX X.prog X.w) k f fd qs sp) (hr : Room k X.A) (hgd : X.A.guards = some []) (b : Binds X.K fd qs []) (tk : TkF X W)
    (I : Inv X pins σ H s) (r : Vals vs us) (h : sp vs H Q W) : wpAny (model X.prog X.w) X.A (call (.ref f) us) (EP X pins σ Q) X.xe s := by
  have hl : us.length = qs.length := r.length.symm.trans (F.len _ _ _ _ h)
  have hb := b s us I.kIn (by rw [List.append_nil]; exact hl)
  rw [List.append_nil] at hb
  refine wpAny_call (codeAny_mono (F.run X.A X.stack s H ⟨us, []⟩ us vs Q _ hr hgd I.env0 hb r h) fun g s' hq => ?_)
  cases g with
  | error e => exact tk e s' (XF.made I (fun _ _ _ z => z) hq)
  | ok fl => cases fl with
    | ret u => exact I.after hq
    | next => exact hq.elim
    | brk => exact hq.elim
    | cont => exact hq.elim
/-- f(e, ..) in a block, f may raise -/
theorem we_callF (D : DfX X.prog X.w X.K X.mg X.base k x sp) (hr : Room j X.A) (hk : k ≤ j) (hgd : X.A.guards = some []) (hg : Gl X x) (tk : TkF X W) (h : Wa X (e :: es) σ H fun vs H1 => sp vs H1 Q W) (hdb : (x == ("__debug__" : Str)) = false := by decide)
    (he : starEach (e :: es) X.env = (false, eval e X.env) :: starEach es X.env := by rfl) (hpl : (backTo pos (starEach es X.env)).any (·.1) = false := by rfl) : We X (.Call (.Name x p) (e :: es) [] pos) σ H Q := by
  obtain ⟨f, fd, qs, F, g, kp, b⟩ := D.ex
  refine ⟨fun pins s I => ?_⟩
  exact wpAny_Call_Name_kw (ld_glob I hg g (PySem.W.callWith_K (h₀ := X.base) I.ok.mod.kin kp (thn (h.run pos pins s I) fun us s1 ⟨vs, H1, I1, r, q⟩ => ⟨I1.kIn, run_fnF F (hr.mono hk) hgd b tk I1 r q⟩) he hpl) hdb)
end
/-! ### the way out of the block -/
section
variable {X : Cx} {pins : List (Addr × Obj)} {σ : L2.St} {H3 : Hp} {s3 s' : Shared} {W : XK} {scope : Scope} {ce : Env} {fp : List Addr} {u : Value} {Qf : Value → Shared → Prop} {acc : Value}
theorem XF.out (I3 : Inv X pins σ H3 s3) (tk : Takes X (fun c d _ H => W c d H)) (st1 : X.stack = X.env :: X.outer) (fr1 : X.env.frame = some X.env.locals) (cL : ce.locals = s3.heap.objs.size) (cF : ce.frame = X.env.frame)
    (f3 : ∀ b ∈ fp, FpOk X pins H3 b ∧ b < s3.heap.objs.size) (x : XF (X.blk s3 H3 scope ce fp) W u s') :
    notedBy (model X.prog X.w) X.A ce (fun e s' => compEnds (model X.prog X.w) X.A X.xe none Qf acc ce (.error e) s') u s' := by
  obtain ⟨a, B, t, p2, σ2, H2, c, d, rfl, It, nb, up, fl, na, os, ag, w⟩ := x
  have nb : ∀ b o, t.heap.get? b = some o → b ∉ frs X.stack → B.get? b = some o := nb
  have fl : HandSPX.FlyingZ B X.stack a (Zc c d) s'.heap := fl
  have hfr : X.A.frames = some (X.env :: X.outer) := by rw [I3.ok.frames, st1]
  show wpAny _ X.A (noteFrame (.ref a) ce) _ _ s'
  rw [PySem.noteFrame_env (.ref a) cF]
  rw [st1] at fl
  refine HandSPX.looks_onZ Zc.steady hfr fr1 fl fun h1 hd1 up1 => ?_
  obtain ⟨m, hn, _⟩ := It.loc
  have hn : t.heap.Ns ce.locals m := hn
  have nC2 : H2 ce.locals = none := It.free
  have hn1 : h1.Ns ce.locals m := Heap.Ns.upToSlots hn fun b o e z => (up.trans up1) b o e z
  refine ⟨m, hn1, fun h2 m2 hn2 sb2 => ?_⟩
  generalize hC : ce.locals = C at *
  obtain ⟨oC, esC, epC, hoC, hdC, _⟩ := id hn1
  have notC : ∀ b ob (vs : Array Value), h1.get? b = some ob → ob.data = .fields vs → b ≠ C := fun b ob vs e1 e2 z => by
    rw [z, hoC] at e1
    cases e1
    rw [hdC] at e2
    cases e2
  obtain ⟨q1, q2, q3, oe, vs, T, oT, ts, r1, r2, r3, r4, r5, r6, r7, r8, r9⟩ := hd1
  have e1 : h2.get? a = some oe := (sb2.2 a (notC a oe vs r1 r3)).trans r1
  have eT : h2.get? T = some oT := (sb2.2 T (notC T oT ts r7 r8)).trans r7
  have hB : ∀ b o, (PySem.W.hideAll B [C]).get? b = some o → B.get? b = some o ∧ b ≠ C := fun b o e => ⟨PySem.W.of_hideAll _ e, fun z => by
    rw [PySem.W.hideAll_none [C] (by rw [z]; exact List.mem_singleton.mpr rfl)] at e
    cases e⟩
  have hBn : ∀ b, B.get? b = none → (PySem.W.hideAll B [C]).get? b = none := fun b e => by
    cases z : (PySem.W.hideAll B [C]).get? b with
    | none => rfl
    | some o => rw [(hB b o z).1] at e; cases e
  have stays : (PySem.W.hideAll B [C]).StaysIn h2 := fun b o e => (sb2.2 b (hB b o e).2).trans (q1 b o (hB b o e).1)
  have funs : h2.FunFrames (PySem.W.hideAll B [C]) (X.env :: X.outer) := funFrames_none (Heap.FunFrames.sameBut sb2 hn2 q3) fun L hL => hBn L (q3.mem hL).1
  unfold PySem.passOn
  refine wpAny_bind (wpAny_field e1 r3 r4 ?_)
  rw [if_neg (by simp : ¬ ((Value.ref T == Value.none) = true))]
  refine wpAny_bind (HandSPX.setFlight_anyZ (Z := Zc c d) (base := PySem.W.hideAll B [C]) stays funs ⟨oe, vs, T, oT, ts, e1, r2, r3, r4, hBn T r5, r6, eT, r8, r9⟩ fun h4 k1 k2 k3 k4 => ?_)
  refine wpAny_throw (tk _ _ ?_)
  have tC : ∀ b o, (PySem.W.hideAll t.heap [C]).get? b = some o → t.heap.get? b = some o ∧ b ≠ C := fun b o e => ⟨PySem.W.of_hideAll _ e, fun z => by
    rw [PySem.W.hideAll_none [C] (by rw [z]; exact List.mem_singleton.mpr rfl)] at e
    cases e⟩
  have old : ∀ b o, s3.heap.get? b = some o → b ∉ [C] := fun b o e z => by
    have h := Heap.lt_size e
    rw [List.mem_singleton.mp z, cL] at h
    exact Nat.lt_irrefl _ h
  have bs := It.base
  refine ⟨a, PySem.W.hideAll B [C], { t with heap := PySem.W.hideAll t.heap [C] }, pins, σ, H2, c, d, rfl, ?_, ?_, ?_, .inr (.inr ?_), na, os, ag, w⟩
  · refine I3.call' (s' := { t with heap := PySem.W.hideAll t.heap [C] }) (ch := fp) It.os ⟨fun b o e n hb hx => PySem.W.hideAll_get _ (bs.keep b o e n hb hx) (old b o e), fun b o e n hb hx => ?_, bs.free, fun b o e hx => ?_, bs.tups, bs.frzs, bs.tbls⟩ (fun b o e => (It.hok b o e).stay (fun c' u' hc r => PySem.W.hideAll_get _ r fun hm => ?_) (fun _ r => r) fun _ _ r => r) It.bare fun b hb => ?_
    · obtain ⟨sl, z⟩ := bs.slot b o e n hb hx
      exact ⟨sl, PySem.W.hideAll_get _ z (old b o e)⟩
    · obtain ⟨o', z⟩ := bs.there b o e hx
      exact ⟨o', PySem.W.hideAll_get _ z (old b o e)⟩
    · rw [List.mem_singleton.mp hm] at hc
      rcases hc with hc | hc
      · rw [← hc, nC2] at e; cases e
      · rw [nC2] at hc; cases hc
    · obtain ⟨⟨_, g1, _, g2, g3, g4⟩, _⟩ := f3 b hb
      exact ⟨g2, g1, g3, g4⟩
  · intro b o e hb
    exact PySem.W.hideAll_get _ (nb b o (tC b o e).1 hb) fun z => (tC b o e).2 (List.mem_singleton.mp z)
  · intro b o e hnf
    obtain ⟨sl, z⟩ := (up.trans up1) b o (tC b o e).1 hnf
    have z2 : h2.get? b = some { o with slots := sl } := (sb2.2 b (tC b o e).2).trans z
    obtain ⟨sl2, z3⟩ := k4 b { o with slots := sl } z2 hnf
    exact ⟨sl2, z3⟩
  · rw [cF, fr1] at k3
    rw [st1]
    exact ⟨k1, hBn a q2, k2, k3⟩
end
/-! ### the comprehension -/
section
variable {X : Cx} {W : XK}
theorem lcx_core {pins : List (Addr × Obj)} {s : Shared} {σ : L2.St} {H : Hp} {Q : VK} {elt tg it : Expr} {scope : Scope} {own : List (Str × Nat)} {pos pos' : Pos} {wi : TI} {g : TG} {te : TE}
    (hc : X.calm = true) (hN : X.N.Nodup) (I : Inv X pins σ H s) (hi : PI X tg it wi) (bo : BlkOk X.N X.env.scope scope own) (tk : Takes X (fun c d _ H => W c d H)) (st1 : X.stack = X.env :: X.outer) (fr1 : X.env.frame = some X.env.locals)
    (hg : ∀ (s : Shared) (H : Hp) (C : Addr) (cl : List (Str × Addr)) (fq : List Addr), PG (X.blk s H scope (compEnvC scope cl C X.env) fq) tg g)
    (he : ∀ (s : Shared) (H : Hp) (C : Addr) (cl : List (Str × Addr)) (fq : List Addr), PE (blkX X W s H scope (compEnvC scope cl C X.env) fq) elt te) (hs : ∀ x, foldedSetIterable it X.env x = pure x)
    (h : tLc wi g tYes te (own.map (·.2)) σ H Q) :
    wpAny (model X.prog X.w) X.A (comprehension (.ListComp elt [⟨tg, it, [], 0⟩] scope pos) scope X.env pos' (newList []) false (eval it X.env) none) (EP X pins σ Q) X.xe s := by
  have cap : ∀ y ∈ scope.names, y.2 = .free → ∃ c, X.env.cells.lookup y.1 = some c := fun y hy e => (bo.free y hy e).elim (fun k => I.ok.has _ (.inl k)) (fun k => I.ok.has _ (.inr k))
  refine comprehension_at (use := none) rfl hs (closure_ok cap) bo.kind (fun y hy e => (bo.uniq y hy).trans (by rw [e])) (thn (hi.run pins s σ H _ I h) fun xv s1 hx => thn hx fun itv v2 h2 => ?_)
  obtain ⟨ip, fq, tn, J, G2, rfl, I2, T, t2, f2, q⟩ := h2
  refine wpAny_newObj_type (newEnv_comp ?_) (Nat.zero_le _)
  generalize hL0 : v2.heap.objs.size = L0
  obtain ⟨Wf, ⟨m0, w0⟩, turn⟩ := q L0 (I2.hok.fresh (Nat.le_of_eq hL0))
  generalize e3 : ({ v2 with heap := v2.heap.push { cls := .type "list", data := .seq ([] : List Value).toArray } } : Shared) = v3
  have J3 : Inv X pins σ (upd G2 L0 (.lst [])) v3 := by
    subst e3
    refine I2.laid (t' := v2.toks) (fun b o e => Heap.get?_push_of_some _ e) (Nat.le_of_eq hL0) ⟨Nat.zero_le _, [], 0, .nil, ?_⟩
    rw [← hL0]
    exact Heap.get?_push_size v2.heap rfl
  have hp3 : v3.heap = v2.heap.push { cls := .type "list", data := .seq ([] : List Value).toArray } := by subst e3; rfl
  have f3 : ∀ b ∈ fq, FpOk X pins (upd G2 L0 (.lst [])) b ∧ b < v3.heap.objs.size := fun b hb => by
    obtain ⟨o, e, _⟩ := T.obj _ _ t2 b hb
    have lt := Heap.lt_size e
    refine ⟨⟨?_, (f2 b hb).2⟩, by rw [hp3, Heap.size_push]; exact Nat.lt_succ_of_lt lt⟩
    rw [upd_ne (fun z => Nat.lt_irrefl _ (by rw [z, ← hL0] at lt; exact lt))]
    exact (f2 b hb).1
  have t3 : tn 0 v3.heap := T.keep _ _ _ t2 fun b _ o e => by rw [hp3]; exact Heap.get?_push_of_some _ e
  have I4 := block_start J3 bo hN f3
  have pg := hg v3 (upd G2 L0 (.lst [])) v3.heap.objs.size (cellsFrom (v3.heap.objs.size + 1) scope.names (cloFrom X.env.cells scope.names [])) fq
  have pe := he v3 (upd G2 L0 (.lst [])) v3.heap.objs.size (cellsFrom (v3.heap.objs.size + 1) scope.names (cloFrom X.env.cells scope.names [])) fq
  have nfp : ∀ b ∈ fq, (upd G2 L0 (.lst [])) b = none := fun b hb => (f3 b hb).1.1
  show codeAny _ _ (.compStart (.ListComp elt [⟨tg, it, [], 0⟩] scope pos) 0 (.ref ip) (.ref L0) (compEnvC scope (cellsFrom (v3.heap.objs.size + 1) scope.names (cloFrom X.env.cells scope.names [])) v3.heap.objs.size X.env)) (compEnds _ _ X.xe none (EP X pins σ Q) (.ref L0) (compEnvC scope (cellsFrom (v3.heap.objs.size + 1) scope.names (cloFrom X.env.cells scope.names [])) v3.heap.objs.size X.env)) { v3 with heap := pushCells (v3.heap.push { cls := .type "dict", data := .dict #[] }) scope.names }
  generalize hcz : compEnvC scope (cellsFrom (v3.heap.objs.size + 1) scope.names (cloFrom X.env.cells scope.names [])) v3.heap.objs.size X.env = cz at I4 pg pe ⊢
  have cL : cz.locals = v3.heap.objs.size := by subst hcz; rfl
  have cF : cz.frame = X.env.frame := by subst hcz; rfl
  generalize hG3 : upd G2 L0 (.lst []) = G3 at J3 I4 pg pe w0 nfp f3
  generalize e4 : ({ v3 with heap := pushCells (v3.heap.push { cls := .type "dict", data := .dict #[] }) scope.names } : Shared) = v4 at I4 ⊢
  have t4 : tn 0 v4.heap := T.keep _ _ _ t3 fun b _ o e => by rw [← e4]; exact pushCells_keeps _ _ _ _ (Heap.get?_push_of_some _ e)
  have stat : ∀ {τ : L2.St} {K' : Hp} {s' : Shared}, Inv (X.blk v3 G3 scope cz fq) [] τ K' s' → (∀ b ∈ fq, K' b = none) → ∀ b ∈ fq, FpOk (X.blk v3 G3 scope cz fq) [] K' b := fun {τ K' s'} J hn b hb =>
    ⟨hn b hb, (J.ok.exf b hb).1, J.ok.exfs b hb, .inl hb, fun y c e => (J.ok.exf b hb).2 y c e, fun z hz => absurd (show z ∈ ([] : List (Addr × Obj)) ++ [] from hz) List.not_mem_nil⟩
  have lp : codeAny (model X.prog X.w) X.A (.compLoop (.ListComp elt [⟨tg, it, [], 0⟩] scope pos) 0 (.ref ip) (.ref L0) cz) (compEnds (model X.prog X.w) X.A X.xe none (EP X pins σ Q) (.ref L0) cz) v4 := by
    refine compLoop_any (fun n s' => ∃ i K', Inv (X.blk v3 G3 scope cz fq) [] (wipe σ (own.map (·.2))) K' s' ∧ tn i s'.heap ∧ (∀ b ∈ fq, K' b = none) ∧ Wf i n K') ?_ m0 ⟨0, G3, I4, t4, nfp, w0⟩
    rintro n s5 ⟨i, K5, J5, t5, n5, w5⟩
    rcases turn i n K5 w5 with ⟨stop, qq⟩ | ⟨go, Nx, hNx, step⟩
    · refine thnF (T.done (X.blk v3 G3 scope cz fq) rfl rfl rfl hc i [] s5 _ K5 (fun _ _ => False) J5 (stat J5 n5) t5 stop) fun r s6 ⟨hr, J6⟩ => ?_
      subst hr
      have J7 : Inv X pins σ K5 s6 := J3.call' (ch := fq) J6.os J6.base J6.hok J6.bare fun b hb => by
        obtain ⟨⟨_, g1, _, g2, g3, g4⟩, _⟩ := f3 b hb
        exact ⟨g2, g1, g3, g4⟩
      have nC : K5 v3.heap.objs.size = none := by
        rw [← cL]
        exact J6.free
      obtain ⟨m, hn, _⟩ := J6.loc
      refine ⟨m, hn, fun h' sb => ?_⟩
      obtain ⟨d0, d1, d2, d3, d4, d5⟩ := J3.fpOk (Nat.le_refl _) nC
      rw [cL] at sb
      exact ⟨.ref L0, K5, J7.turned (t' := s6.toks) (fun b o hb e => (sb.2 b hb).trans e) d0 d1 d3 d4 d5, rfl, qq⟩
    · refine thnF (T.item (X.blk v3 G3 scope cz fq) rfl rfl rfl hc i [] s5 _ K5 (fun _ _ => False) J5 (stat J5 n5) t5 go) fun r s6 ⟨u, hr, h6⟩ => ?_
      subst hr
      refine thnF h6 fun _ s7 ⟨x, K7, J7, r7, y7, t7, n7⟩ => ?_
      have J7' := J7.pinned (stat J7 n7) (T.obj _ _ t7)
      refine thnF (pg.run _ s7 _ K7 x u _ J7' r7 (step x K7 y7)) fun _ s8 ⟨τ8, K8, J8, hv8, q8⟩ => ?_
      refine wpAny_tests_nil ?_
      have turned : ∀ {s' : Shared} {K' : Hp}, Inv (X.blk v3 G3 scope cz fq) ([] ++ pinsAt fq s7.heap) τ8 K' s' → Nx K' → ∃ m, m < n ∧ ∃ i K', Inv (X.blk v3 G3 scope cz fq) [] (wipe σ (own.map (·.2))) K' s' ∧ tn i s'.heap ∧ (∀ b ∈ fq, K' b = none) ∧ Wf i m K' := fun {s' K'} J nx => by
        obtain ⟨m', hm, w'⟩ := hNx K' nx
        have pinned : ∀ b ∈ fq, ∀ o, s7.heap.get? b = some o → s'.heap.get? b = some o ∧ K' b = none := fun b hb o e => by
          obtain ⟨z1, z2, _⟩ := J.pin (b, o) (List.mem_append_right _ (List.mem_append_right _ (mem_pinsAt hb e)))
          exact ⟨z1, z2⟩
        have hl : (wipe σ (own.map (·.2))).length = τ8.length := by rw [← hv8, wipe_length]
        refine ⟨m', hm, i + 1, K', (J.unpinned (pins := [])).weak hl (fun j v e => ?_), T.keep _ _ _ t7 fun b hb o e => (pinned b hb o e).1, fun b hb => ?_, w'⟩
        · rw [← hv8] at e
          exact (wipe_some e).1
        · obtain ⟨o, e, _⟩ := T.obj _ _ t7 b hb
          exact (pinned b hb o e).2
      rw [if_pos rfl]
      have q9 := q8
      simp only [tYes, if_true] at q9
      refine wpAny_mono (pe.run _ s8 τ8 K8 _ (J8.wish _) q9) (fun z s10 ⟨yv, K10, J10, r10, as, hL10, hz10, nx⟩ => ?_) fun e s' xf => XF.out (acc := .ref L0) J3 tk st1 fr1 cL cF f3 xf
      exact app_ok (X := X.blk v3 G3 scope cz fq) J10.unwish hL10 hz10 r10 fun s11 J11 => turned J11 nx
  exact codeAny_compStart_list lp (T.self X.A 0 _ _ _ t4 lp)
end
/-! ### in the calculus -/
section
variable {X : Cx} {σ : L2.St} {H : Hp} {Q : VK} {W : XK} {elt tg it : Expr} {pos : Pos}
def LcWX (X : Cx) (W : XK) (elt tg : Expr) (scope : Scope) (vs : List Nat) (σ : L2.St) (Q : VK) (J : It) (H1 : Hp) : Prop := ∀ Dl, H1 Dl = none → ∃ (n : Nat) (G : Hp → Prop) (Y : Nat → Hp → V → Hp → Prop), Walk J n G Y ∧ ∃ Pv : Nat → Hp → Prop, Pv 0 (upd H1 Dl (.lst [])) ∧ (∀ i H', i ≤ n → Pv i H' → G H') ∧
  (∀ i x H' H'', i < n → Pv i H' → Y i H' x H'' → Bl X scope fun Z => Wg Z tg x (wipe σ vs) H'' fun σ2 H2 => wipe σ2 vs = wipe σ vs ∧ tYes σ2 H2 fun k H3 =>
    if k = true then BlX X W scope fun Z => We Z elt σ2 H3 fun y H4 => ∃ acc, H4 Dl = some (.lst acc) ∧ acc.length < sizeLine ∧ Pv (i + 1) (upd H4 Dl (.lst (acc ++ [y]))) else Pv (i + 1) H3) ∧ ∀ H', Pv n H' → Q (.ref Dl) H'
theorem we_lcX {scope : Scope} {own : List (Str × Nat)} (hc : X.calm = true) (hN : X.N.Nodup) (ok : BlkOk X.N X.env.scope scope own) (tk : Takes X (fun c d _ H => W c d H)) (st1 : X.stack = X.env :: X.outer) (fr1 : X.env.frame = some X.env.locals)
    (h : Wit X tg it σ H (LcWX X W elt tg scope (own.map (·.2)) σ Q)) (hs : ∀ x, foldedSetIterable it X.env x = pure x := by intro _; rfl) : We X (.ListComp elt [⟨tg, it, [], 0⟩] scope pos) σ H Q := by
  refine ⟨fun pins s I => ?_⟩
  rw [eval_ListComp]
  refine lcx_core (W := W) (g := fun v σ H Q => Bl X scope fun Z => Wg Z tg v σ H Q) (te := fun σ H Q => BlX X W scope fun Z => We Z elt σ H Q) hc hN I Wit.pi ok tk st1 fr1 ?_ ?_ hs ?_
  · exact fun s H C cl fq => ⟨fun pins s' σ H' v u Q I r h => (h s H C cl fq).run pins s' u I r⟩
  · exact fun s H C cl fq => ⟨fun pins s' σ H' Q I h => (h s H C cl fq).run pins s' I⟩
  · refine ⟨fun pins s I => thn (h.run pins s I) fun v s1 hv => thn hv fun itv s2 ⟨it, fq, tn, J, H', e1, I', T, t0, f0, q⟩ => ⟨it, fq, tn, J, H', e1, I', T, t0, f0, fun Dl nD => ?_⟩⟩
    obtain ⟨n, G, Y, wk, Pv, h0, hG, hs, hd⟩ := q Dl nD
    exact lc_it (g := fun v σ H Q => Bl X scope fun Z => Wg Z tg v σ H Q) (tt := tYes) (te := fun σ H Q => BlX X W scope fun Z => We Z elt σ H Q) wk Pv h0 hG hs hd
/-- over a list whose items tell what is made, or that nothing is -/
theorem lcx_L {scope : Scope} {vs : List Nat} {R : VK} {α β : Type} {enc : α → V} {enc2 : β → V} (g : α → Option β)
    (h : We X it σ H fun v H1 => ∃ (q : Addr) (xs : List α), v = .ref q ∧ SqL X.K H1 q (xs.map enc) ∧ xs.length ≤ 90000 ∧
      (∀ x ∈ xs, ∀ H2, Kp [] H1 H2 → Bl X scope fun Z => Wg Z tg (enc x) (wipe σ vs) H2 fun σ2 H3 => wipe σ2 vs = wipe σ vs ∧ BlX X W scope fun Z => We Z elt σ2 H3 fun y H4 => (∃ b, g x = some b ∧ y = enc2 b) ∧ Kp [] H2 H4) ∧
      ∀ Dl H' (bs : List β), H1 Dl = none → Kp [] H1 H' → xs.map g = bs.map some → H' Dl = some (.lst (bs.map enc2)) → R (.ref Dl) H') : Wit X tg it σ H (LcWX X W elt tg scope vs σ R) :=
  wit_list (we_mono h fun _ H1 ⟨q, xs, e1, hS, hl, he, hd⟩ => ⟨q, e1, ⟨_, hS⟩, fun Dl nD => by
    refine ⟨_, _, _, walk_list (xs := xs.map enc), fun i H' => Kp [] H1 H' ∧ ∃ bs : List β, (xs.take i).map g = bs.map some ∧ H' Dl = some (.lst (bs.map enc2)), ⟨.new nD, [], rfl, upd_same⟩, fun i H' _ h => Kp.sqK hS h.1, ?_, ?_⟩
    · rintro i x H2 H3 hi ⟨k2, bs, hb, hD⟩ ⟨rfl, hx⟩
      rw [List.getElem?_map] at hx
      obtain ⟨v, hv, rfl⟩ := Option.map_eq_some_iff.mp hx
      intro s0 H0 C cl fq
      refine wg_mono (he v (List.mem_of_getElem? hv) _ k2 s0 H0 C cl fq) fun σ2 H4 ⟨e2, h2⟩ => ⟨e2, ?_⟩
      unfold tYes
      refine iteT fun s0 H0 C cl fq => we_mono (h2 s0 H0 C cl fq) fun y H5 ⟨⟨b, hg, ey⟩, k5⟩ => ?_
      subst ey
      have hlen : bs.length ≤ 90000 := by
        have := congrArg List.length hb
        rw [List.length_map, List.length_map, List.length_take] at this
        omega
      have hD5 := k5.g0 hD
      refine ⟨_, hD5, by
        rw [List.length_map]
        exact Nat.lt_of_le_of_lt hlen (by decide), (k2.tr0 k5).trN (.put hD5) nD, bs ++ [b], ?_, by rw [upd_same, List.map_append]; rfl⟩
      rw [List.take_succ, hv, List.map_append, List.map_append, hb]
      show bs.map some ++ [g v] = bs.map some ++ [some b]
      rw [hg]
    · rintro H2 ⟨k2, bs, hb, hD⟩
      rw [List.length_map, List.take_length] at hb
      exact hd Dl H2 bs nD k2 hb hD⟩)
end
/-! ### texts repeated, all, None among numbers and None -/
section
variable {X : Cx} {H : Hp} {Q : VK} {z : Str} {n : Int} {p a : Addr} {bs : List Bool} {os : List (Option Int)}
theorem reps_len (x : Array Nat) : ∀ (m : Nat) (acc : Array Nat), ((List.replicate m x).foldl (· ++ ·) acc).size = acc.size + m * x.size
  | 0, acc => by rw [Nat.zero_mul]; rfl
  | m + 1, acc => by
    rw [List.replicate_succ, List.foldl_cons, reps_len x m, Array.size_append, Nat.succ_mul]
    omega
theorem mul_len (h1 : 1 ≤ n) : (Txt.mul z n).length = z.length * n.toNat := by
  unfold Txt.mul
  rw [if_neg (by omega)]
  split
  · rename_i h
    rw [Bool.or_eq_true, beq_iff_eq, beq_iff_eq] at h
    rcases h with h | h
    · rw [h]; show _ = _ * 1; omega
    · rw [h]; omega
  · show ((List.replicate n.toNat z.cps).foldl (· ++ ·) #[]).size = z.cps.size * n.toNat
    rw [reps_len, Nat.mul_comm]
    show 0 + _ = _
    omega
theorem b_mulS (h0 : 1 ≤ n ∧ n ≤ 10000) (hz : z.length ≤ 1000) (h : ∀ y : Str, y.length = z.length * n.toNat → Q (.str y) H) : Bin X .Mult (.str z) (.int n) H Q := by
  refine ⟨fun x y H Q => x = .str z ∧ y = .int n ∧ Q (.str (Txt.mul z n)) H, ?_, rfl, rfl, h _ (mul_len h0.1)⟩
  intro pins s σ H x y v u Q I rx ry hh
  obtain ⟨rfl, rfl, q⟩ := hh
  obtain ⟨t, rfl⟩ := rx
  obtain ⟨t', rfl⟩ := ry
  have hle : z.length * n.toNat ≤ 10000000 := Nat.le_trans (Nat.mul_le_mul hz (show n.toNat ≤ 10000 by omega)) (by decide)
  refine SB.mul ⟨?_, fun _ _ => ?_, fun _ _ => ?_⟩ fun t2 k => ⟨.str (Txt.mul z n), H, I.tok k, ⟨t2, rfl⟩, q⟩
  · rw [Bool.or_eq_false_iff, decide_eq_false_iff_not, decide_eq_false_iff_not]
    omega
  · have h2 : (z.length : Int) ≤ ((2 : Int) ^ 63 - 1) / n := by
      refine Int.le_ediv_of_mul_le (by omega) ?_
      have e : (z.length : Int) * n = ((z.length * n.toNat : Nat) : Int) := by
        rw [Int.natCast_mul, Int.toNat_of_nonneg (by omega)]
      rw [e]
      omega
    omega
  · unfold Builtin.Str.tooLong
    have : sizeLine = 16777216 := rfl
    exact decide_eq_false (by omega)
theorem k_all (hc : X.calm = true) (h1 : SqL X.K H a (bs.map V.bl)) (h : Q (.bl (bs.all id)) H) : Cal X (.builtin "all") [.ref a] H Q := ⟨_, cr_all hc, a, bs, rfl, h1, h⟩
theorem boot_all : bootBuiltins "all" = some (.builtin "all") := by rfl
theorem inV_o : ∀ os : List (Option Int), inV .non (os.map oV) = decide (none ∈ os)
  | [] => rfl
  | o :: os => by
    have h := inV_o os
    unfold inV at h ⊢
    rw [List.map_cons, List.any_cons, h]
    cases o with
    | none => simp [eqV, oV]
    | some i => simp [eqV, oV]
theorem flat_o : ∀ os : List (Option Int), (os.map oV).all flatV = true
  | [] => rfl
  | o :: os => by
    rw [List.map_cons, List.all_cons, flat_o os]
    cases o <;> rfl
theorem c_inO (h1 : SqL X.K H p (os.map oV)) (h : Q (.bl (decide (none ∈ os))) H) : Cmp X .In .non (.ref p) H Q := ⟨_, op_in_seq, p, _, rfl, .inl h1, rfl, flat_o os, by rw [if_neg (by decide), inV_o]; exact h⟩
theorem bs0 {o : Hp} {p : Addr} (h : o p = some (.lst [])) : o p = some (.lst (([] : List Bool).map V.bl)) := h
end
section
variable {X : Cx} {elt tg : Expr} {scope : Scope} {vs : List Nat} {σ : L2.St} {R : VK} {H : Hp} {β : Type} {enc2 : β → V}
/-- [elt for c in text] -/
theorem lcd_mapS {z : Str} (g : Nat → β) (hl : z.cps.size ≤ 90000)
    (he : ∀ c ∈ z.cps.toList, ∀ H1, Kp [] H H1 → Bl X scope fun Z => Wg Z tg (.str ⟨#[c]⟩) (wipe σ vs) H1 fun σ2 H2 => wipe σ2 vs = wipe σ vs ∧ Bl X scope fun Z => We Z elt σ2 H2 fun y H3 => y = enc2 (g c) ∧ Kp [] H1 H3)
    (hd : ∀ Dl H', H Dl = none → Kp [] H H' → H' Dl = some (.lst ((z.cps.toList.map g).map enc2)) → R (.ref Dl) H') :
    LcD X elt tg [] scope vs σ R z.cps.size (fun _ => True) (fun i H v H' => H' = H ∧ ∃ c, z.cps[i]? = some c ∧ v = .str ⟨#[c]⟩) H := by
  intro Dl H1 nD kD hD
  refine ⟨fun i H' => Kp [] H H' ∧ H' Dl = some (.lst (((z.cps.toList.take i).map g).map enc2)), ⟨kD, hD⟩, fun _ _ _ _ => trivial, ?_, fun H2 ⟨k2, hD2⟩ => hd Dl H2 nD k2 (by rw [← Array.length_toList, List.take_length] at hD2; exact hD2)⟩
  rintro i x H2 H3 hi ⟨k2, hD2⟩ ⟨rfl, c, hc, rfl⟩
  have hv : z.cps.toList[i]? = some c := by rw [Array.getElem?_toList]; exact hc
  intro s0 H0 C cl fp
  refine wg_mono (he c (List.mem_of_getElem? hv) _ k2 s0 H0 C cl fp) fun σ2 H4 ⟨e1, h2⟩ => ⟨e1, fun s0 H0 C cl fp => wts_nil (iteT fun s0 H0 C cl fp => we_mono (h2 s0 H0 C cl fp) fun y H5 ⟨ey, k5⟩ => ?_)⟩
  subst ey
  have et : ((z.cps.toList.take (i + 1)).map g).map enc2 = ((z.cps.toList.take i).map g).map enc2 ++ [enc2 (g c)] := by rw [List.take_succ, hv, List.map_append, List.map_append]; rfl
  exact appV (k5.g0 hD2) (by rw [List.length_map, List.length_map, List.length_take]; omega) fun H6 k6 hD6 => ⟨(k2.tr0 k5).trN k6 nD, by rw [hD6, et]⟩
end
section
variable {X : Cx} {H : Hp} {Q : VK} {a : Addr} {ns : List Int}
theorem shown_ints_lenL {ns : List Int} (h : ∀ x ∈ ns, Szd x) (hl : ns.length ≤ 8000) : (dI ns).shown.length ≤ sizeLine := by
  have e : (dI ns).shown = listText (PyData.shownAll (ns.map PyData.int)) := by unfold dI; rw [PyData.shown]
  rw [e, shownAll_ints]
  refine Nat.le_trans (listText_len_le _) ?_
  rw [List.map_map, List.length_map]
  have h1 := sum_le_const (fun i : Int => (PySem.Str.ofString (toString i)).length) 1921 (xs := ns) fun x hx => int_text_len_1921 (by have := h x hx; unfold Szd at this; omega)
  have h2 : (ns.map ((fun x : Str => x.length) ∘ fun i : Int => PySem.Str.ofString (toString i))).sum ≤ 1921 * ns.length := h1
  have : sizeLine = 16777216 := rfl
  omega
theorem k_reprIL {k : Nat} (hr : Room k X.A) (hgd : X.A.guards = some []) (h1 : SqL X.K H a (ns.map V.int)) (hb : ∀ x ∈ ns, Szd x) (hl : ns.length ≤ 8000) (h : Q (.str (dI ns).shown) H) : Cal X (.builtin "repr") [.ref a] H Q :=
  k_repr hr hgd (dp_ints h1) (by unfold dI; rw [PyData.showable]; exact showable_ints hb) (by unfold dI; rw [PyData.hasDict]; exact hasDict_ints ns) (by unfold dI; rw [PyData.depth, depth_ints]; decide) (shown_ints_lenL hb hl) h
end
end SL

/-! numbers and rows as texts -/
namespace SL
open PySem PySem.Spec PyProof.Rows L2
/-- the signs of a whole number -/
def itL (i : Int) : List Nat := if i < 0 then 45 :: TL.numL i.natAbs else TL.numL i.natAbs
def nS (i : Int) : Str := PySem.Str.ofString (toString i)
theorem tl_nS (i : Int) : TL.tl (nS i) = itL i := by
  unfold nS
  cases i with
  | ofNat m =>
    show TL.tl (PySem.Str.ofString (toString ((m : Nat) : Int))) = _
    rw [TL.tl_num]
    unfold itL
    rw [if_neg (by show ¬ ((m : Nat) : Int) < 0; omega)]
    rfl
  | negSucc m =>
    unfold itL
    rw [if_pos (Int.negSucc_lt_zero m)]
    have h := TL.tl_num (m + 1)
    rw [TL.tl_ofString] at h ⊢
    show ("-" ++ toString (m + 1)).toList.map Char.toNat = _
    rw [String.toList_append, List.map_append]
    show 45 :: (toString (m + 1)).toList.map Char.toNat = _
    rw [show (toString (m + 1)).toList.map Char.toNat = TL.numL (m + 1) from h]
    rfl
theorem numL_nz : ∀ (n : Nat), 1 ≤ n → ∀ c r, TL.numL n = c :: r → c ≠ 48 := by
  intro n
  induction n using Nat.strongRecOn with
  | _ n ih =>
    intro h1 c r e
    by_cases h : n < 10
    · rw [TL.numL_lt h] at e
      have := (List.cons.inj e).1
      omega
    · rw [TL.numL_step (by omega)] at e
      cases e2 : TL.numL (n / 10) with
      | nil => exact absurd e2 (TL.numL_ne _)
      | cons c' r' =>
        rw [e2, List.cons_append] at e
        have := ih (n / 10) (by omega) (by omega) c' r' e2
        rw [← (List.cons.inj e).1]
        exact this
/-- what a word of figures tells -/
def figN (l : List Nat) : Option Nat := if ((1 ≤ l.length ∧ l.length ≤ 13) ∧ (l.head? = some 48 → l = [48])) ∧ (∀ c ∈ l, 48 ≤ c ∧ c ≤ 57) then some (NumText.digitsVal l) else none
theorem figN_some {l : List Nat} {n : Nat} : figN l = some n ↔ (((1 ≤ l.length ∧ l.length ≤ 13) ∧ (l.head? = some 48 → l = [48])) ∧ (∀ c ∈ l, 48 ≤ c ∧ c ≤ 57)) ∧ NumText.digitsVal l = n := by
  unfold figN
  split
  · rename_i h
    exact ⟨fun e => ⟨h, Option.some.inj e⟩, fun e => by rw [e.2]⟩
  · rename_i h
    exact ⟨fun e => (nomatch e), fun e => absurd e.1 h⟩
theorem figN_num {n : Nat} (h : n < 10 ^ 13) : figN (TL.numL n) = some n := by
  refine figN_some.mpr ⟨⟨⟨⟨?_, TL.numL_len (by decide) h⟩, fun e => ?_⟩, TL.numL_digits n⟩, TL.numL_val n⟩
  · have := TL.numL_ne n
    cases e : TL.numL n with
    | nil => exact absurd e this
    | cons c r => exact Nat.succ_pos _
  · by_cases z : n = 0
    · rw [z]
      exact TL.numL_lt (by decide)
    · cases e2 : TL.numL n with
      | nil => exact absurd e2 (TL.numL_ne n)
      | cons c r =>
        rw [e2] at e
        exact absurd (Option.some.inj e) (numL_nz n (by omega) c r e2)
/-- what a word tells -/
def wdN : List Nat → Option Int
  | [] => none
  | c :: r => if c = 45 then (match figN r with | some (n + 1) => some (-((n + 1 : Nat) : Int)) | _ => none) else (figN (c :: r)).map Int.ofNat
theorem wdN_cons (c : Nat) (r : List Nat) : wdN (c :: r) = if c = 45 then (match figN r with | some (n + 1) => some (-((n + 1 : Nat) : Int)) | _ => none) else (figN (c :: r)).map Int.ofNat := rfl
theorem itL_head {i : Int} (h : 0 ≤ i) {c : Nat} {r : List Nat} (e : itL i = c :: r) : c ≠ 45 := by
  unfold itL at e
  rw [if_neg (by omega)] at e
  have := TL.numL_digits i.natAbs c (by rw [e]; exact List.mem_cons_self)
  omega
theorem wdN_int {i : Int} (h : -(10 ^ 13) < i ∧ i < 10 ^ 13) : wdN (itL i) = some i := by
  by_cases z : i < 0
  · unfold itL
    rw [if_pos z]
    rw [wdN_cons, if_pos rfl, figN_num (by omega)]
    cases e : i.natAbs with
    | zero => omega
    | succ n =>
      show some (-((n + 1 : Nat) : Int)) = _
      congr 1
      omega
  · cases e : itL i with
    | nil =>
      unfold itL at e
      rw [if_neg z] at e
      exact absurd e (TL.numL_ne _)
    | cons c r =>
      have hc := itL_head (by omega) e
      rw [wdN_cons, if_neg hc, ← e]
      unfold itL
      rw [if_neg z, figN_num (by omega)]
      show some (Int.ofNat i.natAbs) = _
      congr 1
      show ((i.natAbs : Nat) : Int) = i
      omega
theorem itL_ch (i : Int) : ∀ c ∈ itL i, c = 45 ∨ (48 ≤ c ∧ c ≤ 57) := fun c hc => by
  unfold itL at hc
  split at hc
  · rcases List.mem_cons.mp hc with rfl | hc
    · exact .inl rfl
    · exact .inr (TL.numL_digits _ c hc)
  · exact .inr (TL.numL_digits _ c hc)
theorem itL_len {i : Int} (h : -(10 ^ 19) < i ∧ i < 10 ^ 19) : (itL i).length ≤ 20 := by
  have := TL.numL_len (n := i.natAbs) (k := 19) (by decide) (by omega)
  unfold itL
  split
  · rw [List.length_cons]; omega
  · omega
theorem nS_len {i : Int} (h : -(10 ^ 19) < i ∧ i < 10 ^ 19) : (nS i).length ≤ 20 := by
  rw [TL.len_tl, tl_nS]
  exact itL_len h
theorem itL_dash (i : Int) : itL i ≠ [45] := by
  unfold itL
  split
  · intro e
    exact absurd (List.cons.inj e).2 (TL.numL_ne _)
  · intro e
    have := TL.numL_digits i.natAbs 45 (by rw [e]; exact List.mem_cons_self)
    omega
/-- a row's text -/
def dash : Str := PySem.Str.ofString "-"
def blank : Str := PySem.Str.ofString " "
theorem tl_dash : TL.tl dash = [45] := by decide
theorem tl_blank : TL.tl blank = [32] := by decide
def wrS (ns : List Int) : Str := Txt.join blank (ns.map nS)
def rowS (ns : List Int) : Str := if ns = [] then dash else wrS ns
def Bg (ns : List Int) : Prop := ∀ n ∈ ns, -(10 ^ 19) < n ∧ n < 10 ^ 19
theorem szd_bg {n : Int} (h : -(10 ^ 19) < n ∧ n < 10 ^ 19) : n.natAbs.log2 < 1920 := by
  have h1 : n.natAbs < 2 ^ 64 := by omega
  by_cases z : n.natAbs = 0
  · rw [z]; decide
  · have := (Nat.log2_lt z).mpr h1
    omega
theorem sum_len : ∀ {ys : List Str} {m : Nat}, (∀ y ∈ ys, y.length ≤ m) → (ys.map (·.length)).sum ≤ ys.length * m
  | [], m, _ => Nat.zero_le _
  | y :: ys, m, h => by
    have h1 := h y List.mem_cons_self
    have h2 := sum_len (ys := ys) fun z hz => h z (List.mem_cons_of_mem _ hz)
    rw [List.map_cons, List.sum_cons, List.length_cons, Nat.succ_mul]
    show y.length + _ ≤ _
    omega
theorem wr_ok {ns : List Int} (hb : ∀ n ∈ ns, -(10 ^ 19) < n ∧ n < 10 ^ 19) (hl : ns.length ≤ 100000) : ((ns.map nS).map (·.length)).sum + (ns.map nS).length * blank.length ≤ 16777216 := by
  have h := sum_len (ys := ns.map nS) (m := 20) fun y hy => by
    obtain ⟨n, hn, rfl⟩ := List.mem_map.mp hy
    exact nS_len (hb n hn)
  have e : blank.length = 1 := by decide
  rw [e]
  rw [List.length_map] at h ⊢
  omega
theorem wr_split {ns : List Int} (h : ns ≠ []) : Txt.split (wrS ns) blank = ns.map nS :=
  TL.split_join tl_blank (by decide +kernel) (fun e => h (List.map_eq_nil_iff.mp e)) fun p hp z => by
    obtain ⟨n, hn, rfl⟩ := List.mem_map.mp hp
    rw [tl_nS] at z
    have := itL_ch n 32 z
    omega
theorem wr_dash {ns : List Int} (h : ns ≠ []) : wrS ns ≠ dash := fun e => by
  have h1 := wr_split h
  rw [e] at h1
  have h2 : Txt.split dash blank = [dash] := by
    refine TL.map_tl_inj ?_
    rw [TL.split_spl _ _ (by rw [tl_blank]; simp) (TL.kind_ok (by decide +kernel)), tl_blank, tl_dash]
    exact TL.spl_last1 (by decide)
  rw [h2] at h1
  cases ns with
  | nil => exact h rfl
  | cons n ns =>
    have := (List.cons.inj h1).1
    have := congrArg TL.tl this
    rw [tl_dash, tl_nS] at this
    exact itL_dash n this.symm
theorem join_len : ∀ (ps : List (List Nat)) (m : Nat), (∀ p ∈ ps, p.length ≤ m) → (TL.joinL [32] ps).length ≤ ps.length * (m + 1)
  | [], m, _ => Nat.zero_le _
  | [p], m, h => by
    have := h p List.mem_cons_self
    show p.length ≤ 1 * (m + 1)
    omega
  | p :: q :: r, m, h => by
    have h1 := h p List.mem_cons_self
    have h2 := join_len (q :: r) m fun x hx => h x (List.mem_cons_of_mem _ hx)
    show (p ++ ([32] ++ TL.joinL [32] (q :: r))).length ≤ _
    rw [List.length_append, List.length_append, List.length_cons (as := q :: r), Nat.succ_mul]
    show _ + (1 + _) ≤ _
    omega
theorem tl_wr (ns : List Int) : TL.tl (wrS ns) = TL.joinL [32] (ns.map itL) := by
  unfold wrS
  rw [TL.join_eq, TL.tl_join, tl_blank, List.map_map]
  congr 1
  exact List.map_congr_left fun n _ => tl_nS n
theorem wr_len {ns : List Int} (hb : ∀ n ∈ ns, -(10 ^ 19) < n ∧ n < 10 ^ 19) : (wrS ns).length ≤ ns.length * 21 := by
  rw [TL.len_tl, tl_wr]
  have := join_len (ns.map itL) 20 fun p hp => by
    obtain ⟨n, hn, rfl⟩ := List.mem_map.mp hp
    exact itL_len (hb n hn)
  rw [List.length_map] at this
  exact this
def Bt (ns : List Int) : Prop := ∀ n ∈ ns, -(10 ^ 13) < n ∧ n < 10 ^ 13
theorem Bt.bg {ns : List Int} (h : Bt ns) : Bg ns := fun n hn => by have := h n hn; omega
theorem rows_dash {ns : List Int} : rowS ns = PySem.Str.ofString "-" ↔ ns = [] := by
  constructor
  · intro e
    by_cases z : ns = []
    · exact z
    · have e2 : rowS ns = wrS ns := if_neg z
      rw [e2] at e
      exact absurd e (wr_dash z)
  · intro e
    exact if_pos e
end SL

/-! the words of any text -/
namespace SL
open PySem PySem.Spec PyProof.Rows L2
theorem spl1_cons (acc : List Nat) (c : Nat) (r : List Nat) : TL.spl [32] 0 acc (c :: r) = if c = 32 then acc :: TL.spl [32] 0 [] r else TL.spl [32] 0 (acc ++ [c]) r := by
  split
  · rename_i h
    subst h
    exact TL.spl_hit (S := [32]) (by rfl)
  · rename_i h
    exact TL.spl_miss (by rw [TL.pre_of_head [] r h])
theorem spl1_sum : ∀ (l acc : List Nat), ((TL.spl [32] 0 acc l).map List.length).sum + (TL.spl [32] 0 acc l).length = acc.length + l.length + 1
  | [], acc => by
    rw [TL.spl_nil]
    show acc.length + 0 + 1 = acc.length + 0 + 1
    rfl
  | c :: r, acc => by
    rw [spl1_cons]
    split
    · have h := spl1_sum r []
      rw [List.map_cons, List.sum_cons, List.length_cons, List.length_cons]
      rw [List.length_nil] at h
      omega
    · have h := spl1_sum r (acc ++ [c])
      rw [List.length_append, List.length_singleton] at h
      rw [List.length_cons, h]
      omega
def wordsS (x : Str) : List Str := Txt.split x blank
theorem words_tl (x : Str) : (wordsS x).map TL.tl = TL.spl [32] 0 [] (TL.tl x) := by
  unfold wordsS
  rw [TL.split_spl _ _ (by rw [tl_blank]; simp) (TL.kind_ok (by decide +kernel)), tl_blank]
theorem words_sum (x : Str) : ((wordsS x).map (·.length)).sum + (wordsS x).length = x.length + 1 := by
  have h := spl1_sum (TL.tl x) []
  rw [← words_tl, List.map_map, List.length_map, List.length_nil, Nat.zero_add, ← TL.len_tl] at h
  rw [← h]
  congr 2
theorem le_sum : ∀ {ys : List Str} {y : Str}, y ∈ ys → y.length ≤ (ys.map (·.length)).sum
  | z :: ys, y, h => by
    rw [List.map_cons, List.sum_cons]
    rcases List.mem_cons.mp h with e | h
    · subst e; exact Nat.le_add_right _ _
    · have := le_sum h; omega
theorem words_len {x y : Str} (h : y ∈ wordsS x) : y.length ≤ x.length := by
  have h1 := words_sum x
  have h2 := le_sum h
  have h3 : 1 ≤ (wordsS x).length := List.length_pos_of_mem h
  omega
theorem words_many (x : Str) : (wordsS x).length ≤ x.length + 1 := by
  have h1 := words_sum x
  omega
/-- what a row of words tells -/
def wsN : List Str → Option (List Int)
  | [] => some []
  | w :: ws => match wdN (TL.tl w), wsN ws with
    | some i, some is => some (i :: is)
    | _, _ => none
theorem wsN_some : ∀ {ws : List Str} {is : List Int}, ws.map (fun w => wdN (TL.tl w)) = is.map some → wsN ws = some is
  | [], [], _ => rfl
  | [], _ :: _, h => nomatch h
  | _ :: _, [], h => nomatch h
  | w :: ws, i :: is, h => by
    rw [List.map_cons, List.map_cons, List.cons.injEq] at h
    unfold wsN
    rw [h.1, wsN_some h.2]
theorem wsN_is : ∀ {ws : List Str} {is : List Int}, wsN ws = some is → ws.map (fun w => wdN (TL.tl w)) = is.map some
  | [], is, h => by cases h; rfl
  | w :: ws, is, h => by
    unfold wsN at h
    split at h
    · rename_i i is' h1 h2
      cases h
      rw [List.map_cons, List.map_cons, h1, wsN_is h2]
    · cases h
theorem wsN_none {ws : List Str} {w : Str} (h : w ∈ ws) (hn : wdN (TL.tl w) = none) : wsN ws = none := by
  cases e : wsN ws with
  | none => rfl
  | some is =>
    have h1 := wsN_is e
    obtain ⟨i, hi⟩ := List.mem_iff_getElem?.mp h
    have h2 := congrArg (fun l => l[i]?) h1
    rw [List.getElem?_map, List.getElem?_map, hi] at h2
    cases e3 : is[i]? with
    | none => rw [e3] at h2; cases h2
    | some v =>
      rw [e3, Option.map_some, Option.map_some, hn] at h2
      cases h2
def rwN (x : Str) : Option (List Int) := if x = dash then some [] else wsN (wordsS x)
theorem rwN_row {ns : List Int} (h : Bt ns) : rwN (rowS ns) = some ns := by
  unfold rwN
  by_cases z : ns = []
  · rw [if_pos (show rowS ns = dash from rows_dash.mpr z), z]
  · rw [if_neg (show ¬ rowS ns = dash from fun e => z (rows_dash.mp e))]
    have e : rowS ns = wrS ns := if_neg z
    have e2 : wordsS (wrS ns) = ns.map nS := wr_split z
    rw [e, e2]
    refine wsN_some ?_
    rw [List.map_map]
    exact List.map_congr_left fun n hn => by
      show wdN (TL.tl (nS n)) = some n
      rw [tl_nS]
      exact wdN_int (h n hn)
theorem join1_len : ∀ (l : List (List Nat)), (TL.joinL [32] l).length ≤ (l.map List.length).sum + l.length
  | [] => Nat.zero_le _
  | [p] => by
    show p.length ≤ (p.length + 0) + 1
    omega
  | p :: q :: r => by
    have h2 := join1_len (q :: r)
    show (p ++ ([32] ++ TL.joinL [32] (q :: r))).length ≤ _
    rw [List.length_append, List.length_append, List.map_cons, List.sum_cons, List.length_cons (as := q :: r)]
    show _ + (1 + _) ≤ _
    omega
theorem joinS_len (ys : List Str) : (Txt.join blank ys).length ≤ (ys.map (·.length)).sum + ys.length := by
  rw [TL.len_tl, TL.join_eq, TL.tl_join, tl_blank]
  have h := join1_len (ys.map TL.tl)
  rw [List.map_map, List.length_map] at h
  have e : (List.map (List.length ∘ TL.tl) ys) = ys.map (·.length) := List.map_congr_left fun y _ => (TL.len_tl y).symm
  rw [e] at h
  exact h
theorem sum_take : ∀ (l : List Nat) (k : Nat), (l.take k).sum ≤ l.sum
  | [], k => by rw [List.take_nil]; exact Nat.le_refl _
  | x :: l, 0 => Nat.zero_le _
  | x :: l, k + 1 => by
    rw [List.take_succ_cons, List.sum_cons, List.sum_cons]
    have := sum_take l k
    omega
theorem sum_drop : ∀ (l : List Nat) (k : Nat), (l.drop k).sum ≤ l.sum
  | [], k => by rw [List.drop_nil]; exact Nat.le_refl _
  | x :: l, 0 => Nat.le_refl _
  | x :: l, k + 1 => by
    rw [List.drop_succ_cons, List.sum_cons]
    have := sum_drop l k
    omega
/-! ### a word, looked at sign by sign -/
theorem dig_up : ∀ (l : List Nat) (a : Nat), a ≤ l.foldl (fun t c => t * 10 + (c - 48)) a
  | [], a => Nat.le_refl _
  | c :: l, a => by
    rw [List.foldl_cons]
    have := dig_up l (a * 10 + (c - 48))
    omega
theorem dig_pos {c : Nat} {r : List Nat} (h : 49 ≤ c) : 1 ≤ NumText.digitsVal (c :: r) := by
  unfold NumText.digitsVal
  rw [List.foldl_cons]
  have := dig_up r (0 * 10 + (c - 48))
  omega
/-- the figures of a word -/
def Fig (x y : Str) : Prop := TL.tl x = 45 :: TL.tl y ∨ (TL.tl x = TL.tl y ∧ (TL.tl y).head? ≠ some 45)
theorem wdN_minus {r : List Nat} (h : figN r = none ∨ figN r = some 0) : wdN (45 :: r) = none := by
  rw [wdN_cons, if_pos rfl]
  rcases h with h | h <;> rw [h]
theorem wdN_plain {l : List Nat} (hc : l.head? ≠ some 45) : wdN l = (figN l).map Int.ofNat := by
  cases l with
  | nil => rfl
  | cons c r =>
    rw [wdN_cons, if_neg]
    intro e
    exact hc (by rw [e]; rfl)
theorem fig_bad {x y : Str} (h : Fig x y) (hn : figN (TL.tl y) = none) : wdN (TL.tl x) = none := by
  rcases h with e | ⟨e, hc⟩
  · rw [e]; exact wdN_minus (.inl hn)
  · rw [e, wdN_plain hc, hn]; rfl
theorem fig_len {x y : Str} (h : Fig x y) (hn : ¬ (1 ≤ y.length ∧ y.length ≤ 13)) : wdN (TL.tl x) = none := by
  refine fig_bad h ?_
  unfold figN
  rw [if_neg]
  intro z
  rw [TL.len_tl] at hn
  exact hn z.1.1
theorem fig_nought {x y : Str} (h : Fig x y) {r : List Nat} (hy : TL.tl y = 48 :: r) (hx : TL.tl x ≠ [48]) : wdN (TL.tl x) = none := by
  by_cases z : r = []
  · subst z
    rcases h with e | ⟨e, _⟩
    · rw [e, hy]
      exact wdN_minus (.inr (by decide))
    · exact absurd (e.trans hy) hx
  · refine fig_bad h ?_
    unfold figN
    rw [if_neg]
    intro w
    have := w.1.2 (by rw [hy]; rfl)
    rw [hy] at this
    exact z (List.cons.inj this).2
theorem fig_other {x y : Str} (h : Fig x y) {c : Nat} (hc : c ∈ TL.tl y) (hd : ¬ (48 ≤ c ∧ c ≤ 57)) : wdN (TL.tl x) = none := by
  refine fig_bad h ?_
  unfold figN
  rw [if_neg]
  intro w
  exact hd (w.2 c hc)
theorem fig_good {x y : Str} (h : Fig x y) (hl : 1 ≤ y.length ∧ y.length ≤ 13) (h0 : ∀ r, TL.tl y = 48 :: r → TL.tl x = [48]) (hd : ∀ c ∈ TL.tl y, 48 ≤ c ∧ c ≤ 57) : ∃ i, wdN (TL.tl x) = some i ∧ PySem.intText? x = some i := by
  have hly := TL.len_tl y
  have hne : TL.tl y ≠ [] := fun e => by rw [e] at hly; rw [hly] at hl; exact absurd hl.1 (by decide)
  have hyl : (TL.tl y).length ≤ 13 := by omega
  rcases h with e | ⟨e, hc⟩
  · cases hy : TL.tl y with
    | nil => exact absurd hy hne
    | cons c r =>
      have c48 : c ≠ 48 := fun z => by
        have := h0 r (by rw [hy, z])
        rw [e] at this
        cases this
      have hf : figN (c :: r) = some (NumText.digitsVal (c :: r)) := by
        rw [← hy]
        exact figN_some.mpr ⟨⟨⟨⟨by omega, hyl⟩, fun z => by rw [hy] at z; exact absurd (Option.some.inj z) c48⟩, hd⟩, rfl⟩
      have hp : 1 ≤ NumText.digitsVal (c :: r) := dig_pos (by have := hd c (by rw [hy]; exact List.mem_cons_self); omega)
      refine ⟨-((NumText.digitsVal (c :: r) : Nat) : Int), ?_, ?_⟩
      · rw [e, hy, wdN_cons, if_pos rfl, hf]
        cases e9 : NumText.digitsVal (c :: r) with
        | zero => rw [e9] at hp; exact absurd hp (by decide)
        | succ n => rfl
      · refine PySem.intText_neg (by rw [show x.cps.toList = 45 :: TL.tl y from e, hy]) (fun d hd' => hd d (by rw [hy]; exact hd')) (List.cons_ne_nil _ _) ?_
        rw [TL.len_tl, e, List.length_cons]
        omega
  · have hf : figN (TL.tl y) = some (NumText.digitsVal (TL.tl y)) := figN_some.mpr ⟨⟨⟨⟨by omega, hyl⟩, fun z => by
      cases hy : TL.tl y with
      | nil => exact absurd hy hne
      | cons c r =>
        rw [hy] at z
        have := h0 r (by rw [hy, Option.some.inj z])
        rw [← hy, ← e, this]⟩, hd⟩, rfl⟩
    refine ⟨((NumText.digitsVal (TL.tl y) : Nat) : Int), ?_, ?_⟩
    · rw [e, wdN_plain hc, hf]; rfl
    · have := SX.int_S (a := TL.tl x) (List.all_eq_true.mpr fun d hd' => by have := hd d (by rw [← e]; exact hd'); simp [this]) (by rw [e]; exact hne) (by rw [e]; omega)
      rw [show SX.S (TL.tl x) = x from SX.S_tl x, e] at this
      exact this
theorem dig_lt : ∀ (l : List Nat) (a : Nat), (∀ c ∈ l, c ≤ 57) → l.foldl (fun t c => t * 10 + (c - 48)) a < (a + 1) * 10 ^ l.length
  | [], a, _ => by
    show a < (a + 1) * 1
    omega
  | c :: l, a, h => by
    rw [List.foldl_cons]
    have h1 := dig_lt l (a * 10 + (c - 48)) fun d hd => h d (List.mem_cons_of_mem _ hd)
    have h2 := h c List.mem_cons_self
    have h3 : (a * 10 + (c - 48) + 1) * 10 ^ l.length ≤ ((a + 1) * 10) * 10 ^ l.length := Nat.mul_le_mul_right _ (by omega)
    have h4 : (a + 1) * 10 ^ (c :: l).length = ((a + 1) * 10) * 10 ^ l.length := by
      rw [List.length_cons, Nat.pow_succ, Nat.mul_assoc, Nat.mul_comm 10]
    omega
theorem figN_lt {l : List Nat} {n : Nat} (h : figN l = some n) : n < 10 ^ 13 := by
  obtain ⟨⟨⟨⟨_, h1⟩, _⟩, h2⟩, rfl⟩ := figN_some.mp h
  have h3 := dig_lt l 0 fun c hc => (h2 c hc).2
  have h4 : 10 ^ l.length ≤ 10 ^ 13 := Nat.pow_le_pow_right (by decide) h1
  unfold NumText.digitsVal
  omega
theorem wdN_bd {l : List Nat} {i : Int} (h : wdN l = some i) : -(10 ^ 13) < i ∧ i < 10 ^ 13 := by
  cases l with
  | nil => cases h
  | cons c r =>
    rw [wdN_cons] at h
    split at h
    · cases e : figN r with
      | none => rw [e] at h; cases h
      | some n =>
        have := figN_lt e
        rw [e] at h
        cases n with
        | zero => cases h
        | succ n =>
          cases h
          omega
    · cases e : figN (c :: r) with
      | none => rw [e] at h; cases h
      | some n =>
        have := figN_lt e
        rw [e] at h
        cases h
        show _ ∧ ((n : Nat) : Int) < _
        have : -(10 ^ 13) < ((n : Nat) : Int) := by omega
        exact ⟨this, by omega⟩
theorem rwN_bt {x : Str} {ns : List Int} (h : rwN x = some ns) : Bt ns := fun n hn => by
  unfold rwN at h
  split at h
  · cases h; cases hn
  · have h1 := wsN_is h
    obtain ⟨i, hi⟩ := List.mem_iff_getElem?.mp hn
    have h2 := congrArg (fun l => l[i]?) h1
    simp only [List.getElem?_map, hi, Option.map_some] at h2
    obtain ⟨w, hw, e⟩ := Option.map_eq_some_iff.mp h2
    exact wdN_bd e
theorem rwN_len {x : Str} {ns : List Int} (h : rwN x = some ns) : ns.length ≤ x.length + 1 := by
  unfold rwN at h
  split at h
  · cases h; exact Nat.zero_le _
  · have h1 := congrArg List.length (wsN_is h)
    rw [List.length_map, List.length_map] at h1
    have := words_many x
    omega
theorem shown_bt {ns : List Int} (h : Bt ns) (hl : ns.length ≤ 50000) : (dI ns).shown.length ≤ sizeLine := by
  have e : (dI ns).shown = listText (PyData.shownAll (ns.map PyData.int)) := by unfold dI; rw [PyData.shown]
  rw [e, shownAll_ints]
  refine Nat.le_trans (listText_len_le _) ?_
  rw [List.map_map, List.length_map]
  have h1 := sum_le_const (fun i : Int => (PySem.Str.ofString (toString i)).length) 20 (xs := ns) fun x hx => nS_len (h.bg x hx)
  have h2 : (ns.map ((fun x : Str => x.length) ∘ fun i : Int => PySem.Str.ofString (toString i))).sum ≤ 20 * ns.length := h1
  have : sizeLine = 16777216 := rfl
  omega
theorem k_reprB {X : Cx} {H : Hp} {Q : VK} {a : Addr} {ns : List Int} {k : Nat} (hr : Room k X.A) (hgd : X.A.guards = some []) (h1 : SqL X.K H a (ns.map V.int)) (hb : Bt ns) (hl : ns.length ≤ 50000) (h : Q (.str (dI ns).shown) H) : Cal X (.builtin "repr") [.ref a] H Q :=
  have hz : ∀ x ∈ ns, Szd x := fun x hx => szd_of (by have := hb x hx; omega)
  k_repr hr hgd (dp_ints h1) (by unfold dI; rw [PyData.showable]; exact showable_ints hz) (by unfold dI; rw [PyData.hasDict]; exact hasDict_ints ns) (by unfold dI; rw [PyData.depth, depth_ints]; decide) (shown_bt hb hl) h
def dueO (x : Str) : List (Option Int) := if x = dash then [] else (wordsS x).map fun w => wdN (TL.tl w)
theorem dueO_none {x : Str} (h : rwN x = none) : none ∈ dueO x := by
  unfold rwN at h
  unfold dueO
  split at h
  · cases h
  · rename_i z
    rw [if_neg z]
    generalize wordsS x = ws at h
    induction ws with
    | nil => cases h
    | cons w ws ih =>
      rw [List.map_cons]
      cases e : wdN (TL.tl w) with
      | none => exact List.mem_cons_self
      | some i =>
        refine List.mem_cons_of_mem _ (ih ?_)
        unfold wsN at h
        rw [e] at h
        cases e2 : wsN ws with
        | none => rfl
        | some is => rw [e2] at h; cases h
theorem dueO_some {x : Str} {ns : List Int} (h : rwN x = some ns) : dueO x = ns.map some := by
  unfold rwN at h
  unfold dueO
  split at h
  · rename_i z
    rw [if_pos z]
    cases h
    rfl
  · rename_i z
    rw [if_neg z]
    exact wsN_is h
theorem no_none {ns : List Int} : ¬ none ∈ ns.map some := fun h => by
  obtain ⟨i, _, e⟩ := List.mem_map.mp h
  cases e
end SL

namespace SL
open PySem PySem.Spec PyProof.Rows L2
local macro_rules | `(tactic| fail "vis") => `(tactic| first | exact Or.inl rfl | exact Or.inr (Or.inl rfl) | exact Or.inr (Or.inr rfl))
local macro_rules | `(tactic| fail "loc") => `(tactic| first | exact Or.inl rfl | exact Or.inr rfl)
local macro_rules | `(tactic| fail "th") => `(tactic| first | exact ⟨_, by assumption⟩ | exact PL.th (by assumption) | exact RL.th (by assumption) | (refine Kp.th (by assumption) ?_; fail "th"))
local macro_rules | `(tactic| fail "ne") => `(tactic| first
  | assumption
  | exact Ne.symm (by assumption)
  | exact ne_th (by assumption) (by fail "th")
  | exact Ne.symm (ne_th (by assumption) (by fail "th")))
local macro_rules | `(tactic| fail "notin") => `(tactic| (simp only [List.mem_cons, List.not_mem_nil, or_false, not_or]; (repeat' apply And.intro) <;> fail "ne"))
local macro_rules | `(tactic| fail "side") => `(tactic| first | exact Or.inl List.not_mem_nil | exact Or.inl (nin1 (by fail "ne")) | exact Or.inr trivial | exact Or.inl (by assumption) | exact Or.inl (by fail "notin"))
local macro_rules | `(tactic| fail "side1") => `(tactic| first | exact List.not_mem_nil | exact nin1 (by fail "ne") | assumption | fail "notin")
local macro_rules | `(tactic| fail "look") => `(tactic| first
  | assumption
  | exact Kp.gX (by assumption) (by fail "look") (by fail "side"))
local macro_rules | `(tactic| fail "nn") => `(tactic| first | assumption | (refine Kp.nn (by assumption) ?_; fail "nn"))
local macro_rules | `(tactic| fail "mem") => `(tactic| first | exact List.mem_cons_self | (refine List.mem_cons_of_mem _ ?_; fail "mem"))
local macro_rules | `(tactic| fail "sub") => `(tactic| first | exact sub0 | exact sub1 (Or.inl (by fail "mem")) | exact sub1 (Or.inr (by fail "nn")) | exact subS | exact subT | exact subT2 | (refine subC ?_ ?_; (first | exact Or.inl (by fail "mem") | exact Or.inr (by fail "nn")); fail "sub"))
local macro_rules | `(tactic| fail "kp") => `(tactic| first
  | exact Kp.refl
  | assumption
  | exact Kp.trX (by assumption) (by fail "kp") (by fail "sub"))
local macro_rules | `(tactic| fail "sq") => `(tactic| first | assumption | exact sqL (by fail "look") | exact sqT (by fail "look") | exact Kp.sqK (by assumption) (by fail "kp") | exact Kp.stK (by assumption) (by fail "kp"))
local macro_rules | `(tactic| fail "pl") => `(tactic| first
  | assumption
  | exact PL.kX (by assumption) (by fail "pl") (by fail "side1"))
local macro_rules | `(tactic| fail "rl") => `(tactic| first
  | assumption
  | exact RL.kX (by assumption) (by fail "rl") (by fail "side1"))
local macro_rules | `(tactic| fail "num") => `(tactic| first | omega | decide | (simp only [List.length_cons, List.length_nil, List.length_map, List.length_append]; omega))
local macro_rules | `(tactic| fail "fn") => `(tactic| first | exact Or.inl rfl | exact Or.inr rfl)
local macro_rules | `(tactic| fail "bltn") => `(tactic| first
  | refine we_bltn rfl (Blt.int (by assumption)) boot_int (v := .ty "int") rfl ?_ | refine we_bltn rfl (Blt.bool (by assumption)) boot_bool (v := .ty "bool") rfl ?_ | refine we_bltn rfl (Blt.list (by assumption)) boot_list (v := .ty "list") rfl ?_ | refine we_bltn rfl (Blt.tuple (by assumption)) boot_tuple (v := .ty "tuple") rfl ?_ | refine we_bltn rfl (Blt.str (by assumption)) boot_str (v := .ty "str") rfl ?_ | refine we_bltn rfl (Blt.ValueError (by assumption)) L2.boot_ValueError (v := .ty "ValueError") rfl ?_ | refine we_exc (by assumption) rfl ?_)
local macro_rules | `(tactic| fail "lookI") => `(tactic| first | fail "look" | exact ints0 (by fail "look") | exact ints1 (by fail "look") | exact ints2 (by fail "look") | exact ints3 (by fail "look") | exact ints4 (by fail "look") | exact ints5 (by fail "look") | exact ints6 (by fail "look"))
local macro_rules | `(tactic| fail "sqI") => `(tactic| first | assumption | exact sqL (by fail "lookI") | exact Kp.sqK (by assumption) (by fail "kp"))
local macro_rules | `(tactic| fail "tqI") => `(tactic| first | assumption | exact sqT (by fail "look") | exact sqT (tup2 (by fail "look")) | exact sqT (tup3 (by fail "look")))
local macro_rules | `(tactic| fail "tk") => `(tactic| first | assumption | exact takes0)
local macro_rules | `(tactic| fail "call") => `(tactic| first
  | refine we_call (by assumption) (by assumption) (by decide) (by assumption) rfl ?_
  | refine we_callX (by assumption) (by assumption) (by decide) (by assumption) rfl (by fail "tk") ?_
  | refine we_listEnum rfl rfl (Blt.list (by assumption)) rfl (Blt.enumerate (by assumption)) ?_
  | refine we_listZip rfl rfl (Blt.list (by assumption)) rfl (Blt.zip (by assumption)) ?_
  | refine we_listRange rfl rfl (Blt.list (by assumption)) rfl (Blt.range (by assumption)) ?_
  | refine we_callB rfl (Blt.len (by assumption)) boot_len ?_
  | refine we_callB rfl (Blt.min (by assumption)) boot_min ?_
  | refine we_callB rfl (Blt.max (by assumption)) boot_max ?_
  | refine we_callB rfl (Blt.isinstance (by assumption)) boot_isinstance ?_
  | refine we_callB rfl (Blt.repr (by assumption)) boot_repr ?_
  | refine we_sortedItems rfl rfl (Blt.sorted (by assumption)) ?_
  | refine we_callB rfl (Blt.sorted (by assumption)) boot_sorted ?_
  | refine we_callB rfl (Blt.sum (by assumption)) boot_sum ?_
  | refine we_callB rfl (Blt.abs (by assumption)) boot_abs ?_
  | refine we_callT rfl (Blt.list (by assumption)) boot_list ?_
  | refine we_callT rfl (Blt.int (by assumption)) boot_int ?_
  | refine we_callT rfl (Blt.str (by assumption)) boot_str ?_
  | refine we_callT rfl (Blt.set (by assumption)) boot_set ?_
  | refine we_verr rfl (Blt.ValueError (by assumption)) ?_
  | refine we_append ?_ | refine we_extend ?_ | refine we_pop ?_ | refine we_popAt ?_ | refine we_index ?_ | refine we_countN ?_
  | refine we_dget2 (by assumption) ?_
  | refine we_make (by assumption) (by assumption) (by decide) (by assumption) rfl ?_
  | refine we_methM ?_ | refine we_methM0 ?_
  | refine we_call0 (by assumption) (by assumption) (by decide) (by assumption) rfl ?_
  | refine we_make0 (by assumption) (by assumption) (by decide) (by assumption) rfl ?_)
local macro_rules | `(tactic| fail "we") => `(tactic| first
  | refine we_int ?_ | refine we_bl ?_ | refine we_non ?_ | refine we_str ?_
  | fail "name"
  | refine we_bin ?_ | refine we_not ?_ | refine we_un ?_ | refine we_cmp rfl ?_ | refine we_chain rfl ?_ | refine we_and ?_ | refine we_or ?_ | refine we_one ?_ | refine we_ifExp ?_
  | refine we_revI ?_ | refine we_stepI (by decide) ?_ | refine we_sl ?_ | refine we_ix ?_ | refine we_tupK ?_ | refine we_lstK ?_
  | fail "bltn"
  | refine we_fldF ?_ | refine we_dict0 ?_ | refine we_dict1 ?_
  | fail "call")
local macro_rules | `(tactic| fail "wt") => `(tactic| first
  | refine wt_cmp rfl ?_ | refine wt_chain rfl ?_ | refine wt_not ?_
  | refine wt_ww (ww_and ?_) | refine wt_ww (ww_or ?_) | refine wt_val ?_)
local macro_rules | `(tactic| fail "ww") => `(tactic| first | refine ww_and ?_ | refine ww_or ?_ | refine ww_and1 ?_ | refine ww_or1 ?_)
local macro_rules | `(tactic| fail "ws") => `(tactic| first
  | refine ws_ret ?_ | refine ws_if ?_ | refine ws_expr ?_ | refine ws_fldS ?_
  | fail "asg"
  | refine ws_raise (by exact rfl) (by fail "tk") (by assumption) rfl ?_
  | refine ws_asg ?_ | refine ws_pass ?_ | refine ws_break ?_ | refine ws_cont ?_)
local macro_rules | `(tactic| fail "bin") => `(tactic| first
  | refine b_add ?_ | refine b_sub ?_ | refine b_mulL (by omega) ?_ | refine b_mulR (by omega) ?_ | refine b_fdiv (by omega) ?_ | refine b_mod (by omega) ?_ | refine b_p8 ?_ | refine b_p12 ?_ | refine b_p18 ?_ | refine b_p6 ?_ | refine b_p9 ?_ | refine b_p11 ?_ | refine b_p27 ?_ | refine b_p30 ?_ | refine b_p39 ?_ | refine b_p3 ?_ | refine b_p4 ?_ | refine b_p5 ?_ | refine b_p7 ?_ | refine b_p10 ?_ | refine b_p13 ?_ | refine b_p15 ?_ | refine b_p16 ?_ | refine b_p17 ?_ | refine b_p24 ?_ | refine b_p29 ?_
  | refine b_catI (by fail "lookI") (by fail "lookI") (by fail "num") ?_ | refine b_repI (by fail "lookI") (by omega) (by fail "num") ?_ | refine b_catP (by fail "pl") (by fail "pl") (by fail "num") ?_ | refine b_cat (by fail "look") (by fail "look") (by fail "num") ?_)
local macro_rules | `(tactic| fail "cmp") => `(tactic| first
  | refine c_lt ?_ | refine c_le ?_ | refine c_gt ?_ | refine c_ge ?_ | refine c_eqI ?_ | refine c_neI ?_ | refine c_eqS ?_ | refine c_neS ?_ | refine c_eqB ?_ | refine c_neB ?_ | refine c_isN ?_ | refine c_notN ?_ | refine c_isB ?_ | refine c_notB ?_
  | refine c_eqL (by assumption) (by fail "sqI") (by fail "sqI") ?_ | refine c_neL (by assumption) (by fail "sqI") (by fail "sqI") ?_ | refine c_inI (by fail "sqI") ?_ | refine c_ninI (by fail "sqI") ?_ | refine c_eqP (by assumption) (by fail "pl") (by fail "pl") ?_ | refine c_neP (by assumption) (by fail "pl") (by fail "pl") ?_
  | refine c_eqO (by assumption) (by fail "look") (by first | fail "look" | exact o0 (by fail "look")) ?_ | refine c_neO (by assumption) (by fail "look") (by first | fail "look" | exact o0 (by fail "look")) ?_
  | refine c_eqBs (by assumption) (by fail "bsl") (by fail "bsl") ?_
  | refine c_eqT (by assumption) (by fail "tqI") (by fail "tqI") ?_ | refine c_neT (by assumption) (by fail "tqI") (by fail "tqI") ?_)
local macro_rules | `(tactic| fail "cls") => `(tactic| first | exact .nil | exact .cons (.own _) (by fail "cls"))
local macro_rules | `(tactic| fail "kany") => `(tactic| first | exact kany_0 | exact kany_t (by assumption) | exact kany_f (by assumption) (by fail "kany"))
local macro_rules | `(tactic| fail "bsl") => `(tactic| first | exact bs2 (by fail "look") | exact bs3 (by fail "look") | exact bs6 (by fail "look"))
local macro_rules | `(tactic| fail "cal") => `(tactic| first
  | refine k_len (by fail "sq") ?_ | refine k_lenT (by fail "sq") ?_ | refine k_max2 rfl ?_ | refine k_min2 rfl ?_ | refine k_intI ?_ | refine k_intD ?_ | refine k_intN ?_ | refine k_intB ?_ | refine k_abs ?_
  | refine k_isiN in_int ?_ | refine k_isiI ii_int ?_ | refine k_isiI ii_bool ?_ | refine k_isiL (by fail "look") il_list ?_
  | refine k_reprI (by assumption) (by assumption) (by fail "sqI") (by assumption) (by fail "num") ?_
  | refine k_isiP (by fail "pl") il_list ?_ | refine k_reprP (by assumption) (by assumption) (by fail "pl") (by assumption) (by fail "num") ?_ | refine k_lenP (by fail "pl") ?_ | refine k_listP (by fail "pl") ?_
  | refine k_min rfl (by fail "sqI") (by fail "num") ?_ | refine k_max rfl (by fail "sqI") (by fail "num") ?_
  | refine k_sum rfl (by fail "sqI") ?_ | refine k_sorted (by fail "sqI") ?_ | refine k_list (.inl (by fail "sq")) ?_ | refine k_isiTu (by fail "look") it_tup ?_ | refine k_lenR (by fail "rl") ?_ | refine k_listR (by fail "rl") ?_ | refine k_strI (by assumption) ?_ | refine k_setI rfl (by fail "sqI") (by fail "num") ?_ | refine k_lenSet (by fail "look") (by omega) ?_ | refine k_sortedSet rfl (by fail "look") ?_
  | refine k_isiE (by fail "look") (by assumption) (ClsV.ty _) (by assumption) ?_ | refine k_isiE (by fail "look") (by assumption) (ClsV.own _) (by assumption) ?_ | refine k_isiET (by fail "look") (by assumption) (by fail "look") (by fail "cls") (by fail "kany") ?_)
local macro_rules | `(tactic| fail "dec") => `(tactic| first | assumption | omega | with_reducible exact rfl | exact ref_non | exact int_non | exact Rp.un (by assumption) (by assumption) | (simp only [List.length_cons, List.length_nil]; omega))
local macro_rules | `(tactic| fail "last") => `(tactic| assumption)
local macro_rules | `(tactic| fail "stepE") => `(tactic| first
  | (with_reducible show Wss _ [] _ _ _); refine wss_nil ?_
  | (with_reducible show We _ _ _ _ _); fail "we"
  | (with_reducible show Wa _ _ _ _ _); first | refine wa_nil ?_ | refine wa_cons ?_
  | (with_reducible show Wt _ _ _ _ _); fail "wt"
  | (with_reducible show Ww _ _ _ _ _); fail "ww"
  | (with_reducible show Ws _ _ _ _ _); fail "ws"
  | (with_reducible show Bin _ _ _ _ _ _); fail "bin"
  | (with_reducible show Cmp _ _ _ _ _ _); fail "cmp"
  | (with_reducible show Una _ _ _ _ _); refine u_neg ?_
  | (with_reducible show Ixw _ _ _ _ _); first | refine x_lastI (by fail "sqI") (by fail "last") ?_ | refine x_headI (by fail "look") ?_ | refine x_ints (by fail "sq") (by omega) (by fail "num") ?_ | refine x_lst (by fail "sq") rfl ?_ | refine x_m2 (by fail "look") (by omega) ?_ | refine x_m3 (by fail "look") (by omega) ?_ | refine x_m4 (by fail "look") (by omega) ?_ | refine x_m5 (by fail "look") (by omega) ?_ | refine x_m6 (by fail "look") (by omega) ?_ | refine x_tup (by fail "sq") rfl ?_ | refine x_ixO (by fail "look") (by omega) (by assumption) ?_
  | (with_reducible show Setw _ _ _ _ _ _); first | refine x_setI (by fail "look") (by omega) (by fail "num") ?_ | refine x_setD (by assumption) (by fail "look") (by fail "num") ?_ | refine x_set (by fail "look") rfl ?_ | refine x_set (by fail "look") (ixN_of (by omega) (by fail "num")) ?_
  | (with_reducible show Cal _ _ _ _ _); fail "cal"
  | (with_reducible show Fw _ _ _ _ _); refine fw_of (by fail "look") (by assumption) (by fail "mem") rfl ?_
  | (with_reducible show Sw _ _ _ _ _ _); refine sw_of (by fail "look") (by assumption) (by fail "mem") (Nat.le_of_ble_eq_true rfl) rfl ?_
  | (with_reducible show Mw _ _ _ _ _ _ _); refine mw_of (by fail "look") (by assumption) (by assumption) (by assumption) (by decide) (by assumption) rfl ?_
  | (with_reducible show Mw0 _ _ _ _ _); refine mw0_of (by fail "look") (by assumption) (by assumption) (by assumption) (by decide) (by assumption) rfl ?_
  | (with_reducible show V.non = V.non ∧ _); refine ⟨rfl, ?_⟩
  | (with_reducible show (∃ ps, _ = some (HO.dK (encK ps))) ∧ _); refine ⟨⟨_, by fail "look"⟩, ?_⟩
  | (with_reducible show ∃ ps i d, _ = some (HO.dK (encK ps)) ∧ _); refine ⟨_, _, _, by fail "look", rfl, rfl, ?_⟩
  | (with_reducible show ∃ d ps, V.ref _ = V.ref d ∧ _ = some (HO.dK (encK ps)) ∧ _); refine ⟨_, _, rfl, by fail "look", ?_⟩
  | (with_reducible show Wch _ _ _ _ _ _ _); first | refine wch_last ?_ | refine wch_link ?_
  | (with_reducible show Wct _ _ _ _ _ _ _); first | refine wct_last ?_ | refine wct_link ?_
  | (with_reducible show Wp _ _ _ _ _); first | refine wp_none ?_ | refine wp_some ?_
  | (with_reducible show TB _ _ _); refine tb ?_
  | (with_reducible show Ipw _ _ _ _ _ _); first | refine p_add ?_ | refine p_sub ?_
  | (with_reducible show Slw _ _ _ _ _ _); first | refine x_slI (by fail "sqI") ?_ | refine x_sl (by fail "sq") ?_
  | (with_reducible show Wg _ _ _ _ _ _); first | fail "tgt" | refine wg_cut ?_ | refine wg_sub ?_ | refine wg_tup rfl (by fail "sq") rfl ?_
  | (with_reducible show Wgs _ _ _ _ _ _); first | refine wgs_nil ?_ | refine wgs_cons ?_
  | (with_reducible show List.length _ ≤ _ ∧ _); refine ⟨Nat.le_of_ble_eq_true rfl, ?_⟩
  | (with_reducible show Body _ _ _ _ _ _ _); unfold Body
  | (with_reducible show ∃ i, V.int _ = V.int i ∧ _); refine ⟨_, rfl, ?_⟩
  | (with_reducible show ∃ i, V.ref _ = V.ref i ∧ _); refine ⟨_, rfl, ?_⟩
  | (with_reducible show (∃ xs, _ = some (HO.lst xs)) ∧ _); first | refine ⟨⟨_, by fail "look"⟩, ?_⟩ | refine ⟨appRx (by fail "rl"), ?_⟩
  | (with_reducible show ∃ xs, _ = some (HO.lst xs) ∧ _); first | refine appI (by fail "look") (by fail "num") ?_ | refine appI (by fail "lookI") (by fail "num") ?_ | refine appV (by fail "look") (by fail "num") ?_ | refine appR (by fail "rl") (by fail "look") (by fail "num") ?_
  | (with_reducible show ∃ l xs y, V.ref _ = V.ref l ∧ _); refine popI (by fail "look") (by fail "last") ?_
  | (with_reducible show ∃ xs i v, V.int _ = V.int i ∧ _); refine popAtI (by fail "look") (by omega) (by fail "num") (by fail "num") ?_
  | (with_reducible show ∃ ns, SqL _ _ _ _ ∧ _); refine ⟨_, by fail "sqI", ?_⟩
  | (with_reducible show Elt _ _ _ _ _ _ _ _ _ _ _); intro _ _ _ _ _
  | (with_reducible show Bl _ _ _); intro _ _ _ _ _
  | (with_reducible show wipe _ _ = wipe _ _ ∧ _); refine ⟨rfl, ?_⟩
  | (with_reducible show Wts _ _ _ _ _); first | refine wts_nil ?_ | refine wts_one ?_
  | fail "sp"
  | intro _
  | (with_reducible show @ite Prop _ _ _ _); first
    | with_reducible refine iteT ?_
    | with_reducible refine iteF ?_
    | with_reducible refine iteNT ?_
    | with_reducible refine iteNF ?_
    | refine iteP (by fail "dec") ?_ | refine iteN (by fail "dec") ?_ | refine itePn (by fail "dec") ?_ | refine iteNn (by fail "dec") ?_
    | refine iteP (by decide) ?_ | refine iteN (by decide) ?_ | refine itePn (by decide) ?_ | refine iteNn (by decide) ?_
    | (with_reducible show @ite Prop ((!@decide _ (_ : Decidable _)) = true) _ _ _); refine iteDn (fun _ => ?_) (fun _ => ?_)
    | (with_reducible show @ite Prop (@decide _ (_ : Decidable _) = true) _ _ _); refine iteD (fun _ => ?_) (fun _ => ?_)
    | refine iteT ?_
    | refine iteF ?_
    | refine iteB (fun _ => ?_) (fun _ => ?_))
local macro_rules | `(tactic| fail "step") => `(tactic| first
  | (with_reducible show Wss _ _ _ _ _); first | refine wss_nil ?_ | refine wss_one ?_ | refine wss_cons ?_
  | fail "stepE")
local macro_rules | `(tactic| fail "goE") => `(tactic| repeat' fail "stepE")
local macro_rules | `(tactic| fail "st") => `(tactic| ((first | refine wss_nil ?_ | refine wss_one ?_ | refine wss_cons ?_); repeat' fail "stepE"))
local macro_rules | `(tactic| fail "nf") => `(tactic| fail_if_success skip)
local macro_rules | `(tactic| fail "sn") => `(tactic| ((try fail "nf"); (first | refine wss_nil ?_ | refine wss_one ?_ | refine wss_cons ?_); repeat' fail "stepE"))
local macro_rules | `(tactic| fail "go") => `(tactic| repeat' fail "step")
local macro_rules | `(tactic| fail "dk") => `(tactic| first
  | assumption
  | exact Dk.kX (by assumption) (by fail "dk") (by fail "side1"))
local macro_rules | `(tactic| fail "cal") => `(tactic| first | refine k_lenS (by omega) ?_ | refine k_isiS is_str ?_)
local macro_rules | `(tactic| fail "bin") => `(tactic| refine b_addS (by omega) ?_)
local macro_rules | `(tactic| fail "cmp") => `(tactic| first | refine c_inS ?_ | refine c_ninS ?_)
local macro_rules | `(tactic| fail "call") => `(tactic| first | refine we_split ?_ | refine we_join ?_ | refine we_partition ?_ | refine we_upper ?_)
local macro_rules | `(tactic| fail "stepE") => `(tactic| first
  | (with_reducible show Slw _ (V.str _) _ _ _ _); refine x_slS (by omega) ?_
  | (with_reducible show Ixw _ (V.str _) _ _ _); refine x_str (by omega) (by assumption) ?_
  | (with_reducible show ∃ b, V.str _ = V.str b ∧ (_ == 0) = false ∧ _); refine ⟨_, rfl, by decide +kernel, by omega, ?_⟩
  | (with_reducible show ∃ b, V.str _ = V.str b ∧ _); refine ⟨_, rfl, ?_⟩)
def topS (i : Nat) : Stmt := PySem.Challenge.pw_stretchleast_k54_texts_of_no_row.main.body.getD i (.Pass ⟨0, 0, 0, 0⟩)

section
variable {P : Program} {w : World} {K : PySem.W.Frag} {mg : Str → Option Value} {base : Heap} {f : Addr} {fd : FuncData}
variable {C_NoText : Addr}
local macro_rules | `(tactic| fail "we") => `(tactic| ((with_reducible refine' we_gkA (x := "FIGURES") ?_ ?_ ?_ ?_); rotate_left; assumption; exact rfl; decide))
local macro_rules | `(tactic| fail "we") => `(tactic| ((with_reducible refine' we_gkA (x := "MOST_FIGURES") ?_ ?_ ?_ ?_); rotate_left; assumption; exact rfl; decide))
local macro_rules | `(tactic| fail "tk") => `(tactic| first | assumption | exact takes_of rfl rfl rfl rfl)
abbrev srfig : Stmt := topS 11
theorem scrfig : FnScope ["figures", "figure"] ["figures"] (defScope srfig) := ⟨rfl, rfl, rfl, by decide +kernel, rfl, by decide +kernel, by decide +kernel⟩
local macro_rules | `(tactic| fail "name") => `(tactic| first
  | ((with_reducible apply we_var_at 0 "figures"); exact rfl; fail "vis"; exact rfl; decide; decide)
  | ((with_reducible apply we_var_at 1 "figure"); exact rfl; fail "vis"; exact rfl; decide; decide))
local macro_rules | `(tactic| fail "nf") => `(tactic| refine wss_nf (σ' := [_, _]) rfl ?_)
local macro_rules | `(tactic| fail "asg") => `(tactic| first
  | ((with_reducible refine ws_name_at 0 "figures" ?_ ?_ ?_ ?_ ?_ ?_); assumption; exact rfl; fail "loc"; exact rfl; fail "fn")
  | ((with_reducible apply ws_aug_at 0 "figures"); assumption; exact rfl; fail "loc"; fail "fn"; exact rfl)
  | ((with_reducible refine ws_name_at 1 "figure" ?_ ?_ ?_ ?_ ?_ ?_); assumption; exact rfl; fail "loc"; exact rfl; fail "fn")
  | ((with_reducible apply ws_aug_at 1 "figure"); assumption; exact rfl; fail "loc"; fail "fn"; exact rfl))
local macro_rules | `(tactic| fail "tgt") => `(tactic| first
  | ((with_reducible refine wg_name_at 0 "figures" ?_ ?_ ?_ ?_ ?_); assumption; exact rfl; fail "loc"; fail "fn")
  | ((with_reducible refine wg_name_at 1 "figure" ?_ ?_ ?_ ?_ ?_); assumption; exact rfl; fail "loc"; fail "fn"))
theorem fig_mem {c : Nat} : c ∈ (PySem.Str.ofString "0123456789").cps.toList ↔ 48 ≤ c ∧ c ≤ 57 := by
  have e : (PySem.Str.ofString "0123456789").cps.toList = [48, 49, 50, 51, 52, 53, 54, 55, 56, 57] := by decide +kernel
  rw [e]
  simp only [List.mem_cons, List.not_mem_nil, or_false]
  omega
theorem str_is {x y : Str} : x = y ↔ TL.tl x = TL.tl y := ⟨fun e => by rw [e], fun e => TL.ext_tl e⟩
theorem sg_0 {c : Nat} : ((⟨#[c]⟩ : Str) = PySem.Str.ofString "0") ↔ c = 48 := by
  rw [str_is]
  have e : TL.tl (PySem.Str.ofString "0") = [48] := by decide +kernel
  rw [e]
  show [c] = [48] ↔ _
  exact ⟨fun z => (List.cons.inj z).1, fun z => by rw [z]⟩
theorem is_0 {x : Str} : (x = PySem.Str.ofString "0") ↔ TL.tl x = [48] := by
  rw [str_is]
  have e : TL.tl (PySem.Str.ofString "0") = [48] := by decide +kernel
  rw [e]
theorem figN_no {l : List Nat} (h : (((1 ≤ l.length ∧ l.length ≤ 13) ∧ (l.head? = some 48 → l = [48])) ∧ (∀ c ∈ l, 48 ≤ c ∧ c ≤ 57)) → False) : figN l = none := by
  unfold figN
  rw [if_neg h]
theorem atI_0 (c : Nat) (r : List Nat) : atI (c :: r) 0 = some c := by
  unfold atI ixN
  simp
def sprfig (K : PySem.W.Frag) (C : Addr) : Sp := fun vs H Q E => ∃ (x : Str), vs = [.str x] ∧ x.length ≤ 16000000 ∧ (∀ n, figN (TL.tl x) = some n → Q (.int (n : Int)) H) ∧ (figN (TL.tl x) = none → E (.ref C) none H)
theorem c_rfig {K : PySem.W.Frag} {C : Addr} {H : Hp} {Q : VK} {E : XK} {x : Str} (hx : x.length ≤ 16000000) (q1 : ∀ n, figN (TL.tl x) = some n → Q (.int (n : Int)) H) (q2 : figN (TL.tl x) = none → E (.ref C) none H) : sprfig K C [.str x] H Q E := ⟨x, rfl, hx, q1, q2⟩
theorem ok_rfig (F : Fun K "read_figures" "read_figures" srfig f fd) (B : Blt mg)  (X_NoText : ExK K mg "NoText" C_NoText)  (G_FIGURES : GKs mg "FIGURES" (.str (PySem.Str.ofString "0123456789"))) (G_MOST_FIGURES : GKs mg "MOST_FIGURES" (.int 13))   : FnG P w K mg base (L2.CX P w) 1 f fd ["figures"] (sprfig K C_NoText) := by
  have nd := scrfig.nd
  refine okX F scrfig (fun vs H Q E h => ?_) (fun cdv A outer s H vs Q E hr hgd h => ?_)
  · obtain ⟨x, rfl, _⟩ := h
    rfl
  · obtain ⟨x, rfl, hx, q1, q2⟩ := h
    have hl := TL.len_tl x
    cases e : TL.tl x with
    | nil =>
      have hn : figN (TL.tl x) = none := by rw [e]; decide
      rw [e, List.length_nil] at hl
      fail "go"
      all_goals first
        | exact q2 hn
        | (exfalso; omega)
    | cons c r =>
      have hc : atI x.cps.toList 0 = some c := by rw [show x.cps.toList = c :: r from e]; exact atI_0 _ _
      fail "nf"
      refine wss_cut (fun σ1 H1 => σ1 = [some (.str x), none] ∧ H1 = H ∧ x.length ≤ 13 ∧ (c = 48 → TL.tl x = [48])) ?_ ?_
      · fail "go"
        · rename_i h1 h2
          exact q2 (figN_no fun z => absurd z.1.1.2 (by rw [← hl]; omega))
        · rename_i h1 h2 h3 h4
          exact q2 (figN_no fun z => h4 (is_0.mpr (z.1.2 (by rw [e, List.head?_cons, sg_0.mp h3]))))
        · rename_i h1 h2 h3 h4
          exact ⟨rfl, rfl, by omega, fun _ => is_0.mp h4⟩
        · rename_i h1 h2 h3
          exact ⟨rfl, rfl, by omega, fun z => absurd (sg_0.mpr z) h3⟩
        · rename_i h1
          exact q2 (figN_no fun z => absurd z.1.1.1 (by rw [← hl]; omega))
      rintro σ1 H1 ⟨rfl, rfl, hl13, h48⟩
      refine wss_cons ?_
      refine ws_forS ?_ (passes_of rfl) (by exact rfl)
      fail "goE"
      refine ⟨fun i σ' H' => ∃ (y : Option V), σ' = [some (.str x), y] ∧ H' = H1 ∧ ∀ j, j < i → ∀ d, (TL.tl x)[j]? = some d → 48 ≤ d ∧ d ≤ 57, ⟨_, rfl, rfl, fun j hj => absurd hj (Nat.not_lt_zero j)⟩, ?_, ?_⟩
      · rintro i d σ' H' hd ⟨y, rfl, rfl, hall⟩
        fail "go"
        · rename_i hno
          exact q2 (figN_no fun z => hno (fig_mem.mpr (z.2 d (List.mem_of_getElem? hd))))
        · rename_i hno
          refine ⟨_, rfl, rfl, fun j hj d' hd' => ?_⟩
          by_cases z : j = i
          · rw [z] at hd'
            cases hd.symm.trans hd'
            exact fig_mem.mp hno
          · exact hall j (by omega) d' hd'
      · rintro σ' H' ⟨y, rfl, rfl, hall⟩
        have hdig : ∀ d ∈ TL.tl x, 48 ≤ d ∧ d ≤ 57 := fun d hd => by
          obtain ⟨j, hj⟩ := List.mem_iff_getElem?.mp hd
          exact hall j (List.getElem?_eq_some_iff.mp hj).1 d hj
        have hn : figN (TL.tl x) = some (NumText.digitsVal (TL.tl x)) := figN_some.mpr ⟨⟨⟨⟨by rw [e]; exact Nat.succ_pos _, by omega⟩, fun z => h48 (by rw [e, List.head?_cons] at z; exact Option.some.inj z)⟩, hdig⟩, rfl⟩
        have hint : PySem.intText? x = some ((NumText.digitsVal (TL.tl x) : Nat) : Int) := by
          have := SX.int_S (a := TL.tl x) (List.all_eq_true.mpr fun d hd => by have := hdig d hd; simp [this]) (by rw [e]; exact List.cons_ne_nil _ _) (by omega)
          rw [show SX.S (TL.tl x) = x from SX.S_tl x] at this
          exact this
        fail "go"
        refine k_intS hint (by omega) ?_
        exact q1 _ hn
end

section
variable {P : Program} {w : World} {K : PySem.W.Frag} {mg : Str → Option Value} {base : Heap} {f : Addr} {fd : FuncData}
variable {C_NoText : Addr}
local macro_rules | `(tactic| fail "tk") => `(tactic| first | assumption | exact takes_of rfl rfl rfl rfl)
abbrev srnum : Stmt := topS 12
theorem scrnum : FnScope ["word", "number"] ["word"] (defScope srnum) := ⟨rfl, rfl, rfl, by decide +kernel, rfl, by decide +kernel, by decide +kernel⟩
local macro_rules | `(tactic| fail "name") => `(tactic| first
  | ((with_reducible apply we_var_at 0 "word"); exact rfl; fail "vis"; exact rfl; decide; decide)
  | ((with_reducible apply we_var_at 1 "number"); exact rfl; fail "vis"; exact rfl; decide; decide))
local macro_rules | `(tactic| fail "nf") => `(tactic| refine wss_nf (σ' := [_, _]) rfl ?_)
local macro_rules | `(tactic| fail "asg") => `(tactic| first
  | ((with_reducible refine ws_name_at 0 "word" ?_ ?_ ?_ ?_ ?_ ?_); assumption; exact rfl; fail "loc"; exact rfl; fail "fn")
  | ((with_reducible apply ws_aug_at 0 "word"); assumption; exact rfl; fail "loc"; fail "fn"; exact rfl)
  | ((with_reducible refine ws_name_at 1 "number" ?_ ?_ ?_ ?_ ?_ ?_); assumption; exact rfl; fail "loc"; exact rfl; fail "fn")
  | ((with_reducible apply ws_aug_at 1 "number"); assumption; exact rfl; fail "loc"; fail "fn"; exact rfl))
local macro_rules | `(tactic| fail "tgt") => `(tactic| first
  | ((with_reducible refine wg_name_at 0 "word" ?_ ?_ ?_ ?_ ?_); assumption; exact rfl; fail "loc"; fail "fn")
  | ((with_reducible refine wg_name_at 1 "number" ?_ ?_ ?_ ?_ ?_); assumption; exact rfl; fail "loc"; fail "fn"))

theorem cut_to (x : Str) : cutS x none (some 1) = SX.S ((TL.tl x).take 1) := by
  have h := SX.slice_to (a := TL.tl x) (i := 1) (by decide)
  rw [show SX.S (TL.tl x) = x from SX.S_tl x] at h
  rw [C8.cutS_slice, h]
  rfl
theorem cut_from (x : Str) : cutS x (some 1) none = SX.S ((TL.tl x).drop 1) := by
  have h := SX.slice_from (a := TL.tl x) (i := 1) (by decide)
  rw [show SX.S (TL.tl x) = x from SX.S_tl x] at h
  rw [C8.cutS_slice, h]
  rfl
theorem is_dash {x : Str} : (x = PySem.Str.ofString "-") ↔ TL.tl x = [45] := by
  rw [str_is]
  have e : TL.tl (PySem.Str.ofString "-") = [45] := by decide +kernel
  rw [e]
def sprnum (K : PySem.W.Frag) (C : Addr) : Sp := fun vs H Q E => ∃ (x : Str), vs = [.str x] ∧ x.length ≤ 16000000 ∧ (∀ i, wdN (TL.tl x) = some i → Q (.int i) H) ∧ (wdN (TL.tl x) = none → E (.ref C) none H)
theorem c_rnum {K : PySem.W.Frag} {C : Addr} {H : Hp} {Q : VK} {E : XK} {x : Str} (hx : x.length ≤ 16000000) (q1 : ∀ i, wdN (TL.tl x) = some i → Q (.int i) H) (q2 : wdN (TL.tl x) = none → E (.ref C) none H) : sprnum K C [.str x] H Q E := ⟨x, rfl, hx, q1, q2⟩
theorem c_rnumI {K : PySem.W.Frag} {C : Addr} {H : Hp} {Q : VK} {E : XK} {x : Str} {i : Int} (hx : x.length ≤ 16000000) (hi : wdN (TL.tl x) = some i) (q : Q (.int i) H) : sprnum K C [.str x] H Q E := ⟨x, rfl, hx, fun j hj => by rw [hi] at hj; cases hj; exact q, fun hj => by rw [hi] at hj; cases hj⟩
theorem ok_rnum (F : Fun K "read_number" "read_number" srnum f fd) (B : Blt mg)  (X_NoText : ExK K mg "NoText" C_NoText)    (D_rfig : DfX P w K mg base 1 "read_figures" (sprfig K C_NoText)) : FnG P w K mg base (L2.CX P w) 2 f fd ["word"] (sprnum K C_NoText) := by
  have nd := scrnum.nd
  refine okX F scrnum (fun vs H Q E h => ?_) (fun cdv A outer s H vs Q E hr hgd h => ?_)
  · obtain ⟨x, rfl, _⟩ := h
    rfl
  · obtain ⟨x, rfl, hx, q1, q2⟩ := h
    have hl := TL.len_tl x
    cases e : TL.tl x with
    | nil =>
      rw [e] at q1 q2
      fail "go"
      · refine c_rfig hx ?_ ?_
        · intro n hn
          rw [e] at hn
          exact nomatch (show (none : Option Nat) = some n from hn)
        · intro _
          exact q2 rfl
      · rename_i hne
        rw [cut_to, e, is_dash] at hne
        exact absurd hne (by decide)
    | cons c r =>
      rw [e] at q1 q2
      have ed : (cutS x none (some 1) = PySem.Str.ofString "-") ↔ c = 45 := by
        rw [cut_to, e, is_dash]
        show [c] = [45] ↔ _
        exact ⟨fun z => (List.cons.inj z).1, fun z => by rw [z]⟩
      fail "go"
      · rename_i hne
        have hc : c ≠ 45 := fun z => hne (ed.mpr z)
        rw [wdN_cons, if_neg hc] at q1 q2
        refine c_rfig hx ?_ ?_
        · intro n hn
          rw [e] at hn
          exact q1 _ (by rw [hn]; rfl)
        · intro hn
          rw [e] at hn
          exact q2 (by rw [hn]; rfl)
      · rename_i hne
        have hc : c = 45 := ed.mp hne
        rw [wdN_cons, if_pos hc] at q1 q2
        have er : TL.tl (cutS x (some 1) none) = r := by rw [cut_from, e]; rfl
        refine c_rfig (by have := cutS_length x (some 1) none; omega) ?_ ?_
        · intro n hn
          rw [er] at hn
          fail "go"
          · rename_i hz
            exact q2 (by rw [hn, show n = 0 by omega])
          · rename_i hz
            refine q1 _ ?_
            rw [hn]
            cases n with
            | zero => exact absurd rfl hz
            | succ n => rfl
        · intro hn
          rw [er] at hn
          exact q2 (by rw [hn])
end

section
variable {P : Program} {w : World} {K : PySem.W.Frag} {mg : Str → Option Value} {base : Heap} {f : Addr} {fd : FuncData}
variable {C_NoText : Addr}
local macro_rules | `(tactic| fail "tk") => `(tactic| first | assumption | exact takes_of rfl rfl rfl rfl)
abbrev sreadrow : Stmt := topS 13
theorem screadrow : FnScope ["text", "word"] ["text"] (defScope sreadrow) := ⟨rfl, rfl, rfl, by decide +kernel, rfl, by decide +kernel, by decide +kernel⟩
local macro_rules | `(tactic| fail "name") => `(tactic| first
  | ((with_reducible apply we_var_at 0 "text"); exact rfl; fail "vis"; exact rfl; decide; decide)
  | ((with_reducible apply we_var_at 1 "word"); exact rfl; fail "vis"; exact rfl; decide; decide))
local macro_rules | `(tactic| fail "nf") => `(tactic| refine wss_nf (σ' := [_, _]) rfl ?_)
local macro_rules | `(tactic| fail "asg") => `(tactic| first
  | ((with_reducible refine ws_name_at 0 "text" ?_ ?_ ?_ ?_ ?_ ?_); assumption; exact rfl; fail "loc"; exact rfl; fail "fn")
  | ((with_reducible apply ws_aug_at 0 "text"); assumption; exact rfl; fail "loc"; fail "fn"; exact rfl)
  | ((with_reducible refine ws_name_at 1 "word" ?_ ?_ ?_ ?_ ?_ ?_); assumption; exact rfl; fail "loc"; exact rfl; fail "fn")
  | ((with_reducible apply ws_aug_at 1 "word"); assumption; exact rfl; fail "loc"; fail "fn"; exact rfl))
local macro_rules | `(tactic| fail "tgt") => `(tactic| first
  | ((with_reducible refine wg_name_at 0 "text" ?_ ?_ ?_ ?_ ?_); assumption; exact rfl; fail "loc"; fail "fn")
  | ((with_reducible refine wg_name_at 1 "word" ?_ ?_ ?_ ?_ ?_); assumption; exact rfl; fail "loc"; fail "fn"))

def spreadrow (K : PySem.W.Frag) (C : Addr) : Sp := fun vs H Q E => ∃ (x : Str), vs = [.str x] ∧ x.length ≤ 80000 ∧ (∀ ns, rwN x = some ns → ∀ p H', H p = none → Kp [] H H' → H' p = some (.lst (ns.map V.int)) → Q (.ref p) H') ∧ (rwN x = none → ∀ H', Kp [] H H' → E (.ref C) none H')
theorem c_readrow {K : PySem.W.Frag} {C : Addr} {H : Hp} {Q : VK} {E : XK} {x : Str} (hl : x.length ≤ 80000) (q1 : ∀ ns, rwN x = some ns → ∀ p H', H p = none → Kp [] H H' → H' p = some (.lst (ns.map V.int)) → Q (.ref p) H') (q2 : rwN x = none → ∀ H', Kp [] H H' → E (.ref C) none H') : spreadrow K C [.str x] H Q E := ⟨x, rfl, hl, q1, q2⟩
local macro_rules | `(tactic| fail "call") => `(tactic| refine we_callF (by assumption) (by assumption) (by decide) (by assumption) rfl tkF_blk ?_)
local macro_rules | `(tactic| fail "stepE") => `(tactic| ((with_reducible show BlX _ _ _ _); intro _ _ _ _ _))
theorem ok_readrow (F : Fun K "read_row" "read_row" sreadrow f fd) (B : Blt mg)  (X_NoText : ExK K mg "NoText" C_NoText)    (D_rnum : DfX P w K mg base 2 "read_number" (sprnum K C_NoText)) : FnG P w K mg base (L2.CX P w) 3 f fd ["text"] (spreadrow K C_NoText) := by
  have nd := screadrow.nd
  refine okX F screadrow (fun vs H Q E h => ?_) (fun cdv A outer s H vs Q E hr hgd h => ?_)
  · obtain ⟨x, rfl, _⟩ := h
    rfl
  · obtain ⟨x, rfl, hl, q1, q2⟩ := h
    fail "sn"
    · rename_i hz
      have hn : rwN x = some [] := if_pos hz
      fail "go"
      rename_i p1 H1 n1 k1 h1
      exact q1 _ hn p1 H1 n1 k1 h1
    · rename_i hz
      have hn : rwN x = wsN (wordsS x) := if_neg hz
      have hm := words_many x
      fail "nf"
      refine wss_one ?_
      refine ws_ret ?_
      refine we_lcX (own := [("word", 1)]) (by exact rfl) nd (blkOk_by (N := ["text", "word"]) (sc := defScope sreadrow) (by decide +kernel)) (takes_of rfl rfl rfl rfl) rfl rfl ?_
      refine lcx_L (enc := V.str) (enc2 := V.int) (fun w => wdN (TL.tl w)) ?_
      fail "goE"
      rename_i p1 H1 n1 k1 h1
      refine ⟨p1, wordsS x, rfl, sqL h1, by omega, fun w hw H2 k2 => ?_, ?_⟩
      · have hwl := words_len hw
        fail "goE"
        refine c_rnum (by omega) ?_ ?_
        · intro i hi
          exact ⟨⟨i, hi, rfl⟩, Kp.refl⟩
        · intro hno
          exact q2 (by rw [hn]; exact wsN_none hw hno) _ (by fail "kp")
      · intro Dl H2 bs nD k2 hb hD
        exact q1 bs (by rw [hn]; exact wsN_some hb) Dl H2 (by fail "nn") (by fail "kp") hD
end

section
variable {P : Program} {w : World} {K : PySem.W.Frag} {mg : Str → Option Value} {base : Heap} {f : Addr} {fd : FuncData}
abbrev stake : Stmt := topS 16
theorem sctake : FnScope ["deck", "many", "come", "number"] ["deck", "many"] (defScope stake) := ⟨rfl, rfl, rfl, by decide +kernel, rfl, by decide +kernel, by decide +kernel⟩
local macro_rules | `(tactic| fail "name") => `(tactic| first
  | ((with_reducible apply we_var_at 0 "deck"); exact rfl; fail "vis"; exact rfl; decide; decide)
  | ((with_reducible apply we_var_at 1 "many"); exact rfl; fail "vis"; exact rfl; decide; decide)
  | ((with_reducible apply we_var_at 2 "come"); exact rfl; fail "vis"; exact rfl; decide; decide)
  | ((with_reducible apply we_var_at 3 "number"); exact rfl; fail "vis"; exact rfl; decide; decide))
local macro_rules | `(tactic| fail "nf") => `(tactic| refine wss_nf (σ' := [_, _, _, _]) rfl ?_)
local macro_rules | `(tactic| fail "asg") => `(tactic| first
  | ((with_reducible refine ws_name_at 0 "deck" ?_ ?_ ?_ ?_ ?_ ?_); assumption; exact rfl; fail "loc"; exact rfl; fail "fn")
  | ((with_reducible apply ws_aug_at 0 "deck"); assumption; exact rfl; fail "loc"; fail "fn"; exact rfl)
  | ((with_reducible refine ws_name_at 1 "many" ?_ ?_ ?_ ?_ ?_ ?_); assumption; exact rfl; fail "loc"; exact rfl; fail "fn")
  | ((with_reducible apply ws_aug_at 1 "many"); assumption; exact rfl; fail "loc"; fail "fn"; exact rfl)
  | ((with_reducible refine ws_name_at 2 "come" ?_ ?_ ?_ ?_ ?_ ?_); assumption; exact rfl; fail "loc"; exact rfl; fail "fn")
  | ((with_reducible apply ws_aug_at 2 "come"); assumption; exact rfl; fail "loc"; fail "fn"; exact rfl)
  | ((with_reducible refine ws_name_at 3 "number" ?_ ?_ ?_ ?_ ?_ ?_); assumption; exact rfl; fail "loc"; exact rfl; fail "fn")
  | ((with_reducible apply ws_aug_at 3 "number"); assumption; exact rfl; fail "loc"; fail "fn"; exact rfl))
local macro_rules | `(tactic| fail "tgt") => `(tactic| first
  | ((with_reducible refine wg_name_at 0 "deck" ?_ ?_ ?_ ?_ ?_); assumption; exact rfl; fail "loc"; fail "fn")
  | ((with_reducible refine wg_name_at 1 "many" ?_ ?_ ?_ ?_ ?_); assumption; exact rfl; fail "loc"; fail "fn")
  | ((with_reducible refine wg_name_at 2 "come" ?_ ?_ ?_ ?_ ?_); assumption; exact rfl; fail "loc"; fail "fn")
  | ((with_reducible refine wg_name_at 3 "number" ?_ ?_ ?_ ?_ ?_); assumption; exact rfl; fail "loc"; fail "fn"))
theorem m_set {x f j y : Int} {i : Nat} : ([x, f, j].map V.int).set i (.int y) = ([x, f, j].set i y).map V.int := by rw [List.map_set]
def sptake (K : PySem.W.Frag) : Sp := fun vs H Q _ => ∃ (p : Addr) (k m : Int), vs = [.ref p, .int m] ∧ Dk H p k ∧ k ≤ 1000000000 ∧ (1 ≤ m ∧ m ≤ 10000000000000) ∧ ∀ v H', Kp [p] H H' → Dk H' p (k + 1) → (0 ≤ v ∧ v < m) → Q (.int v) H'
theorem c_take {K : PySem.W.Frag} {H : Hp} {Q : VK} {E : XK} {p : Addr} {k m : Int} (h : Dk H p k) (hk : k ≤ 1000000000) (hm : 1 ≤ m ∧ m ≤ 10000000000000) (q : ∀ v H', Kp [p] H H' → Dk H' p (k + 1) → (0 ≤ v ∧ v < m) → Q (.int v) H') : sptake K [.ref p, .int m] H Q E := ⟨p, k, m, rfl, h, hk, hm, q⟩
local macro_rules | `(tactic| fail "bin") => `(tactic| refine b_fdivW ⟨by omega, by assumption⟩ ?_)
theorem ok_take (F : Fun K "_law_take" "_law_take" stake f fd) (B : Blt mg)       : FnG P w K mg base CX0 1 f fd ["deck", "many"] (sptake K) := by
  have nd := sctake.nd
  refine okG F sctake (fun vs H Q E h => ?_) (fun cdv A outer s H vs Q E hr hgd h => ?_)
  · obtain ⟨p, k, m, rfl, _⟩ := h
    rfl
  · obtain ⟨p, k, m, rfl, ⟨x, f, j, hp, hj⟩, hk, hm, q⟩ := h
    have hmd : ∀ z : Int, 0 ≤ z % m ∧ z % m < m := fun z => ⟨Int.emod_nonneg _ (by omega), Int.emod_lt_of_pos _ (by omega)⟩
    have hml : m.natAbs.log2 < 9000 := by
      have h1 : m.natAbs < 2 ^ 64 := by omega
      have := (Nat.log2_lt (by omega)).mpr h1
      omega
    fail "go"
    · rename_i hf H1 k1 h1
      exact q _ H1 k1 ⟨x / m, f, j, h1, by omega⟩ (hmd x)
    · rename_i hf H1 k1 h1
      have e1 : H1 p = some (.lst [.int x, .int f, .int (j + 1)]) := h1
      clear h1
      fail "go"
      exact q _ H1 k1 ⟨x, f, j + 1, e1, by omega⟩ (hmd _)
end

section
variable {P : Program} {w : World} {K : PySem.W.Frag} {mg : Str → Option Value} {base : Heap} {f : Addr} {fd : FuncData}
abbrev sdeck : Stmt := topS 17
theorem scdeck : FnScope ["cell", "k"] ["cell", "k"] (defScope sdeck) := ⟨rfl, rfl, rfl, by decide +kernel, rfl, by decide +kernel, by decide +kernel⟩
local macro_rules | `(tactic| fail "name") => `(tactic| first
  | ((with_reducible apply we_var_at 0 "cell"); exact rfl; fail "vis"; exact rfl; decide; decide)
  | ((with_reducible apply we_var_at 1 "k"); exact rfl; fail "vis"; exact rfl; decide; decide))
local macro_rules | `(tactic| fail "nf") => `(tactic| refine wss_nf (σ' := [_, _]) rfl ?_)
local macro_rules | `(tactic| fail "asg") => `(tactic| first
  | ((with_reducible refine ws_name_at 0 "cell" ?_ ?_ ?_ ?_ ?_ ?_); assumption; exact rfl; fail "loc"; exact rfl; fail "fn")
  | ((with_reducible apply ws_aug_at 0 "cell"); assumption; exact rfl; fail "loc"; fail "fn"; exact rfl)
  | ((with_reducible refine ws_name_at 1 "k" ?_ ?_ ?_ ?_ ?_ ?_); assumption; exact rfl; fail "loc"; exact rfl; fail "fn")
  | ((with_reducible apply ws_aug_at 1 "k"); assumption; exact rfl; fail "loc"; fail "fn"; exact rfl))
local macro_rules | `(tactic| fail "tgt") => `(tactic| first
  | ((with_reducible refine wg_name_at 0 "cell" ?_ ?_ ?_ ?_ ?_); assumption; exact rfl; fail "loc"; fail "fn")
  | ((with_reducible refine wg_name_at 1 "k" ?_ ?_ ?_ ?_ ?_); assumption; exact rfl; fail "loc"; fail "fn"))
def spdeck (K : PySem.W.Frag) : Sp := fun vs H Q _ => ∃ (c k : Int), vs = [.int c, .int k] ∧ 0 ≤ k ∧ ∀ p H', H p = none → Kp [] H H' → Dk H' p k → Q (.ref p) H'
theorem c_deck {K : PySem.W.Frag} {H : Hp} {Q : VK} {E : XK} {c k : Int} (hk : 0 ≤ k) (q : ∀ p H', H p = none → Kp [] H H' → Dk H' p k → Q (.ref p) H') : spdeck K [.int c, .int k] H Q E := ⟨c, k, rfl, hk, q⟩
theorem ok_deck (F : Fun K "_law_deck" "_law_deck" sdeck f fd) (B : Blt mg)       : FnG P w K mg base CX0 1 f fd ["cell", "k"] (spdeck K) := by
  have nd := scdeck.nd
  refine okG F scdeck (fun vs H Q E h => ?_) (fun cdv A outer s H vs Q E hr hgd h => ?_)
  · obtain ⟨c, k, rfl, _⟩ := h
    rfl
  · obtain ⟨c, k, rfl, hk, q⟩ := h
    fail "go"
    · rename_i p1 H1 n1 k1 h1
      exact q p1 H1 n1 k1 ⟨_, _, _, h1, by omega⟩
    · rename_i p1 H1 n1 k1 h1
      exact q p1 H1 n1 k1 ⟨_, _, _, h1, by omega⟩
end

section
variable {P : Program} {w : World} {K : PySem.W.Frag} {mg : Str → Option Value} {base : Heap} {f : Addr} {fd : FuncData}
abbrev snumber : Stmt := topS 18
theorem scnumber : FnScope ["deck", "way", "size", "far"] ["deck"] (defScope snumber) := ⟨rfl, rfl, rfl, by decide +kernel, rfl, by decide +kernel, by decide +kernel⟩
local macro_rules | `(tactic| fail "name") => `(tactic| first
  | ((with_reducible apply we_var_at 0 "deck"); exact rfl; fail "vis"; exact rfl; decide; decide)
  | ((with_reducible apply we_var_at 1 "way"); exact rfl; fail "vis"; exact rfl; decide; decide)
  | ((with_reducible apply we_var_at 2 "size"); exact rfl; fail "vis"; exact rfl; decide; decide)
  | ((with_reducible apply we_var_at 3 "far"); exact rfl; fail "vis"; exact rfl; decide; decide))
local macro_rules | `(tactic| fail "nf") => `(tactic| refine wss_nf (σ' := [_, _, _, _]) rfl ?_)
local macro_rules | `(tactic| fail "asg") => `(tactic| first
  | ((with_reducible refine ws_name_at 0 "deck" ?_ ?_ ?_ ?_ ?_ ?_); assumption; exact rfl; fail "loc"; exact rfl; fail "fn")
  | ((with_reducible apply ws_aug_at 0 "deck"); assumption; exact rfl; fail "loc"; fail "fn"; exact rfl)
  | ((with_reducible refine ws_name_at 1 "way" ?_ ?_ ?_ ?_ ?_ ?_); assumption; exact rfl; fail "loc"; exact rfl; fail "fn")
  | ((with_reducible apply ws_aug_at 1 "way"); assumption; exact rfl; fail "loc"; fail "fn"; exact rfl)
  | ((with_reducible refine ws_name_at 2 "size" ?_ ?_ ?_ ?_ ?_ ?_); assumption; exact rfl; fail "loc"; exact rfl; fail "fn")
  | ((with_reducible apply ws_aug_at 2 "size"); assumption; exact rfl; fail "loc"; fail "fn"; exact rfl)
  | ((with_reducible refine ws_name_at 3 "far" ?_ ?_ ?_ ?_ ?_ ?_); assumption; exact rfl; fail "loc"; exact rfl; fail "fn")
  | ((with_reducible apply ws_aug_at 3 "far"); assumption; exact rfl; fail "loc"; fail "fn"; exact rfl))
local macro_rules | `(tactic| fail "tgt") => `(tactic| first
  | ((with_reducible refine wg_name_at 0 "deck" ?_ ?_ ?_ ?_ ?_); assumption; exact rfl; fail "loc"; fail "fn")
  | ((with_reducible refine wg_name_at 1 "way" ?_ ?_ ?_ ?_ ?_); assumption; exact rfl; fail "loc"; fail "fn")
  | ((with_reducible refine wg_name_at 2 "size" ?_ ?_ ?_ ?_ ?_); assumption; exact rfl; fail "loc"; fail "fn")
  | ((with_reducible refine wg_name_at 3 "far" ?_ ?_ ?_ ?_ ?_); assumption; exact rfl; fail "loc"; fail "fn"))
local macro_rules | `(tactic| fail "sp") => `(tactic| ((with_reducible apply c_take); (fail "dk"); (omega); (omega)))
def spnumber (K : PySem.W.Frag) : Sp := fun vs H Q _ => ∃ (p : Addr) (k : Int), vs = [.ref p] ∧ Dk H p k ∧ k ≤ 900000000 ∧ ∀ v H', Kp [p] H H' → Dk H' p (k + 3) → (-1000000000000 ≤ v ∧ v ≤ 1000000000000) → Q (.int v) H'
theorem c_number {K : PySem.W.Frag} {H : Hp} {Q : VK} {E : XK} {p : Addr} {k : Int} (h : Dk H p k) (hk : k ≤ 900000000) (q : ∀ v H', Kp [p] H H' → Dk H' p (k + 3) → (-1000000000000 ≤ v ∧ v ≤ 1000000000000) → Q (.int v) H') : spnumber K [.ref p] H Q E := ⟨p, k, rfl, h, hk, q⟩
theorem ok_number (F : Fun K "_law_number" "_law_number" snumber f fd) (B : Blt mg)      (D_take : Df P w K mg base 1 "_law_take" (sptake K)) : FnG P w K mg base CX0 2 f fd ["deck"] (spnumber K) := by
  have nd := scnumber.nd
  refine okG F scnumber (fun vs H Q E h => ?_) (fun cdv A outer s H vs Q E hr hgd h => ?_)
  · obtain ⟨p, k, rfl, _⟩ := h
    rfl
  · obtain ⟨p, k, rfl, hD, hk, q⟩ := h
    obtain ⟨x0, f0, j0, hp0, _⟩ := id hD
    fail "go"
    · rename_i v1 H1 k1 d1 b1 hw p2 H2 n2 k2 h2 x2 hx2 v3 H3 k3 d3 b3
      exact q _ H3 (by fail "kp") (d3.mono (by omega)) (by omega)
    · rename_i v1 H1 k1 d1 b1 hw p2 H2 n2 k2 h2 v3 H3 k3 d3 b3 x4 hx4 v5 H5 k5 d5 b5
      have hv5 : v5 = 0 ∨ v5 = 1 := by omega
      refine q _ H5 (by fail "kp") (d5.mono (by omega)) ?_
      rcases hv5 with rfl | rfl
      · omega
      · omega
end

section
variable {P : Program} {w : World} {K : PySem.W.Frag} {mg : Str → Option Value} {base : Heap} {f : Addr} {fd : FuncData}
abbrev srow : Stmt := topS 19
theorem scrow : FnScope ["deck", "most", "size", "row", "k", "number"] ["deck", "most"] (defScope srow) := ⟨rfl, rfl, rfl, by decide +kernel, rfl, by decide +kernel, by decide +kernel⟩
local macro_rules | `(tactic| fail "name") => `(tactic| first
  | ((with_reducible apply we_var_at 0 "deck"); exact rfl; fail "vis"; exact rfl; decide; decide)
  | ((with_reducible apply we_var_at 1 "most"); exact rfl; fail "vis"; exact rfl; decide; decide)
  | ((with_reducible apply we_var_at 2 "size"); exact rfl; fail "vis"; exact rfl; decide; decide)
  | ((with_reducible apply we_var_at 3 "row"); exact rfl; fail "vis"; exact rfl; decide; decide)
  | ((with_reducible apply we_var_at 4 "k"); exact rfl; fail "vis"; exact rfl; decide; decide)
  | ((with_reducible apply we_var_at 5 "number"); exact rfl; fail "vis"; exact rfl; decide; decide))
local macro_rules | `(tactic| fail "nf") => `(tactic| refine wss_nf (σ' := [_, _, _, _, _, _]) rfl ?_)
local macro_rules | `(tactic| fail "asg") => `(tactic| first
  | ((with_reducible refine ws_name_at 0 "deck" ?_ ?_ ?_ ?_ ?_ ?_); assumption; exact rfl; fail "loc"; exact rfl; fail "fn")
  | ((with_reducible apply ws_aug_at 0 "deck"); assumption; exact rfl; fail "loc"; fail "fn"; exact rfl)
  | ((with_reducible refine ws_name_at 1 "most" ?_ ?_ ?_ ?_ ?_ ?_); assumption; exact rfl; fail "loc"; exact rfl; fail "fn")
  | ((with_reducible apply ws_aug_at 1 "most"); assumption; exact rfl; fail "loc"; fail "fn"; exact rfl)
  | ((with_reducible refine ws_name_at 2 "size" ?_ ?_ ?_ ?_ ?_ ?_); assumption; exact rfl; fail "loc"; exact rfl; fail "fn")
  | ((with_reducible apply ws_aug_at 2 "size"); assumption; exact rfl; fail "loc"; fail "fn"; exact rfl)
  | ((with_reducible refine ws_name_at 3 "row" ?_ ?_ ?_ ?_ ?_ ?_); assumption; exact rfl; fail "loc"; exact rfl; fail "fn")
  | ((with_reducible apply ws_aug_at 3 "row"); assumption; exact rfl; fail "loc"; fail "fn"; exact rfl)
  | ((with_reducible refine ws_name_at 4 "k" ?_ ?_ ?_ ?_ ?_ ?_); assumption; exact rfl; fail "loc"; exact rfl; fail "fn")
  | ((with_reducible apply ws_aug_at 4 "k"); assumption; exact rfl; fail "loc"; fail "fn"; exact rfl)
  | ((with_reducible refine ws_name_at 5 "number" ?_ ?_ ?_ ?_ ?_ ?_); assumption; exact rfl; fail "loc"; exact rfl; fail "fn")
  | ((with_reducible apply ws_aug_at 5 "number"); assumption; exact rfl; fail "loc"; fail "fn"; exact rfl))
local macro_rules | `(tactic| fail "tgt") => `(tactic| first
  | ((with_reducible refine wg_name_at 0 "deck" ?_ ?_ ?_ ?_ ?_); assumption; exact rfl; fail "loc"; fail "fn")
  | ((with_reducible refine wg_name_at 1 "most" ?_ ?_ ?_ ?_ ?_); assumption; exact rfl; fail "loc"; fail "fn")
  | ((with_reducible refine wg_name_at 2 "size" ?_ ?_ ?_ ?_ ?_); assumption; exact rfl; fail "loc"; fail "fn")
  | ((with_reducible refine wg_name_at 3 "row" ?_ ?_ ?_ ?_ ?_); assumption; exact rfl; fail "loc"; fail "fn")
  | ((with_reducible refine wg_name_at 4 "k" ?_ ?_ ?_ ?_ ?_); assumption; exact rfl; fail "loc"; fail "fn")
  | ((with_reducible refine wg_name_at 5 "number" ?_ ?_ ?_ ?_ ?_); assumption; exact rfl; fail "loc"; fail "fn"))
local macro_rules | `(tactic| fail "sp") => `(tactic| ((with_reducible apply c_take); (fail "dk"); (omega); (omega)))
local macro_rules | `(tactic| fail "sp") => `(tactic| ((with_reducible apply c_number); (fail "dk"); (omega)))
def Rt (ns : List Int) : Prop := ∀ n ∈ ns, -1000000000000 ≤ n ∧ n ≤ 1000000000000
theorem Rt.bt {ns : List Int} (h : Rt ns) : Bt ns := fun n hn => by have := h n hn; omega
def sprow (K : PySem.W.Frag) : Sp := fun vs H Q _ => ∃ (p : Addr) (k m : Int), vs = [.ref p, .int m] ∧ Dk H p k ∧ k ≤ 1000000 ∧ (0 ≤ m ∧ m ≤ 400) ∧ ∀ r (ns : List Int) H', Kp [p] H H' → Dk H' p (k + 5000) → H r = none → H' r = some (.lst (ns.map V.int)) → ns.length ≤ m.toNat → Rt ns → Q (.ref r) H'
theorem c_row {K : PySem.W.Frag} {H : Hp} {Q : VK} {E : XK} {p : Addr} {k m : Int} (h : Dk H p k) (hk : k ≤ 1000000) (hm : 0 ≤ m ∧ m ≤ 400) (q : ∀ r (ns : List Int) H', Kp [p] H H' → Dk H' p (k + 5000) → H r = none → H' r = some (.lst (ns.map V.int)) → ns.length ≤ m.toNat → Rt ns → Q (.ref r) H') : sprow K [.ref p, .int m] H Q E := ⟨p, k, m, rfl, h, hk, hm, q⟩
theorem ok_row (F : Fun K "_law_row" "_law_row" srow f fd) (B : Blt mg)      (D_take : Df P w K mg base 1 "_law_take" (sptake K)) (D_number : Df P w K mg base 2 "_law_number" (spnumber K)) : FnG P w K mg base CX0 3 f fd ["deck", "most"] (sprow K) := by
  have nd := scrow.nd
  refine okG F scrow (fun vs H Q E h => ?_) (fun cdv A outer s H vs Q E hr hgd h => ?_)
  · obtain ⟨p, k, m, rfl, _⟩ := h
    rfl
  · obtain ⟨p, k, m, rfl, hD, hk, hm, q⟩ := h
    obtain ⟨x0, f0, j0, hp0, _⟩ := id hD
    fail "sn"
    rename_i p2 H2 n2 k2 h2 v3 H3 k3 d3 b3 x4 hx4
    fail "sn"
    rename_i pr H5 n5 k5 h5
    have hpr : H pr = none := by fail "nn"
    have dpr : pr ≠ p := by fail "ne"
    have D5 : Dk H5 p (k + 1) := by fail "dk"
    have kk5 : Kp [p] H H5 := by fail "kp"
    have bx : 2 ≤ x4 ∧ x4 ≤ 1000000000000 := by omega
    clear n2 k2 h2 k3 d3 n5 k5
    fail "nf"
    refine wss_cons ?_
    refine ws_forR (by exact rfl) B.range ?_ PassesOwn.never (by exact rfl)
    fail "goE"
    rename_i v6 H6 k6 D6 b6
    have h6 : H6 pr = some (.lst []) := by fail "look"
    have kk6 : Kp [p] H H6 := kk5.trS k6
    clear k6 D5 h5 kk5
    refine ⟨by omega, by omega, fun i σ' H' => ∃ (y1 y2 : Option V) (ns : List Int), σ' = [some (.ref p), some (.int m), some (.int x4), some (.ref pr), y1, y2] ∧ Kp [p] H H' ∧ Dk H' p (k + 2 + 5 * (i : Int)) ∧ H' pr = some (.lst (ns.map V.int)) ∧ ns.length = i ∧ Rt ns, ⟨_, _, [], rfl, kk6, D6.mono (by omega), h6, rfl, fun n hn => nomatch hn⟩, ?_, ?_⟩
    · clear h6 kk6 D6
      rintro i σ' H7 hi ⟨y1, y2, ns, rfl, k7, D7, h7, hl7, hR7⟩
      obtain ⟨x7, f7, j7, hp7, _⟩ := id D7
      fail "goE"
      fail "go"
      · rename_i v8 H8 k8 D8 b8 v9 H9 k9 D9 b9 hz v10 H10 k10 D10 b10 H11 k11 h11
        have D11 : Dk H11 p (k + 2 + 5 * (i : Int) + 1 + 1 + 3) := by fail "dk"
        have k711 : Kp [p, pr] H7 H11 := by fail "kp"
        refine ⟨_, _, _, rfl, k7.trans k711 (fun y hy => ?_), D11.mono (by push_cast; omega), h11, by rw [List.length_append, hl7]; rfl, fun n hn => ?_⟩
        · rcases List.mem_cons.mp hy with rfl | hy
          · exact .inl List.mem_cons_self
          · rw [List.mem_singleton.mp hy]; exact .inr hpr
        · rcases List.mem_append.mp hn with hn | hn
          · exact hR7 n hn
          · rw [List.mem_singleton.mp hn]; exact b10
      · rename_i v8 H8 k8 D8 b8 v9 H9 k9 D9 b9 hz H11 k11 h11
        have D11 : Dk H11 p (k + 2 + 5 * (i : Int) + 1 + 1) := by fail "dk"
        have k711 : Kp [p, pr] H7 H11 := by fail "kp"
        refine ⟨_, _, _, rfl, k7.trans k711 (fun y hy => ?_), D11.mono (by push_cast; omega), h11, by rw [List.length_append, hl7]; rfl, fun n hn => ?_⟩
        · rcases List.mem_cons.mp hy with rfl | hy
          · exact .inl List.mem_cons_self
          · rw [List.mem_singleton.mp hy]; exact .inr hpr
        · rcases List.mem_append.mp hn with hn | hn
          · exact hR7 n hn
          · rw [List.mem_singleton.mp hn]; omega
    · rintro σ' H7 ⟨y1, y2, ns, rfl, k7, D7, h7, hl7, hR7⟩
      fail "go"
      exact q pr ns H7 k7 (D7.mono (by omega)) hpr h7 (by omega) hR7
end

section
variable {P : Program} {w : World} {K : PySem.W.Frag} {mg : Str → Option Value} {base : Heap} {f : Addr} {fd : FuncData}
variable {C_NoText : Addr}
local macro_rules | `(tactic| fail "call") => `(tactic| ((with_reducible show We _ (Expr.Call (Expr.Name "all" _) _ _ _) _ _ _); refine we_callB rfl (by assumption) boot_all ?_))
abbrev snumin : Stmt := topS 22
theorem scnumin : FnScope ["word", "figures", "figure"] ["word"] (defScope snumin) := ⟨rfl, rfl, rfl, by decide +kernel, rfl, by decide +kernel, by decide +kernel⟩
local macro_rules | `(tactic| fail "name") => `(tactic| first
  | ((with_reducible apply we_var_at 0 "word"); exact rfl; fail "vis"; exact rfl; decide; decide)
  | ((with_reducible apply we_var_at 1 "figures"); exact rfl; fail "vis"; exact rfl; decide; decide)
  | ((with_reducible apply we_var_at 2 "figure"); exact rfl; fail "vis"; exact rfl; decide; decide))
local macro_rules | `(tactic| fail "nf") => `(tactic| refine wss_nf (σ' := [_, _, _]) rfl ?_)
local macro_rules | `(tactic| fail "asg") => `(tactic| first
  | ((with_reducible refine ws_name_at 0 "word" ?_ ?_ ?_ ?_ ?_ ?_); assumption; exact rfl; fail "loc"; exact rfl; fail "fn")
  | ((with_reducible apply ws_aug_at 0 "word"); assumption; exact rfl; fail "loc"; fail "fn"; exact rfl)
  | ((with_reducible refine ws_name_at 1 "figures" ?_ ?_ ?_ ?_ ?_ ?_); assumption; exact rfl; fail "loc"; exact rfl; fail "fn")
  | ((with_reducible apply ws_aug_at 1 "figures"); assumption; exact rfl; fail "loc"; fail "fn"; exact rfl)
  | ((with_reducible refine ws_name_at 2 "figure" ?_ ?_ ?_ ?_ ?_ ?_); assumption; exact rfl; fail "loc"; exact rfl; fail "fn")
  | ((with_reducible apply ws_aug_at 2 "figure"); assumption; exact rfl; fail "loc"; fail "fn"; exact rfl))
local macro_rules | `(tactic| fail "tgt") => `(tactic| first
  | ((with_reducible refine wg_name_at 0 "word" ?_ ?_ ?_ ?_ ?_); assumption; exact rfl; fail "loc"; fail "fn")
  | ((with_reducible refine wg_name_at 1 "figures" ?_ ?_ ?_ ?_ ?_); assumption; exact rfl; fail "loc"; fail "fn")
  | ((with_reducible refine wg_name_at 2 "figure" ?_ ?_ ?_ ?_ ?_); assumption; exact rfl; fail "loc"; fail "fn"))

def spnumin (K : PySem.W.Frag) : Sp := fun vs H Q _ => ∃ (x : Str), vs = [.str x] ∧ x.length ≤ 80000 ∧ ∀ H', Kp [] H H' → Q (oV (wdN (TL.tl x))) H'
theorem c_numin {K : PySem.W.Frag} {H : Hp} {Q : VK} {E : XK} {x : Str} (hl : x.length ≤ 80000) (q : ∀ H', Kp [] H H' → Q (oV (wdN (TL.tl x))) H') : spnumin K [.str x] H Q E := ⟨x, rfl, hl, q⟩
local macro_rules | `(tactic| fail "stepE") => `(tactic| ((with_reducible show Ixw _ (V.str _) (V.int 0) _ _); refine x_str (by omega) (by assumption) ?_))
theorem ok_numin (F : Fun K "_law_number_in" "_law_number_in" snumin f fd) (B : Blt mg)   (N_all : mg "all" = none)   (D_rnum : DfX P w K mg base 2 "read_number" (sprnum K C_NoText)) : FnG P w K mg base CX0 1 f fd ["word"] (spnumin K) := by
  have nd := scnumin.nd
  refine okG F scnumin (fun vs H Q E h => ?_) (fun cdv A outer s H vs Q E hr hgd h => ?_)
  · obtain ⟨x, rfl, _⟩ := h
    rfl
  · obtain ⟨x, rfl, hl, q⟩ := h
    fail "nf"
    refine wss_cut (fun σ1 H1 => ∃ (y : Str), σ1 = [some (.str x), some (.str y), none] ∧ H1 = H ∧ Fig x y ∧ y.length ≤ 80000) ?_ ?_
    · fail "goE"
      · rename_i hd
        rw [cut_to, is_dash] at hd
        have e : TL.tl x = 45 :: TL.tl (cutS x (some 1) none) := by
          rw [cut_from]
          have hd : (TL.tl x).take 1 = [45] := hd
          show TL.tl x = 45 :: (TL.tl x).drop 1
          cases hx : TL.tl x with
          | nil => rw [hx] at hd; cases hd
          | cons c r =>
            rw [hx] at hd
            rw [(List.cons.inj hd).1]
            rfl
        exact ⟨_, rfl, rfl, .inl e, by have := cutS_length x (some 1) none; omega⟩
      · rename_i hd
        rw [cut_to, is_dash] at hd
        refine ⟨_, rfl, rfl, .inr ⟨rfl, fun z => hd ?_⟩, hl⟩
        show (TL.tl x).take 1 = [45]
        cases hx : TL.tl x with
        | nil => rw [hx] at z; cases z
        | cons c r =>
          rw [hx] at z
          rw [Option.some.inj z]
          rfl
    rintro σ1 H1 ⟨y, rfl, rfl, hF, hyl⟩
    have hly := TL.len_tl y
    have retN : wdN (TL.tl x) = none → ∀ H', Kp [] H1 H' → Q .non H' := fun e H' k => by
      have := q H' k
      rw [e] at this
      exact this
    cases hy : TL.tl y with
    | nil =>
      have hn := fig_len hF (by rw [hly, hy]; decide)
      rw [hy, List.length_nil] at hly
      refine wss_cons ?_
      fail "goE"
      all_goals first
        | (fail "go"; exact retN hn _ Kp.refl; done)
        | (exfalso; omega)
    | cons c r =>
      have hc : atI y.cps.toList 0 = some c := by rw [show y.cps.toList = c :: r from hy]; exact atI_0 _ _
      refine wss_cut (fun σ1 H2 => σ1 = [some (.str x), some (.str y), none] ∧ H2 = H1 ∧ (1 ≤ y.length ∧ y.length ≤ 13) ∧ (c = 48 → TL.tl x = [48])) ?_ ?_
      · fail "go"
        · rename_i h1 h2
          exact retN (fig_len hF (by omega)) _ Kp.refl
        · rename_i h1 h2 h3 h4
          exact retN (fig_nought hF (by rw [hy, sg_0.mp h3]) (fun z => h4 (is_0.mpr z))) _ Kp.refl
        · rename_i h1 h2 h3 h4
          exact ⟨rfl, rfl, by omega, fun _ => is_0.mp h4⟩
        · rename_i h1 h2 h3
          exact ⟨rfl, rfl, by omega, fun z => absurd (sg_0.mpr z) h3⟩
        · rename_i h1
          exact retN (fig_len hF (by omega)) _ Kp.refl
      rintro σ1 H2 ⟨rfl, rfl, hyb, h48⟩
      fail "sn"
      refine we_lc (own := [("figure", 2)]) (by exact rfl) nd (blkOk_by (N := ["word", "figures", "figure"]) (sc := defScope snumin) (by decide +kernel)) ?_
      refine lc_S ?_
      fail "goE"
      refine ⟨y, trivial, rfl, lcd_mapS (enc2 := V.bl) (fun c => decide (c ∈ (PySem.Str.ofString "0123456789").cps.toList)) (show y.length ≤ 90000 by omega) (fun d hd H5 k5 => ?_) ?_⟩
      · fail "goE"
        exact ⟨rfl, Kp.refl⟩
      · intro p8 H8 n8 k8 h8
        fail "goE"
        refine k_all rfl (sqL h8) ?_
        fail "goE"
        · rename_i hall
          have hdig : ∀ d ∈ TL.tl y, 48 ≤ d ∧ d ≤ 57 := fun d hd => by
            have := List.all_eq_true.mp hall _ (List.mem_map.mpr ⟨d, hd, rfl⟩)
            exact fig_mem.mp (of_decide_eq_true this)
          obtain ⟨i, hi, hint⟩ := fig_good hF hyb (fun r' hr => h48 (by rw [hy] at hr; exact (List.cons.inj hr).1)) hdig
          refine k_intS hint ?_ ?_
          · have hlx := TL.len_tl x
            rcases hF with e | ⟨e, _⟩
            · rw [e, List.length_cons] at hlx; omega
            · rw [e] at hlx; omega
          have := q H8 k8
          rw [hi] at this
          exact this
        · rename_i hall
          have hno : ∃ d ∈ TL.tl y, ¬ (48 ≤ d ∧ d ≤ 57) := by
            rw [List.all_eq_false] at hall
            obtain ⟨b, hb, hbf⟩ := hall
            obtain ⟨d, hd, rfl⟩ := List.mem_map.mp hb
            exact ⟨d, hd, fun z => hbf (decide_eq_true (fig_mem.mpr z))⟩
          obtain ⟨d, hd, hdn⟩ := hno
          exact retN (fig_other hF hd hdn) _ k8
end

section
variable {P : Program} {w : World} {K : PySem.W.Frag} {mg : Str → Option Value} {base : Heap} {f : Addr} {fd : FuncData}
abbrev sbad : Stmt := topS 20
theorem scbad : FnScope ["deck", "some", "odd"] ["deck"] (defScope sbad) := ⟨rfl, rfl, rfl, by decide +kernel, rfl, by decide +kernel, by decide +kernel⟩
local macro_rules | `(tactic| fail "name") => `(tactic| first
  | ((with_reducible apply we_var_at 0 "deck"); exact rfl; fail "vis"; exact rfl; decide; decide)
  | ((with_reducible apply we_var_at 1 "some"); exact rfl; fail "vis"; exact rfl; decide; decide)
  | ((with_reducible apply we_var_at 2 "odd"); exact rfl; fail "vis"; exact rfl; decide; decide))
local macro_rules | `(tactic| fail "nf") => `(tactic| refine wss_nf (σ' := [_, _, _]) rfl ?_)
local macro_rules | `(tactic| fail "asg") => `(tactic| first
  | ((with_reducible refine ws_name_at 0 "deck" ?_ ?_ ?_ ?_ ?_ ?_); assumption; exact rfl; fail "loc"; exact rfl; fail "fn")
  | ((with_reducible apply ws_aug_at 0 "deck"); assumption; exact rfl; fail "loc"; fail "fn"; exact rfl)
  | ((with_reducible refine ws_name_at 1 "some" ?_ ?_ ?_ ?_ ?_ ?_); assumption; exact rfl; fail "loc"; exact rfl; fail "fn")
  | ((with_reducible apply ws_aug_at 1 "some"); assumption; exact rfl; fail "loc"; fail "fn"; exact rfl)
  | ((with_reducible refine ws_name_at 2 "odd" ?_ ?_ ?_ ?_ ?_ ?_); assumption; exact rfl; fail "loc"; exact rfl; fail "fn")
  | ((with_reducible apply ws_aug_at 2 "odd"); assumption; exact rfl; fail "loc"; fail "fn"; exact rfl))
local macro_rules | `(tactic| fail "tgt") => `(tactic| first
  | ((with_reducible refine wg_name_at 0 "deck" ?_ ?_ ?_ ?_ ?_); assumption; exact rfl; fail "loc"; fail "fn")
  | ((with_reducible refine wg_name_at 1 "some" ?_ ?_ ?_ ?_ ?_); assumption; exact rfl; fail "loc"; fail "fn")
  | ((with_reducible refine wg_name_at 2 "odd" ?_ ?_ ?_ ?_ ?_); assumption; exact rfl; fail "loc"; fail "fn"))
local macro_rules | `(tactic| fail "sp") => `(tactic| ((with_reducible apply c_take); (fail "dk"); (omega); (omega)))
theorem b54_in {s : Str} {us : List V} {n : Nat} (h : ∀ v ∈ us, ∃ s : Str, v = .str s ∧ s.length ≤ n) (hs : s.length ≤ n) : ∀ v ∈ us ++ [V.str s], ∃ s : Str, v = .str s ∧ s.length ≤ n := fun v hv => by
  rcases List.mem_append.mp hv with hv | hv
  · exact h v hv
  · exact ⟨s, List.mem_singleton.mp hv, hs⟩
def spbad (K : PySem.W.Frag) : Sp := fun vs H Q _ => ∃ (p : Addr) (k : Int), vs = [.ref p] ∧ Dk H p k ∧ k ≤ 900000000 ∧ ∀ (s : Str) H', Kp [p] H H' → Dk H' p (k + 3) → s.length ≤ 1000 → Q (.str s) H'
theorem c_bad {K : PySem.W.Frag} {H : Hp} {Q : VK} {E : XK} {p : Addr} {k : Int} (h : Dk H p k) (hk : k ≤ 900000000) (q : ∀ (s : Str) H', Kp [p] H H' → Dk H' p (k + 3) → s.length ≤ 1000 → Q (.str s) H') : spbad K [.ref p] H Q E := ⟨p, k, rfl, h, hk, q⟩
theorem l_m : (PySem.Str.ofString "-").length = 1 := by decide +kernel
theorem l_1 : (PySem.Str.ofString "1").length = 1 := by decide +kernel
def oddS : Str := PySem.Str.ofString "!#$'()*./:;<=>?@BMXY[]^`{|}~abz"
theorem l_odd : 1 ≤ oddS.length ∧ oddS.length ≤ 100 := by decide +kernel
theorem x_strI {X : Cx} {H : Hp} {Q : VK} {z : Str} {i : Int} (hz : z.length ≤ 16777216) (h0 : 0 ≤ i) (h2 : i < z.length) (h : ∀ c, Q (.str ⟨#[c]⟩) H) : Ixw X (.str z) (.int i) H Q := by
  have hl := TL.len_tl z
  have hi : i.toNat < z.cps.toList.length := by
    show i.toNat < (TL.tl z).length
    omega
  refine x_str (c := z.cps.toList[i.toNat]) hz ?_ (h _)
  unfold atI
  rw [ixN_of h0 (by show i < ((TL.tl z).length : Int); omega), Option.bind_some]
  exact List.getElem?_eq_getElem hi
local macro_rules | `(tactic| fail "bin") => `(tactic| first | (refine b_mulS (by decide) (by decide +kernel) ?_; intro y hy; replace hy : y.length ≤ 900 := by (rw [hy]; decide +kernel)) | refine b_addS (by rw [l_m]; omega) ?_ | refine b_addS (by rw [l_1]; exact Nat.le_of_ble_eq_true rfl) ?_)
local macro_rules | `(tactic| fail "stepE") => `(tactic| ((with_reducible show Ixw _ (V.str _) _ _ _); refine x_strI (by omega) (by omega) (by omega) ?_))
theorem ok_bad (F : Fun K "_law_bad" "_law_bad" sbad f fd) (B : Blt mg)      (D_take : Df P w K mg base 1 "_law_take" (sptake K)) : FnG P w K mg base CX0 2 f fd ["deck"] (spbad K) := by
  have nd := scbad.nd
  refine okG F scbad (fun vs H Q E h => ?_) (fun cdv A outer s H vs Q E hr hgd h => ?_)
  · obtain ⟨p, k, rfl, _⟩ := h
    rfl
  · obtain ⟨p, k, rfl, hD, hk, q⟩ := h
    obtain ⟨x0, f0, j0, hp0, _⟩ := id hD
    have ho := l_odd
    unfold oddS at ho
    fail "sn"
    rename_i p1 H1 n1 k1 h1
    fail "sn"
    rename_i y1 e1 y2 e2 y3 e3 y4 e4 y5 e5 y6 e6 p2 H2 n2 k2 h2 p3 H3 n3 k3 h3
    have ex : ∃ us : List V, H3 p3 = some (.lst us) ∧ us.length = 21 ∧ ∀ v ∈ us, ∃ s : Str, v = .str s ∧ s.length ≤ 1000 := by
      refine ⟨_, h3, rfl, fun v hv => ?_⟩
      simp only [List.cons_append, List.nil_append, List.mem_cons, List.not_mem_nil, or_false] at hv
      have lit : ∀ {s : Str}, decide (s.length ≤ 1000) = true → ∃ s' : Str, V.str s = .str s' ∧ s'.length ≤ 1000 := fun {s} h => ⟨s, rfl, of_decide_eq_true h⟩
      have vy : ∀ {y : Str}, y.length ≤ 900 → ∃ s' : Str, V.str y = .str s' ∧ s'.length ≤ 1000 := fun {y} h => ⟨y, rfl, by omega⟩
      have my : ∀ {y : Str}, y.length ≤ 900 → ∃ s' : Str, V.str (PySem.Str.ofString "-" ++ y) = .str s' ∧ s'.length ≤ 1000 := fun {y} h => ⟨_, rfl, by rw [strLen_append, l_m]; omega⟩
      rcases hv with rfl | rfl | rfl | rfl | rfl | rfl | rfl | rfl | rfl | rfl | rfl | rfl | rfl | rfl | rfl | rfl | rfl | rfl | rfl | rfl | rfl
      all_goals first
        | exact vy (by assumption)
        | exact my (by assumption)
        | exact lit (by decide +kernel)
    obtain ⟨us, hus, hul, hall⟩ := ex
    have d3 : p3 ≠ p := by fail "ne"
    have D3 : Dk H3 p k := by fail "dk"
    have hp3 : H3 p = some (.lst [.int x0, .int f0, .int j0]) := by fail "look"
    have np3 : H p3 = none := by fail "nn"
    have kk3 : Kp [p] H H3 := by fail "kp"
    clear n1 k1 h1 n2 k2 h2 n3 k3 h3 e1 e2 e3 e4 e5 e6
    fail "sn"
    rename_i p4 H4 n4 k4 h4 p5 H5 n5 k5 h5
    have d5 : p5 ≠ p := by fail "ne"
    have n5' : H p5 = none := by fail "nn"
    fail "sn"
    fail "sn"
    rename_i v6 H6 k6 D6 b6 c6 H7 k7 h7
    fail "sn"
    rename_i v8 H8 k8 D8 b8 c8 H9 k9 h9
    have hall9 : ∃ ws : List V, H9 p5 = some (.lst ws) ∧ ws.length = 25 ∧ ∀ v ∈ ws, ∃ s : Str, v = .str s ∧ s.length ≤ 1000 := by
      refine ⟨_, h9, by simp only [List.length_append, List.length_cons, List.length_nil]; omega, b54_in (b54_in (fun v hv => ?_) (show 1 ≤ 1000 by decide)) (by rw [strLen_append, l_1]; show 1 + 1 ≤ 1000; decide)⟩
      rcases List.mem_append.mp hv with hv | hv
      · exact hall v hv
      · simp only [List.mem_cons, List.not_mem_nil, or_false] at hv
        rcases hv with rfl | rfl
        · exact ⟨_, rfl, by decide +kernel⟩
        · exact ⟨_, rfl, by decide +kernel⟩
    obtain ⟨ws, hws, hwl, hall9⟩ := hall9
    have D9 : Dk H9 p (k + 2) := by
      have : Dk H9 p (k + 1 + 1) := by fail "dk"
      exact this.mono (by omega)
    obtain ⟨x9, f9, j9, hp9, _⟩ := id D9
    have kk9 : Kp [p] H H9 := by fail "kp"
    clear n4 k4 h4 n5 k5 h5 k6 D6 k7 h7 k8 D8 k9 h9 hus hall
    fail "sn"
    rename_i v10 H10 k10 D10 b10
    have hws10 : H10 p5 = some (.lst ws) := by fail "look"
    refine x_memV (sqL hws10) (by omega) (by omega) fun v hv => ?_
    obtain ⟨s, rfl, hs⟩ := hall9 v hv
    exact q s H10 (kk9.trS k10) (D10.mono (by omega)) hs
end

section
variable {P : Program} {w : World} {K : PySem.W.Frag} {mg : Str → Option Value} {base : Heap} {f : Addr} {fd : FuncData}
abbrev sspoilt : Stmt := topS 21
theorem scspoilt : FnScope ["deck", "text", "way", "at", "sign", "words"] ["deck", "text"] (defScope sspoilt) := ⟨rfl, rfl, rfl, by decide +kernel, rfl, by decide +kernel, by decide +kernel⟩
local macro_rules | `(tactic| fail "name") => `(tactic| first
  | ((with_reducible apply we_var_at 0 "deck"); exact rfl; fail "vis"; exact rfl; decide; decide)
  | ((with_reducible apply we_var_at 1 "text"); exact rfl; fail "vis"; exact rfl; decide; decide)
  | ((with_reducible apply we_var_at 2 "way"); exact rfl; fail "vis"; exact rfl; decide; decide)
  | ((with_reducible apply we_var_at 3 "at"); exact rfl; fail "vis"; exact rfl; decide; decide)
  | ((with_reducible apply we_var_at 4 "sign"); exact rfl; fail "vis"; exact rfl; decide; decide)
  | ((with_reducible apply we_var_at 5 "words"); exact rfl; fail "vis"; exact rfl; decide; decide))
local macro_rules | `(tactic| fail "nf") => `(tactic| refine wss_nf (σ' := [_, _, _, _, _, _]) rfl ?_)
local macro_rules | `(tactic| fail "asg") => `(tactic| first
  | ((with_reducible refine ws_name_at 0 "deck" ?_ ?_ ?_ ?_ ?_ ?_); assumption; exact rfl; fail "loc"; exact rfl; fail "fn")
  | ((with_reducible apply ws_aug_at 0 "deck"); assumption; exact rfl; fail "loc"; fail "fn"; exact rfl)
  | ((with_reducible refine ws_name_at 1 "text" ?_ ?_ ?_ ?_ ?_ ?_); assumption; exact rfl; fail "loc"; exact rfl; fail "fn")
  | ((with_reducible apply ws_aug_at 1 "text"); assumption; exact rfl; fail "loc"; fail "fn"; exact rfl)
  | ((with_reducible refine ws_name_at 2 "way" ?_ ?_ ?_ ?_ ?_ ?_); assumption; exact rfl; fail "loc"; exact rfl; fail "fn")
  | ((with_reducible apply ws_aug_at 2 "way"); assumption; exact rfl; fail "loc"; fail "fn"; exact rfl)
  | ((with_reducible refine ws_name_at 3 "at" ?_ ?_ ?_ ?_ ?_ ?_); assumption; exact rfl; fail "loc"; exact rfl; fail "fn")
  | ((with_reducible apply ws_aug_at 3 "at"); assumption; exact rfl; fail "loc"; fail "fn"; exact rfl)
  | ((with_reducible refine ws_name_at 4 "sign" ?_ ?_ ?_ ?_ ?_ ?_); assumption; exact rfl; fail "loc"; exact rfl; fail "fn")
  | ((with_reducible apply ws_aug_at 4 "sign"); assumption; exact rfl; fail "loc"; fail "fn"; exact rfl)
  | ((with_reducible refine ws_name_at 5 "words" ?_ ?_ ?_ ?_ ?_ ?_); assumption; exact rfl; fail "loc"; exact rfl; fail "fn")
  | ((with_reducible apply ws_aug_at 5 "words"); assumption; exact rfl; fail "loc"; fail "fn"; exact rfl))
local macro_rules | `(tactic| fail "tgt") => `(tactic| first
  | ((with_reducible refine wg_name_at 0 "deck" ?_ ?_ ?_ ?_ ?_); assumption; exact rfl; fail "loc"; fail "fn")
  | ((with_reducible refine wg_name_at 1 "text" ?_ ?_ ?_ ?_ ?_); assumption; exact rfl; fail "loc"; fail "fn")
  | ((with_reducible refine wg_name_at 2 "way" ?_ ?_ ?_ ?_ ?_); assumption; exact rfl; fail "loc"; fail "fn")
  | ((with_reducible refine wg_name_at 3 "at" ?_ ?_ ?_ ?_ ?_); assumption; exact rfl; fail "loc"; fail "fn")
  | ((with_reducible refine wg_name_at 4 "sign" ?_ ?_ ?_ ?_ ?_); assumption; exact rfl; fail "loc"; fail "fn")
  | ((with_reducible refine wg_name_at 5 "words" ?_ ?_ ?_ ?_ ?_); assumption; exact rfl; fail "loc"; fail "fn"))
local macro_rules | `(tactic| fail "sp") => `(tactic| ((with_reducible apply c_take); (fail "dk"); (omega); (omega)))
local macro_rules | `(tactic| fail "sp") => `(tactic| ((with_reducible apply c_bad); (fail "dk"); (omega)))
theorem one_len (c : Nat) : (⟨#[c]⟩ : Str).length = 1 := rfl
theorem cutV_map (ws : List Str) (lo hi : Option Int) : ∃ a b, cutV (ws.map V.str) lo hi = ((ws.drop a).take b).map V.str := by
  unfold cutV
  exact ⟨_, _, by rw [← List.map_drop, ← List.map_take]⟩
theorem part_sum (ws : List Str) (a b : Nat) : (((ws.drop a).take b).map (·.length)).sum ≤ (ws.map (·.length)).sum ∧ ((ws.drop a).take b).length ≤ ws.length := by
  constructor
  · rw [List.map_take, List.map_drop]
    exact Nat.le_trans (sum_take _ _) (sum_drop _ _)
  · rw [List.length_take, List.length_drop]
    omega
def spspoilt (K : PySem.W.Frag) : Sp := fun vs H Q _ => ∃ (p : Addr) (k : Int) (x : Str), vs = [.ref p, .str x] ∧ Dk H p k ∧ k ≤ 900000 ∧ x.length ≤ 6000 ∧ ∀ (s : Str) H', Kp [p] H H' → Dk H' p (k + 10) → s.length ≤ 40000 → Q (.str s) H'
theorem c_spoilt {K : PySem.W.Frag} {H : Hp} {Q : VK} {E : XK} {p : Addr} {k : Int} {x : Str} (h : Dk H p k) (hk : k ≤ 900000) (hx : x.length ≤ 6000) (q : ∀ (s : Str) H', Kp [p] H H' → Dk H' p (k + 10) → s.length ≤ 40000 → Q (.str s) H') : spspoilt K [.ref p, .str x] H Q E := ⟨p, k, x, rfl, h, hk, hx, q⟩
local macro_rules | `(tactic| fail "stepE") => `(tactic| ((with_reducible show Ixw _ (V.str _) _ _ _); refine x_strI (by omega) (by omega) (by omega) ?_))
theorem ok_spoilt (F : Fun K "_law_spoilt" "_law_spoilt" sspoilt f fd) (B : Blt mg)      (D_take : Df P w K mg base 1 "_law_take" (sptake K)) (D_bad : Df P w K mg base 2 "_law_bad" (spbad K)) : FnG P w K mg base CX0 3 f fd ["deck", "text"] (spspoilt K) := by
  have nd := scspoilt.nd
  refine okG F scspoilt (fun vs H Q E h => ?_) (fun cdv A outer s H vs Q E hr hgd h => ?_)
  · obtain ⟨p, k, x, rfl, _⟩ := h
    rfl
  · obtain ⟨p, k, x, rfl, hD, hk, hx, q⟩ := h
    obtain ⟨x0, f0, j0, hp0, _⟩ := id hD
    have ho : (PySem.Str.ofString " 0129-_a\n").length = 9 := by decide +kernel
    fail "sn"
    fail "sn"
    fail "sn"
    rename_i v1 H1 k1 D1 b1 v2 H2 k2 D2 b2 v3 H3 k3 D3 b3 c3
    have c1 := cutS_length x none (some v2)
    have c2 := cutS_length x (some (v2 + 1)) none
    have c4 := cutS_length x (some (v2 + v1 - 1)) none
    have o1 := one_len c3
    have D3' : Dk H3 p (k + 3) := D3.mono (by omega)
    have kk3 : Kp [p] H H3 := by fail "kp"
    obtain ⟨x3, f3, j3, hp3, _⟩ := id D3'
    clear k1 D1 k2 D2 k3 D3 hD hp0
    refine wss_cons ?_
    fail "goE"
    · fail "go"
      exact q _ H3 kk3 (D3'.mono (by omega)) (by rw [strLen_append]; omega)
    fail "nf"
    refine wss_cons ?_
    fail "goE"
    · fail "go"
      refine b_addS (by rw [strLen_append]; omega) ?_
      exact q _ H3 kk3 (D3'.mono (by omega)) (by rw [strLen_append, strLen_append]; omega)
    have hw := words_many x
    have hws := words_sum x
    fail "sn"
    rename_i p4 H4 n4 k4 h4
    have e4 : Txt.split x (PySem.Str.ofString " ") = wordsS x := rfl
    rw [e4] at h4
    have hml : ((wordsS x).map V.str).length = (wordsS x).length := List.length_map _
    have d4 : p4 ≠ p := by fail "ne"
    have n4' : H p4 = none := by fail "nn"
    fail "sn"
    rename_i v5 H5 k5 D5 b5
    have h5 : H5 p4 = some (.lst ((wordsS x).map V.str)) := by fail "look"
    have D5' : Dk H5 p (k + 4) := D5.mono (by omega)
    have kk5 : Kp [p] H H5 := by fail "kp"
    obtain ⟨x5, f5, j5, hp5, _⟩ := id D5'
    clear n4 k4 h4 k5 D5 D3' kk3 hp3
    obtain ⟨a1, b1', eA⟩ := cutV_map (wordsS x) none (some v5)
    obtain ⟨a2, b2', eB⟩ := cutV_map (wordsS x) (some (v5 + v1 - 3)) none
    have sA := part_sum (wordsS x) a1 b1'
    have sB := part_sum (wordsS x) a2 b2'
    have lA : (cutV ((wordsS x).map V.str) none (some v5)).length ≤ 6001 := by rw [eA, List.length_map]; omega
    have lB : (cutV ((wordsS x).map V.str) (some (v5 + v1 - 3)) none).length ≤ 6001 := by rw [eB, List.length_map]; omega
    fail "sn"
    rename_i q6 H6 n6 k6 h6 s7 H7 k7 D7 hs7 p8 H8 n8 k8 h8 p9 H9 n9 k9 h9 q10 H10 n10 k10 h10 p11 H11 n11 k11 h11
    have D11 : Dk H11 p (k + 4 + 3) := by fail "dk"
    have kk11 : Kp [p] H H11 := by fail "kp"
    have hy : H11 p11 = some (.lst ((((wordsS x).drop a1).take b1' ++ [s7] ++ ((wordsS x).drop a2).take b2').map V.str)) := by
      rw [h11, eA, eB, List.map_append, List.map_append]
      rfl
    have ys : ((((wordsS x).drop a1).take b1' ++ [s7] ++ ((wordsS x).drop a2).take b2').map (·.length)).sum ≤ 14000 ∧ (((wordsS x).drop a1).take b1' ++ [s7] ++ ((wordsS x).drop a2).take b2').length ≤ 13000 := by
      constructor
      · rw [List.map_append, List.map_append, List.sum_append, List.sum_append]
        show _ + (s7.length + 0) + _ ≤ 14000
        omega
      · rw [List.length_append, List.length_append]
        show _ + 1 + _ ≤ 13000
        omega
    generalize ((wordsS x).drop a1).take b1' ++ [s7] ++ ((wordsS x).drop a2).take b2' = zs at hy ys
    have hj := joinS_len zs
    have hb : (PySem.Str.ofString " ").length = 1 := by decide +kernel
    refine ⟨p11, zs, rfl, sqL hy, by rw [hb]; omega, ?_⟩
    exact q _ H11 kk11 (D11.mono (by omega)) (show (Txt.join blank zs).length ≤ 40000 by omega)
end

section
variable {P : Program} {w : World} {K : PySem.W.Frag} {mg : Str → Option Value} {base : Heap} {f : Addr} {fd : FuncData}
variable {C_SpanError : Addr}
variable {C_NoStretch : Addr}
variable {C_NoPlace : Addr}
variable {C_NoNumber : Addr}
variable {C_NoMany : Addr}
variable {C_NoText : Addr}
variable {C_NoCommand : Addr}
abbrev sright : Stmt := topS 23
theorem scright : FnScope ["text", "found", "kinds", "e", "due", "word"] ["text"] (defScope sright) := ⟨rfl, rfl, rfl, by decide +kernel, rfl, by decide +kernel, by decide +kernel⟩
local macro_rules | `(tactic| fail "name") => `(tactic| first
  | ((with_reducible apply we_var_at 0 "text"); exact rfl; fail "vis"; exact rfl; decide; decide)
  | ((with_reducible apply we_var_at 1 "found"); exact rfl; fail "vis"; exact rfl; decide; decide)
  | ((with_reducible apply we_var_at 2 "kinds"); exact rfl; fail "vis"; exact rfl; decide; decide)
  | ((with_reducible apply we_var_at 3 "e"); exact rfl; fail "vis"; exact rfl; decide; decide)
  | ((with_reducible apply we_var_at 4 "due"); exact rfl; fail "vis"; exact rfl; decide; decide)
  | ((with_reducible apply we_var_at 5 "word"); exact rfl; fail "vis"; exact rfl; decide; decide))
local macro_rules | `(tactic| fail "nf") => `(tactic| refine wss_nf (σ' := [_, _, _, _, _, _]) rfl ?_)
local macro_rules | `(tactic| fail "asg") => `(tactic| first
  | ((with_reducible refine ws_name_at 0 "text" ?_ ?_ ?_ ?_ ?_ ?_); assumption; exact rfl; fail "loc"; exact rfl; fail "fn")
  | ((with_reducible apply ws_aug_at 0 "text"); assumption; exact rfl; fail "loc"; fail "fn"; exact rfl)
  | ((with_reducible refine ws_name_at 1 "found" ?_ ?_ ?_ ?_ ?_ ?_); assumption; exact rfl; fail "loc"; exact rfl; fail "fn")
  | ((with_reducible apply ws_aug_at 1 "found"); assumption; exact rfl; fail "loc"; fail "fn"; exact rfl)
  | ((with_reducible refine ws_name_at 2 "kinds" ?_ ?_ ?_ ?_ ?_ ?_); assumption; exact rfl; fail "loc"; exact rfl; fail "fn")
  | ((with_reducible apply ws_aug_at 2 "kinds"); assumption; exact rfl; fail "loc"; fail "fn"; exact rfl)
  | ((with_reducible refine ws_name_at 3 "e" ?_ ?_ ?_ ?_ ?_ ?_); assumption; exact rfl; fail "loc"; exact rfl; fail "fn")
  | ((with_reducible apply ws_aug_at 3 "e"); assumption; exact rfl; fail "loc"; fail "fn"; exact rfl)
  | ((with_reducible refine ws_name_at 4 "due" ?_ ?_ ?_ ?_ ?_ ?_); assumption; exact rfl; fail "loc"; exact rfl; fail "fn")
  | ((with_reducible apply ws_aug_at 4 "due"); assumption; exact rfl; fail "loc"; fail "fn"; exact rfl)
  | ((with_reducible refine ws_name_at 5 "word" ?_ ?_ ?_ ?_ ?_ ?_); assumption; exact rfl; fail "loc"; exact rfl; fail "fn")
  | ((with_reducible apply ws_aug_at 5 "word"); assumption; exact rfl; fail "loc"; fail "fn"; exact rfl))
local macro_rules | `(tactic| fail "tgt") => `(tactic| first
  | ((with_reducible refine wg_name_at 0 "text" ?_ ?_ ?_ ?_ ?_); assumption; exact rfl; fail "loc"; fail "fn")
  | ((with_reducible refine wg_name_at 1 "found" ?_ ?_ ?_ ?_ ?_); assumption; exact rfl; fail "loc"; fail "fn")
  | ((with_reducible refine wg_name_at 2 "kinds" ?_ ?_ ?_ ?_ ?_); assumption; exact rfl; fail "loc"; fail "fn")
  | ((with_reducible refine wg_name_at 3 "e" ?_ ?_ ?_ ?_ ?_); assumption; exact rfl; fail "loc"; fail "fn")
  | ((with_reducible refine wg_name_at 4 "due" ?_ ?_ ?_ ?_ ?_); assumption; exact rfl; fail "loc"; fail "fn")
  | ((with_reducible refine wg_name_at 5 "word" ?_ ?_ ?_ ?_ ?_); assumption; exact rfl; fail "loc"; fail "fn"))


def spright (K : PySem.W.Frag) : Sp := fun vs H Q _ => ∃ (x : Str), vs = [.str x] ∧ x.length ≤ 40000 ∧ ∀ H', Kp [] H H' → Q (.bl true) H'
theorem c_right {K : PySem.W.Frag} {H : Hp} {Q : VK} {E : XK} {x : Str} (hl : x.length ≤ 40000) (q : ∀ H', Kp [] H H' → Q (.bl true) H') : spright K [.str x] H Q E := ⟨x, rfl, hl, q⟩
local macro_rules | `(tactic| fail "cmp") => `(tactic| refine c_inO (sqL (by fail "look")) ?_)
local macro_rules | `(tactic| fail "bsl") => `(tactic| exact bs0 (by fail "look"))
theorem ok_right (F : Fun K "_law_right" "_law_right" sright f fd) (B : Blt mg)  (X_SpanError : ExK K mg "SpanError" C_SpanError) (X_NoStretch : ExK K mg "NoStretch" C_NoStretch) (X_NoPlace : ExK K mg "NoPlace" C_NoPlace) (X_NoNumber : ExK K mg "NoNumber" C_NoNumber) (X_NoMany : ExK K mg "NoMany" C_NoMany) (X_NoText : ExK K mg "NoText" C_NoText) (X_NoCommand : ExK K mg "NoCommand" C_NoCommand)   (i_NoText_SpanError : PySem.W.kitOne K (.ref C_NoText) (.ref C_SpanError) = some true) (m_NoText_SpanError : PySem.W.exmOne K (.ref C_NoText) (.ref C_SpanError) = some true) (i_NoText_NoStretch : PySem.W.kitOne K (.ref C_NoText) (.ref C_NoStretch) = some false) (m_NoText_NoStretch : PySem.W.exmOne K (.ref C_NoText) (.ref C_NoStretch) = some false) (i_NoText_NoPlace : PySem.W.kitOne K (.ref C_NoText) (.ref C_NoPlace) = some false) (m_NoText_NoPlace : PySem.W.exmOne K (.ref C_NoText) (.ref C_NoPlace) = some false) (i_NoText_NoNumber : PySem.W.kitOne K (.ref C_NoText) (.ref C_NoNumber) = some false) (m_NoText_NoNumber : PySem.W.exmOne K (.ref C_NoText) (.ref C_NoNumber) = some false) (i_NoText_NoMany : PySem.W.kitOne K (.ref C_NoText) (.ref C_NoMany) = some false) (m_NoText_NoMany : PySem.W.exmOne K (.ref C_NoText) (.ref C_NoMany) = some false) (i_NoText_NoText : PySem.W.kitOne K (.ref C_NoText) (.ref C_NoText) = some true) (m_NoText_NoText : PySem.W.exmOne K (.ref C_NoText) (.ref C_NoText) = some true) (i_NoText_NoCommand : PySem.W.kitOne K (.ref C_NoText) (.ref C_NoCommand) = some false) (m_NoText_NoCommand : PySem.W.exmOne K (.ref C_NoText) (.ref C_NoCommand) = some false) (i_NoText_VE : PySem.W.kitOne K (.ref C_NoText) (.type "ValueError") = some true) (D_readrow : DfX P w K mg base 3 "read_row" (spreadrow K C_NoText)) (D_numin : Df P w K mg base 1 "_law_number_in" (spnumin K)) : FnG P w K mg base CX0 5 f fd ["text"] (spright K) := by
  have nd := scright.nd
  refine okG F scright (fun vs H Q E h => ?_) (fun cdv A outer s H vs Q E hr hgd h => ?_)
  · obtain ⟨x, rfl, _⟩ := h
    rfl
  · obtain ⟨x, rfl, hl, q⟩ := h
    fail "sn"
    fail "sn"
    rename_i pk H1 n1 k1 h1
    cases hrw : rwN x with
    | none =>
      refine wss_cut (fun σ1 H2 => ∃ (y3 : Option V) (pk : Addr), σ1 = [some (.str x), some .non, some (.ref pk), y3, none, none] ∧ Kp [] H H2 ∧ H2 pk = some (.lst ([true, true, false].map V.bl))) ?_ ?_
      · refine ws_tryAs (i := 3) (c := .ref C_SpanError) rfl rfl rfl nd rfl rfl ⟨rfl, by decide, .inl X_SpanError.g⟩ fun pn xe tk hp => ?_
        fail "go"
        refine c_readrow (by omega) (fun ns hn => by rw [hrw] at hn; cases hn) fun _ H2 k2 => ?_
        refine ⟨_, rfl, rfl, m_NoText_SpanError, fun a H3 na k3 ha3 => ?_⟩
        fail "go"
        rename_i hz_ p4 H4 n4 k4 h4 p5 H5 n5 k5 h5 H6 k6 h6
        exact ⟨_, p4, rfl, by fail "kp", h6⟩
      clear k1 h1 n1
      rintro σ1 H2 ⟨y3, pk, rfl, k2, h2⟩
      have hw := words_many x
      refine wss_cut (fun σ1 H3 => ∃ (pd : Addr), σ1 = [some (.str x), some .non, some (.ref pk), y3, some (.ref pd), none] ∧ Kp [] H2 H3 ∧ H3 pd = some (.lst ((dueO x).map oV))) ?_ ?_
      · fail "goE"
        · rename_i hz p3 H3 n3 k3 h3
          have e : dueO x = [] := if_pos hz
          rw [e]
          exact ⟨p3, rfl, k3, h3⟩
        · rename_i hz
          refine we_lc (own := [("word", 5)]) (by exact rfl) nd (blkOk_by (N := ["text", "found", "kinds", "e", "due", "word"]) (sc := defScope sright) (by decide +kernel)) ?_
          refine lc_L ?_
          fail "goE"
          rename_i p3 H3 n3 k3 h3
          refine ⟨p3, _, rfl, sqL h3, lcd_mapW (enc := V.str) (enc2 := oV) (xs := wordsS x) (fun w => wdN (TL.tl w)) (sqL h3) (by omega) (fun w hw H5 k5 => ?_) ?_⟩
          · have hwl := words_len hw
            fail "goE"
            refine c_numin (by omega) ?_
            intro H6 k6
            exact ⟨rfl, k6⟩
          · intro Dl H5 nD k5 hD
            have e : dueO x = (wordsS x).map fun w => wdN (TL.tl w) := if_neg hz
            rw [e]
            exact ⟨Dl, rfl, by fail "kp", hD⟩
      rintro σ1 H3 ⟨pd, rfl, k3, h3⟩
      have hno := dueO_none hrw
      fail "go"
      exact q _ (by fail "kp")
    | some ns =>
      have hlen := rwN_len hrw
      have hbt := rwN_bt hrw
      refine wss_cut (fun σ1 H2 => ∃ (p : Addr), σ1 = [some (.str x), some (.ref p), some (.ref pk), none, none, none] ∧ Kp [] H H2 ∧ H2 pk = some (.lst (([] : List Bool).map V.bl)) ∧ H2 p = some (.lst (ns.map V.int))) ?_ ?_
      · refine ws_tryAs (i := 3) (c := .ref C_SpanError) rfl rfl rfl nd rfl rfl ⟨rfl, by decide, .inl X_SpanError.g⟩ fun pn xe tk hp => ?_
        fail "go"
        refine c_readrow (by omega) (fun ns' hn p2 H2 n2 k2 h2 => ?_) (fun hn => by rw [hrw] at hn; cases hn)
        rw [hrw] at hn
        cases hn
        fail "go"
        exact ⟨p2, rfl, by fail "kp", by fail "look", h2⟩
      clear k1 h1 n1
      rintro σ1 H2 ⟨pf, rfl, k2, h2, hf⟩
      have hw := words_many x
      refine wss_cut (fun σ1 H3 => ∃ (pd : Addr), σ1 = [some (.str x), some (.ref pf), some (.ref pk), none, some (.ref pd), none] ∧ Kp [] H2 H3 ∧ H3 pd = some (.lst ((dueO x).map oV))) ?_ ?_
      · fail "goE"
        · rename_i hz p3 H3 n3 k3 h3
          have e : dueO x = [] := if_pos hz
          rw [e]
          exact ⟨p3, rfl, k3, h3⟩
        · rename_i hz
          refine we_lc (own := [("word", 5)]) (by exact rfl) nd (blkOk_by (N := ["text", "found", "kinds", "e", "due", "word"]) (sc := defScope sright) (by decide +kernel)) ?_
          refine lc_L ?_
          fail "goE"
          rename_i p3 H3 n3 k3 h3
          refine ⟨p3, _, rfl, sqL h3, lcd_mapW (enc := V.str) (enc2 := oV) (xs := wordsS x) (fun w => wdN (TL.tl w)) (sqL h3) (by omega) (fun w hw H5 k5 => ?_) ?_⟩
          · have hwl := words_len hw
            fail "goE"
            refine c_numin (by omega) ?_
            intro H6 k6
            exact ⟨rfl, k6⟩
          · intro Dl H5 nD k5 hD
            have e : dueO x = (wordsS x).map fun w => wdN (TL.tl w) := if_neg hz
            rw [e]
            exact ⟨Dl, rfl, by fail "kp", hD⟩
      rintro σ1 H3 ⟨pd, rfl, k3, h3⟩
      have e1 := dueO_some hrw
      rw [e1] at h3
      have hno : ¬ none ∈ ns.map some := no_none
      have h3' : H3 pd = some (.lst (ns.map V.int)) := by
        rw [h3, List.map_map]
        rfl
      have hf3 : H3 pf = some (.lst (ns.map V.int)) := by fail "look"
      fail "st"
      fail "go"
      refine k_reprB (by assumption) (by assumption) (sqL (by fail "look")) hbt (by omega) ?_
      fail "goE"
      refine k_reprB (by assumption) (by assumption) (sqL (by fail "look")) hbt (by omega) ?_
      fail "go"
      show Q (V.bl (decide ((dI ns).shown = (dI ns).shown))) _
      rw [show decide ((dI ns).shown = (dI ns).shown) = true from decide_eq_true rfl]
      exact q _ (by fail "kp")
end

section
variable {P : Program} {w : World} {K : PySem.W.Frag} {mg : Str → Option Value} {base : Heap} {f : Addr} {fd : FuncData}
abbrev slaw : Stmt := topS 24
theorem sclaw : FnScope ["script", "cell", "deck", "row", "text", "number"] ["script"] (defScope slaw) := ⟨rfl, rfl, rfl, by decide +kernel, rfl, by decide +kernel, by decide +kernel⟩
local macro_rules | `(tactic| fail "name") => `(tactic| first
  | ((with_reducible apply we_var_at 0 "script"); exact rfl; fail "vis"; exact rfl; decide; decide)
  | ((with_reducible apply we_var_at 1 "cell"); exact rfl; fail "vis"; exact rfl; decide; decide)
  | ((with_reducible apply we_var_at 2 "deck"); exact rfl; fail "vis"; exact rfl; decide; decide)
  | ((with_reducible apply we_var_at 3 "row"); exact rfl; fail "vis"; exact rfl; decide; decide)
  | ((with_reducible apply we_var_at 4 "text"); exact rfl; fail "vis"; exact rfl; decide; decide)
  | ((with_reducible apply we_var_at 5 "number"); exact rfl; fail "vis"; exact rfl; decide; decide))
local macro_rules | `(tactic| fail "nf") => `(tactic| refine wss_nf (σ' := [_, _, _, _, _, _]) rfl ?_)
local macro_rules | `(tactic| fail "asg") => `(tactic| first
  | ((with_reducible refine ws_name_at 0 "script" ?_ ?_ ?_ ?_ ?_ ?_); assumption; exact rfl; fail "loc"; exact rfl; fail "fn")
  | ((with_reducible apply ws_aug_at 0 "script"); assumption; exact rfl; fail "loc"; fail "fn"; exact rfl)
  | ((with_reducible refine ws_name_at 1 "cell" ?_ ?_ ?_ ?_ ?_ ?_); assumption; exact rfl; fail "loc"; exact rfl; fail "fn")
  | ((with_reducible apply ws_aug_at 1 "cell"); assumption; exact rfl; fail "loc"; fail "fn"; exact rfl)
  | ((with_reducible refine ws_name_at 2 "deck" ?_ ?_ ?_ ?_ ?_ ?_); assumption; exact rfl; fail "loc"; exact rfl; fail "fn")
  | ((with_reducible apply ws_aug_at 2 "deck"); assumption; exact rfl; fail "loc"; fail "fn"; exact rfl)
  | ((with_reducible refine ws_name_at 3 "row" ?_ ?_ ?_ ?_ ?_ ?_); assumption; exact rfl; fail "loc"; exact rfl; fail "fn")
  | ((with_reducible apply ws_aug_at 3 "row"); assumption; exact rfl; fail "loc"; fail "fn"; exact rfl)
  | ((with_reducible refine ws_name_at 4 "text" ?_ ?_ ?_ ?_ ?_ ?_); assumption; exact rfl; fail "loc"; exact rfl; fail "fn")
  | ((with_reducible apply ws_aug_at 4 "text"); assumption; exact rfl; fail "loc"; fail "fn"; exact rfl)
  | ((with_reducible refine ws_name_at 5 "number" ?_ ?_ ?_ ?_ ?_ ?_); assumption; exact rfl; fail "loc"; exact rfl; fail "fn")
  | ((with_reducible apply ws_aug_at 5 "number"); assumption; exact rfl; fail "loc"; fail "fn"; exact rfl))
local macro_rules | `(tactic| fail "tgt") => `(tactic| first
  | ((with_reducible refine wg_name_at 0 "script" ?_ ?_ ?_ ?_ ?_); assumption; exact rfl; fail "loc"; fail "fn")
  | ((with_reducible refine wg_name_at 1 "cell" ?_ ?_ ?_ ?_ ?_); assumption; exact rfl; fail "loc"; fail "fn")
  | ((with_reducible refine wg_name_at 2 "deck" ?_ ?_ ?_ ?_ ?_); assumption; exact rfl; fail "loc"; fail "fn")
  | ((with_reducible refine wg_name_at 3 "row" ?_ ?_ ?_ ?_ ?_); assumption; exact rfl; fail "loc"; fail "fn")
  | ((with_reducible refine wg_name_at 4 "text" ?_ ?_ ?_ ?_ ?_); assumption; exact rfl; fail "loc"; fail "fn")
  | ((with_reducible refine wg_name_at 5 "number" ?_ ?_ ?_ ?_ ?_); assumption; exact rfl; fail "loc"; fail "fn"))
local macro_rules | `(tactic| fail "sp") => `(tactic| ((with_reducible apply c_deck); (omega)))
local macro_rules | `(tactic| fail "sp") => `(tactic| ((with_reducible apply c_row); (fail "dk"); (omega); (omega)))
local macro_rules | `(tactic| fail "sp") => `(tactic| ((with_reducible apply c_take); (fail "dk"); (omega); (omega)))
local macro_rules | `(tactic| fail "sp") => `(tactic| ((with_reducible apply c_right); (omega)))
local macro_rules | `(tactic| fail "sp") => `(tactic| ((with_reducible apply c_spoilt); (fail "dk"); (omega); (omega)))
def splaw (K : PySem.W.Frag) : Sp := fun vs H Q _ => ∃ (a : Addr) (ns : List Int), vs = [.ref a] ∧ Scr K H a ns ∧ ns.length ≤ 63 ∧ ∀ H', Q (.bl true) H'
theorem b_repS {X : Cx} {H : Hp} {Q : VK} {l : Addr} {z : Str} {n : Int} (h1 : H l = some (.lst [.str z])) (hn : 0 ≤ n ∧ n ≤ 100000) (h : ∀ p H', H p = none → Kp [] H H' → H' p = some (.lst ((List.replicate n.toNat z).map V.str)) → Q (.ref p) H') : Bin X .Mult (.ref l) (.int n) H Q :=
  b_rep h1 (by omega) (by show 1 * n.toNat ≤ 100000; omega) fun p H' np k hp => h p H' np k (by
    rw [hp]
    congr 2
    rw [List.map_replicate]
    generalize n.toNat = m
    induction m with
    | zero => rfl
    | succ m ih => rw [List.replicate_succ, List.replicate_succ, List.flatten_cons, ih]; rfl)
theorem rep_ok {z : Str} {n k : Nat} (h1 : z.length ≤ 2) (h2 : n ≤ 5000) (h3 : k ≤ 10) (ys : List Str) (hy : ys.length ≤ 1) (hy2 : ∀ y ∈ ys, y.length ≤ 2) : ((List.replicate n z ++ ys).map (·.length)).sum + (List.replicate n z ++ ys).length * k ≤ 16777216 ∧ (Txt.join blank (List.replicate n z ++ ys)).length ≤ 40000 := by
  have h := sum_len (ys := List.replicate n z ++ ys) (m := 2) fun y hy' => by
    rcases List.mem_append.mp hy' with hy' | hy'
    · rw [(List.mem_replicate.mp hy').2]; exact h1
    · exact hy2 y hy'
  have hl : (List.replicate n z ++ ys).length ≤ 5001 := by rw [List.length_append, List.length_replicate]; omega
  have hj := joinS_len (List.replicate n z ++ ys)
  have h4 : (List.replicate n z ++ ys).length * k ≤ 5001 * 10 := Nat.mul_le_mul hl h3
  omega
local macro_rules | `(tactic| fail "bin") => `(tactic| first | refine b_repS (by fail "look") (by decide) ?_ | (refine b_mulS (by decide) (by decide +kernel) ?_; intro y hy; replace hy : y.length ≤ 6000 := by (rw [hy]; decide +kernel)))
theorem ok_law (F : Fun K "law" "law" slaw f fd) (B : Blt mg)      (D_deck : Df P w K mg base 1 "_law_deck" (spdeck K)) (D_row : Df P w K mg base 3 "_law_row" (sprow K)) (D_take : Df P w K mg base 1 "_law_take" (sptake K)) (D_right : Df P w K mg base 5 "_law_right" (spright K)) (D_spoilt : Df P w K mg base 3 "_law_spoilt" (spspoilt K)) : FnG P w K mg base CX0 6 f fd ["script"] (splaw K) := by
  have nd := sclaw.nd
  refine okG F sclaw (fun vs H Q E h => ?_) (fun cdv A outer s H vs Q E hr hgd h => ?_)
  · obtain ⟨a, ns, rfl, _⟩ := h
    rfl
  · obtain ⟨a, ns, rfl, hS, hl, q⟩ := h
    have hm := mapI_len ns
    have hS1 := hS.1
    fail "nf"
    refine wss_cut (fun σ1 H2 => ∃ (y1 y2 y3 y4 y5 : Option V), σ1 = [some (.ref a), y1, y2, y3, y4, y5]) ?_ ?_
    · refine ws_forL ?_ PassesOwn.never (by exact rfl)
      have c1 := cutI_len ns none (some 40)
      fail "goE"
      rename_i q2 H2 n2 k2 h2 q3 H3 n3 k3 h3 q4 H4 n4 k4 h4
      clear n2 k2 h2 n3 k3 h3 n4 k4
      refine ⟨q4, _, rfl, sqL h4, fun i σ1 H5 => ∃ (y1 y2 y3 y4 y5 : Option V), σ1 = [some (.ref a), y1, y2, y3, y4, y5] ∧ Kp [] H4 H5, ⟨_, _, _, _, _, rfl, Kp.refl⟩, ?_, ?_, ?_⟩
      · rintro i σ1 H5 hi ⟨y1, y2, y3, y4, y5, rfl, k5⟩
        exact sqL (k5.g0 h4)
      · rintro i v σ1 H5 hv ⟨y1, y2, y3, y4, y5, rfl, k5⟩
        obtain ⟨c, hc, rfl⟩ := mapI_get hv
        fail "goE"
        fail "sn"
        rename_i pk H6 n6 k6 D6
        obtain ⟨x6, f6, j6, hp6, _⟩ := id D6
        fail "sn"
        rename_i p7 H7 n7 k7 h7 v8 H8 k8 D8 b8 o8 c8 e8 b9 x8 hx8 pr rs H9 k9 D9 n9 h9 hl9 hR9
        have hBg := hR9.bt.bg
        have hmr := mapI_len rs
        have hr9 : H9 pr = some (.lst (rs.map V.int)) := h9
        have dpr : pr ≠ pk := by fail "ne"
        fail "nf"
        refine wss_cut (fun σ1 H10 => ∃ y5 : Option V, σ1 = [some (.ref a), some (.int c), some (.ref pk), some (.ref pr), some (.str (rowS rs)), y5] ∧ Kp [] H9 H10) ?_ ?_
        · fail "goE"
          · rename_i p10 H10 n10 k10 h10 hz
            subst hz
            exact ⟨_, rfl, k10⟩
          · rename_i p10 H10 n10 k10 h10 hz
            refine we_lc (own := [("number", 5)]) (by exact rfl) nd (blkOk_by (N := ["script", "cell", "deck", "row", "text", "number"]) (sc := defScope slaw) (by decide +kernel)) ?_
            refine lc_L ?_
            fail "goE"
            refine ⟨pr, _, rfl, by fail "sqI", lcd_mapW (enc2 := V.str) nS (by fail "sqI") (by omega) (fun v hv H5 k5 => ?_) ?_⟩
            · fail "goE"
              refine k_strI (szd_bg (hBg v hv)) ?_
              exact ⟨rfl, Kp.refl⟩
            · intro p11 H11 n11 k11 h11
              have e : rowS rs = wrS rs := if_neg hz
              refine ⟨p11, _, rfl, sqL h11, wr_ok hBg (by omega), ?_⟩
              rw [e]
              exact ⟨_, rfl, by fail "kp"⟩
        rintro σ1 H10 ⟨y5, rfl, k10⟩
        have hlen : (rowS rs).length ≤ 4200 := by
          unfold rowS
          split
          · decide +kernel
          · have := wr_len hBg; omega
        have D10 : Dk H10 pk (5 + 1 + 5000) := by fail "dk"
        have k510 : Kp [] H5 H10 := by fail "kp"
        obtain ⟨x10, f10, j10, hp10, _⟩ := id D10
        clear n7 k7 h7 k8 D8 k9 D9 n9 h9 hr9 k10 k6 D6 hp6 hR9
        fail "sn"
        rename_i H11 k11 s12 H12 k12 D12 l12 H13 k13
        have k513 : Kp [] H5 H13 := ((k510.tr0 k11).trN k12 n6).tr0 k13
        exact ⟨_, _, _, _, _, rfl, k5.tr0 k513⟩
      · rintro σ1 H5 ⟨y1, y2, y3, y4, y5, rfl, k5⟩
        exact ⟨_, _, _, _, _, rfl⟩
    rintro σ1 H2 ⟨y1, y2, y3, y4, y5, rfl⟩
    have l0 : (PySem.Str.ofString "0 -").length = 3 := by decide +kernel
    have l2 : (PySem.Str.ofString " 2").length = 2 := by decide +kernel
    have lb : (PySem.Str.ofString " ").length = 1 := by decide +kernel
    fail "sn"
    refine b_addS (by rw [strLen_append]; omega) ?_
    fail "goE"
    refine c_right (by rw [strLen_append, strLen_append]; omega) ?_
    fail "go"
    have z0 : (PySem.Str.ofString "0").length ≤ 2 := by decide +kernel
    have z7 : (PySem.Str.ofString "-7").length ≤ 2 := by decide +kernel
    have zz : (PySem.Str.ofString "-0").length ≤ 2 := by decide +kernel
    obtain ⟨r1, r2⟩ := rep_ok (n := 2900) (k := 1) z0 (by decide) (by decide) [] (by decide) (fun y hy => nomatch hy)
    rw [List.append_nil] at r1 r2
    refine ⟨_, _, rfl, sqL (by assumption), by rw [lb]; exact r1, ?_⟩
    fail "goE"
    refine c_right r2 ?_
    fail "goE"
    rename_i p8 H8 n8 k8 h8 p9 H9 n9 k9 h9 p10 H10 n10 k10 h10
    obtain ⟨r3, r4⟩ := rep_ok (n := 1900) (k := 1) z7 (by decide) (by decide) [PySem.Str.ofString "-0"] (by decide) (fun y hy => by rw [List.mem_singleton.mp hy]; exact zz)
    refine ⟨p10, _, rfl, sqL (xs := (List.replicate (Int.toNat 1900) (PySem.Str.ofString "-7") ++ [PySem.Str.ofString "-0"]).map V.str) (by rw [List.map_append]; exact h10), by rw [lb]; exact r3, ?_⟩
    fail "goE"
    refine c_right r4 ?_
    fail "go"
    exact q _
end

theorem all_mk {l : PySem.W.OpenLaw} {w : World} {K : PySem.W.Frag} {h : Heap} {mg : Str → Option Value} {fa : Addr} (X : K.In h) (G : h.Ns mainGlobals mg) (hfa : mg "law" = some (.ref fa))
    {C_SpanError : Addr} (eA_SpanError : PySem.W.nsIn K mainGlobals "SpanError" = some (some (.ref C_SpanError))) (eq_SpanError : PySem.W.excIn K C_SpanError veM "ValueError.__new__" = true) (ekp_SpanError : PySem.W.keepIn K (.ref C_SpanError) = true) (eb_SpanError : PySem.W.subIn K (.ref C_SpanError) (.type "BaseException") = some true) (et_SpanError : PySem.W.typeIn K (.ref C_SpanError) = some (.type "type")) (ega_SpanError : PySem.W.findIn K (.ref C_SpanError) "__getattribute__" = some (some (.builtin "BaseException.__getattribute__"))) (egt_SpanError : PySem.W.findIn K (.ref C_SpanError) "__getattr__" = some none) (eha_SpanError : PySem.W.findIn K (.ref C_SpanError) "__class__" = some (some (.builtin "object.__class__"))) (ehm_SpanError : PySem.W.mroIn K C_SpanError (.type "object") = some true)
    {C_NoStretch : Addr} (eA_NoStretch : PySem.W.nsIn K mainGlobals "NoStretch" = some (some (.ref C_NoStretch))) (eq_NoStretch : PySem.W.excIn K C_NoStretch veM "ValueError.__new__" = true) (ekp_NoStretch : PySem.W.keepIn K (.ref C_NoStretch) = true) (eb_NoStretch : PySem.W.subIn K (.ref C_NoStretch) (.type "BaseException") = some true) (et_NoStretch : PySem.W.typeIn K (.ref C_NoStretch) = some (.type "type")) (ega_NoStretch : PySem.W.findIn K (.ref C_NoStretch) "__getattribute__" = some (some (.builtin "BaseException.__getattribute__"))) (egt_NoStretch : PySem.W.findIn K (.ref C_NoStretch) "__getattr__" = some none) (eha_NoStretch : PySem.W.findIn K (.ref C_NoStretch) "__class__" = some (some (.builtin "object.__class__"))) (ehm_NoStretch : PySem.W.mroIn K C_NoStretch (.type "object") = some true)
    {C_NoPlace : Addr} (eA_NoPlace : PySem.W.nsIn K mainGlobals "NoPlace" = some (some (.ref C_NoPlace))) (eq_NoPlace : PySem.W.excIn K C_NoPlace veM "ValueError.__new__" = true) (ekp_NoPlace : PySem.W.keepIn K (.ref C_NoPlace) = true) (eb_NoPlace : PySem.W.subIn K (.ref C_NoPlace) (.type "BaseException") = some true) (et_NoPlace : PySem.W.typeIn K (.ref C_NoPlace) = some (.type "type")) (ega_NoPlace : PySem.W.findIn K (.ref C_NoPlace) "__getattribute__" = some (some (.builtin "BaseException.__getattribute__"))) (egt_NoPlace : PySem.W.findIn K (.ref C_NoPlace) "__getattr__" = some none) (eha_NoPlace : PySem.W.findIn K (.ref C_NoPlace) "__class__" = some (some (.builtin "object.__class__"))) (ehm_NoPlace : PySem.W.mroIn K C_NoPlace (.type "object") = some true)
    {C_NoNumber : Addr} (eA_NoNumber : PySem.W.nsIn K mainGlobals "NoNumber" = some (some (.ref C_NoNumber))) (eq_NoNumber : PySem.W.excIn K C_NoNumber veM "ValueError.__new__" = true) (ekp_NoNumber : PySem.W.keepIn K (.ref C_NoNumber) = true) (eb_NoNumber : PySem.W.subIn K (.ref C_NoNumber) (.type "BaseException") = some true) (et_NoNumber : PySem.W.typeIn K (.ref C_NoNumber) = some (.type "type")) (ega_NoNumber : PySem.W.findIn K (.ref C_NoNumber) "__getattribute__" = some (some (.builtin "BaseException.__getattribute__"))) (egt_NoNumber : PySem.W.findIn K (.ref C_NoNumber) "__getattr__" = some none) (eha_NoNumber : PySem.W.findIn K (.ref C_NoNumber) "__class__" = some (some (.builtin "object.__class__"))) (ehm_NoNumber : PySem.W.mroIn K C_NoNumber (.type "object") = some true)
    {C_NoMany : Addr} (eA_NoMany : PySem.W.nsIn K mainGlobals "NoMany" = some (some (.ref C_NoMany))) (eq_NoMany : PySem.W.excIn K C_NoMany veM "ValueError.__new__" = true) (ekp_NoMany : PySem.W.keepIn K (.ref C_NoMany) = true) (eb_NoMany : PySem.W.subIn K (.ref C_NoMany) (.type "BaseException") = some true) (et_NoMany : PySem.W.typeIn K (.ref C_NoMany) = some (.type "type")) (ega_NoMany : PySem.W.findIn K (.ref C_NoMany) "__getattribute__" = some (some (.builtin "BaseException.__getattribute__"))) (egt_NoMany : PySem.W.findIn K (.ref C_NoMany) "__getattr__" = some none) (eha_NoMany : PySem.W.findIn K (.ref C_NoMany) "__class__" = some (some (.builtin "object.__class__"))) (ehm_NoMany : PySem.W.mroIn K C_NoMany (.type "object") = some true)
    {C_NoText : Addr} (eA_NoText : PySem.W.nsIn K mainGlobals "NoText" = some (some (.ref C_NoText))) (eq_NoText : PySem.W.excIn K C_NoText veM "ValueError.__new__" = true) (ekp_NoText : PySem.W.keepIn K (.ref C_NoText) = true) (eb_NoText : PySem.W.subIn K (.ref C_NoText) (.type "BaseException") = some true) (et_NoText : PySem.W.typeIn K (.ref C_NoText) = some (.type "type")) (ega_NoText : PySem.W.findIn K (.ref C_NoText) "__getattribute__" = some (some (.builtin "BaseException.__getattribute__"))) (egt_NoText : PySem.W.findIn K (.ref C_NoText) "__getattr__" = some none) (eha_NoText : PySem.W.findIn K (.ref C_NoText) "__class__" = some (some (.builtin "object.__class__"))) (ehm_NoText : PySem.W.mroIn K C_NoText (.type "object") = some true)
    {C_NoCommand : Addr} (eA_NoCommand : PySem.W.nsIn K mainGlobals "NoCommand" = some (some (.ref C_NoCommand))) (eq_NoCommand : PySem.W.excIn K C_NoCommand veM "ValueError.__new__" = true) (ekp_NoCommand : PySem.W.keepIn K (.ref C_NoCommand) = true) (eb_NoCommand : PySem.W.subIn K (.ref C_NoCommand) (.type "BaseException") = some true) (et_NoCommand : PySem.W.typeIn K (.ref C_NoCommand) = some (.type "type")) (ega_NoCommand : PySem.W.findIn K (.ref C_NoCommand) "__getattribute__" = some (some (.builtin "BaseException.__getattribute__"))) (egt_NoCommand : PySem.W.findIn K (.ref C_NoCommand) "__getattr__" = some none) (eha_NoCommand : PySem.W.findIn K (.ref C_NoCommand) "__class__" = some (some (.builtin "object.__class__"))) (ehm_NoCommand : PySem.W.mroIn K C_NoCommand (.type "object") = some true)
    (e_hn : PySem.W.specialIn K (.builtin "object.__class__") "__get__" = some (some (.builtin "getset_descriptor.__get__"))) (e_tk : PySem.W.takesIn K (.builtin "object.__class__") = some true)
    (s_NoText_SpanError : PySem.W.subIn K (.ref C_NoText) (.ref C_SpanError) = some true)
    (s_NoText_NoStretch : PySem.W.subIn K (.ref C_NoText) (.ref C_NoStretch) = some false) (n_NoText_NoStretch : C_NoText ≠ C_NoStretch)
    (s_NoText_NoPlace : PySem.W.subIn K (.ref C_NoText) (.ref C_NoPlace) = some false) (n_NoText_NoPlace : C_NoText ≠ C_NoPlace)
    (s_NoText_NoNumber : PySem.W.subIn K (.ref C_NoText) (.ref C_NoNumber) = some false) (n_NoText_NoNumber : C_NoText ≠ C_NoNumber)
    (s_NoText_NoMany : PySem.W.subIn K (.ref C_NoText) (.ref C_NoMany) = some false) (n_NoText_NoMany : C_NoText ≠ C_NoMany)
    (s_NoText_NoText : PySem.W.subIn K (.ref C_NoText) (.ref C_NoText) = some true)
    (s_NoText_NoCommand : PySem.W.subIn K (.ref C_NoText) (.ref C_NoCommand) = some false) (n_NoText_NoCommand : C_NoText ≠ C_NoCommand)
    (s_NoText_VE : PySem.W.subIn K (.ref C_NoText) (.type "ValueError") = some true)
    {f0 : Addr} {od0 an0 : Option Addr} {sl0 : Array (Option Value)} {oc0 kV0 dc0 pm0 cd0 ct0 : Value}
    (a0 : PySem.W.nsIn K mainGlobals "read_figures" = some (some (.ref f0)))
    (l0 : K.lookup f0 = some ⟨oc0, od0, .func (PySem.W.fnOf "read_figures" "read_figures" (defArgs srfig) (defBody srfig) (defScope srfig) .none kV0 dc0 pm0 an0 cd0 ct0), sl0⟩) (c0 : PySem.W.codeIn K cd0 "read_figures" = true) (k0 : PySem.W.keepIn K (.ref f0) = true)
    {f1 : Addr} {od1 an1 : Option Addr} {sl1 : Array (Option Value)} {oc1 kV1 dc1 pm1 cd1 ct1 : Value}
    (a1 : PySem.W.nsIn K mainGlobals "read_number" = some (some (.ref f1)))
    (l1 : K.lookup f1 = some ⟨oc1, od1, .func (PySem.W.fnOf "read_number" "read_number" (defArgs srnum) (defBody srnum) (defScope srnum) .none kV1 dc1 pm1 an1 cd1 ct1), sl1⟩) (c1 : PySem.W.codeIn K cd1 "read_number" = true) (k1 : PySem.W.keepIn K (.ref f1) = true)
    {f2 : Addr} {od2 an2 : Option Addr} {sl2 : Array (Option Value)} {oc2 kV2 dc2 pm2 cd2 ct2 : Value}
    (a2 : PySem.W.nsIn K mainGlobals "read_row" = some (some (.ref f2)))
    (l2 : K.lookup f2 = some ⟨oc2, od2, .func (PySem.W.fnOf "read_row" "read_row" (defArgs sreadrow) (defBody sreadrow) (defScope sreadrow) .none kV2 dc2 pm2 an2 cd2 ct2), sl2⟩) (c2 : PySem.W.codeIn K cd2 "read_row" = true) (k2 : PySem.W.keepIn K (.ref f2) = true)
    {f3 : Addr} {od3 an3 : Option Addr} {sl3 : Array (Option Value)} {oc3 kV3 dc3 pm3 cd3 ct3 : Value}
    (a3 : PySem.W.nsIn K mainGlobals "_law_take" = some (some (.ref f3)))
    (l3 : K.lookup f3 = some ⟨oc3, od3, .func (PySem.W.fnOf "_law_take" "_law_take" (defArgs stake) (defBody stake) (defScope stake) .none kV3 dc3 pm3 an3 cd3 ct3), sl3⟩) (c3 : PySem.W.codeIn K cd3 "_law_take" = true) (k3 : PySem.W.keepIn K (.ref f3) = true)
    {f4 : Addr} {od4 an4 : Option Addr} {sl4 : Array (Option Value)} {oc4 kV4 dc4 pm4 cd4 ct4 : Value}
    (a4 : PySem.W.nsIn K mainGlobals "_law_deck" = some (some (.ref f4)))
    (l4 : K.lookup f4 = some ⟨oc4, od4, .func (PySem.W.fnOf "_law_deck" "_law_deck" (defArgs sdeck) (defBody sdeck) (defScope sdeck) .none kV4 dc4 pm4 an4 cd4 ct4), sl4⟩) (c4 : PySem.W.codeIn K cd4 "_law_deck" = true) (k4 : PySem.W.keepIn K (.ref f4) = true)
    {f5 : Addr} {od5 an5 : Option Addr} {sl5 : Array (Option Value)} {oc5 kV5 dc5 pm5 cd5 ct5 : Value}
    (a5 : PySem.W.nsIn K mainGlobals "_law_number" = some (some (.ref f5)))
    (l5 : K.lookup f5 = some ⟨oc5, od5, .func (PySem.W.fnOf "_law_number" "_law_number" (defArgs snumber) (defBody snumber) (defScope snumber) .none kV5 dc5 pm5 an5 cd5 ct5), sl5⟩) (c5 : PySem.W.codeIn K cd5 "_law_number" = true) (k5 : PySem.W.keepIn K (.ref f5) = true)
    {f6 : Addr} {od6 an6 : Option Addr} {sl6 : Array (Option Value)} {oc6 kV6 dc6 pm6 cd6 ct6 : Value}
    (a6 : PySem.W.nsIn K mainGlobals "_law_row" = some (some (.ref f6)))
    (l6 : K.lookup f6 = some ⟨oc6, od6, .func (PySem.W.fnOf "_law_row" "_law_row" (defArgs srow) (defBody srow) (defScope srow) .none kV6 dc6 pm6 an6 cd6 ct6), sl6⟩) (c6 : PySem.W.codeIn K cd6 "_law_row" = true) (k6 : PySem.W.keepIn K (.ref f6) = true)
    {f7 : Addr} {od7 an7 : Option Addr} {sl7 : Array (Option Value)} {oc7 kV7 dc7 pm7 cd7 ct7 : Value}
    (a7 : PySem.W.nsIn K mainGlobals "_law_number_in" = some (some (.ref f7)))
    (l7 : K.lookup f7 = some ⟨oc7, od7, .func (PySem.W.fnOf "_law_number_in" "_law_number_in" (defArgs snumin) (defBody snumin) (defScope snumin) .none kV7 dc7 pm7 an7 cd7 ct7), sl7⟩) (c7 : PySem.W.codeIn K cd7 "_law_number_in" = true) (k7 : PySem.W.keepIn K (.ref f7) = true)
    {f8 : Addr} {od8 an8 : Option Addr} {sl8 : Array (Option Value)} {oc8 kV8 dc8 pm8 cd8 ct8 : Value}
    (a8 : PySem.W.nsIn K mainGlobals "_law_bad" = some (some (.ref f8)))
    (l8 : K.lookup f8 = some ⟨oc8, od8, .func (PySem.W.fnOf "_law_bad" "_law_bad" (defArgs sbad) (defBody sbad) (defScope sbad) .none kV8 dc8 pm8 an8 cd8 ct8), sl8⟩) (c8 : PySem.W.codeIn K cd8 "_law_bad" = true) (k8 : PySem.W.keepIn K (.ref f8) = true)
    {f9 : Addr} {od9 an9 : Option Addr} {sl9 : Array (Option Value)} {oc9 kV9 dc9 pm9 cd9 ct9 : Value}
    (a9 : PySem.W.nsIn K mainGlobals "_law_spoilt" = some (some (.ref f9)))
    (l9 : K.lookup f9 = some ⟨oc9, od9, .func (PySem.W.fnOf "_law_spoilt" "_law_spoilt" (defArgs sspoilt) (defBody sspoilt) (defScope sspoilt) .none kV9 dc9 pm9 an9 cd9 ct9), sl9⟩) (c9 : PySem.W.codeIn K cd9 "_law_spoilt" = true) (k9 : PySem.W.keepIn K (.ref f9) = true)
    {f10 : Addr} {od10 an10 : Option Addr} {sl10 : Array (Option Value)} {oc10 kV10 dc10 pm10 cd10 ct10 : Value}
    (a10 : PySem.W.nsIn K mainGlobals "_law_right" = some (some (.ref f10)))
    (l10 : K.lookup f10 = some ⟨oc10, od10, .func (PySem.W.fnOf "_law_right" "_law_right" (defArgs sright) (defBody sright) (defScope sright) .none kV10 dc10 pm10 an10 cd10 ct10), sl10⟩) (c10 : PySem.W.codeIn K cd10 "_law_right" = true) (k10 : PySem.W.keepIn K (.ref f10) = true)
    {f11 : Addr} {od11 an11 : Option Addr} {sl11 : Array (Option Value)} {oc11 kV11 dc11 pm11 cd11 ct11 : Value}
    (a11 : PySem.W.nsIn K mainGlobals "law" = some (some (.ref f11)))
    (l11 : K.lookup f11 = some ⟨oc11, od11, .func (PySem.W.fnOf "law" "law" (defArgs slaw) (defBody slaw) (defScope slaw) .none kV11 dc11 pm11 an11 cd11 ct11), sl11⟩) (c11 : PySem.W.codeIn K cd11 "law" = true) (k11 : PySem.W.keepIn K (.ref f11) = true)
    (nb_all : PySem.W.nsIn K mainGlobals "all" = some none)
    {gv_FIGURES : Value} (ga_FIGURES : PySem.W.nsIn K mainGlobals "FIGURES" = some (some gv_FIGURES)) (gr_FIGURES : RelV (.str (PySem.Str.ofString "0123456789")) gv_FIGURES)
    {gv_MOST_FIGURES : Value} (ga_MOST_FIGURES : PySem.W.nsIn K mainGlobals "MOST_FIGURES" = some (some gv_MOST_FIGURES)) (gr_MOST_FIGURES : RelV (.int 13) gv_MOST_FIGURES)
    (z_len : PySem.W.nsIn K mainGlobals "len" = some none)
    (z_range : PySem.W.nsIn K mainGlobals "range" = some none)
    (z_list : PySem.W.nsIn K mainGlobals "list" = some none)
    (z_enumerate : PySem.W.nsIn K mainGlobals "enumerate" = some none)
    (z_zip : PySem.W.nsIn K mainGlobals "zip" = some none)
    (z_min : PySem.W.nsIn K mainGlobals "min" = some none)
    (z_max : PySem.W.nsIn K mainGlobals "max" = some none)
    (z_sum : PySem.W.nsIn K mainGlobals "sum" = some none)
    (z_sorted : PySem.W.nsIn K mainGlobals "sorted" = some none)
    (z_isinstance : PySem.W.nsIn K mainGlobals "isinstance" = some none)
    (z_int : PySem.W.nsIn K mainGlobals "int" = some none)
    (z_bool : PySem.W.nsIn K mainGlobals "bool" = some none)
    (z_repr : PySem.W.nsIn K mainGlobals "repr" = some none)
    (z_abs : PySem.W.nsIn K mainGlobals "abs" = some none)
    (z_str : PySem.W.nsIn K mainGlobals "str" = some none)
    (z_tuple : PySem.W.nsIn K mainGlobals "tuple" = some none)
    (z_dict : PySem.W.nsIn K mainGlobals "dict" = some none)
    (z_set : PySem.W.nsIn K mainGlobals "set" = some none)
    (z_ValueError : PySem.W.nsIn K mainGlobals "ValueError" = some none)
    : ∃ fd : FuncData, (∀ (s : Shared) (v : Value), BindsTo s fd ⟨[v], []⟩ [("script", v)]) ∧ ∀ base : Heap, K.In base → base.Ns mainGlobals mg → FnG l.prog w K mg base CX0 6 fa fd ["script"] (splaw K) := by
  have e := hfa.symm.trans (PySem.W.mg_of X G a11)
  cases e
  have B : Blt mg := ⟨PySem.W.mg_none_of X G z_len, PySem.W.mg_none_of X G z_range, PySem.W.mg_none_of X G z_list, PySem.W.mg_none_of X G z_enumerate, PySem.W.mg_none_of X G z_zip, PySem.W.mg_none_of X G z_min, PySem.W.mg_none_of X G z_max, PySem.W.mg_none_of X G z_sum, PySem.W.mg_none_of X G z_sorted, PySem.W.mg_none_of X G z_isinstance, PySem.W.mg_none_of X G z_int, PySem.W.mg_none_of X G z_bool, PySem.W.mg_none_of X G z_repr, PySem.W.mg_none_of X G z_abs, PySem.W.mg_none_of X G z_str, PySem.W.mg_none_of X G z_tuple, PySem.W.mg_none_of X G z_dict, PySem.W.mg_none_of X G z_set, PySem.W.mg_none_of X G z_ValueError⟩
  have N_all : mg "all" = none := PySem.W.mg_none_of X G nb_all
  have G_FIGURES : GKs mg "FIGURES" (.str (PySem.Str.ofString "0123456789")) := ⟨_, PySem.W.mg_of X G ga_FIGURES, gr_FIGURES⟩
  have G_MOST_FIGURES : GKs mg "MOST_FIGURES" (.int 13) := ⟨_, PySem.W.mg_of X G ga_MOST_FIGURES, gr_MOST_FIGURES⟩
  have X_SpanError : ExK K mg "SpanError" C_SpanError := ⟨PySem.W.mg_of X G eA_SpanError, eq_SpanError, ekp_SpanError, eb_SpanError, et_SpanError, cl_of ehm_SpanError, ega_SpanError, egt_SpanError, eha_SpanError, e_hn, e_tk, ehm_SpanError⟩
  have X_NoStretch : ExK K mg "NoStretch" C_NoStretch := ⟨PySem.W.mg_of X G eA_NoStretch, eq_NoStretch, ekp_NoStretch, eb_NoStretch, et_NoStretch, cl_of ehm_NoStretch, ega_NoStretch, egt_NoStretch, eha_NoStretch, e_hn, e_tk, ehm_NoStretch⟩
  have X_NoPlace : ExK K mg "NoPlace" C_NoPlace := ⟨PySem.W.mg_of X G eA_NoPlace, eq_NoPlace, ekp_NoPlace, eb_NoPlace, et_NoPlace, cl_of ehm_NoPlace, ega_NoPlace, egt_NoPlace, eha_NoPlace, e_hn, e_tk, ehm_NoPlace⟩
  have X_NoNumber : ExK K mg "NoNumber" C_NoNumber := ⟨PySem.W.mg_of X G eA_NoNumber, eq_NoNumber, ekp_NoNumber, eb_NoNumber, et_NoNumber, cl_of ehm_NoNumber, ega_NoNumber, egt_NoNumber, eha_NoNumber, e_hn, e_tk, ehm_NoNumber⟩
  have X_NoMany : ExK K mg "NoMany" C_NoMany := ⟨PySem.W.mg_of X G eA_NoMany, eq_NoMany, ekp_NoMany, eb_NoMany, et_NoMany, cl_of ehm_NoMany, ega_NoMany, egt_NoMany, eha_NoMany, e_hn, e_tk, ehm_NoMany⟩
  have X_NoText : ExK K mg "NoText" C_NoText := ⟨PySem.W.mg_of X G eA_NoText, eq_NoText, ekp_NoText, eb_NoText, et_NoText, cl_of ehm_NoText, ega_NoText, egt_NoText, eha_NoText, e_hn, e_tk, ehm_NoText⟩
  have X_NoCommand : ExK K mg "NoCommand" C_NoCommand := ⟨PySem.W.mg_of X G eA_NoCommand, eq_NoCommand, ekp_NoCommand, eb_NoCommand, et_NoCommand, cl_of ehm_NoCommand, ega_NoCommand, egt_NoCommand, eha_NoCommand, e_hn, e_tk, ehm_NoCommand⟩
  have i_NoText_SpanError : PySem.W.kitOne K (.ref C_NoText) (.ref C_SpanError) = some true := kit_ofS s_NoText_SpanError X_SpanError.cl X_SpanError.t (.inl rfl)
  have m_NoText_SpanError : PySem.W.exmOne K (.ref C_NoText) (.ref C_SpanError) = some true := exm_ofS s_NoText_SpanError X_SpanError.cl X_SpanError.t X_SpanError.b
  have i_NoText_NoStretch : PySem.W.kitOne K (.ref C_NoText) (.ref C_NoStretch) = some false := kit_ofS s_NoText_NoStretch X_NoStretch.cl X_NoStretch.t (.inr n_NoText_NoStretch)
  have m_NoText_NoStretch : PySem.W.exmOne K (.ref C_NoText) (.ref C_NoStretch) = some false := exm_ofS s_NoText_NoStretch X_NoStretch.cl X_NoStretch.t X_NoStretch.b
  have i_NoText_NoPlace : PySem.W.kitOne K (.ref C_NoText) (.ref C_NoPlace) = some false := kit_ofS s_NoText_NoPlace X_NoPlace.cl X_NoPlace.t (.inr n_NoText_NoPlace)
  have m_NoText_NoPlace : PySem.W.exmOne K (.ref C_NoText) (.ref C_NoPlace) = some false := exm_ofS s_NoText_NoPlace X_NoPlace.cl X_NoPlace.t X_NoPlace.b
  have i_NoText_NoNumber : PySem.W.kitOne K (.ref C_NoText) (.ref C_NoNumber) = some false := kit_ofS s_NoText_NoNumber X_NoNumber.cl X_NoNumber.t (.inr n_NoText_NoNumber)
  have m_NoText_NoNumber : PySem.W.exmOne K (.ref C_NoText) (.ref C_NoNumber) = some false := exm_ofS s_NoText_NoNumber X_NoNumber.cl X_NoNumber.t X_NoNumber.b
  have i_NoText_NoMany : PySem.W.kitOne K (.ref C_NoText) (.ref C_NoMany) = some false := kit_ofS s_NoText_NoMany X_NoMany.cl X_NoMany.t (.inr n_NoText_NoMany)
  have m_NoText_NoMany : PySem.W.exmOne K (.ref C_NoText) (.ref C_NoMany) = some false := exm_ofS s_NoText_NoMany X_NoMany.cl X_NoMany.t X_NoMany.b
  have i_NoText_NoText : PySem.W.kitOne K (.ref C_NoText) (.ref C_NoText) = some true := kit_ofS s_NoText_NoText X_NoText.cl X_NoText.t (.inl rfl)
  have m_NoText_NoText : PySem.W.exmOne K (.ref C_NoText) (.ref C_NoText) = some true := exm_ofS s_NoText_NoText X_NoText.cl X_NoText.t X_NoText.b
  have i_NoText_NoCommand : PySem.W.kitOne K (.ref C_NoText) (.ref C_NoCommand) = some false := kit_ofS s_NoText_NoCommand X_NoCommand.cl X_NoCommand.t (.inr n_NoText_NoCommand)
  have m_NoText_NoCommand : PySem.W.exmOne K (.ref C_NoText) (.ref C_NoCommand) = some false := exm_ofS s_NoText_NoCommand X_NoCommand.cl X_NoCommand.t X_NoCommand.b
  have i_NoText_VE : PySem.W.kitOne K (.ref C_NoText) (.type "ValueError") = some true := kit_ofV s_NoText_VE
  have F0 := fun_mk (st := srfig) l0 c0 k0
  have b0 := F0.binds (ps := ["figures"]) fun _ _ _ _ _ _ us hl => match us, hl with | [_], _ => rfl
  have F1 := fun_mk (st := srnum) l1 c1 k1
  have b1 := F1.binds (ps := ["word"]) fun _ _ _ _ _ _ us hl => match us, hl with | [_], _ => rfl
  have F2 := fun_mk (st := sreadrow) l2 c2 k2
  have b2 := F2.binds (ps := ["text"]) fun _ _ _ _ _ _ us hl => match us, hl with | [_], _ => rfl
  have F3 := fun_mk (st := stake) l3 c3 k3
  have b3 := F3.binds (ps := ["deck", "many"]) fun _ _ _ _ _ _ us hl => match us, hl with | [_, _], _ => rfl
  have F4 := fun_mk (st := sdeck) l4 c4 k4
  have b4 := F4.binds (ps := ["cell", "k"]) fun _ _ _ _ _ _ us hl => match us, hl with | [_, _], _ => rfl
  have F5 := fun_mk (st := snumber) l5 c5 k5
  have b5 := F5.binds (ps := ["deck"]) fun _ _ _ _ _ _ us hl => match us, hl with | [_], _ => rfl
  have F6 := fun_mk (st := srow) l6 c6 k6
  have b6 := F6.binds (ps := ["deck", "most"]) fun _ _ _ _ _ _ us hl => match us, hl with | [_, _], _ => rfl
  have F7 := fun_mk (st := snumin) l7 c7 k7
  have b7 := F7.binds (ps := ["word"]) fun _ _ _ _ _ _ us hl => match us, hl with | [_], _ => rfl
  have F8 := fun_mk (st := sbad) l8 c8 k8
  have b8 := F8.binds (ps := ["deck"]) fun _ _ _ _ _ _ us hl => match us, hl with | [_], _ => rfl
  have F9 := fun_mk (st := sspoilt) l9 c9 k9
  have b9 := F9.binds (ps := ["deck", "text"]) fun _ _ _ _ _ _ us hl => match us, hl with | [_, _], _ => rfl
  have F10 := fun_mk (st := sright) l10 c10 k10
  have b10 := F10.binds (ps := ["text"]) fun _ _ _ _ _ _ us hl => match us, hl with | [_], _ => rfl
  have F11 := fun_mk (st := slaw) l11 c11 k11
  refine ⟨PySem.W.fnOf "law" "law" (defArgs slaw) (defBody slaw) (defScope slaw) .none kV11 dc11 pm11 an11 cd11 ct11, fun s v => .of_eq rfl, fun base _ _ => ?_⟩
  have D_rfig : DfX l.prog w K mg base 1 "read_figures" (sprfig K C_NoText) := dfx_mk (ok_rfig F0 B X_NoText G_FIGURES G_MOST_FIGURES) (PySem.W.mg_of X G a0) k0 b0
  have D_rnum : DfX l.prog w K mg base 2 "read_number" (sprnum K C_NoText) := dfx_mk (ok_rnum F1 B X_NoText D_rfig) (PySem.W.mg_of X G a1) k1 b1
  have D_readrow : DfX l.prog w K mg base 3 "read_row" (spreadrow K C_NoText) := dfx_mk (ok_readrow F2 B X_NoText D_rnum) (PySem.W.mg_of X G a2) k2 b2
  have D_take : Df l.prog w K mg base 1 "_law_take" (sptake K) := df_mk (ok_take F3 B ) (PySem.W.mg_of X G a3) k3 b3
  have D_deck : Df l.prog w K mg base 1 "_law_deck" (spdeck K) := df_mk (ok_deck F4 B ) (PySem.W.mg_of X G a4) k4 b4
  have D_number : Df l.prog w K mg base 2 "_law_number" (spnumber K) := df_mk (ok_number F5 B D_take) (PySem.W.mg_of X G a5) k5 b5
  have D_row : Df l.prog w K mg base 3 "_law_row" (sprow K) := df_mk (ok_row F6 B D_take D_number) (PySem.W.mg_of X G a6) k6 b6
  have D_numin : Df l.prog w K mg base 1 "_law_number_in" (spnumin K) := df_mk (ok_numin F7 B N_all D_rnum) (PySem.W.mg_of X G a7) k7 b7
  have D_bad : Df l.prog w K mg base 2 "_law_bad" (spbad K) := df_mk (ok_bad F8 B D_take) (PySem.W.mg_of X G a8) k8 b8
  have D_spoilt : Df l.prog w K mg base 3 "_law_spoilt" (spspoilt K) := df_mk (ok_spoilt F9 B D_take D_bad) (PySem.W.mg_of X G a9) k9 b9
  have D_right : Df l.prog w K mg base 5 "_law_right" (spright K) := df_mk (ok_right F10 B X_SpanError X_NoStretch X_NoPlace X_NoNumber X_NoMany X_NoText X_NoCommand i_NoText_SpanError m_NoText_SpanError i_NoText_NoStretch m_NoText_NoStretch i_NoText_NoPlace m_NoText_NoPlace i_NoText_NoNumber m_NoText_NoNumber i_NoText_NoMany m_NoText_NoMany i_NoText_NoText m_NoText_NoText i_NoText_NoCommand m_NoText_NoCommand i_NoText_VE D_readrow D_numin) (PySem.W.mg_of X G a10) k10 b10
  exact ok_law F11 B D_deck D_row D_take D_right D_spoilt
end SL
open PySem PySem.W PyProof.Rows
set_option maxHeartbeats 0 in
theorem PySem.Challenge.cw_stretchleast_k54_texts_of_no_row_holds : PySem.Challenge.rw_stretchleast_k54_texts_of_no_row.Holds := by
  w_on; o_law; k_head; (case hw => w_witness2)
  k_fill
  refine SL.walk_ofG (l := PySem.Challenge.rw_stretchleast_k54_texts_of_no_row) (n := 63) (k := 6) (x := "script") (sp := fun w => SL.splaw _) rfl (by decide) rfl ⟨rfl, by decide, by decide⟩ (fun w h Y => PySem.W.kIn_of Y) ?F (fun _ _ a ns hl hS => ⟨a, ns, rfl, hS, hl, fun _ => rfl⟩)
  case F =>
    intro w mg fa h KX G hmg
    refine' SL.all_mk KX G hmg ?eA_SpanError ?eq_SpanError ?ekp_SpanError ?eb_SpanError ?et_SpanError ?ega_SpanError ?egt_SpanError ?eha_SpanError ?ehm_SpanError ?eA_NoStretch ?eq_NoStretch ?ekp_NoStretch ?eb_NoStretch ?et_NoStretch ?ega_NoStretch ?egt_NoStretch ?eha_NoStretch ?ehm_NoStretch ?eA_NoPlace ?eq_NoPlace ?ekp_NoPlace ?eb_NoPlace ?et_NoPlace ?ega_NoPlace ?egt_NoPlace ?eha_NoPlace ?ehm_NoPlace ?eA_NoNumber ?eq_NoNumber ?ekp_NoNumber ?eb_NoNumber ?et_NoNumber ?ega_NoNumber ?egt_NoNumber ?eha_NoNumber ?ehm_NoNumber ?eA_NoMany ?eq_NoMany ?ekp_NoMany ?eb_NoMany ?et_NoMany ?ega_NoMany ?egt_NoMany ?eha_NoMany ?ehm_NoMany ?eA_NoText ?eq_NoText ?ekp_NoText ?eb_NoText ?et_NoText ?ega_NoText ?egt_NoText ?eha_NoText ?ehm_NoText ?eA_NoCommand ?eq_NoCommand ?ekp_NoCommand ?eb_NoCommand ?et_NoCommand ?ega_NoCommand ?egt_NoCommand ?eha_NoCommand ?ehm_NoCommand ?e_hn ?e_tk ?s_NoText_SpanError ?s_NoText_NoStretch ?n_NoText_NoStretch ?s_NoText_NoPlace ?n_NoText_NoPlace ?s_NoText_NoNumber ?n_NoText_NoNumber ?s_NoText_NoMany ?n_NoText_NoMany ?s_NoText_NoText ?s_NoText_NoCommand ?n_NoText_NoCommand ?s_NoText_VE ?a0 ?l0 ?c0 ?k0 ?a1 ?l1 ?c1 ?k1 ?a2 ?l2 ?c2 ?k2 ?a3 ?l3 ?c3 ?k3 ?a4 ?l4 ?c4 ?k4 ?a5 ?l5 ?c5 ?k5 ?a6 ?l6 ?c6 ?k6 ?a7 ?l7 ?c7 ?k7 ?a8 ?l8 ?c8 ?k8 ?a9 ?l9 ?c9 ?k9 ?a10 ?l10 ?c10 ?k10 ?a11 ?l11 ?c11 ?k11 ?nb_all ?ga_FIGURES ?gr_FIGURES ?ga_MOST_FIGURES ?gr_MOST_FIGURES ?z_len ?z_range ?z_list ?z_enumerate ?z_zip ?z_min ?z_max ?z_sum ?z_sorted ?z_isinstance ?z_int ?z_bool ?z_repr ?z_abs ?z_str ?z_tuple ?z_dict ?z_set ?z_ValueError
    (case eA_SpanError => k_is); (case eq_SpanError => k_exc); (case ekp_SpanError => k_is); (case eb_SpanError => k_is); (case et_SpanError => k_is); (case ega_SpanError => k_is); (case egt_SpanError => k_is); (case eha_SpanError => k_is); (case ehm_SpanError => k_is); (case eA_NoStretch => k_is); (case eq_NoStretch => k_exc); (case ekp_NoStretch => k_is); (case eb_NoStretch => k_is); (case et_NoStretch => k_is); (case ega_NoStretch => k_is); (case egt_NoStretch => k_is); (case eha_NoStretch => k_is); (case ehm_NoStretch => k_is); (case eA_NoPlace => k_is); (case eq_NoPlace => k_exc); (case ekp_NoPlace => k_is); (case eb_NoPlace => k_is); (case et_NoPlace => k_is); (case ega_NoPlace => k_is); (case egt_NoPlace => k_is); (case eha_NoPlace => k_is); (case ehm_NoPlace => k_is); (case eA_NoNumber => k_is); (case eq_NoNumber => k_exc); (case ekp_NoNumber => k_is); (case eb_NoNumber => k_is); (case et_NoNumber => k_is); (case ega_NoNumber => k_is); (case egt_NoNumber => k_is); (case eha_NoNumber => k_is); (case ehm_NoNumber => k_is); (case eA_NoMany => k_is); (case eq_NoMany => k_exc); (case ekp_NoMany => k_is); (case eb_NoMany => k_is); (case et_NoMany => k_is); (case ega_NoMany => k_is); (case egt_NoMany => k_is); (case eha_NoMany => k_is); (case ehm_NoMany => k_is); (case eA_NoText => k_is); (case eq_NoText => k_exc); (case ekp_NoText => k_is); (case eb_NoText => k_is); (case et_NoText => k_is); (case ega_NoText => k_is); (case egt_NoText => k_is); (case eha_NoText => k_is); (case ehm_NoText => k_is); (case eA_NoCommand => k_is); (case eq_NoCommand => k_exc); (case ekp_NoCommand => k_is); (case eb_NoCommand => k_is); (case et_NoCommand => k_is); (case ega_NoCommand => k_is); (case egt_NoCommand => k_is); (case eha_NoCommand => k_is); (case ehm_NoCommand => k_is); (case e_hn => k_is); (case e_tk => k_is); (case s_NoText_SpanError => k_is); (case s_NoText_NoStretch => k_is); (case n_NoText_NoStretch => decide); (case s_NoText_NoPlace => k_is); (case n_NoText_NoPlace => decide); (case s_NoText_NoNumber => k_is); (case n_NoText_NoNumber => decide); (case s_NoText_NoMany => k_is); (case n_NoText_NoMany => decide); (case s_NoText_NoText => first | rfl | k_is); (case s_NoText_NoCommand => k_is); (case n_NoText_NoCommand => decide); (case s_NoText_VE => k_is); (case a0 => k_is); (case l0 => k_is); (case c0 => k_is); (case k0 => k_is); (case a1 => k_is); (case l1 => k_is); (case c1 => k_is); (case k1 => k_is); (case a2 => k_is); (case l2 => k_is); (case c2 => k_is); (case k2 => k_is); (case a3 => k_is); (case l3 => k_is); (case c3 => k_is); (case k3 => k_is); (case a4 => k_is); (case l4 => k_is); (case c4 => k_is); (case k4 => k_is); (case a5 => k_is); (case l5 => k_is); (case c5 => k_is); (case k5 => k_is); (case a6 => k_is); (case l6 => k_is); (case c6 => k_is); (case k6 => k_is); (case a7 => k_is); (case l7 => k_is); (case c7 => k_is); (case k7 => k_is); (case a8 => k_is); (case l8 => k_is); (case c8 => k_is); (case k8 => k_is); (case a9 => k_is); (case l9 => k_is); (case c9 => k_is); (case k9 => k_is); (case a10 => k_is); (case l10 => k_is); (case c10 => k_is); (case k10 => k_is); (case a11 => k_is); (case l11 => k_is); (case c11 => k_is); (case k11 => k_is); (case nb_all => k_is); (case ga_FIGURES => k_is); (case gr_FIGURES => exact ⟨_, rfl⟩); (case ga_MOST_FIGURES => k_is); (case gr_MOST_FIGURES => exact ⟨_, rfl⟩); (case z_len => k_is); (case z_range => k_is); (case z_list => k_is); (case z_enumerate => k_is); (case z_zip => k_is); (case z_min => k_is); (case z_max => k_is); (case z_sum => k_is); (case z_sorted => k_is); (case z_isinstance => k_is); (case z_int => k_is); (case z_bool => k_is); (case z_repr => k_is); (case z_abs => k_is); (case z_str => k_is); (case z_tuple => k_is); (case z_dict => k_is); (case z_set => k_is); (case z_ValueError => k_is)
