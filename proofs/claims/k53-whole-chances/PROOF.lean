import PyProof.Rows.All
import Wide.All
import OpenK.AllK
import Wide.FinOn
import HandS.ForMost
import HandS.IsInst
import HandS.ClsMeth
import HandS.Wide
import HandS.WideBits
import HandS.Zip
import HandS.Rev
import HandS.Strs
import HandS.TupAny
import HandS.Defaults
import HandS.Walk
import HandS.Evl
import HandS.Flow
import HandS.SortKw
import PyProof.WalkInts
import KE.KMinKey
import HandS.ReCall
import HandS.SetFor
import KE.KIndexOf
import HandS.Conv
import PyProof.WalksMore
import KE.DataMinMax
import KE.KStateDown
import Lean
import HandS.Base
import HandS.Call
import HandS.Ends
import HandS.More
import HandS.Words
import HandS.WordsExc
import HandS.Head0
import HandS.Head1
import HandS.Head2
import HandS.HeadEnd
import HandS.HeadHook1
import HandS.HeadHook2
import PySem.Challenge.RW_bothwire_k53_whole_chances_add_up
import KE.KEqDeep
import HandS.Iter
import PyProof.EqAt
import PyProof.SetRoads
import HandS.Dict
import HandS.TupSets
import HandS.Text
import HandS.Style
set_option Elab.async false
set_option linter.all false
set_option maxRecDepth 100000
set_option maxHeartbeats 4000000
namespace BW
open PySem PySem.Spec PyProof.Rows L2
/-! ### the readings, taken at their widest: what the code itself does -/
section
variable {X : Cx} {σ : L2.St} {H : Hp} {e a b c o : Expr} {es : List Expr} {st : Stmt} {sts : List Stmt} {pos p apos : Pos} {D : Ends} {Q : VK}
structure E (X : Cx) (e : Expr) (σ : L2.St) (H : Hp) (Q : VK) : Prop where
  run : ∀ pins s, Inv X pins σ H s → wpAny (model X.prog X.w) X.A (eval e X.env) (EP X pins σ Q) X.xe s
structure T (X : Cx) (e : Expr) (σ : L2.St) (H : Hp) (Q : Bool → Hp → Prop) : Prop where
  run : ∀ pins s, Inv X pins σ H s → wpAny (model X.prog X.w) X.A (isTrue e X.env (eval e X.env)) (TP X pins σ Q) X.xe s
structure Wt (X : Cx) (e : Expr) (σ : L2.St) (H : Hp) (Q : Bool → Hp → Prop) : Prop where
  run : ∀ whole pins s, Inv X pins σ H s → wpAny (model X.prog X.w) X.A (isTrue e X.env whole) (TP X pins σ Q) X.xe s
structure As (X : Cx) (es : List Expr) (σ : L2.St) (H : Hp) (Q : List V → Hp → Prop) : Prop where
  run : ∀ pos pins s, Inv X pins σ H s → wpAny (model X.prog X.w) X.A (spliced (backTo pos (starEach es X.env))) (AP X pins σ Q) X.xe s
structure S (X : Cx) (st : Stmt) (D : Ends) (σ : L2.St) (H : Hp) : Prop where
  run : ∀ pins s, Inv X pins σ H s → wpAny (model X.prog X.w) X.A (exec st X.env) (SP X pins D) X.xe s
structure Ss (X : Cx) (st : List Stmt) (D : Ends) (σ : L2.St) (H : Hp) : Prop where
  run : ∀ pins s, Inv X pins σ H s → wpAny (model X.prog X.w) X.A (execs st X.env) (SP X pins D) X.xe s
structure G (X : Cx) (tg : Expr) (v : V) (σ : L2.St) (H : Hp) (Q : L2.St → Hp → Prop) : Prop where
  run : ∀ pins s u, Inv X pins σ H s → RelV v u → wpAny (model X.prog X.w) X.A (assign tg X.env u) (fun _ s' => ∃ σ' H', Inv X pins σ' H' s' ∧ Q σ' H') X.xe s
structure Gs (X : Cx) (tgs : List Expr) (vs : List V) (σ : L2.St) (H : Hp) (Q : L2.St → Hp → Prop) : Prop where
  run : ∀ pins s us, Inv X pins σ H s → Vals vs us → wpAny (model X.prog X.w) X.A (assignInOrder ((assignEach tgs X.env).map (·.2)) us) (fun _ s' => ∃ σ' H', Inv X pins σ' H' s' ∧ Q σ' H') X.xe s
theorem E.pe : PE X e (E X e) := ⟨fun pins s _ _ _ I h => h.run pins s I⟩
theorem E.of {t : TE} (h : PE X e t) (q : t σ H Q) : E X e σ H Q := ⟨fun pins s I => h.run pins s σ H Q I q⟩
theorem T.pt : PT X e (T X e) := ⟨fun pins s _ _ _ I h => h.run pins s I⟩
theorem T.of {t : TT} {R : Bool → Hp → Prop} (h : PT X e t) (q : t σ H R) : T X e σ H R := ⟨fun pins s I => h.run pins s σ H R I q⟩
theorem Wt.pw : PW X e (Wt X e) := ⟨fun wh pins s _ _ _ I h => h.run wh pins s I⟩
theorem Wt.of {t : TT} {R : Bool → Hp → Prop} (h : PW X e t) (q : t σ H R) : Wt X e σ H R := ⟨fun wh pins s I => h.run wh pins s σ H R I q⟩
theorem As.pa : PA X es (As X es) := ⟨fun ps pins s _ _ _ I h => h.run ps pins s I⟩
theorem As.of {t : TA} {R : List V → Hp → Prop} (h : PA X es t) (q : t σ H R) : As X es σ H R := ⟨fun ps pins s I => h.run ps pins s σ H R I q⟩
theorem S.ps : PS X st (S X st) := ⟨fun pins s _ _ _ I h => h.run pins s I⟩
theorem S.of {t : TS} (h : PS X st t) (q : t D σ H) : S X st D σ H := ⟨fun pins s I => h.run pins s σ H D I q⟩
theorem Ss.ps : PSs X sts (Ss X sts) := ⟨fun pins s _ _ _ I h => h.run pins s I⟩
theorem Ss.of {t : TS} (h : PSs X sts t) (q : t D σ H) : Ss X sts D σ H := ⟨fun pins s I => h.run pins s σ H D I q⟩
theorem G.pg {tg : Expr} : PG X tg (G X tg) := ⟨fun pins s _ _ _ u _ I r h => h.run pins s u I r⟩
theorem G.of {tg : Expr} {t : TG} {v : V} {R : L2.St → Hp → Prop} (h : PG X tg t) (q : t v σ H R) : G X tg v σ H R := ⟨fun pins s u I r => h.run pins s σ H v u R I r q⟩
theorem Gs.pg {tgs : List Expr} : PGs X tgs (Gs X tgs) := ⟨fun pins s _ _ _ us _ I r h => h.run pins s us I r⟩
theorem Gs.of {tgs : List Expr} {t : TGs} {vs : List V} {R : L2.St → Hp → Prop} (h : PGs X tgs t) (q : t vs σ H R) : Gs X tgs vs σ H R := ⟨fun pins s us I r => h.run pins s σ H vs us R I r q⟩
theorem E.mono {Q' : VK} (h : E X e σ H Q) (k : ∀ v H', Q v H' → Q' v H') : E X e σ H Q' := ⟨fun pins s I => thn (h.run pins s I) fun _ _ ⟨v, H', I', r, q⟩ => ⟨v, H', I', r, k v H' q⟩⟩
theorem T.mono {R R' : Bool → Hp → Prop} (h : T X e σ H R) (k : ∀ v H', R v H' → R' v H') : T X e σ H R' := ⟨fun pins s I => thn (h.run pins s I) fun _ _ ⟨H', I', q⟩ => ⟨H', I', k _ H' q⟩⟩
theorem As.mono {R R' : List V → Hp → Prop} (h : As X es σ H R) (k : ∀ v H', R v H' → R' v H') : As X es σ H R' := ⟨fun ps pins s I => thn (h.run ps pins s I) fun _ _ ⟨v, H', I', r, q⟩ => ⟨v, H', I', r, k v H' q⟩⟩
theorem G.mono {tg : Expr} {v : V} {R R' : L2.St → Hp → Prop} (h : G X tg v σ H R) (k : ∀ σ' H', R σ' H' → R' σ' H') : G X tg v σ H R' := ⟨fun pins s u I r => thn (h.run pins s u I r) fun _ _ ⟨σ', H', I', q⟩ => ⟨σ', H', I', k σ' H' q⟩⟩

/-! ### heaps -/
abbrev Ex := Evl.Ex
def isLst : HO → Bool
  | .lst _ => true
  | _ => false
/-- all but the lists stand -/
def Fz (H H' : Hp) : Prop := ∀ a o, H a = some o → isLst o = false → H' a = some o
theorem Fz.refl (H : Hp) : Fz H H := fun _ _ h _ => h
theorem Fz.trans {H H1 H2 : Hp} (a : Fz H H1) (b : Fz H1 H2) : Fz H H2 := fun x o h n => b x o (a x o h n) n
theorem Fz.of {H H' : Hp} (e : Ex H H') : Fz H H' := fun x o h _ => e x o h
theorem Fz.upd {H : Hp} {l : Addr} {xs : List V} {o : HO} (h : H l = some (.lst xs)) : Fz H (L2.upd H l o) := fun x u hx n => by
  rw [upd_ne (ne_of hx h (by intro z; rw [z] at n; cases n))]
  exact hx
/-- all but what stands at l -/
def ExB (l : Addr) (H H' : Hp) : Prop := ∀ a o, a ≠ l → H a = some o → H' a = some o
theorem ExB.refl (l : Addr) (H : Hp) : ExB l H H := fun _ _ _ h => h
theorem ExB.trans {l : Addr} {H H1 H2 : Hp} (a : ExB l H H1) (b : ExB l H1 H2) : ExB l H H2 := fun x o n h => b x o n (a x o n h)
theorem ExB.of {l : Addr} {H H' : Hp} (e : Ex H H') : ExB l H H' := fun x o _ h => e x o h
theorem ExB.upd {l : Addr} {H : Hp} {o : HO} : ExB l H (L2.upd H l o) := fun x u n h => by
  rw [upd_ne n]
  exact h
theorem ExB.fz {l : Addr} {H H' : Hp} {xs : List V} (e : ExB l H H') (h : H l = some (.lst xs)) : Fz H H' := fun x o hx n => e x o (ne_of hx h (by intro z; rw [z] at n; cases n)) hx
theorem ExB.new {l : Addr} {H H' H1 : Hp} (e : Ex H H1) (h : H l = none) (b : ExB l H1 H') : Ex H H' := fun x o hx => b x o (ne_of_none hx h) (e x o hx)
theorem SqT.fz {K : PySem.W.Frag} {H H' : Hp} {a : Addr} {xs : List V} (h : SqT K H a xs) (e : Fz H H') : SqT K H' a xs := by
  rcases h with (h | ⟨o, h⟩) | h
  · exact .inl (.inl (e a _ h rfl))
  · exact .inl (.inr ⟨o, e a _ h rfl⟩)
  · exact .inr h
theorem SqL.ex {K : PySem.W.Frag} {H H' : Hp} {a : Addr} {xs : List V} (h : SqL K H a xs) (e : Ex H H') : SqL K H' a xs := Evl.ex_l e h
/-- a new object, told without its heap -/
theorem new_of {H : Hp} {o : HO} {R : Addr → Hp → Prop} (h : ∀ p H2, H p = none → Ex H H2 → H2 p = some o → R p H2) : ∀ p, H p = none → R p (L2.upd H p o) := fun p hp => h p _ hp (Evl.Ex.new hp) upd_same

/-! ### statements -/
theorem Ss_nil (q : D.nx σ H) : Ss X [] D σ H := Ss.of pss_nil q
theorem Ss_cons (q : S X st { D with nx := fun σ' H' => Ss X sts D σ' H' } σ H) : Ss X (st :: sts) D σ H := Ss.of (pss_cons S.ps Ss.ps) q
theorem Ss_one (q : S X st D σ H) : Ss X [st] D σ H := Ss.of (pss_one S.ps) q
theorem S_if {as bs : List Stmt} (q : T X c σ H fun b H1 => if b = true then Ss X as D σ H1 else Ss X bs D σ H1) : S X (.If c as bs pos) D σ H := S.of (ps_if T.pt Ss.ps Ss.ps) q
theorem S_ret (q : E X e σ H D.rt) : S X (.Return (some e) pos) D σ H := S.of (ps_ret E.pe) q
theorem S_expr (q : E X e σ H fun _ H1 => D.nx σ H1) (hs : swapsWith e none pos.line X.env = pure false := by rfl) : S X (.Expr e pos) D σ H := S.of (ps_expr E.pe hs) q
theorem S_set {i : Nat} {x : Str} {pos' : Pos} (hi : X.N[i]? = some x) (q : E X e σ H fun v H1 => D.nx (σ.set i (some v)) H1) (hN : X.N.Nodup) (hx : Loc X.env.scope x := by first | exact Or.inl rfl | exact Or.inr rfl) (hs : swapsWith e (some (.Name x pos')) pos.line X.env = pure false := by rfl)
    (hf : X.fn x = true ∨ X.env.scope.names.lookup x = some .local := by first | exact .inl rfl | exact .inr rfl) : S X (.Assign [.Name x pos'] e pos) D σ H := S.of (ps_set hN hi hx E.pe hs hf) q
theorem S_asg {tg : Expr} (q : E X e σ H fun v H1 => G X tg v σ H1 D.nx) (hs : swapsWithSole [tg] e pos.line X.env = pure false := by rfl) (hw : swappedStores [tg] e X.env = pure none := by rfl)
    (h1 : (assignEach [tg] X.env).map (·.2) = [assign tg X.env] := by rfl) : S X (.Assign [tg] e pos) D σ H := S.of (ps_asg E.pe G.pg hs hw h1) q
theorem S_fld {value : Expr} {f : Str} {pos' : Pos} (q : E X value σ H fun y H1 => E X o σ H1 fun x H2 => ∃ a C dx fs, x = .ref a ∧ H2 a = some (.ins C dx fs) ∧ Cls X.K C ∧ NoAttr X.K C f ∧ fs.length < 1000 ∧ D.nx σ (upd H2 a (.ins C dx (putF f y fs))))
    (hs : swapsWith value (some (.Attribute o f pos')) pos.line X.env = pure false := by rfl) : S X (.Assign [.Attribute o f pos'] value pos) D σ H := S.of (ps_fld E.pe E.pe hs) q
theorem S_never (q : False) : S X st D σ H := q.elim
theorem G_name {i : Nat} {x : Str} {v : V} {R : L2.St → Hp → Prop} (hi : X.N[i]? = some x) (q : R (σ.set i (some v)) H) (hN : X.N.Nodup) (hx : Loc X.env.scope x := by first | exact Or.inl rfl | exact Or.inr rfl)
    (hf : X.fn x = true ∨ X.env.scope.names.lookup x = some .local := by first | exact .inl rfl | exact .inr rfl) : G X (.Name x pos) v σ H R := G.of (pg_name hN hi hx hf) q
theorem Gs_nil {R : L2.St → Hp → Prop} (q : R σ H) : Gs X [] [] σ H R := Gs.of pgs_nil ⟨rfl, q⟩
theorem Gs_cons {tg : Expr} {tgs : List Expr} {v : V} {vs : List V} {R : L2.St → Hp → Prop} (q : G X tg v σ H fun σ' H' => Gs X tgs vs σ' H' R) (hs : (assignEach (tg :: tgs) X.env).map (·.2) = assign tg X.env :: (assignEach tgs X.env).map (·.2) := by rfl) :
    Gs X (tg :: tgs) (v :: vs) σ H R := Gs.of (pgs_cons G.pg Gs.pg hs) ⟨v, vs, rfl, q⟩
theorem G_tup {tgs : List Expr} {k n : Nat} {t : Addr} {vs : List V} {R : L2.St → Hp → Prop} (hc : X.calm = true) (ht : SqT X.K H t vs) (hl : vs.length = n) (q : Gs X tgs vs σ H R) (hn : (assignEach tgs X.env).length = n := by rfl) (hst : (assignEach tgs X.env).findIdx? (·.1) = none := by rfl) :
    G X (.Tuple tgs k pos) (.ref t) σ H R := G.of (pg_tup hc Gs.pg hn hst) ⟨t, vs, rfl, ht, hl, q⟩

/-! ### tests -/
theorem T_val {R : Bool → Hp → Prop} (q : E X e σ H fun x H1 => ∃ k, x = .bl k ∧ R k H1) (he : ∀ whole, isTrue e X.env whole = (do let v ← whole; standAt e.pos; holding [v] (truthy v)) := by intro _; rfl) : T X e σ H R := T.of (pt_val E.pe he) q
theorem T_cmp {op : CmpOp} {r : R2} {R : Bool → Hp → Prop} (ho : OpR X (compareOp op) r) (q : E X a σ H fun x H1 => E X b σ H1 fun y H2 => r x y H2 fun z H3 => ∃ k, z = .bl k ∧ R k H3) (hm : behindInMarks op b = false := by first | exact nomark _ | rfl) : T X (.Compare a [op] [b] pos) σ H R :=
  T.of (pt_cmpR ho E.pe E.pe hm) q
theorem T_not {R : Bool → Hp → Prop} (q : T X a σ H fun c H1 => R (!c) H1) : T X (.UnaryOp .Not a pos) σ H R := T.of (pt_not T.pt) q
theorem T_w {R : Bool → Hp → Prop} (q : Wt X a σ H R) : T X a σ H R := T.of Wt.pw.pt q
theorem W_and1 {R : Bool → Hp → Prop} (q : T X a σ H R) : Wt X (.BoolOp .And [a] pos) σ H R := Wt.of (pw_and1 T.pt) q
theorem W_or1 {R : Bool → Hp → Prop} (q : T X a σ H R) : Wt X (.BoolOp .Or [a] pos) σ H R := Wt.of (pw_or1 T.pt) q
theorem W_and {R : Bool → Hp → Prop} (q : T X a σ H fun c H1 => if c = true then Wt X (.BoolOp .And (b :: es) pos) σ H1 R else R false H1) : Wt X (.BoolOp .And (a :: b :: es) pos) σ H R := Wt.of (pw_and T.pt Wt.pw) q
theorem W_or {R : Bool → Hp → Prop} (q : T X a σ H fun c H1 => if c = true then R true H1 else Wt X (.BoolOp .Or (b :: es) pos) σ H1 R) : Wt X (.BoolOp .Or (a :: b :: es) pos) σ H R := Wt.of (pw_or T.pt Wt.pw) q
theorem T_chain {op op' : CmpOp} {r r' : R2} {R : Bool → Hp → Prop} (ho : OpR X (compareOp op) r) (ho' : OpR X (compareOp op') r') (q : tB (tChain r r' (E X a) (E X b) (E X c)) σ H R) (hm : lastMarks [op, op'] [b, c] = false := by with_unfolding_all rfl) :
    T X (.Compare a [op, op'] [b, c] pos) σ H R := T.of (pt_chain ho ho' E.pe E.pe E.pe hm) q

/-! ### expressions -/
theorem E_var (i : Nat) {x : Str} {v : V} (hv : σ[i]? = some (some v)) (q : Q v H) (hN : X.N[i]? = some x := by rfl) (hs : Vis X.env.scope x := by first | exact Or.inl rfl | exact Or.inr (Or.inl rfl) | exact Or.inr (Or.inr rfl)) (hd : (x == ("__debug__" : Str)) = false := by decide)
    (hcd : (x == ("__classdict__" : Str)) = false := by decide) : E X (.Name x pos) σ H Q := E.of (pe_var hN hs hd hcd) ⟨v, hv, q⟩
theorem E_glob {x : Str} {v : V} {u : Value} (hm : X.mg x = some u) (r : RelV v u) (q : Q v H) (hg : Gl X x := by rfl) (hd : (x == ("__debug__" : Str)) = false := by decide) : E X (.Name x pos) σ H Q := E.of (pe_glob hg hm r hd) q
theorem E_op {op : Operator} {r : R2} (ho : OpR X (binaryOp op) r) (q : E X a σ H fun x H1 => E X b σ H1 fun y H2 => r x y H2 Q) : E X (.BinOp a op b pos) σ H Q := E.of (pe_op ho E.pe E.pe) q
theorem E_un {op : UnaryOp} {r : V → Hp → VK → Prop} (ho : UnR X (unaryOp op) r) (q : E X a σ H fun x H1 => r x H1 Q) : E X (.UnaryOp op a pos) σ H Q := E.of (pe_un ho E.pe) q
theorem E_cmp {op : CmpOp} {r : R2} (ho : OpR X (compareOp op) r) (q : E X a σ H fun x H1 => E X b σ H1 fun y H2 => r x y H2 Q) (hm : behindInMarks op b = false := by first | exact nomark _ | rfl) : E X (.Compare a [op] [b] pos) σ H Q := E.of (pe_cmpR ho E.pe E.pe hm) q
theorem E_and (q : E X a σ H fun x H1 => ∃ k, x = .bl k ∧ if k = true then E X (.BoolOp .And (b :: es) pos) σ H1 Q else Q (.bl false) H1) : E X (.BoolOp .And (a :: b :: es) pos) σ H Q := E.of (pe_and E.pe E.pe) q
theorem E_or (q : E X a σ H fun x H1 => ∃ k, x = .bl k ∧ if k = true then Q (.bl true) H1 else E X (.BoolOp .Or (b :: es) pos) σ H1 Q) : E X (.BoolOp .Or (a :: b :: es) pos) σ H Q := E.of (pe_or E.pe E.pe) q
theorem E_one {op} (q : E X a σ H Q) : E X (.BoolOp op [a] pos) σ H Q := E.of (pe_one E.pe) q
theorem E_not (q : E X a σ H fun x H1 => ∃ k, x = .bl k ∧ Q (.bl (!k)) H1) : E X (.UnaryOp .Not a pos) σ H Q := E.of (pe_not E.pe) q
theorem E_ifx (q : T X c σ H fun k H1 => if k = true then E X a σ H1 Q else E X b σ H1 Q) : E X (.IfExp c a b pos) σ H Q := E.of (pe_ifExp T.pt E.pe E.pe) q
theorem E_tup {k : Nat} (q : As X es σ H fun xs H1 => xs.length ≤ sizeLine ∧ ∀ p H2, H1 p = none → Ex H1 H2 → H2 p = some (.tup xs) → Q (.ref p) H2) : E X (.Tuple es k pos) σ H Q :=
  E.of (pe_tup As.pa) (As.mono q fun xs H1 h => ⟨h.1, new_of h.2⟩)
theorem E_lst (q : As X es σ H fun xs H1 => xs.length ≤ sizeLine ∧ ∀ p H2, H1 p = none → Ex H1 H2 → H2 p = some (.lst xs) → Q (.ref p) H2) : E X (.List es pos) σ H Q :=
  E.of (pe_lst As.pa) (As.mono q fun xs H1 h => ⟨h.1, new_of h.2⟩)
theorem E_fld {f : Str} (q : E X o σ H fun x H1 => ∃ a C dx fs v, x = .ref a ∧ H1 a = some (.ins C dx fs) ∧ Cls X.K C ∧ NoAttr X.K C f ∧ fs.lookup f = some v ∧ Q v H1) (hb : attributeBase o f X.env (eval o X.env) = eval o X.env := by rfl) : E X (.Attribute o f pos) σ H Q := E.of (pe_fld E.pe hb) q
theorem E_ixL (q : E X a σ H fun x H1 => E X b σ H1 fun y H2 => ∃ p xs i v, x = .ref p ∧ y = .int i ∧ SqL X.K H2 p xs ∧ atI xs i = some v ∧ Q v H2) (hs : PlainIx b := by exact fun _ _ => rfl) : E X (.Subscript a b pos) σ H Q := E.of (pe_ix ix_list E.pe E.pe hs) q
theorem E_ixT (q : E X a σ H fun x H1 => E X b σ H1 fun y H2 => ∃ p xs i v, x = .ref p ∧ y = .int i ∧ SqT X.K H2 p xs ∧ atI xs i = some v ∧ Q v H2) (hs : PlainIx b := by exact fun _ _ => rfl) : E X (.Subscript a b pos) σ H Q := E.of (pe_ix ix_tup E.pe E.pe hs) q
theorem E_int {i : Int} {k : Nat} (q : Q (.int i) H) : E X (.Constant (.int i) k pos) σ H Q := E.of pe_int q
theorem E_str {i : Str} {k : Nat} (q : Q (.str i) H) : E X (.Constant (.str i) k pos) σ H Q := E.of pe_str q
theorem E_bl {i : Bool} {k : Nat} (q : Q (.bl i) H) : E X (.Constant (.bool i) k pos) σ H Q := E.of pe_bl q
theorem E_non {k : Nat} (q : Q .non H) : E X (.Constant .none k pos) σ H Q := E.of pe_non q
theorem As_nil {R : List V → Hp → Prop} (q : R [] H) : As X [] σ H R := As.of pa_nil q
theorem As_cons {R : List V → Hp → Prop} (q : E X e σ H fun x H1 => As X es σ H1 fun xs H2 => R (x :: xs) H2) (hs : starEach (e :: es) X.env = (false, eval e X.env) :: starEach es X.env := by rfl) : As X (e :: es) σ H R := As.of (pa_cons E.pe As.pa hs) q
end

/-! ### calls -/
/-- the def that the module's name x means, with its promise -/
def Cal (P : Program) (w : World) (K : PySem.W.Frag) (mg : Str → Option Value) (base : Heap) (k : Nat) (x : Str) (sp : Sp) : Prop :=
  ∃ f fd ps, mg x = some (.ref f) ∧ PySem.W.keepIn K (.ref f) = true ∧ FnOk P w K mg base CX0 k f fd ps sp ∧ Binds K fd ps []
/-- the method m of the class at C -/
def MCal (P : Program) (w : World) (K : PySem.W.Frag) (mg : Str → Option Value) (base : Heap) (k : Nat) (C : Addr) (m : Str) (sp : Sp) : Prop :=
  ∃ f fd ps, Meth K C m f ∧ FnOk P w K mg base CX0 k f fd ps sp ∧ Binds K fd ps []
/-- the class that the module's name x means, its __init__ with its promise -/
def KCal (P : Program) (w : World) (K : PySem.W.Frag) (mg : Str → Option Value) (base : Heap) (k : Nat) (x : Str) (C : Addr) (sp : Sp) : Prop :=
  ∃ f fd ps, mg x = some (.ref C) ∧ Mk K C f ∧ FnOk P w K mg base CX0 k f fd ps sp ∧ Binds K fd ps []
abbrev ENo : XK := fun _ _ _ => False
section
variable {X : Cx} {σ : L2.St} {H : Hp} {e a b c o : Expr} {es : List Expr} {st : Stmt} {sts : List Stmt} {pos p apos : Pos} {D : Ends} {Q : VK} {k : Nat} {sp : Sp} {C : Addr} {x m : Str}
theorem E_call (F : Cal X.prog X.w X.K X.mg X.base k x sp) (hr : Room k X.A) (q : As X (e :: es) σ H fun vs H1 => sp vs H1 Q ENo) (hg : Gl X x := by rfl) (hdb : (x == ("__debug__" : Str)) = false := by decide)
    (he : starEach (e :: es) X.env = (false, eval e X.env) :: starEach es X.env := by rfl) (hpl : (backTo pos (starEach es X.env)).any (·.1) = false := by rfl) : E X (.Call (.Name x p) (e :: es) [] pos) σ H Q := by
  obtain ⟨f, fd, ps, hm, hk, F, hb⟩ := F
  refine E.of (pe_call F hr hg hm hk hb .nil pass0 As.pa hdb he hpl) (As.mono q fun vs H1 h => ?_)
  rw [List.append_nil]
  exact h
theorem E_meth {pl : Sem Bool} (F : MCal X.prog X.w X.K X.mg X.base k C m sp) (c : Cls X.K C) (hr : Room k X.A) (q : E X o σ H fun x H1 => ∃ a dx fs, x = .ref a ∧ H1 a = some (.ins C dx fs) ∧ fs.lookup m = none ∧ As X (e :: es) σ H1 fun vs H2 => sp (x :: vs) H2 Q ENo)
    (hst : starEach (e :: es) X.env = (false, eval e X.env) :: starEach es X.env := by rfl) (hpl : (backTo pos (starEach es X.env)).any (·.1) = false := by rfl)
    (ht : eval (.Call (.Attribute o m apos) (e :: es) [] pos) X.env = (do
        let w1 ← eval o X.env
        standAt apos.atName
        let (g1, g2) ← holding [w1] (getMethod w1 m pl)
        callWith pos g1 g2 (backTo pos (starEach (e :: es) X.env)) (backToKw pos (keywordEach [] X.env))) := by rfl) :
    E X (.Call (.Attribute o m apos) (e :: es) [] pos) σ H Q := by
  obtain ⟨f, fd, ps, hm, F, hb⟩ := F
  refine E.of (pe_meth E.pe c hm F hr hb .nil pass0 As.pa hst hpl ht) (E.mono q fun v H1 h => ?_)
  obtain ⟨a, dx, fs, h1, h2, h3, h4⟩ := h
  refine ⟨a, dx, fs, h1, h2, h3, As.mono h4 fun vs H2 h => ?_⟩
  rw [List.append_nil]
  exact h
theorem E_meth0 {pl : Sem Bool} (F : MCal X.prog X.w X.K X.mg X.base k C m sp) (c : Cls X.K C) (hr : Room k X.A) (q : E X o σ H fun x H1 => ∃ a dx fs, x = .ref a ∧ H1 a = some (.ins C dx fs) ∧ fs.lookup m = none ∧ sp [x] H1 Q ENo)
    (ht : eval (.Call (.Attribute o m apos) [] [] pos) X.env = (do
        let w1 ← eval o X.env
        standAt apos.atName
        let (g1, g2) ← holding [w1] (getMethod w1 m pl)
        callWith pos g1 g2 (backTo pos (starEach [] X.env)) (backToKw pos (keywordEach [] X.env))) := by rfl) :
    E X (.Call (.Attribute o m apos) [] [] pos) σ H Q := by
  obtain ⟨f, fd, ps, hm, F, hb⟩ := F
  exact E.of (pe_meth0 E.pe c hm F hr hb .nil pass0 ht) (E.mono q fun v H1 h => h)
/-- C(..): the heap behind a new, empty instance at x -/
theorem E_make (F : KCal X.prog X.w X.K X.mg X.base k x C sp) (hr : Room (k + 1) X.A) (q : As X (e :: es) σ H fun vs H1 => ∀ y dx H2, H1 y = none → Ex H1 H2 → H2 y = some (.ins C dx []) → sp (.ref y :: vs) H2 (fun v H3 => v = .non ∧ Q (.ref y) H3) ENo)
    (hg : Gl X x := by rfl) (hdb : (x == ("__debug__" : Str)) = false := by decide)
    (he : starEach (e :: es) X.env = (false, eval e X.env) :: starEach es X.env := by rfl) (hpl : (backTo pos (starEach es X.env)).any (·.1) = false := by rfl) : E X (.Call (.Name x p) (e :: es) [] pos) σ H Q := by
  obtain ⟨f, fd, ps, hm, M, F, hb⟩ := F
  refine E.of (pe_make M F hr hg hm hb .nil pass0 As.pa hdb he hpl) (As.mono q fun vs H1 h => ?_)
  intro y dx hy hdx ne
  rw [List.append_nil]
  refine h y dx _ hy (fun b ob eb => ?_) upd_same
  rw [upd_ne (ne_of_none eb hy), upd_ne (ne_of_none eb hdx)]
  exact eb
theorem E_callB {id : String} {r : List V → Hp → VK → Prop} (hc : CallR X (.builtin id) r) (hm : X.mg x = none) (hv : bootBuiltins x = some (.builtin id)) (q : As X (e :: es) σ H fun vs H1 => r vs H1 Q) (hg : Gl X x := by rfl) (hn : x ≠ "__name__" := by decide)
    (hdb : (x == ("__debug__" : Str)) = false := by decide) (he : starEach (e :: es) X.env = (false, eval e X.env) :: starEach es X.env := by rfl) (hpl : (backTo pos (starEach es X.env)).any (·.1) = false := by rfl) : E X (.Call (.Name x p) (e :: es) [] pos) σ H Q :=
  E.of (pe_callB hc hg hm hv As.pa hn hdb he hpl) q
theorem E_callT {ty : String} {r : List V → Hp → VK → Prop} (hc : CallR X (.type ty) r) (hm : X.mg x = none) (hv : bootBuiltins x = some (.type ty)) (q : As X (e :: es) σ H fun vs H1 => r vs H1 Q) (hg : Gl X x := by rfl) (hn : x ≠ "__name__" := by decide)
    (hdb : (x == ("__debug__" : Str)) = false := by decide) (he : starEach (e :: es) X.env = (false, eval e X.env) :: starEach es X.env := by rfl) (hpl : (backTo pos (starEach es X.env)).any (·.1) = false := by rfl) : E X (.Call (.Name x p) (e :: es) [] pos) σ H Q :=
  E.of (pe_callTy hc hg hm hv As.pa hn hdb he hpl) q

/-! ### loops -/
theorem S_forW {tg iter : Expr} {body : List Stmt} {wi : TI} (hp : PassesOwn (model X.prog X.w) X.A X.env X.xe) (hc : X.calm = true) (hi : PI X tg iter wi)
    (q : wi σ H fun J H1 => ∃ (n : Nat) (Gd : Hp → Prop) (Y : Nat → Hp → V → Hp → Prop) (_ : Walk J n Gd Y) (Pv : Nat → L2.St → Hp → Prop), Pv 0 σ H1 ∧ (∀ i σ' H', i ≤ n → Pv i σ' H' → Gd H') ∧
      (∀ i x σ' H' H'', i < n → Pv i σ' H' → Y i H' x H'' → G X tg x σ' H'' fun σ2 H2 => Ss X body { D with nx := Pv (i + 1), ct := Pv (i + 1), bk := D.nx } σ2 H2) ∧ ∀ σ' H', Pv n σ' H' → D.nx σ' H')
    (hm : ∀ {R R' : It → Hp → Prop}, wi σ H R → (∀ J H1, R J H1 → R' J H1) → wi σ H R') (hs : ∀ x, foldedSetIterable iter X.env x = pure x := by intro _; rfl) : S X (.For tg iter body [] pos) D σ H := by
  refine S.of (ps_for hp hc hi G.pg Ss.ps hs) (hm q fun J H1 h => ?_)
  obtain ⟨n, Gd, Y, w, Pv, h0, hG, hst, hd⟩ := h
  exact for_it w Pv h0 hG hst hd
/-- for tg in e, e a list -/
theorem S_forL {tg iter : Expr} {body : List Stmt} (hp : PassesOwn (model X.prog X.w) X.A X.env X.xe) (hc : X.calm = true)
    (q : E X iter σ H fun v H1 => ∃ (l : Addr) (xs : List V) (Pv : Nat → L2.St → Hp → Prop), v = .ref l ∧ SqL X.K H1 l xs ∧ Pv 0 σ H1 ∧ (∀ i σ' H', i ≤ xs.length → Pv i σ' H' → SqL X.K H' l xs) ∧
      (∀ i x σ' H', xs[i]? = some x → Pv i σ' H' → G X tg x σ' H' fun σ2 H2 => Ss X body { D with nx := Pv (i + 1), ct := Pv (i + 1), bk := D.nx } σ2 H2) ∧ ∀ σ' H', Pv xs.length σ' H' → D.nx σ' H')
    (hs : ∀ x, foldedSetIterable iter X.env x = pure x := by intro _; rfl) : S X (.For tg iter body [] pos) D σ H := by
  refine S.of (ps_for hp hc (pi_list E.pe) G.pg Ss.ps hs) (E.mono q fun v H1 h => ?_)
  obtain ⟨l, xs, Pv, rfl, hx, h0, hl, hst, hd⟩ := h
  exact ⟨l, rfl, ⟨xs, hx⟩, for_list Pv h0 hl hst hd⟩
/-- for tg in e, e a tuple -/
theorem S_forT {tg iter : Expr} {body : List Stmt} (hp : PassesOwn (model X.prog X.w) X.A X.env X.xe) (hc : X.calm = true)
    (q : E X iter σ H fun v H1 => ∃ (l : Addr) (xs : List V) (Pv : Nat → L2.St → Hp → Prop), v = .ref l ∧ SqT X.K H1 l xs ∧ Pv 0 σ H1 ∧ (∀ i σ' H', i ≤ xs.length → Pv i σ' H' → SqT X.K H' l xs) ∧
      (∀ i x σ' H', xs[i]? = some x → Pv i σ' H' → G X tg x σ' H' fun σ2 H2 => Ss X body { D with nx := Pv (i + 1), ct := Pv (i + 1), bk := D.nx } σ2 H2) ∧ ∀ σ' H', Pv xs.length σ' H' → D.nx σ' H')
    (hs : ∀ x, foldedSetIterable iter X.env x = pure x := by intro _; rfl) : S X (.For tg iter body [] pos) D σ H := by
  refine S.of (ps_for hp hc (pi_tup E.pe) G.pg Ss.ps hs) (E.mono q fun v H1 h => ?_)
  obtain ⟨l, xs, Pv, rfl, hx, h0, hl, hst, hd⟩ := h
  exact ⟨l, rfl, ⟨xs, hx⟩, for_tup Pv h0 hl hst hd⟩
/-- for tg in range(n) -/
theorem S_forR {tg : Expr} {body : List Stmt} {pr : Pos} (hp : PassesOwn (model X.prog X.w) X.A X.env X.xe) (hc : X.calm = true) (hmr : X.mg "range" = none)
    (q : E X e σ H fun v H1 => ∃ (n : Int) (Pv : Nat → L2.St → Hp → Prop), v = .int n ∧ -(2 ^ 62) ≤ n ∧ n < 2 ^ 62 ∧ Pv 0 σ H1 ∧
      (∀ (i : Nat) σ' H', i < n.toNat → Pv i σ' H' → G X tg (.int i) σ' H' fun σ2 H2 => Ss X body { D with nx := Pv (i + 1), ct := Pv (i + 1), bk := D.nx } σ2 H2) ∧ ∀ σ' H', Pv n.toNat σ' H' → D.nx σ' H')
    (hg : Gl X "range" := by rfl) (hes : starEach [e] X.env = [(false, eval e X.env)] := by rfl) (hs : ∀ x, foldedSetIterable (.Call (.Name "range" pr) [e] [] p) X.env x = pure x := by intro _; rfl) : S X (.For tg (.Call (.Name "range" pr) [e] [] p) body [] pos) D σ H := by
  refine S.of (ps_for hp hc (pi_range1 hg hmr (pa_cons E.pe pa_nil hes) hes) G.pg Ss.ps hs) (E.mono q fun v H1 h => ?_)
  obtain ⟨n, Pv, rfl, h1, h2, h0, hst, hd⟩ := h
  refine ⟨n, rfl, h1, h2, for_range (lo := 0) (n := n.toNat) Pv h0 (fun i σ' H' hi pv => ?_) hd⟩
  have z : (0 : Int) + (i : Int) = i := Int.zero_add _
  rw [z]
  exact hst i σ' H' hi pv
/-- for a, b in enumerate(e), e a list: the pair is new -/
theorem S_forE {tgs : List Expr} {kk : Nat} {tp : Pos} {body : List Stmt} {pr : Pos} (hp : PassesOwn (model X.prog X.w) X.A X.env X.xe) (hc : X.calm = true) (hmr : X.mg "enumerate" = none)
    (q : E X e σ H fun v H1 => ∃ (l : Addr) (xs : List V) (Pv : Nat → L2.St → Hp → Prop), v = .ref l ∧ SqL X.K H1 l xs ∧ Pv 0 σ H1 ∧ (∀ i σ' H', i ≤ xs.length → Pv i σ' H' → SqL X.K H' l xs) ∧
      (∀ (i : Nat) x σ' H' H'', xs[i]? = some x → Pv i σ' H' → Ex H' H'' → Gs X tgs [.int i, x] σ' H'' fun σ2 H2 => Ss X body { D with nx := Pv (i + 1), ct := Pv (i + 1), bk := D.nx } σ2 H2) ∧ ∀ σ' H', Pv xs.length σ' H' → D.nx σ' H')
    (hg : Gl X "enumerate" := by rfl) (hes : starEach [e] X.env = [(false, eval e X.env)] := by rfl) (hs : ∀ x, foldedSetIterable (.Call (.Name "enumerate" pr) [e] [] p) X.env x = pure x := by intro _; rfl)
    (hn : (assignEach tgs X.env).length = 2 := by rfl) (hst : (assignEach tgs X.env).findIdx? (·.1) = none := by rfl) : S X (.For (.Tuple tgs kk tp) (.Call (.Name "enumerate" pr) [e] [] p) body [] pos) D σ H := by
  refine S.of (ps_for hp hc (pi_enum hg hmr (pa_cons E.pe pa_nil hes) hes) G.pg Ss.ps hs) (E.mono q fun v H1 h => ?_)
  obtain ⟨l, xs, Pv, rfl, hx, h0, hl, hst2, hd⟩ := h
  refine ⟨l, xs, rfl, hx, for_it walk_enum Pv h0 hl (fun i x σ' H' H'' hi pv y => ?_) hd⟩
  obtain ⟨t, u, v, rfl, h1, rfl, h2, h3⟩ := y
  cases h2
  exact G_tup hc (SqT.of upd_same) rfl (hst2 i v σ' H' _ h3 pv (Evl.Ex.new h1)) hn hst
/-- for a, b in zip(e, e2), lists of one length: the pair is new -/
theorem S_forZ {tgs : List Expr} {kk : Nat} {tp : Pos} {body : List Stmt} {pr : Pos} (hp : PassesOwn (model X.prog X.w) X.A X.env X.xe) (hc : X.calm = true) (hmr : X.mg "zip" = none)
    (q : E X a σ H fun v H0 => E X b σ H0 fun v' H1 => ∃ (l l' : Addr) (xs ys : List V) (Pv : Nat → L2.St → Hp → Prop), v = .ref l ∧ v' = .ref l' ∧ SqL X.K H1 l xs ∧ SqL X.K H1 l' ys ∧ xs.length = ys.length ∧ Pv 0 σ H1 ∧
      (∀ i σ' H', i ≤ xs.length → Pv i σ' H' → SqL X.K H' l xs ∧ SqL X.K H' l' ys) ∧
      (∀ (i : Nat) x y σ' H' H'', xs[i]? = some x → ys[i]? = some y → Pv i σ' H' → Ex H' H'' → Gs X tgs [x, y] σ' H'' fun σ2 H2 => Ss X body { D with nx := Pv (i + 1), ct := Pv (i + 1), bk := D.nx } σ2 H2) ∧ ∀ σ' H', Pv xs.length σ' H' → D.nx σ' H')
    (hg : Gl X "zip" := by rfl) (hes : starEach [a, b] X.env = [(false, eval a X.env), (false, eval b X.env)] := by rfl) (hes2 : starEach [b] X.env = [(false, eval b X.env)] := by rfl) (hs : ∀ x, foldedSetIterable (.Call (.Name "zip" pr) [a, b] [] p) X.env x = pure x := by intro _; rfl)
    (hn : (assignEach tgs X.env).length = 2 := by rfl) (hst : (assignEach tgs X.env).findIdx? (·.1) = none := by rfl) : S X (.For (.Tuple tgs kk tp) (.Call (.Name "zip" pr) [a, b] [] p) body [] pos) D σ H := by
  refine S.of (ps_for hp hc (pi_zip hg hmr (pa_cons E.pe (pa_cons E.pe pa_nil hes2) (by rw [hes, hes2])) (by rw [hes, hes2]) (by rw [hes2]; rfl)) G.pg Ss.ps hs) (E.mono q fun v H0 h => E.mono h fun v' H1 h => ?_)
  obtain ⟨l, l', xs, ys, Pv, rfl, rfl, hx, hy, hlen, h0, hl, hst2, hd⟩ := h
  refine ⟨l, l', xs, ys, rfl, hx, hy, for_it (walk_zip (n := xs.length) (xs := xs) (ys := ys) (by rw [hlen]; simp)) Pv h0 hl (fun i x σ' H' H'' hi pv y => ?_) hd⟩
  obtain ⟨t, u, v, rfl, h1, rfl, h2, h3⟩ := y
  exact G_tup hc (SqT.of upd_same) rfl (hst2 i u v σ' H' _ h2 h3 pv (Evl.Ex.new h1)) hn hst
theorem S_while {body : List Stmt} (hp : PassesOwn (model X.prog X.w) X.A X.env X.xe) (Pv : L2.St → Hp → Prop) (mu : L2.St → Hp → Nat) (h0 : Pv σ H)
    (hs : ∀ σ H, Pv σ H → T X c σ H fun b H1 => if b = true then Ss X body { D with nx := fun σ' H' => Pv σ' H' ∧ mu σ' H' < mu σ H, ct := fun σ' H' => Pv σ' H' ∧ mu σ' H' < mu σ H, bk := D.nx } σ H1 else D.nx σ H1) : S X (.While c body [] pos) D σ H :=
  S.of (ps_while hp T.pt Ss.ps) (while_by Pv mu h0 hs fun _ _ _ _ k h => T.mono h k)

/-! ### comprehensions -/
/-- one turn after another: Acc tells of the turn, the list so far, the heap; Rx: how the heap may move (all stands, or all but one list) -/
theorem lc_gen {J : It} {n : Nat} {Gd : Hp → Prop} {Y : Nat → Hp → V → Hp → Prop} (wk : Walk J n Gd Y) {g : TG} {tt : TT} {te : TE} {vs : List Nat} {H1 : Hp} {Dl : Addr} {Qd : Hp → Prop} (Rx : Hp → Hp → Prop)
    (r0 : Rx H1 (upd H1 Dl (.lst []))) (rt : ∀ H' H'', Rx H1 H' → Rx H' H'' → Rx H1 H'') (ru : ∀ H' ob, Rx H1 H' → Rx H1 (upd H' Dl ob)) (rd : ∀ H' H'' ob, Rx H1 H' → Rx H' H'' → H' Dl = some ob → H'' Dl = some ob)
    (Acc : Nat → List V → Hp → Prop) (hn : n < sizeLine) (hG : ∀ H', Rx H1 H' → Gd H') (h0 : Acc 0 [] (upd H1 Dl (.lst []))) (hu : ∀ i acc H' xs ob, Rx H1 H' → H' Dl = some (.lst xs) → Acc i acc H' → Acc i acc (upd H' Dl ob))
    (gm : ∀ {v σ H R R'}, g v σ H R → (∀ σ' H', R σ' H' → R' σ' H') → g v σ H R') (ttm : ∀ {σ H R R'}, tt σ H R → (∀ b H', R b H' → R' b H') → tt σ H R') (tem : ∀ {σ H R R'}, te σ H R → (∀ v H', R v H' → R' v H') → te σ H R')
    (hs : ∀ i x acc H' H'', i < n → Rx H1 H' → acc.length ≤ i → Acc i acc H' → Y i H' x H'' → g x (wipe σ vs) H'' fun σ2 H2 => wipe σ2 vs = wipe σ vs ∧ tt σ2 H2 fun bb H3 => if bb = true then te σ2 H3 fun y H4 => Rx H' H4 ∧ Acc (i + 1) (acc ++ [y]) H4 else Rx H' H3 ∧ Acc (i + 1) acc H3)
    (hd : ∀ H' ys, Rx H1 H' → H' Dl = some (.lst ys) → ys.length ≤ n → Acc n ys H' → Qd H') :
    ∃ W : Nat → Nat → Hp → Prop, (∃ mm, W 0 mm (upd H1 Dl (.lst []))) ∧ ∀ i mm H, W i mm H →
      (J.stop i H ∧ Qd H) ∨ (J.go i H ∧ ∃ Nx : Hp → Prop, (∀ H', Nx H' → ∃ m', m' < mm ∧ W (i + 1) m' H') ∧ ∀ x H', J.yld i H x H' → g x (wipe σ vs) H' fun σ2 H2 => wipe σ2 vs = wipe σ vs ∧ tt σ2 H2 fun bb H3 =>
        if bb = true then te σ2 H3 fun y H4 => ∃ acc, H4 Dl = some (.lst acc) ∧ acc.length < sizeLine ∧ Nx (upd H4 Dl (.lst (acc ++ [y]))) else Nx H3) := by
  refine lc_it wk (fun i H' => Rx H1 H' ∧ ∃ acc, H' Dl = some (.lst acc) ∧ acc.length ≤ i ∧ Acc i acc H') ⟨r0, [], upd_same, Nat.le_refl _, h0⟩ (fun i H' _ pv => hG H' pv.1) ?_ ?_
  · rintro i x H' H'' hi ⟨r1, acc, ha, hl, hA⟩ hy
    refine gm (hs i x acc H' H'' hi r1 hl hA hy) fun σ2 H2 q => ⟨q.1, ttm q.2 fun bb H3 q => ?_⟩
    cases bb with
    | true =>
      refine iteT (tem (show te σ2 H3 fun y H4 => Rx H' H4 ∧ Acc (i + 1) (acc ++ [y]) H4 from q) fun y H4 q => ?_)
      have hD4 := rd _ _ _ r1 q.1 ha
      have r4 := rt _ _ r1 q.1
      refine ⟨acc, hD4, by omega, ru _ _ r4, acc ++ [y], upd_same, by rw [List.length_append]; simp; omega, hu _ _ _ _ _ r4 hD4 q.2⟩
    | false =>
      have q : Rx H' H3 ∧ Acc (i + 1) acc H3 := q
      exact iteF ⟨rt _ _ r1 q.1, acc, rd _ _ _ r1 q.1 ha, by omega, q.2⟩
  · rintro H' ⟨r1, acc, ha, hl, hA⟩
    exact hd H' acc r1 ha hl hA
/-- what a target, a test and an element do in every block that may run them -/
def GB (X : Cx) (scope : Scope) (tg : Expr) : TG := fun v σ H R => ∀ (s : Shared) (H0 : Hp) (C : Addr) (cl : List (Str × Addr)) (fp : List Addr), G (X.blk s H0 scope (compEnvC scope cl C X.env) fp) tg v σ H R
def EB (X : Cx) (scope : Scope) (e : Expr) : TE := fun σ H R => ∀ (s : Shared) (H0 : Hp) (C : Addr) (cl : List (Str × Addr)) (fp : List Addr), E (X.blk s H0 scope (compEnvC scope cl C X.env) fp) e σ H R
def TB1 (X : Cx) (scope : Scope) (e : Expr) : TT := fun σ H R => ∀ (s : Shared) (H0 : Hp) (C : Addr) (cl : List (Str × Addr)) (fp : List Addr), T (X.blk s H0 scope (compEnvC scope cl C X.env) fp) e σ H R
def TsB (X : Cx) (scope : Scope) : List Expr → TT
  | [] => tYes
  | [e] => TB1 X scope e
  | _ => fun _ _ _ => False
theorem TsB.pt {scope : Scope} : ∀ (ifs : List Expr) (s : Shared) (H0 : Hp) (C : Addr) (cl : List (Str × Addr)) (fp : List Addr), PTs (X.blk s H0 scope (compEnvC scope cl C X.env) fp) ifs (TsB X scope ifs)
  | [], s, H0, C, cl, fp => pts_nil
  | [e], s, H0, C, cl, fp => pts_one ⟨fun pins s1 σ H R I h => (h s H0 C cl fp).run pins s1 I⟩
  | _ :: _ :: _, s, H0, C, cl, fp => ⟨fun pins s1 σ H R I h => h.elim⟩
theorem GB.mono {scope : Scope} {tg : Expr} {v : V} {R R' : L2.St → Hp → Prop} (h : GB X scope tg v σ H R) (kk : ∀ σ' H', R σ' H' → R' σ' H') : GB X scope tg v σ H R' := fun s H0 C cl fp => G.mono (h s H0 C cl fp) kk
theorem EB.mono {scope : Scope} {R R' : VK} (h : EB X scope e σ H R) (kk : ∀ v H', R v H' → R' v H') : EB X scope e σ H R' := fun s H0 C cl fp => E.mono (h s H0 C cl fp) kk
theorem TsB.mono {scope : Scope} : ∀ {ifs : List Expr} {σ : L2.St} {H : Hp} {R R' : Bool → Hp → Prop}, TsB X scope ifs σ H R → (∀ b H', R b H' → R' b H') → TsB X scope ifs σ H R'
  | [], _, _, _, _, h, kk => kk _ _ h
  | [_], _, _, _, _, h, kk => fun s H0 C cl fp => T.mono (h s H0 C cl fp) kk
  | _ :: _ :: _, _, _, _, _, h, _ => h.elim
/-- a comprehension over whatever wi walks; its places own -/
theorem E_lc {elt tg iter : Expr} {ifs : List Expr} {scope : Scope} {wi : TI} (own : List (Str × Nat)) (hc : X.calm = true) (hN : X.N.Nodup) (hi : PI X tg iter wi) (ok : blkC X.N X.env.scope scope own = true)
    (him : ∀ {R R' : It → Hp → Prop}, wi σ H R → (∀ J H1, R J H1 → R' J H1) → wi σ H R')
    (q : wi σ H fun J H1 => ∀ Dl, H1 Dl = none → ∃ W : Nat → Nat → Hp → Prop, (∃ mm, W 0 mm (upd H1 Dl (.lst []))) ∧ ∀ i mm H, W i mm H →
      (J.stop i H ∧ Q (.ref Dl) H) ∨ (J.go i H ∧ ∃ Nx : Hp → Prop, (∀ H', Nx H' → ∃ m', m' < mm ∧ W (i + 1) m' H') ∧ ∀ x H', J.yld i H x H' → GB X scope tg x (wipe σ (own.map (·.2))) H' fun σ2 H2 => wipe σ2 (own.map (·.2)) = wipe σ (own.map (·.2)) ∧ TsB X scope ifs σ2 H2 fun bb H3 =>
        if bb = true then EB X scope elt σ2 H3 fun y H4 => ∃ acc, H4 Dl = some (.lst acc) ∧ acc.length < sizeLine ∧ Nx (upd H4 Dl (.lst (acc ++ [y]))) else Nx H3))
    (hs : ∀ x, foldedSetIterable iter X.env x = pure x := by intro _; rfl) : E X (.ListComp elt [⟨tg, iter, ifs, 0⟩] scope pos) σ H Q :=
  E.of (pe_lc hc hN hi (blkOk_by ok) (g := GB X scope tg) (tt := TsB X scope ifs) (te := EB X scope elt) (fun s H0 C cl fp => ⟨fun pins s1 σ H v u R I r h => (h s H0 C cl fp).run pins s1 u I r⟩) (TsB.pt ifs) (fun s H0 C cl fp => ⟨fun pins s1 σ H R I h => (h s H0 C cl fp).run pins s1 I⟩) hs) q
/-- the three ways a heap moves in a comprehension: all that stood stands -/
theorem lc_ex {J : It} {n : Nat} {Gd : Hp → Prop} {Y : Nat → Hp → V → Hp → Prop} (wk : Walk J n Gd Y) {scope : Scope} {tg elt : Expr} {ifs : List Expr} {vs : List Nat} {H1 : Hp}
    (Acc : Nat → List V → Hp → Prop) (hn : n < sizeLine) (hG : ∀ H', Ex H1 H' → Gd H') (h0 : ∀ H', Ex H1 H' → Acc 0 [] H') (hu : ∀ i acc H' H'', Fz H' H'' → Acc i acc H' → Acc i acc H'')
    (hs : ∀ i x acc H' H'', i < n → Ex H1 H' → acc.length ≤ i → Acc i acc H' → Y i H' x H'' → GB X scope tg x (wipe σ vs) H'' fun σ2 H2 => wipe σ2 vs = wipe σ vs ∧ TsB X scope ifs σ2 H2 fun bb H3 => if bb = true then EB X scope elt σ2 H3 fun y H4 => Ex H' H4 ∧ Acc (i + 1) (acc ++ [y]) H4 else Ex H' H3 ∧ Acc (i + 1) acc H3)
    (hd : ∀ Dl H' ys, H1 Dl = none → Ex H1 H' → H' Dl = some (.lst ys) → ys.length ≤ n → Acc n ys H' → Q (.ref Dl) H') :
    ∀ Dl, H1 Dl = none → ∃ W : Nat → Nat → Hp → Prop, (∃ mm, W 0 mm (upd H1 Dl (.lst []))) ∧ ∀ i mm H, W i mm H →
      (J.stop i H ∧ Q (.ref Dl) H) ∨ (J.go i H ∧ ∃ Nx : Hp → Prop, (∀ H', Nx H' → ∃ m', m' < mm ∧ W (i + 1) m' H') ∧ ∀ x H', J.yld i H x H' → GB X scope tg x (wipe σ vs) H' fun σ2 H2 => wipe σ2 vs = wipe σ vs ∧ TsB X scope ifs σ2 H2 fun bb H3 =>
        if bb = true then EB X scope elt σ2 H3 fun y H4 => ∃ acc, H4 Dl = some (.lst acc) ∧ acc.length < sizeLine ∧ Nx (upd H4 Dl (.lst (acc ++ [y]))) else Nx H3) := fun Dl hD =>
  lc_gen wk (Dl := Dl) Ex (Evl.Ex.new hD) (fun _ _ a b => a.trans b) (fun _ _ a => Evl.Ex.mut a hD) (fun _ _ _ _ b h => b _ _ h) Acc hn hG (h0 _ (Evl.Ex.new hD)) (fun i acc H' xs ob _ hD' hA => hu i acc _ _ (Fz.upd hD') hA)
    GB.mono TsB.mono EB.mono hs (fun H' ys r h l hA => hd Dl H' ys hD r h l hA)
/-- .. all but the list at l, which is told by Acc -/
theorem lc_exb {J : It} {n : Nat} {Gd : Hp → Prop} {Y : Nat → Hp → V → Hp → Prop} (wk : Walk J n Gd Y) {scope : Scope} {tg elt : Expr} {ifs : List Expr} {vs : List Nat} {H1 : Hp} (l : Addr) (hl : H1 l ≠ none)
    (Acc : Nat → List V → Hp → Prop) (hn : n < sizeLine) (hG : ∀ H', ExB l H1 H' → Gd H') (h0 : ∀ Dl, H1 Dl = none → Acc 0 [] (upd H1 Dl (.lst []))) (hu : ∀ i acc H' Dl xs ob, Dl ≠ l → H' Dl = some (.lst xs) → Acc i acc H' → Acc i acc (upd H' Dl ob))
    (hs : ∀ i x acc H' H'', i < n → ExB l H1 H' → acc.length ≤ i → Acc i acc H' → Y i H' x H'' → GB X scope tg x (wipe σ vs) H'' fun σ2 H2 => wipe σ2 vs = wipe σ vs ∧ TsB X scope ifs σ2 H2 fun bb H3 => if bb = true then EB X scope elt σ2 H3 fun y H4 => ExB l H' H4 ∧ Acc (i + 1) (acc ++ [y]) H4 else ExB l H' H3 ∧ Acc (i + 1) acc H3)
    (hd : ∀ Dl H' ys, H1 Dl = none → ExB l H1 H' → H' Dl = some (.lst ys) → ys.length ≤ n → Acc n ys H' → Q (.ref Dl) H') :
    ∀ Dl, H1 Dl = none → ∃ W : Nat → Nat → Hp → Prop, (∃ mm, W 0 mm (upd H1 Dl (.lst []))) ∧ ∀ i mm H, W i mm H →
      (J.stop i H ∧ Q (.ref Dl) H) ∨ (J.go i H ∧ ∃ Nx : Hp → Prop, (∀ H', Nx H' → ∃ m', m' < mm ∧ W (i + 1) m' H') ∧ ∀ x H', J.yld i H x H' → GB X scope tg x (wipe σ vs) H' fun σ2 H2 => wipe σ2 vs = wipe σ vs ∧ TsB X scope ifs σ2 H2 fun bb H3 =>
        if bb = true then EB X scope elt σ2 H3 fun y H4 => ∃ acc, H4 Dl = some (.lst acc) ∧ acc.length < sizeLine ∧ Nx (upd H4 Dl (.lst (acc ++ [y]))) else Nx H3) := fun Dl hD => by
  have ne : Dl ≠ l := fun z => hl (by rw [← z]; exact hD)
  have up : ∀ H' ob, ExB l H1 H' → ExB l H1 (upd H' Dl ob) := fun H' ob a b o n h => by
    rw [upd_ne (ne_of_none h hD)]
    exact a b o n h
  exact lc_gen wk (Dl := Dl) (ExB l) (up _ _ (ExB.refl _ _)) (fun _ _ a b => a.trans b) up (fun _ _ _ _ b h => b _ _ ne h) Acc hn hG (h0 Dl hD) (fun i acc H' xs ob _ hD' hA => hu i acc _ Dl xs ob ne hD' hA)
    GB.mono TsB.mono EB.mono hs (fun H' ys r h ll hA => hd Dl H' ys hD r h ll hA)

/-! ### a method read off its class: C.m(o, ..) -/
structure Base (K : PySem.W.Frag) (C : Addr) (m : Str) (f : Addr) : Prop where
  rd : PySem.W.readsIn K C (.type "type") = true
  ga : PySem.W.specialIn K (.ref C) "__getattribute__" = some (some (.builtin "type.__getattribute__"))
  at_ : PySem.W.findCls K (.ref C) (.type "type") m = some (.val (.ref f))
  kp : PySem.W.keepIn K (.ref f) = true
theorem E_base {pl : Sem Bool} {f : Addr} {fd : FuncData} {ps : List Str} (B : Base X.K C m f) (F : FnOk X.prog X.w X.K X.mg X.base CX0 k f fd ps sp) (hb : Binds X.K fd ps []) (hr : Room k X.A) (q : E X o σ H fun v H1 => v = .ref C ∧ As X (e :: es) σ H1 fun vs H2 => sp vs H2 Q ENo)
    (hst : starEach (e :: es) X.env = (false, eval e X.env) :: starEach es X.env := by rfl) (hpl : (backTo pos (starEach es X.env)).any (·.1) = false := by rfl)
    (ht : eval (.Call (.Attribute o m apos) (e :: es) [] pos) X.env = (do
        let w1 ← eval o X.env
        standAt apos.atName
        let (g1, g2) ← holding [w1] (getMethod w1 m pl)
        callWith pos g1 g2 (backTo pos (starEach (e :: es) X.env)) (backToKw pos (keywordEach [] X.env))) := by rfl) :
    E X (.Call (.Attribute o m apos) (e :: es) [] pos) σ H Q := ⟨fun pins s I => by
  refine PySem.W.methodCall_KW (pl := pl) (thn (q.run pins s I) fun u s1 hh => ?_) ht
  obtain ⟨v, H1, I1, rv, ev, q1⟩ := hh
  subst ev
  obtain rfl : u = Value.ref C := rv
  refine PySem.W.method_cls I1.kIn B.ga (PySem.W.cls_value I1.kIn B.rd B.at_ rfl ?_)
  have I2 := I1.tok (s1.toks + 1)
  refine PySem.W.callWith_K (h₀ := X.base) (first := []) I.ok.mod.kin B.kp (thn (q1.run pos pins _ I2) fun us s2 hh => ?_) hst hpl
  obtain ⟨vs, H2, I3, rvs, q2⟩ := hh
  refine ⟨I3.kIn, run_fn F hr hb .nil pass0 I3 rvs ?_⟩
  rw [List.append_nil]
  exact q2⟩
end
end BW

set_option Elab.async false
set_option linter.all false
set_option maxRecDepth 100000
set_option maxHeartbeats 4000000
namespace BW
open PySem PySem.Spec PyProof.Rows L2
/-! ### max of a list of ints, with a default -/
section
variable {prog : Program} {w : World} {A : Around} {I S : Addr} {fp wr : List Addr} {n : Nat} {Pi : Nat → Value → Prop} {St : Nat → Heap → Prop} {kw : List (Str × Value)}
abbrev maxName : (toString "max" ++ toString ".loop" : String) = "max.loop" := by decide
abbrev maxC (I S : Addr) (kw : List (Str × Value)) : Code := .builtin "max.loop" ⟨[.ref I, .none, .ref S], kw⟩
abbrev bestO (its : Array Value) (c : Nat) : Obj := { cls := .type "list", dict := none, data := .seq its c, slots := #[] }
theorem maxd_loop {R : Result → Shared → Prop} (W : Walks prog w A.in1 I fp wr n Pi St) {bt : Nat → Nat → Bool} (hb : CmpOf prog w A.in1 .Gt Pi bt) (nf : S ∉ fp) :
    ∀ (k j : Nat) (s : Shared) (v : Value) (c : Nat), n = j + 1 + k → St (j + 1) s.heap → Pi (argBest bt j) v → s.heap.get? S = some (bestO #[v, v] c) →
    (∀ u h2 tk, Pi (argBest bt (n - 1)) u → (∀ b o, b ∉ wr → b ≠ S → s.heap.get? b = some o → h2.get? b = some o) → R (.ok (.ret u)) { s with heap := h2, toks := tk }) →
    codeAny (model prog w) A (maxC I S kw) R s := by
  have nw : S ∉ wr := fun z => nf (W.sub _ z)
  intro k
  induction k with
  | zero =>
    intro j s v c hk st hp hS hR
    refine codeAny_builtin PySem.F.entry_max_loop ?_
    rw [Around.under_plainId PySem.F.plain_max_loop _]
    refine wpAny_bind (m := seqItems? (.ref S)) (wpAny_seqItems hS rfl (wpAny_bind (wpAny_tryCatch (W.done s _ _ (hk ▸ st) fun h2 tk kk => ?_))))
    have hS2 := kk S _ nw hS
    refine wpAny_bind (m := updateSeq S (fun _ => #[])) (wpAny_updateSeq hS2 rfl (wpAny_bind (wpAny_letGo (wpAny_pure ?_))))
    exact hR v _ tk (by rw [show n - 1 = j from by omega]; exact hp) fun b o n1 n2 e => (Heap.get?_update_other _ _ (Ne.symm n2)).trans (kk b o n1 e)
  | succ k ih =>
    intro j s v c hk st hp hS hR
    refine codeAny_builtin PySem.F.entry_max_loop ?_
    rw [Around.under_plainId PySem.F.plain_max_loop _]
    refine wpAny_bind (m := seqItems? (.ref S)) (wpAny_seqItems hS rfl (wpAny_bind (wpAny_tryCatch (W.item (j + 1) s _ _ (by omega) st fun u h2 tk hu st2 kk => ?_))))
    have hS2 := kk S _ nw hS
    refine wpAny_bind (m := tryCatch (holding [u, u] (richCompare .Gt u v >>= _)) _) (wpAny_tryCatch (wpAny_holding (wpAny_bind (hb (j + 1) (argBest bt j) u v _ _ _ hu hp (wpAny_bind (wpAny_holding (wpAny_truthy_bool (wpAny_bind (wpAny_letGo (wpAny_pure ?_))))))))))
    cases q : bt (j + 1) (argBest bt j) with
    | true =>
      simp only [if_true]
      refine wpAny_bind (m := updateSeq S (fun _ => #[u, u])) (wpAny_updateSeq hS2 rfl (wpAny_bind (wpAny_letGo ?_)))
      rw [maxName]
      refine wpAny_pure ⟨plainId_quiet PySem.F.plain_max_loop _, ih (j + 1) _ u _ (by omega) (W.frame _ _ _ st2 fun b hbf o e => ?_) (by simp only [argBest, q, if_true]; exact hu) (Heap.get?_update_self _ hS2 rfl) fun x h3 t3 hx k3 => ?_⟩
      · exact (Heap.get?_update_other _ _ (fun z : S = b => nf (by rw [z]; exact hbf))).trans e
      · exact hR x h3 t3 hx fun b o n1 n2 e => k3 b o n1 n2 ((Heap.get?_update_other _ _ (Ne.symm n2)).trans (kk b o n1 e))
    | false =>
      simp only [Bool.false_eq_true, if_false]
      refine wpAny_bind (wpAny_letGo ?_)
      rw [maxName]
      exact wpAny_pure ⟨plainId_quiet PySem.F.plain_max_loop _, ih (j + 1) _ v c (by omega) st2 (by simp only [argBest, q, Bool.false_eq_true, if_false]; exact hp) hS2 fun x h3 t3 hx k3 => hR x h3 t3 hx fun b o n1 n2 e => k3 b o n1 n2 (kk b o n1 e)⟩
theorem maxd_first {R : Result → Shared → Prop} (W : Walks prog w A.in1 I fp wr n Pi St) {bt : Nat → Nat → Bool} (hb : CmpOf prog w A.in1 .Gt Pi bt) (nf : S ∉ fp) {s : Shared} {c : Nat} {nm : Str} {d : Value} (st : St 0 s.heap) (hS : s.heap.get? S = some (bestO #[] c))
    (h0 : n = 0 → ∀ h2 tk, (∀ b o, b ∉ wr → b ≠ S → s.heap.get? b = some o → h2.get? b = some o) → R (.ok (.ret d)) { s with heap := h2, toks := tk })
    (hR : 0 < n → ∀ u h2 tk, Pi (argBest bt (n - 1)) u → (∀ b o, b ∉ wr → b ≠ S → s.heap.get? b = some o → h2.get? b = some o) → R (.ok (.ret u)) { s with heap := h2, toks := tk }) :
    codeAny (model prog w) A (maxC I S [(nm, d)]) R s := by
  have nw : S ∉ wr := fun z => nf (W.sub _ z)
  refine codeAny_builtin PySem.F.entry_max_loop ?_
  rw [Around.under_plainId PySem.F.plain_max_loop _]
  refine wpAny_bind (m := seqItems? (.ref S)) (wpAny_seqItems hS rfl ?_)
  by_cases hn : n = 0
  · subst hn
    refine wpAny_bind (wpAny_tryCatch (W.done s _ _ st fun h2 tk kk => ?_))
    exact wpAny_bind (wpAny_rule (wpAny_pure (h0 rfl h2 tk fun b o n1 n2 e => kk b o n1 e)))
  · refine wpAny_bind (wpAny_tryCatch (W.item 0 s _ _ (by omega) st fun u h2 tk hu st2 kk => ?_))
    have hS2 := kk S _ nw hS
    refine wpAny_bind (m := updateSeq S (fun _ => #[u, u])) (wpAny_updateSeq hS2 rfl ?_)
    rw [maxName]
    refine wpAny_pure ⟨plainId_quiet PySem.F.plain_max_loop _, maxd_loop W hb nf (n - 1) 0 _ u _ (by omega) (W.frame _ _ _ st2 fun b hbf o e => ?_) hu (Heap.get?_update_self _ hS2 rfl) fun x h3 t3 hx k3 => ?_⟩
    · exact (Heap.get?_update_other _ _ (fun z : S = b => nf (by rw [z]; exact hbf))).trans e
    · exact hR (by omega) x h3 t3 hx fun b o n1 n2 e => k3 b o n1 n2 ((Heap.get?_update_other _ _ (Ne.symm n2)).trans (kk b o n1 e))
theorem args_maxd (a d : Value) : argsOk "max" ⟨[a], [(Str.ofString "default", d)]⟩ := by unfold argsOk; kernel_rfl
theorem maxd_ints {E : Value → Shared → Prop} {Q : Value → Shared → Prop} {s : Shared} {l : Addr} {its : List Value} {ns : List Int} {d : Value} (hh : A.handled = none) (hl : s.heap.IsList l its.toArray) (hi : IntsAre its ns)
    (h0 : ns = [] → ∀ h2 tk, (∀ b o, s.heap.get? b = some o → h2.get? b = some o) → Q d { s with heap := h2, toks := tk })
    (h : ns ≠ [] → ∀ h2 tk m t, (∀ b o, s.heap.get? b = some o → h2.get? b = some o) → m ∈ ns → (∀ a, a ∈ ns → a ≤ m) → Q (.int m t) { s with heap := h2, toks := tk }) :
    wpAny (model prog w) A (call (.builtin "max") [.ref l] [(Str.ofString "default", d)]) Q E s := by
  obtain ⟨xs, e⟩ := hi.allInts.items
  have hn : numsOf (intItems xs).toList = ns := by rw [← e]; exact hi.numsOf
  rw [nums_intItems] at hn
  subst hn
  rw [e] at hl
  refine PyProof.Rows.kmk_tree PySem.F.kind_max PySem.F.plain_max PySem.F.entry_max (args_maxd _ _) ?_
  show wpAny _ A.in1 (Builtin.Builtins.bindParams "max" ["key", "default"] 0 ⟨[], [(Str.ofString "default", d)]⟩ >>= _) _ _ s
  refine wpAny_bind (wpAny_of_eq (show Builtin.Builtins.bindParams "max" ["key", "default"] 0 ⟨[], [(Str.ofString "default", d)]⟩ = pure [none, some d] from rfl) (wpAny_bind (wpAny_pure (wpAny_bind ?_))))
  refine PySem.iter_intList hl fun s2 es st hfp ne => wpAny_bind (wpAny_newObj_type ?_)
  subst es
  rw [maxName]
  have W := Walks.list (prog := prog) (w := w) (A := A.in1) hh _ l ne (intItems xs)
  refine wpAny_pure ⟨plainId_quiet PySem.F.plain_max_loop _, maxd_first W (CmpOf.ints_gt (numAt xs) (fun _ _ => intItems_at)) (fun hm => Nat.lt_irrefl _ (hfp _ hm)) (W.frame _ _ _ st fun b _ o e => Heap.get?_push_of_some _ e) (Heap.get?_push_size _ rfl) (fun z h2 tk kk => ?_) fun z u h2 tk hu kk => ?_⟩
  · have z : xs = #[] := by
      have : xs.size = 0 := by simpa [intItems] using z
      exact Array.eq_empty_of_size_eq_zero this
    refine h0 (by rw [z]; rfl) _ _ fun b o e => ?_
    exact PySem.old_kept (l := l) (h' := h2) (fun b o n e => kk b o n (Nat.ne_of_lt (Heap.lt_size e)) (Heap.get?_push_of_some _ e)) b o e
  · have z : 0 < xs.size := by simpa [intItems] using z
    obtain ⟨t, rfl⟩ := intItems_at hu
    obtain ⟨h1, h3⟩ := argBest_gt (numAt xs) ((intItems xs).size - 1)
    have ez : (intItems xs).size = xs.size := by simp [intItems]
    refine h ?_ _ _ _ t (fun b o e => PySem.old_kept (l := l) (h' := h2) (fun b o n e => kk b o n (Nat.ne_of_lt (Heap.lt_size e)) (Heap.get?_push_of_some _ e)) b o e) ?_ fun a ha => ?_
    · intro q
      have h5 := congrArg List.length q
      rw [List.length_map, Array.length_toList, List.length_nil] at h5
      omega
    · rw [numAt_eq]
      refine PySem.getD_mem ?_
      rw [List.length_map, Array.length_toList]
      have h4 : argBest (fun i j => decide (numAt xs i > numAt xs j)) ((intItems xs).size - 1) ≤ (intItems xs).size - 1 := h1
      rw [ez] at h4 ⊢
      omega
    · obtain ⟨j, hj, rfl⟩ := mem_getD ha
      rw [List.length_map, Array.length_toList] at hj
      rw [← numAt_eq]
      exact h3 j (by omega)
end
section
variable {X : Cx} {σ : L2.St} {H : Hp} {a b : Expr} {pos pf : PySem.Pos} {Q : VK}
def rMaxDf (K : PySem.W.Frag) : List V → List V → Hp → VK → Prop := fun xs zs H Q => ∃ (l : Addr) (ns : List Int) (d : V), xs = [.ref l] ∧ zs = [d] ∧ SqL K H l (ns.map V.int) ∧ (ns = [] → Q d H) ∧ ∀ m, m ∈ ns → (∀ y, y ∈ ns → y ≤ m) → Q (.int m) H
theorem cr_maxDf (hc : X.calm = true) : CallRK X (.builtin "max") [Str.ofString "default"] (rMaxDf X.K) := by
  intro pins s σ H xs zs us ws Q I r1 r2 h
  obtain ⟨l, ns, d, rfl, rfl, hs, q0, q1⟩ := h
  obtain ⟨its, rv, hl, _⟩ := I.list hs
  rw [Vals.ref1 r1]
  cases r2 with
  | cons rd rr =>
    cases rr
    exact maxd_ints (I.ok.hd hc) hl.isList rv.ints (fun e h2 tk kk => ⟨d, H, I.kept kk, rd, q0 e⟩) fun _ h2 tk m t kk h1 h2' => ⟨.int m, H, I.kept kk, ⟨t, rfl⟩, q1 m h1 h2'⟩
/-- max(a, default=b) -/
theorem E_maxDf {kp : PySem.Pos} (hc : X.calm = true) (hm : X.mg "max" = none) (q : E X a σ H fun x H1 => E X b σ H1 fun d H2 => ∃ (l : Addr) (ns : List Int), x = .ref l ∧ SqL X.K H2 l (ns.map V.int) ∧ (ns = [] → Q d H2) ∧ ∀ m, m ∈ ns → (∀ y, y ∈ ns → y ≤ m) → Q (.int m) H2)
    (hg : Gl X "max" := by rfl) (hs1 : starEach [a] X.env = (false, eval a X.env) :: starEach [] X.env := by rfl)
    (he : backTo pos (starEach [a] X.env) = (false, eval a X.env) :: backTo pos (starEach [] X.env) := by rfl) (hpl : (backTo pos (starEach [a] X.env)).any (·.1) = false := by rfl)
    (hall : (backToKw pos (keywordEach [⟨some "default", b, kp⟩] X.env)).all (·.1.isSome) = true := by rfl) (hnone : (backToKw pos (keywordEach [⟨some "default", b, kp⟩] X.env)).any (·.1.isNone) = false := by rfl)
    (hks : (backToKw pos (keywordEach [⟨some "default", b, kp⟩] X.env)).filterMap (·.1) = [Str.ofString "default"] := by rfl) :
    E X (.Call (.Name "max" pf) [a] [⟨some "default", b, kp⟩] pos) σ H Q :=
  E.of (pe_callBK (cr_maxDf hc) hg hm (by decide +kernel) As.pa (pk_cons E.pe pk_nil) (by decide) (by decide) he hpl hall hnone hks) (As_cons (E.mono q fun x H1 h => As_nil (E.mono h fun d H2 h => by
    obtain ⟨l, ns, rfl, h1, h2, h3⟩ := h
    exact ⟨l, ns, d, rfl, rfl, h1, h2, h3⟩)) hs1)
/-- .. told by its value -/
theorem E_maxV {kp : PySem.Pos} (hc : X.calm = true) (hm : X.mg "max" = none) (q : E X a σ H fun x H1 => E X b σ H1 fun d H2 => ∃ (l : Addr) (ns : List Int) (v : Int), x = .ref l ∧ SqL X.K H2 l (ns.map V.int) ∧ (ns = [] → d = .int v) ∧ (∀ m, m ∈ ns → (∀ y, y ∈ ns → y ≤ m) → m = v) ∧ Q (.int v) H2)
    (hg : Gl X "max" := by rfl) (hs1 : starEach [a] X.env = (false, eval a X.env) :: starEach [] X.env := by rfl)
    (he : backTo pos (starEach [a] X.env) = (false, eval a X.env) :: backTo pos (starEach [] X.env) := by rfl) (hpl : (backTo pos (starEach [a] X.env)).any (·.1) = false := by rfl)
    (hall : (backToKw pos (keywordEach [⟨some "default", b, kp⟩] X.env)).all (·.1.isSome) = true := by rfl) (hnone : (backToKw pos (keywordEach [⟨some "default", b, kp⟩] X.env)).any (·.1.isNone) = false := by rfl)
    (hks : (backToKw pos (keywordEach [⟨some "default", b, kp⟩] X.env)).filterMap (·.1) = [Str.ofString "default"] := by rfl) :
    E X (.Call (.Name "max" pf) [a] [⟨some "default", b, kp⟩] pos) σ H Q :=
  E_maxDf hc hm (E.mono q fun x H1 h => E.mono h fun d H2 h => by
    obtain ⟨l, ns, v, e, h1, h2, h3, h4⟩ := h
    exact ⟨l, ns, e, h1, fun z => by rw [h2 z]; exact h4, fun m h5 h6 => by rw [h3 m h5 h6]; exact h4⟩) hg hs1 he hpl hall hnone hks
end
end BW

set_option Elab.async false
set_option linter.all false
set_option maxRecDepth 100000
set_option maxHeartbeats 4000000
namespace BW
open PySem PySem.Spec PyProof.Rows L2
/-! ### tuples whose object is known to have no dict: t.count(..), t.index(..) -/
def SqN (H : Hp) (p : Addr) (xs : List V) : Prop := ∃ o, H p = some (.frz o (.tup xs)) ∧ o.cls = .type "tuple" ∧ o.dict = none
theorem SqN.t {K : PySem.W.Frag} {H : Hp} {p : Addr} {xs : List V} (h : SqN H p xs) : SqT K H p xs := by
  obtain ⟨o, h, _⟩ := h
  exact .inl (.inr ⟨o, h⟩)
theorem SqN.fz {H H' : Hp} {p : Addr} {xs : List V} (h : SqN H p xs) (e : Fz H H') : SqN H' p xs := by
  obtain ⟨o, h, r⟩ := h
  exact ⟨o, e _ _ h rfl, r⟩
def tyT (K : PySem.W.Frag) (x : V) (H : Hp) : Prop := ∃ p, x = .ref p ∧ ((∃ xs, SqN H p xs) ∨ ∃ o, K.lookup p = some o ∧ o.cls = .type "tuple" ∧ o.dict = none)
section
variable {X : Cx} {σ : L2.St} {H : Hp} {e a o : Expr} {es : List Expr} {t : TA} {pos p apos : PySem.Pos} {Q : VK}
theorem pe_tupN {x1} (h : PA X es t) : PE X (.Tuple es x1 pos) (fun σ H Q => t σ H fun xs H1 => xs.length ≤ sizeLine ∧ ∀ a o, H1 a = none → o.cls = .type "tuple" → o.dict = none → Q (.ref a) (upd H1 a (.frz o (.tup xs)))) := by
  refine ⟨fun pins s σ H Q I hq => ?_⟩
  refine wpAny_Tuple_spliced (thn (h.run pos pins s σ H _ I hq) fun us s1 ⟨xs, H1, I1, r, z, q⟩ => ⟨by rw [← r.length]; exact z, ?_⟩)
  have hf : H1 s1.heap.objs.size = none := I1.hok.fresh (Nat.le_refl _)
  refine ⟨.ref s1.heap.objs.size, upd H1 s1.heap.objs.size (.frz { cls := .type "tuple", data := .seq us.toArray } (.tup xs)), I1.laid (t' := s1.toks) (fun b u e => Heap.get?_push_of_some _ e) (Nat.le_refl _) ?_, rfl, q _ _ hf rfl rfl⟩
  exact ⟨Heap.get?_push_size _ rfl, z, us, r, ⟨_, Heap.get?_push_size _ rfl, rfl, _, rfl⟩⟩
theorem E_tupN {k : Nat} (q : As X es σ H fun xs H1 => xs.length ≤ sizeLine ∧ ∀ p H2, H1 p = none → Ex H1 H2 → SqN H2 p xs → Q (.ref p) H2) : E X (.Tuple es k pos) σ H Q :=
  E.of (pe_tupN As.pa) (As.mono q fun xs H1 h => ⟨h.1, fun a o ha h1 h2 => h.2 a _ ha (Evl.Ex.new ha) ⟨o, upd_same, h1, h2⟩⟩)
theorem call_tupleN : CallR X (.type "tuple") (fun xs H Q => ∃ p ys, xs = [.ref p] ∧ SqL X.K H p ys ∧ ∀ l o, H l = none → o.cls = .type "tuple" → o.dict = none → Q (.ref l) (upd H l (.frz o (.tup ys)))) := by
  intro pins s σ H xs us Q I r h
  obtain ⟨p, ys, rfl, hq, q⟩ := h
  obtain ⟨u, rfl, rx⟩ := vals1 r
  cases rx
  obtain ⟨its, r', pl, hz⟩ := I.list hq
  have hlen := r'.length
  refine call_tuple_list pl.isList (fun h' kp => ?_) (by simp only [List.size_toArray] <;> omega)
  have I1 : Inv X pins σ H { s with heap := h' } := I.kept (t' := s.toks) kp
  have I2 : Inv X pins σ (upd H h'.objs.size (.frz { cls := .type "tuple", data := .seq its.toArray } (.tup ys))) { s with heap := h'.push { cls := .type "tuple", data := .seq its.toArray } } :=
    I1.laid (t' := s.toks) (fun b o e => Heap.get?_push_of_some _ e) (Nat.le_refl _) ⟨Heap.get?_push_size _ rfl, hz, its, r', IsTup.new _ _⟩
  exact ⟨.ref h'.objs.size, _, I2, rfl, q _ _ (I1.hok.fresh (Nat.le_refl _)) rfl rfl⟩
theorem E_tuple {pf : PySem.Pos} (hm : X.mg "tuple" = none) (q : E X a σ H fun x H1 => ∃ p ys, x = .ref p ∧ SqL X.K H1 p ys ∧ ∀ l H2, H1 l = none → Ex H1 H2 → SqN H2 l ys → Q (.ref l) H2)
    (hg : Gl X "tuple" := by rfl) (hs1 : starEach [a] X.env = (false, eval a X.env) :: starEach [] X.env := by rfl) (hpl : (backTo pos (starEach [] X.env)).any (·.1) = false := by rfl) :
    E X (.Call (.Name "tuple" pf) [a] [] pos) σ H Q :=
  E_callT call_tupleN hm (by decide +kernel) (As_cons (E.mono q fun x H1 h => As_nil (by
    obtain ⟨p, ys, rfl, h1, h2⟩ := h
    exact ⟨p, ys, rfl, h1, fun l o hl h3 h4 => h2 l _ hl (Evl.Ex.new hl) ⟨o, upd_same, h3, h4⟩⟩)) hs1) hg (by decide) (by decide) hs1 hpl
theorem E_list {pf : PySem.Pos} (hm : X.mg "list" = none) (q : E X a σ H fun x H1 => ∃ p ys, x = .ref p ∧ (SqL X.K H1 p ys ∨ SqT X.K H1 p ys) ∧ ∀ l H2, H1 l = none → Ex H1 H2 → H2 l = some (.lst ys) → Q (.ref l) H2)
    (hg : Gl X "list" := by rfl) (hs1 : starEach [a] X.env = (false, eval a X.env) :: starEach [] X.env := by rfl) (hpl : (backTo pos (starEach [] X.env)).any (·.1) = false := by rfl) :
    E X (.Call (.Name "list" pf) [a] [] pos) σ H Q :=
  E_callT call_list_of hm (by decide +kernel) (As_cons (E.mono q fun x H1 h => As_nil (by
    obtain ⟨p, ys, rfl, h1, h2⟩ := h
    exact ⟨p, ys, rfl, h1, new_of h2⟩)) hs1) hg (by decide) (by decide) hs1 hpl
theorem ty_T : TyOk X "tuple" (tyT X.K) := by
  intro pins σ H s x v I r ty
  obtain ⟨p, rfl, ty⟩ := ty
  cases r
  have z : ∃ o, s.heap.get? p = some o ∧ o.cls = .type "tuple" ∧ o.dict = none := by
    rcases ty with ⟨xs, o, h, h1, h2⟩ | ⟨o, h, h1, h2⟩
    · obtain ⟨e, _⟩ := (show ObjOk X.prog X.w H s.heap p (.frz o (.tup xs)) from I.hok p _ h)
      exact ⟨o, e, h1, h2⟩
    · exact ⟨o, I.kIn p o h, h1, h2⟩
  obtain ⟨o, e, h1, h2⟩ := z
  refine ⟨⟨o, e, h1⟩, fun b e2 => ?_⟩
  cases e2
  exact ⟨o, e, h2⟩
theorem mt_tcount : MtR X "tuple.count" (fun x xs H Q => ∃ (p : Addr) (ns : List Int) (k : Int), x = .ref p ∧ xs = [.int k] ∧ SqT X.K H p (ns.map V.int) ∧ Q (.int (ns.count k : Nat)) H) := by
  intro pins s σ H x xs v us Q I rx rxs h
  obtain ⟨p, ns, k, rfl, rfl, hs, q⟩ := h
  cases rx
  obtain ⟨u, rfl, ru⟩ := rxs.one
  obtain ⟨t, rfl⟩ := ru
  obtain ⟨its, rv, ⟨⟨cls, dd, data, sl⟩, ho, hc, n, hd⟩, hlen⟩ := I.tuple hs
  simp only at hc hd
  subst hc hd
  have hi := ints_of_vals rv
  refine call_meets PySem.F.slot_tuple_count ⟨_, ho, rfl⟩ PySem.F.entry_tuple_count (PySem.F.args_tuple_count_2 _ _)
    (SeqAt.tuple_countAt p its.toArray n dd sl (.int k t) (eqk k)) ⟨ho, fun y hy => (eqk_gives hi y (by simpa using hy)).at _ _, ?_⟩
  have ec : its.toArray.toList.countP (eqk k) = ns.count k := eqk_count hi
  refine ⟨.int (ns.count k : Nat), H, I.tok _, ⟨s.toks, ?_⟩, q⟩
  rw [ec]
theorem mt_tindexI : MtR X "tuple.index" (fun x xs H Q => ∃ (p : Addr) (ns : List Int) (k : Int), x = .ref p ∧ xs = [.int k] ∧ SqT X.K H p (ns.map V.int) ∧ k ∈ ns ∧ Q (.int (ns.idxOf k : Nat)) H) := by
  intro pins s σ H x xs v us Q I rx rxs h
  obtain ⟨p, ns, k, rfl, rfl, hs, hk, q⟩ := h
  cases rx
  obtain ⟨u, rfl, ru⟩ := rxs.one
  obtain ⟨t, rfl⟩ := ru
  obtain ⟨its, rv, hl, hlen⟩ := I.tuple hs
  have hi := ints_of_vals rv
  exact PySem.SeqAt.tuple_index_ints hl hi hk ⟨.int (ns.idxOf k : Nat), H, I.tok _, ⟨_, rfl⟩, q⟩
section
variable (hbase : attributeBase o "count" X.env (eval o X.env) = eval o X.env)
theorem E_tcount (q : E X o σ H fun x H1 => tyT X.K x H1 ∧ E X e σ H1 fun y H2 => ∃ (p : Addr) (ns : List Int) (k : Int), x = .ref p ∧ y = .int k ∧ SqT X.K H2 p (ns.map V.int) ∧ Q (.int (ns.count k : Nat)) H2)
    (hbase : attributeBase o "count" X.env (eval o X.env) = eval o X.env := by rfl)
    (hfew : ((backTo pos (starEach [e] X.env)).all (fun x => !x.1) && (backToKw pos (keywordEach [] X.env)).all (fun x => x.1.isSome)
      && decide ([e].length + ([] : List Keyword).length + (if ([] : List Keyword).isEmpty then 0 else 1) < 30)) = true := by rfl)
    (hline : (apos.endLine == pos.line) = true := by rfl) (hs : starEach [e] X.env = (false, eval e X.env) :: starEach [] X.env := by rfl) (hplain : (backTo pos (starEach [] X.env)).any (·.1) = false := by rfl) :
    E X (.Call (.Attribute o "count" apos) [e] [] pos) σ H Q :=
  E.of (pe_mG ty_T PySem.F.plainAttrs_tuple PySem.F.slot_tuple_count PySem.F.type_tuple_count mt_tcount E.pe As.pa hbase hfew hline hs hplain) (E.mono q fun x H1 h => ⟨h.1, As_cons (E.mono h.2 fun y H2 h => As_nil (by
    obtain ⟨p, ns, k, rfl, rfl, h1, h2⟩ := h
    exact ⟨p, ns, k, rfl, rfl, h1, h2⟩)) hs⟩)
end
theorem E_tindexI (q : E X o σ H fun x H1 => tyT X.K x H1 ∧ E X e σ H1 fun y H2 => ∃ (p : Addr) (ns : List Int) (k : Int), x = .ref p ∧ y = .int k ∧ SqT X.K H2 p (ns.map V.int) ∧ k ∈ ns ∧ Q (.int (ns.idxOf k : Nat)) H2)
    (hbase : attributeBase o "index" X.env (eval o X.env) = eval o X.env := by rfl)
    (hfew : ((backTo pos (starEach [e] X.env)).all (fun x => !x.1) && (backToKw pos (keywordEach [] X.env)).all (fun x => x.1.isSome)
      && decide ([e].length + ([] : List Keyword).length + (if ([] : List Keyword).isEmpty then 0 else 1) < 30)) = true := by rfl)
    (hline : (apos.endLine == pos.line) = true := by rfl) (hs : starEach [e] X.env = (false, eval e X.env) :: starEach [] X.env := by rfl) (hplain : (backTo pos (starEach [] X.env)).any (·.1) = false := by rfl) :
    E X (.Call (.Attribute o "index" apos) [e] [] pos) σ H Q :=
  E.of (pe_mG ty_T PySem.F.plainAttrs_tuple PySem.F.slot_tuple_index PySem.F.type_tuple_index mt_tindexI E.pe As.pa hbase hfew hline hs hplain) (E.mono q fun x H1 h => ⟨h.1, As_cons (E.mono h.2 fun y H2 h => As_nil (by
    obtain ⟨p, ns, k, rfl, rfl, h1, h2⟩ := h
    exact ⟨p, ns, k, rfl, rfl, h1, h2⟩)) hs⟩)
theorem E_tindexS (q : E X o σ H fun x H1 => tyT X.K x H1 ∧ E X e σ H1 fun y H2 => ∃ (p : Addr) (ys : List Str) (z : Str) (j : Nat), x = .ref p ∧ y = .str z ∧ SqT X.K H2 p (ys.map V.str) ∧ ys[j]? = some z ∧ (∀ m, m < j → ys[m]? ≠ some z) ∧ Q (.int (j : Nat)) H2)
    (hbase : attributeBase o "index" X.env (eval o X.env) = eval o X.env := by rfl)
    (hfew : ((backTo pos (starEach [e] X.env)).all (fun x => !x.1) && (backToKw pos (keywordEach [] X.env)).all (fun x => x.1.isSome)
      && decide ([e].length + ([] : List Keyword).length + (if ([] : List Keyword).isEmpty then 0 else 1) < 30)) = true := by rfl)
    (hline : (apos.endLine == pos.line) = true := by rfl) (hs : starEach [e] X.env = (false, eval e X.env) :: starEach [] X.env := by rfl) (hplain : (backTo pos (starEach [] X.env)).any (·.1) = false := by rfl) :
    E X (.Call (.Attribute o "index" apos) [e] [] pos) σ H Q :=
  E.of (pe_mG ty_T PySem.F.plainAttrs_tuple PySem.F.slot_tuple_index PySem.F.type_tuple_index mt_tup_index E.pe As.pa hbase hfew hline hs hplain) (E.mono q fun x H1 h => ⟨h.1, As_cons (E.mono h.2 fun y H2 h => As_nil (by
    obtain ⟨p, ns, k, j, rfl, rfl, h1, h2⟩ := h
    exact ⟨p, ns, k, j, rfl, rfl, h1, h2⟩)) hs⟩)
end
end BW

set_option Elab.async false
set_option linter.all false
set_option maxRecDepth 100000
set_option maxHeartbeats 4000000
namespace BW
open PySem PySem.Spec PyProof.Rows L2
/-! ### lists and tuples: +, *, the items set, append, pop, max of a tuple -/
section
variable {prog : Program} {w : World} {A : Around} {E : Value → Shared → Prop} {s : Shared} {l : Addr} {its : List Value} {ns : List Int} {Q : Value → Shared → Prop}
theorem maxT_raw (hh : A.handled = none) (hl : s.heap.IsTuple l its.toArray) (hi : IntsAre its ns) (hne : 0 < ns.length)
    (h : ∀ h' tk M t', (∀ b o, s.heap.get? b = some o → h'.get? b = some o) → M ∈ ns → (∀ a, a ∈ ns → a ≤ M) → Q (.int M t') { s with heap := h', toks := tk }) : wpAny (model prog w) A (call (.builtin "max") [.ref l]) Q E s := by
  obtain ⟨xs, e⟩ := hi.allInts.items
  have hn : numsOf (intItems xs).toList = ns := by rw [← e]; exact hi.numsOf
  rw [nums_intItems] at hn
  subst hn
  rw [e] at hl
  have hsz : 0 < xs.size := by simpa using hne
  have hlt : l < s.heap.objs.size := by obtain ⟨_, e, _⟩ := hl; exact Heap.lt_size e
  refine call_max_walk (wpAny_pyIter_tuple hl ?_)
  refine ⟨_, _, _, _, _, _, _, rfl, Walks.tuple (A := A.in1) hh _ l (Nat.ne_of_lt hlt) (intItems xs), ⟨⟨_, Heap.get?_push_size _ rfl, rfl, rfl⟩, hl.push _⟩, fun b hb => ?_, by simpa [intItems] using hsz, CmpOf.ints_gt (numAt xs) (fun _ _ => intItems_at), fun v h' tk hP hk => ?_⟩
  · show b < (s.heap.push _).objs.size
    rw [Heap.size_push]
    rcases List.mem_cons.mp hb with rfl | hb
    · exact Nat.lt_succ_self _
    · rcases List.mem_cons.mp hb with rfl | hb
      · exact Nat.lt_succ_of_lt hlt
      · cases hb
  · obtain ⟨t, rfl⟩ := intItems_at hP
    obtain ⟨h1, h2⟩ := argBest_gt (numAt xs) (xs.size - 1)
    have ez : (intItems xs).size = xs.size := by simp [intItems]
    rw [ez]
    refine h h' tk _ t (fun b o eb => hk b o (fun hm => ?_) (Heap.get?_push_of_some _ eb)) ?_ fun a ha => ?_
    · rcases List.mem_cons.mp hm with e1 | hm
      · exact absurd (e1 ▸ Heap.lt_size eb) (Nat.lt_irrefl _)
      · cases hm
    · rw [numAt_eq]; exact PySem.getD_mem (by rw [List.length_map, Array.length_toList]; omega)
    · obtain ⟨j, hj, rfl⟩ := mem_getD ha
      rw [List.length_map, Array.length_toList] at hj
      rw [← numAt_eq]; exact h2 j (by omega)
end
section
variable {X : Cx} {σ : L2.St} {H : Hp} {e a b c o : Expr} {es : List Expr} {pos p apos : PySem.Pos} {Q : VK}
theorem cr_maxT (hc : X.calm = true) : CallR X (.builtin "max") (fun vs H Q => ∃ (a : Addr) (ns : List Int), vs = [V.ref a] ∧ SqT X.K H a (ns.map V.int) ∧ 0 < ns.length ∧ ∀ m, m ∈ ns → (∀ y, y ∈ ns → y ≤ m) → Q (.int m) H) := by
  intro pins s σ H vs us Q I r h
  obtain ⟨a, ns, rfl, hs, hne, q⟩ := h
  obtain ⟨its, rv, hl, _⟩ := I.tuple hs
  rw [Vals.ref1 r]
  exact maxT_raw (I.ok.hd hc) hl rv.ints hne fun h' tk M t' hk h1 h2 => ⟨.int M, H, I.kept hk, ⟨_, rfl⟩, q M h1 h2⟩
theorem E_maxT {pf : PySem.Pos} (hc : X.calm = true) (hm : X.mg "max" = none) (q : E X a σ H fun x H1 => ∃ (p : Addr) (ns : List Int), x = .ref p ∧ SqT X.K H1 p (ns.map V.int) ∧ 0 < ns.length ∧ ∀ m, m ∈ ns → (∀ y, y ∈ ns → y ≤ m) → Q (.int m) H1)
    (hg : Gl X "max" := by rfl) (hs1 : starEach [a] X.env = (false, eval a X.env) :: starEach [] X.env := by rfl) (hpl : (backTo pos (starEach [] X.env)).any (·.1) = false := by rfl) :
    E X (.Call (.Name "max" pf) [a] [] pos) σ H Q :=
  E_callB (cr_maxT hc) hm (by decide +kernel) (As_cons (E.mono q fun x H1 h => As_nil (by
    obtain ⟨p, ns, rfl, h1, h2⟩ := h
    exact ⟨p, ns, rfl, h1, h2⟩)) hs1) hg (by decide) (by decide) hs1 hpl
theorem E_min2 {pf : PySem.Pos} (hc : X.calm = true) (hm : X.mg "min" = none) (q : E X a σ H fun x H1 => E X b σ H1 fun y H2 => ∃ i j, x = .int i ∧ y = .int j ∧ Q (.int (if j < i then j else i)) H2)
    (hg : Gl X "min" := by rfl) (hs1 : starEach [a, b] X.env = (false, eval a X.env) :: starEach [b] X.env := by rfl) (hs2 : starEach [b] X.env = (false, eval b X.env) :: starEach [] X.env := by rfl) (hpl : (backTo pos (starEach [b] X.env)).any (·.1) = false := by rfl) :
    E X (.Call (.Name "min" pf) [a, b] [] pos) σ H Q :=
  E_callB (call_min2 hc) hm (by decide +kernel) (As_cons (E.mono q fun x H1 q => As_cons (E.mono q fun y H2 h => As_nil (by
    obtain ⟨i, j, rfl, rfl, h⟩ := h
    exact ⟨i, j, rfl, h⟩)) hs2) hs1) hg (by decide) (by decide) hs1 hpl
/-- xs + ys, two lists -/
theorem E_catL (q : E X a σ H fun x H1 => E X b σ H1 fun y H2 => ∃ l r xs ys, x = .ref l ∧ y = .ref r ∧ H2 l = some (.lst xs) ∧ H2 r = some (.lst ys) ∧ xs.length + ys.length ≤ sizeLine ∧ ∀ p H3, H2 p = none → Ex H2 H3 → H3 p = some (.lst (xs ++ ys)) → Q (.ref p) H3) : E X (.BinOp a .Add b pos) σ H Q :=
  E_op op_cat (E.mono q fun x H1 h => E.mono h fun y H2 ⟨l, r, xs, ys, h1, h2, h3, h4, h5, h6⟩ => ⟨l, r, xs, ys, h1, h2, h3, h4, h5, new_of h6⟩)
/-- [x] * n -/
theorem E_rep (q : E X a σ H fun x H1 => E X b σ H1 fun y H2 => ∃ l v k, x = .ref l ∧ y = .int k ∧ H2 l = some (.lst [v]) ∧ -(2 ^ 63) ≤ k ∧ k < 2 ^ 63 ∧ k.toNat ≤ sizeLine ∧ ∀ p H3, H2 p = none → Ex H2 H3 → H3 p = some (.lst (List.replicate k.toNat v)) → Q (.ref p) H3) : E X (.BinOp a .Mult b pos) σ H Q :=
  E_op op_rep (E.mono q fun x H1 h => E.mono h fun y H2 ⟨l, v, k, h1, h2, h3, h4, h5, h6, h7⟩ => ⟨l, k, [v], h1, h2, h3, h4, h5, by simpa using h6, new_of fun p H3 h8 h9 h10 => h7 p H3 h8 h9 (by
    rw [h10]
    have e : ∀ n : Nat, (List.replicate n [v]).flatten = List.replicate n v := by
      intro n
      induction n with
      | zero => rfl
      | succ n ih => rw [List.replicate_succ, List.flatten_cons, ih, List.replicate_succ]; rfl
    rw [e])⟩)
/-- t + u, two tuples, the second not empty -/
theorem E_catT (q : E X a σ H fun x H1 => E X b σ H1 fun y H2 => ∃ l r xs ys, x = .ref l ∧ y = .ref r ∧ SqT X.K H2 l xs ∧ SqT X.K H2 r ys ∧ xs.length + ys.length ≤ sizeLine ∧ ys ≠ [] ∧ ∀ p H3, Ex H2 H3 → SqT X.K H3 p (xs ++ ys) → Q (.ref p) H3) : E X (.BinOp a .Add b pos) σ H Q :=
  E_op op_catA (E.mono q fun x H1 h => E.mono h fun y H2 ⟨l, r, xs, ys, h1, h2, h3, h4, h5, h6, h7⟩ => ⟨l, r, xs, ys, h1, h2, h3, h4, h5, fun z => h7 _ _ (Evl.Ex.refl _) (by rw [z]; exact h4), fun _ z => (h6 z).elim, fun _ _ p hp => h7 p _ (Evl.Ex.new hp) (SqT.of upd_same)⟩)
/-- xs[i] = v -/
theorem G_ix {v : V} {R : L2.St → Hp → Prop} (q : E X o σ H fun x H1 => E X e σ H1 fun y H2 => ∃ p xs k j, x = .ref p ∧ y = .int k ∧ H2 p = some (.lst xs) ∧ ixN xs.length k = some j ∧ R σ (upd H2 p (.lst (xs.set j v))))
    (ha : ∀ v, assign (.Subscript o e pos) X.env v = (do
      let ov ← holding [v] (eval o X.env)
      let iv ← holding [v, ov] (eval e X.env)
      standAt pos
      holding [v, ov, iv] (setItem ov iv v)
      release [v, ov, iv] []) := by intro _; rfl) : G X (.Subscript o e pos) v σ H R :=
  G.of (pg_sub E.pe E.pe set_list ha) (E.mono q fun x H1 h => E.mono h fun y H2 h => h)
theorem E_append (q : E X o σ H fun x H1 => ∃ l ys, x = .ref l ∧ H1 l = some (.lst ys) ∧ E X e σ H1 fun y H2 => ∃ xs, H2 l = some (.lst xs) ∧ xs.length < sizeLine ∧ Q .non (upd H2 l (.lst (xs ++ [y]))))
    (hbase : attributeBase o "append" X.env (eval o X.env) = eval o X.env := by rfl)
    (hfew : ((backTo pos (starEach [e] X.env)).all (fun x => !x.1) && (backToKw pos (keywordEach [] X.env)).all (fun x => x.1.isSome)
      && decide ([e].length + ([] : List Keyword).length + (if ([] : List Keyword).isEmpty then 0 else 1) < 30)) = true := by rfl)
    (hline : (apos.endLine == pos.line) = true := by rfl) (hs : starEach [e] X.env = (false, eval e X.env) :: starEach [] X.env := by rfl) (hplain : (backTo pos (starEach [] X.env)).any (·.1) = false := by rfl) :
    E X (.Call (.Attribute o "append" apos) [e] [] pos) σ H Q :=
  E.of (pe_bm PySem.F.plainAttrs_list PySem.F.slot_list_append PySem.F.type_list_append mt_append E.pe As.pa hbase hfew hline hs hplain) (E.mono q fun x H1 h => by
    obtain ⟨l, ys, rfl, hl, h⟩ := h
    refine ⟨.inl ⟨rfl, ys, SqL.of hl⟩, As_cons (E.mono h fun y H2 h => As_nil ?_) hs⟩
    obtain ⟨xs, h2, h3, h4⟩ := h
    exact ⟨l, xs, y, rfl, rfl, h2, h3, h4⟩)
theorem E_popAt (q : E X o σ H fun x H1 => ∃ l ys, x = .ref l ∧ H1 l = some (.lst ys) ∧ E X e σ H1 fun y H2 => ∃ xs k v, y = .int (k : Nat) ∧ H2 l = some (.lst xs) ∧ xs[k]? = some v ∧ k < 2 ^ 62 ∧ Q v (upd H2 l (.lst (xs.eraseIdx k))))
    (hbase : attributeBase o "pop" X.env (eval o X.env) = eval o X.env := by rfl)
    (hfew : ((backTo pos (starEach [e] X.env)).all (fun x => !x.1) && (backToKw pos (keywordEach [] X.env)).all (fun x => x.1.isSome)
      && decide ([e].length + ([] : List Keyword).length + (if ([] : List Keyword).isEmpty then 0 else 1) < 30)) = true := by rfl)
    (hline : (apos.endLine == pos.line) = true := by rfl) (hs : starEach [e] X.env = (false, eval e X.env) :: starEach [] X.env := by rfl) (hplain : (backTo pos (starEach [] X.env)).any (·.1) = false := by rfl) :
    E X (.Call (.Attribute o "pop" apos) [e] [] pos) σ H Q :=
  E.of (pe_bm PySem.F.plainAttrs_list PySem.F.slot_list_pop PySem.F.type_list_pop mt_popAt E.pe As.pa hbase hfew hline hs hplain) (E.mono q fun x H1 h => by
    obtain ⟨l, ys, rfl, hl, h⟩ := h
    refine ⟨.inl ⟨rfl, ys, SqL.of hl⟩, As_cons (E.mono h fun y H2 h => As_nil ?_) hs⟩
    obtain ⟨xs, k, v, rfl, h2, h3, h4, h5⟩ := h
    have hk : k < xs.length := (List.getElem?_eq_some_iff.mp h3).1
    refine ⟨l, xs, k, k, v, rfl, rfl, h2, by omega, by omega, ?_, h3, h5⟩
    unfold seqIndex?
    rw [if_neg (show ¬ ((k : Int) < 0) by omega)]
    have e1 : decide ((0 : Int) ≤ k) = true := decide_eq_true (by omega)
    have e2 : decide ((k : Int) < xs.length) = true := decide_eq_true (by omega)
    simp only [e1, e2, Bool.and_self, if_true, Int.toNat_natCast])
/-- list(range(n)) -/
theorem E_listR {pr : PySem.Pos} {pf : PySem.Pos} (hc : X.calm = true) (hm : X.mg "list" = none) (hmr : X.mg "range" = none) (q : E X a σ H fun x H1 => ∃ n : Nat, x = .int n ∧ n ≤ 1000 ∧ ∀ p H2, H1 p = none → Ex H1 H2 → H2 p = some (.lst ((List.range n).map fun i => V.int (i : Nat))) → Q (.ref p) H2)
    (hg : Gl X "list" := by rfl) (hgr : Gl X "range" := by rfl) (hs1 : starEach [a] X.env = (false, eval a X.env) :: starEach [] X.env := by rfl)
    (hs2 : starEach [.Call (.Name "range" pr) [a] [] p] X.env = (false, eval (.Call (.Name "range" pr) [a] [] p) X.env) :: starEach [] X.env := by rfl) :
    E X (.Call (.Name "list" pf) [.Call (.Name "range" pr) [a] [] p] [] pos) σ H Q :=
  E.of (pe_listRg hc hg hm (prg_1 hgr hmr E.pe hs1) hs2) (E.mono q fun x H1 ⟨n, h1, h2, h3⟩ => ⟨(n : Int), h1, RgOk.of_le (by omega) (by omega) (by omega) (by omega), fun p hp => h3 p _ hp (Evl.Ex.new hp) (by
    rw [upd_same]
    unfold rgV
    have e : ((n : Int) - 0).toNat = n := by omega
    rw [e]
    simp only [Int.zero_add])⟩)
end
/-! ### bits -/
theorem bit_at : ∀ r, r < 32 → ∀ p, p < 5 → Builtin.bitAnd ((r : Nat) / 2 ^ p : Int) 1 = ((r.testBit p).toNat : Nat) := by decide +kernel
end BW

set_option Elab.async false
set_option linter.all false
set_option maxRecDepth 100000
set_option maxHeartbeats 0
namespace BW
open PySem PySem.Spec PyProof.Rows L2
/-! ### the places of the text -/
def top (i : Nat) : Stmt := PySem.Challenge.pw_bothwire_k53_whole_chances_add_up.main.body.getD i (.Pass ⟨0, 0, 0, 0⟩)
abbrev s_is_whole : Stmt := top 10
abbrev s_lowest : Stmt := top 11
abbrev s_is_eighth : Stmt := top 12
abbrev s_rooted : Stmt := top 13
abbrev s_plus : Stmt := top 14
abbrev s_turned : Stmt := top 15
abbrev s_over_root : Stmt := top 16
abbrev s_lowest_length : Stmt := top 18
abbrev s_square : Stmt := top 19
abbrev s_length_sum : Stmt := top 20
abbrev s_is_above : Stmt := top 21
abbrev s_is_less : Stmt := top 22
abbrev s_State_init : Stmt := inClass (top 26) 0
abbrev s_State_many : Stmt := inClass (top 26) 1
abbrev s_State_eighths : Stmt := inClass (top 26) 2
abbrev s_State_length : Stmt := inClass (top 26) 3
abbrev s_Gate_init : Stmt := inClass (top 29) 0
abbrev s_Gate_wires : Stmt := inClass (top 29) 1
abbrev s_Gate_back : Stmt := inClass (top 29) 4
abbrev s_Gate_on : Stmt := inClass (top 29) 8
abbrev s_put_bits : Stmt := top 30
abbrev s_X_init : Stmt := inClass (top 31) 0
abbrev s_X_goes : Stmt := inClass (top 31) 3
abbrev s_Y_init : Stmt := inClass (top 32) 0
abbrev s_Y_goes : Stmt := inClass (top 32) 2
abbrev s_Turner_init : Stmt := inClass (top 33) 0
abbrev s_Turner_goes : Stmt := inClass (top 33) 3
abbrev s_Z_turns : Stmt := inClass (top 34) 1
abbrev s_S_turns : Stmt := inClass (top 35) 1
abbrev s_S_back : Stmt := inClass (top 35) 2
abbrev s_R_turns : Stmt := inClass (top 36) 1
abbrev s_R_back : Stmt := inClass (top 36) 2
abbrev s_T_turns : Stmt := inClass (top 37) 1
abbrev s_T_back : Stmt := inClass (top 37) 2
abbrev s_U_turns : Stmt := inClass (top 38) 1
abbrev s_U_back : Stmt := inClass (top 38) 2
abbrev s_H_init : Stmt := inClass (top 39) 0
abbrev s_H_goes : Stmt := inClass (top 39) 2
abbrev s_Cx_init : Stmt := inClass (top 40) 0
abbrev s_Cx_goes : Stmt := inClass (top 40) 3
abbrev s_Cz_init : Stmt := inClass (top 41) 0
abbrev s_Cz_goes : Stmt := inClass (top 41) 2
abbrev s_Swap_init : Stmt := inClass (top 42) 0
abbrev s_Swap_goes : Stmt := inClass (top 42) 3
abbrev s_Ccx_init : Stmt := inClass (top 43) 0
abbrev s_Ccx_goes : Stmt := inClass (top 43) 4
abbrev s_single : Stmt := top 44
abbrev s_gate_of : Stmt := top 45
abbrev s_is_name : Stmt := top 52
abbrev s_Reading_init : Stmt := inClass (top 53) 0
abbrev s_Asking_init : Stmt := inClass (top 54) 0
abbrev s_is_gate : Stmt := top 55
abbrev s_is_reading : Stmt := top 56
abbrev s_is_asking : Stmt := top 57
abbrev s_looked : Stmt := top 58
abbrev s_Circuit_init : Stmt := inClass (top 59) 0
abbrev s_Circuit_many : Stmt := inClass (top 59) 1
abbrev s_Circuit_rows : Stmt := inClass (top 59) 2
abbrev s_Circuit_bits : Stmt := inClass (top 59) 4
abbrev s_Circuit_is_plain : Stmt := inClass (top 59) 5
abbrev s_Circuit_back : Stmt := inClass (top 59) 6
abbrev s_half_of : Stmt := top 61
abbrev s_read_out : Stmt := top 62
abbrev s_asked : Stmt := top 63
abbrev s_run : Stmt := top 64
abbrev s_l_next : Stmt := top 66
abbrev s_l_cell : Stmt := top 67
abbrev s_l_state : Stmt := top 68
abbrev s_l_rooted : Stmt := top 69
abbrev s_l_lowest : Stmt := top 77
abbrev s_l_number : Stmt := top 78
abbrev s_l_eighth : Stmt := top 79
abbrev s_l_turned : Stmt := top 80
abbrev s_l_eighths : Stmt := top 81
abbrev s_l_drawn_gate : Stmt := top 82
abbrev s_l_rows : Stmt := top 83
abbrev s_l_made_row : Stmt := top 84
abbrev s_l_square : Stmt := top 85
abbrev s_l_low : Stmt := top 86
abbrev s_l_total : Stmt := top 87
abbrev s_law : Stmt := top 88
/-! ### further facts, by names -/
inductive Fx where
  | same (C D m : Str)
  | inst (C : Str)
  | kit (C D : Str) (b : Bool)
  | tupI (x : Str) (ns : List Int)
  | base (C m : Str)
  | tupD (x : Str)
def eqV1 (a b : Option Value) : Bool := decide (a = b)
def Fx.ok (K : PySem.W.Frag) : Fx → Bool
  | .same C D m => decide (He.ma K (He.ga K C) m = He.ma K (He.ga K D) m)
  | .inst C => He.eqO (PySem.W.findIn K (.ref (He.ga K C)) "__class__") (some (some (.builtin "object.__class__"))) && (He.eqO (PySem.W.specialIn K (.builtin "object.__class__") "__get__") (some (some (.builtin "getset_descriptor.__get__"))) &&
      (decide (PySem.W.takesIn K (.builtin "object.__class__") = some true) && decide (PySem.W.mroIn K (He.ga K C) (.type "object") = some true)))
  | .kit C D b => decide (PySem.W.kitOne K (.ref (He.ga K C)) (.ref (He.ga K D)) = some b)
  | .tupI x ns => He.tupB K x (ns.map He.Dv.int)
  | .base C m => PySem.W.readsIn K (He.ga K C) (.type "type") && (He.eqO (PySem.W.specialIn K (.ref (He.ga K C)) "__getattribute__") (some (some (.builtin "type.__getattribute__"))) &&
      (match PySem.W.findCls K (.ref (He.ga K C)) (.type "type") m with
        | some (.val (.ref a)) => decide (a = He.ma K (He.ga K C) m)
        | _ => false))
  | .tupD x => match K.lookup (He.ga K x) with
    | some o => decide (o.cls = .type "tuple") && o.dict.isNone
    | none => false
/-! ### the defs of the text, the facts, the Hook -/
def d_is_whole : He.DefD := ⟨("is_whole", none), "is_whole", "is_whole", defArgs s_is_whole, defBody s_is_whole, defScope s_is_whole, [], []⟩
def d_lowest : He.DefD := ⟨("lowest", none), "lowest", "lowest", defArgs s_lowest, defBody s_lowest, defScope s_lowest, [], []⟩
def d_is_eighth : He.DefD := ⟨("is_eighth", none), "is_eighth", "is_eighth", defArgs s_is_eighth, defBody s_is_eighth, defScope s_is_eighth, [], []⟩
def d_rooted : He.DefD := ⟨("rooted", none), "rooted", "rooted", defArgs s_rooted, defBody s_rooted, defScope s_rooted, [], []⟩
def d_plus : He.DefD := ⟨("plus", none), "plus", "plus", defArgs s_plus, defBody s_plus, defScope s_plus, [], []⟩
def d_turned : He.DefD := ⟨("turned", none), "turned", "turned", defArgs s_turned, defBody s_turned, defScope s_turned, [], []⟩
def d_over_root : He.DefD := ⟨("over_root", none), "over_root", "over_root", defArgs s_over_root, defBody s_over_root, defScope s_over_root, [], []⟩
def d_lowest_length : He.DefD := ⟨("lowest_length", none), "lowest_length", "lowest_length", defArgs s_lowest_length, defBody s_lowest_length, defScope s_lowest_length, [], []⟩
def d_square : He.DefD := ⟨("square", none), "square", "square", defArgs s_square, defBody s_square, defScope s_square, [], []⟩
def d_length_sum : He.DefD := ⟨("length_sum", none), "length_sum", "length_sum", defArgs s_length_sum, defBody s_length_sum, defScope s_length_sum, [], []⟩
def d_is_above : He.DefD := ⟨("is_above", none), "is_above", "is_above", defArgs s_is_above, defBody s_is_above, defScope s_is_above, [], []⟩
def d_is_less : He.DefD := ⟨("is_less", none), "is_less", "is_less", defArgs s_is_less, defBody s_is_less, defScope s_is_less, [], []⟩
def d_State_init : He.DefD := ⟨("State", some "__init__"), "__init__", "State.__init__", defArgs s_State_init, defBody s_State_init, defScope s_State_init, [], []⟩
def d_State_many : He.DefD := ⟨("State", some "many"), "many", "State.many", defArgs s_State_many, defBody s_State_many, defScope s_State_many, [], []⟩
def d_State_eighths : He.DefD := ⟨("State", some "eighths"), "eighths", "State.eighths", defArgs s_State_eighths, defBody s_State_eighths, defScope s_State_eighths, [], []⟩
def d_State_length : He.DefD := ⟨("State", some "length"), "length", "State.length", defArgs s_State_length, defBody s_State_length, defScope s_State_length, [], []⟩
def d_Gate_init : He.DefD := ⟨("Gate", some "__init__"), "__init__", "Gate.__init__", defArgs s_Gate_init, defBody s_Gate_init, defScope s_Gate_init, [], []⟩
def d_Gate_wires : He.DefD := ⟨("Gate", some "wires"), "wires", "Gate.wires", defArgs s_Gate_wires, defBody s_Gate_wires, defScope s_Gate_wires, [], []⟩
def d_Gate_back : He.DefD := ⟨("Gate", some "back"), "back", "Gate.back", defArgs s_Gate_back, defBody s_Gate_back, defScope s_Gate_back, [], []⟩
def d_Gate_on : He.DefD := ⟨("Gate", some "on"), "on", "Gate.on", defArgs s_Gate_on, defBody s_Gate_on, defScope s_Gate_on, [], []⟩
def d_put_bits : He.DefD := ⟨("put_bits", none), "put_bits", "put_bits", defArgs s_put_bits, defBody s_put_bits, defScope s_put_bits, [], []⟩
def d_X_init : He.DefD := ⟨("X", some "__init__"), "__init__", "X.__init__", defArgs s_X_init, defBody s_X_init, defScope s_X_init, [], []⟩
def d_X_goes : He.DefD := ⟨("X", some "goes"), "goes", "X.goes", defArgs s_X_goes, defBody s_X_goes, defScope s_X_goes, [], []⟩
def d_Y_init : He.DefD := ⟨("Y", some "__init__"), "__init__", "Y.__init__", defArgs s_Y_init, defBody s_Y_init, defScope s_Y_init, [], []⟩
def d_Y_goes : He.DefD := ⟨("Y", some "goes"), "goes", "Y.goes", defArgs s_Y_goes, defBody s_Y_goes, defScope s_Y_goes, [], []⟩
def d_Turner_init : He.DefD := ⟨("Turner", some "__init__"), "__init__", "Turner.__init__", defArgs s_Turner_init, defBody s_Turner_init, defScope s_Turner_init, [], []⟩
def d_Turner_goes : He.DefD := ⟨("Turner", some "goes"), "goes", "Turner.goes", defArgs s_Turner_goes, defBody s_Turner_goes, defScope s_Turner_goes, [], []⟩
def d_Z_turns : He.DefD := ⟨("Z", some "turns"), "turns", "Z.turns", defArgs s_Z_turns, defBody s_Z_turns, defScope s_Z_turns, [], []⟩
def d_S_turns : He.DefD := ⟨("S", some "turns"), "turns", "S.turns", defArgs s_S_turns, defBody s_S_turns, defScope s_S_turns, [], []⟩
def d_S_back : He.DefD := ⟨("S", some "back"), "back", "S.back", defArgs s_S_back, defBody s_S_back, defScope s_S_back, [], []⟩
def d_R_turns : He.DefD := ⟨("R", some "turns"), "turns", "R.turns", defArgs s_R_turns, defBody s_R_turns, defScope s_R_turns, [], []⟩
def d_R_back : He.DefD := ⟨("R", some "back"), "back", "R.back", defArgs s_R_back, defBody s_R_back, defScope s_R_back, [], []⟩
def d_T_turns : He.DefD := ⟨("T", some "turns"), "turns", "T.turns", defArgs s_T_turns, defBody s_T_turns, defScope s_T_turns, [], []⟩
def d_T_back : He.DefD := ⟨("T", some "back"), "back", "T.back", defArgs s_T_back, defBody s_T_back, defScope s_T_back, [], []⟩
def d_U_turns : He.DefD := ⟨("U", some "turns"), "turns", "U.turns", defArgs s_U_turns, defBody s_U_turns, defScope s_U_turns, [], []⟩
def d_U_back : He.DefD := ⟨("U", some "back"), "back", "U.back", defArgs s_U_back, defBody s_U_back, defScope s_U_back, [], []⟩
def d_H_init : He.DefD := ⟨("H", some "__init__"), "__init__", "H.__init__", defArgs s_H_init, defBody s_H_init, defScope s_H_init, [], []⟩
def d_H_goes : He.DefD := ⟨("H", some "goes"), "goes", "H.goes", defArgs s_H_goes, defBody s_H_goes, defScope s_H_goes, [], []⟩
def d_Cx_init : He.DefD := ⟨("Cx", some "__init__"), "__init__", "Cx.__init__", defArgs s_Cx_init, defBody s_Cx_init, defScope s_Cx_init, [], []⟩
def d_Cx_goes : He.DefD := ⟨("Cx", some "goes"), "goes", "Cx.goes", defArgs s_Cx_goes, defBody s_Cx_goes, defScope s_Cx_goes, [], []⟩
def d_Cz_init : He.DefD := ⟨("Cz", some "__init__"), "__init__", "Cz.__init__", defArgs s_Cz_init, defBody s_Cz_init, defScope s_Cz_init, [], []⟩
def d_Cz_goes : He.DefD := ⟨("Cz", some "goes"), "goes", "Cz.goes", defArgs s_Cz_goes, defBody s_Cz_goes, defScope s_Cz_goes, [], []⟩
def d_Swap_init : He.DefD := ⟨("Swap", some "__init__"), "__init__", "Swap.__init__", defArgs s_Swap_init, defBody s_Swap_init, defScope s_Swap_init, [], []⟩
def d_Swap_goes : He.DefD := ⟨("Swap", some "goes"), "goes", "Swap.goes", defArgs s_Swap_goes, defBody s_Swap_goes, defScope s_Swap_goes, [], []⟩
def d_Ccx_init : He.DefD := ⟨("Ccx", some "__init__"), "__init__", "Ccx.__init__", defArgs s_Ccx_init, defBody s_Ccx_init, defScope s_Ccx_init, [], []⟩
def d_Ccx_goes : He.DefD := ⟨("Ccx", some "goes"), "goes", "Ccx.goes", defArgs s_Ccx_goes, defBody s_Ccx_goes, defScope s_Ccx_goes, [], []⟩
def d_single : He.DefD := ⟨("single", none), "single", "single", defArgs s_single, defBody s_single, defScope s_single, [], []⟩
def d_gate_of : He.DefD := ⟨("gate_of", none), "gate_of", "gate_of", defArgs s_gate_of, defBody s_gate_of, defScope s_gate_of, [], []⟩
def d_is_name : He.DefD := ⟨("is_name", none), "is_name", "is_name", defArgs s_is_name, defBody s_is_name, defScope s_is_name, [], []⟩
def d_Reading_init : He.DefD := ⟨("Reading", some "__init__"), "__init__", "Reading.__init__", defArgs s_Reading_init, defBody s_Reading_init, defScope s_Reading_init, [], []⟩
def d_Asking_init : He.DefD := ⟨("Asking", some "__init__"), "__init__", "Asking.__init__", defArgs s_Asking_init, defBody s_Asking_init, defScope s_Asking_init, [], []⟩
def d_is_gate : He.DefD := ⟨("is_gate", none), "is_gate", "is_gate", defArgs s_is_gate, defBody s_is_gate, defScope s_is_gate, [], []⟩
def d_is_reading : He.DefD := ⟨("is_reading", none), "is_reading", "is_reading", defArgs s_is_reading, defBody s_is_reading, defScope s_is_reading, [], []⟩
def d_is_asking : He.DefD := ⟨("is_asking", none), "is_asking", "is_asking", defArgs s_is_asking, defBody s_is_asking, defScope s_is_asking, [], []⟩
def d_looked : He.DefD := ⟨("looked", none), "looked", "looked", defArgs s_looked, defBody s_looked, defScope s_looked, [], []⟩
def d_Circuit_init : He.DefD := ⟨("Circuit", some "__init__"), "__init__", "Circuit.__init__", defArgs s_Circuit_init, defBody s_Circuit_init, defScope s_Circuit_init, [], []⟩
def d_Circuit_many : He.DefD := ⟨("Circuit", some "many"), "many", "Circuit.many", defArgs s_Circuit_many, defBody s_Circuit_many, defScope s_Circuit_many, [], []⟩
def d_Circuit_rows : He.DefD := ⟨("Circuit", some "rows"), "rows", "Circuit.rows", defArgs s_Circuit_rows, defBody s_Circuit_rows, defScope s_Circuit_rows, [], []⟩
def d_Circuit_bits : He.DefD := ⟨("Circuit", some "bits"), "bits", "Circuit.bits", defArgs s_Circuit_bits, defBody s_Circuit_bits, defScope s_Circuit_bits, [], []⟩
def d_Circuit_is_plain : He.DefD := ⟨("Circuit", some "is_plain"), "is_plain", "Circuit.is_plain", defArgs s_Circuit_is_plain, defBody s_Circuit_is_plain, defScope s_Circuit_is_plain, [], []⟩
def d_Circuit_back : He.DefD := ⟨("Circuit", some "back"), "back", "Circuit.back", defArgs s_Circuit_back, defBody s_Circuit_back, defScope s_Circuit_back, [], []⟩
def d_half_of : He.DefD := ⟨("half_of", none), "half_of", "half_of", defArgs s_half_of, defBody s_half_of, defScope s_half_of, [], []⟩
def d_read_out : He.DefD := ⟨("read_out", none), "read_out", "read_out", defArgs s_read_out, defBody s_read_out, defScope s_read_out, [], []⟩
def d_asked : He.DefD := ⟨("asked", none), "asked", "asked", defArgs s_asked, defBody s_asked, defScope s_asked, [], []⟩
def d_run : He.DefD := ⟨("run", none), "run", "run", defArgs s_run, defBody s_run, defScope s_run, [], []⟩
def d_l_next : He.DefD := ⟨("_law_next", none), "_law_next", "_law_next", defArgs s_l_next, defBody s_l_next, defScope s_l_next, [], []⟩
def d_l_cell : He.DefD := ⟨("_law_cell", none), "_law_cell", "_law_cell", defArgs s_l_cell, defBody s_l_cell, defScope s_l_cell, [], []⟩
def d_l_state : He.DefD := ⟨("_law_state", none), "_law_state", "_law_state", defArgs s_l_state, defBody s_l_state, defScope s_l_state, [], []⟩
def d_l_rooted : He.DefD := ⟨("_law_rooted", none), "_law_rooted", "_law_rooted", defArgs s_l_rooted, defBody s_l_rooted, defScope s_l_rooted, [], []⟩
def d_l_lowest : He.DefD := ⟨("_law_lowest", none), "_law_lowest", "_law_lowest", defArgs s_l_lowest, defBody s_l_lowest, defScope s_l_lowest, [], []⟩
def d_l_number : He.DefD := ⟨("_law_number", none), "_law_number", "_law_number", defArgs s_l_number, defBody s_l_number, defScope s_l_number, [], []⟩
def d_l_eighth : He.DefD := ⟨("_law_eighth", none), "_law_eighth", "_law_eighth", defArgs s_l_eighth, defBody s_l_eighth, defScope s_l_eighth, [], []⟩
def d_l_turned : He.DefD := ⟨("_law_turned", none), "_law_turned", "_law_turned", defArgs s_l_turned, defBody s_l_turned, defScope s_l_turned, [], []⟩
def d_l_eighths : He.DefD := ⟨("_law_eighths", none), "_law_eighths", "_law_eighths", defArgs s_l_eighths, defBody s_l_eighths, defScope s_l_eighths, [], []⟩
def d_l_drawn_gate : He.DefD := ⟨("_law_drawn_gate", none), "_law_drawn_gate", "_law_drawn_gate", defArgs s_l_drawn_gate, defBody s_l_drawn_gate, defScope s_l_drawn_gate, [], []⟩
def d_l_rows : He.DefD := ⟨("_law_rows", none), "_law_rows", "_law_rows", defArgs s_l_rows, defBody s_l_rows, defScope s_l_rows, [], []⟩
def d_l_made_row : He.DefD := ⟨("_law_made_row", none), "_law_made_row", "_law_made_row", defArgs s_l_made_row, defBody s_l_made_row, defScope s_l_made_row, [], []⟩
def d_l_square : He.DefD := ⟨("_law_square", none), "_law_square", "_law_square", defArgs s_l_square, defBody s_l_square, defScope s_l_square, [], []⟩
def d_l_low : He.DefD := ⟨("_law_low", none), "_law_low", "_law_low", defArgs s_l_low, defBody s_l_low, defScope s_l_low, [], []⟩
def d_l_total : He.DefD := ⟨("_law_total", none), "_law_total", "_law_total", defArgs s_l_total, defBody s_l_total, defScope s_l_total, [], []⟩
def d_law : He.DefD := ⟨("law", none), "law", "law", defArgs s_law, defBody s_law, defScope s_law, [], []⟩
def fns : List He.DefD := [d_is_whole, d_lowest, d_is_eighth, d_rooted, d_plus, d_turned, d_over_root, d_lowest_length, d_square, d_length_sum, d_is_above, d_is_less, d_State_init, d_State_many, d_State_eighths, d_State_length, d_Gate_init, d_Gate_wires, d_Gate_back, d_Gate_on, d_put_bits, d_X_init, d_X_goes, d_Y_init, d_Y_goes, d_Turner_init, d_Turner_goes, d_Z_turns, d_S_turns, d_S_back, d_R_turns, d_R_back, d_T_turns, d_T_back, d_U_turns, d_U_back, d_H_init, d_H_goes, d_Cx_init, d_Cx_goes, d_Cz_init, d_Cz_goes, d_Swap_init, d_Swap_goes, d_Ccx_init, d_Ccx_goes, d_single, d_gate_of, d_is_name, d_Reading_init, d_Asking_init, d_is_gate, d_is_reading, d_is_asking, d_looked, d_Circuit_init, d_Circuit_many, d_Circuit_rows, d_Circuit_bits, d_Circuit_is_plain, d_Circuit_back, d_half_of, d_read_out, d_asked, d_run, d_l_next, d_l_cell, d_l_state, d_l_rooted, d_l_lowest, d_l_number, d_l_eighth, d_l_turned, d_l_eighths, d_l_drawn_gate, d_l_rows, d_l_made_row, d_l_square, d_l_low, d_l_total, d_law]
def facts : List He.Fa := [.glo "is_whole", .glo "lowest", .glo "is_eighth", .glo "rooted", .glo "plus", .glo "turned", .glo "over_root", .glo "lowest_length", .glo "square", .glo "length_sum", .glo "is_above", .glo "is_less", .glo "put_bits", .glo "single", .glo "gate_of", .glo "is_name", .glo "is_gate", .glo "is_reading", .glo "is_asking", .glo "looked", .glo "half_of", .glo "read_out", .glo "asked", .glo "run", .glo "_law_next", .glo "_law_cell", .glo "_law_state", .glo "_law_rooted", .glo "_law_lowest", .glo "_law_number", .glo "_law_eighth", .glo "_law_turned", .glo "_law_eighths", .glo "_law_drawn_gate", .glo "_law_rows", .glo "_law_made_row", .glo "_law_square", .glo "_law_low", .glo "_law_total", .glo "law", .glo "State", .glo "Gate", .glo "X", .glo "Y", .glo "Z", .glo "S", .glo "R", .glo "T", .glo "U", .glo "H", .glo "Cx", .glo "Cz", .glo "Swap", .glo "Ccx", .glo "Reading", .glo "Asking", .glo "Circuit", .glo "NOUGHT", .glo "SIZES", .free "isinstance", .free "int", .free "bool", .free "tuple", .free "list", .free "str", .free "len", .free "all", .free "max", .free "min", .free "sum", .free "enumerate", .free "range", .free "zip", .free "reversed", .free "set", .int "MOST_WIRE" 4, .int "MOST_LETTERS" 8, .int "MOST_WIRES" 5, .int "MOST_ROWS" 60, .int "MOST_READINGS" 5, .str "LETTERS" "abcdefghijklmnopqrstuvwxyz", .cls "State", .cls "X", .cls "Y", .cls "Z", .cls "S", .cls "R", .cls "T", .cls "U", .cls "H", .cls "Cx", .cls "Cz", .cls "Swap", .cls "Ccx", .cls "Reading", .cls "Asking", .cls "Circuit", .noat "State" "kept", .noat "X" "on_wires", .noat "Y" "on_wires", .noat "Z" "on_wires", .noat "S" "on_wires", .noat "R" "on_wires", .noat "T" "on_wires", .noat "U" "on_wires", .noat "H" "on_wires", .noat "Cx" "on_wires", .noat "Cz" "on_wires", .noat "Swap" "on_wires", .noat "Ccx" "on_wires", .noat "Reading" "wire", .noat "Reading" "bit", .noat "Asking" "bit", .noat "Asking" "value", .noat "Asking" "gate", .noat "Circuit" "bits_read", .noat "Circuit" "size", .noat "Circuit" "kept", .meth "State" "many", .meth "State" "eighths", .meth "State" "length", .meth "X" "wires", .meth "X" "back", .meth "X" "goes", .meth "X" "on", .meth "Y" "wires", .meth "Y" "back", .meth "Y" "goes", .meth "Y" "on", .meth "Z" "wires", .meth "Z" "back", .meth "Z" "goes", .meth "Z" "on", .meth "S" "wires", .meth "S" "back", .meth "S" "goes", .meth "S" "on", .meth "R" "wires", .meth "R" "back", .meth "R" "goes", .meth "R" "on", .meth "T" "wires", .meth "T" "back", .meth "T" "goes", .meth "T" "on", .meth "U" "wires", .meth "U" "back", .meth "U" "goes", .meth "U" "on", .meth "H" "wires", .meth "H" "back", .meth "H" "goes", .meth "H" "on", .meth "Cx" "wires", .meth "Cx" "back", .meth "Cx" "goes", .meth "Cx" "on", .meth "Cz" "wires", .meth "Cz" "back", .meth "Cz" "goes", .meth "Cz" "on", .meth "Swap" "wires", .meth "Swap" "back", .meth "Swap" "goes", .meth "Swap" "on", .meth "Ccx" "wires", .meth "Ccx" "back", .meth "Ccx" "goes", .meth "Ccx" "on", .meth "Z" "turns", .meth "S" "turns", .meth "R" "turns", .meth "T" "turns", .meth "U" "turns", .meth "Circuit" "many", .meth "Circuit" "rows", .meth "Circuit" "bits", .meth "Circuit" "is_plain", .meth "Circuit" "back", .mkr "State", .mkr "X", .mkr "Y", .mkr "Z", .mkr "S", .mkr "R", .mkr "T", .mkr "U", .mkr "H", .mkr "Cx", .mkr "Cz", .mkr "Swap", .mkr "Ccx", .mkr "Reading", .mkr "Asking", .mkr "Circuit"]
def more : List Fx := [.same "X" "Gate" "on", .same "X" "Gate" "wires", .same "X" "Gate" "back", .same "Y" "Gate" "on", .same "Y" "Gate" "wires", .same "Y" "Gate" "back", .same "Z" "Gate" "on", .same "Z" "Gate" "wires", .same "Z" "Gate" "back", .same "Z" "Turner" "goes", .same "Z" "Turner" "__init__", .same "S" "Gate" "on", .same "S" "Gate" "wires", .same "S" "Turner" "goes", .same "S" "Turner" "__init__", .same "R" "Gate" "on", .same "R" "Gate" "wires", .same "R" "Turner" "goes", .same "R" "Turner" "__init__", .same "T" "Gate" "on", .same "T" "Gate" "wires", .same "T" "Turner" "goes", .same "T" "Turner" "__init__", .same "U" "Gate" "on", .same "U" "Gate" "wires", .same "U" "Turner" "goes", .same "U" "Turner" "__init__", .same "H" "Gate" "on", .same "H" "Gate" "wires", .same "H" "Gate" "back", .same "Cx" "Gate" "on", .same "Cx" "Gate" "wires", .same "Cx" "Gate" "back", .same "Cz" "Gate" "on", .same "Cz" "Gate" "wires", .same "Cz" "Gate" "back", .same "Swap" "Gate" "on", .same "Swap" "Gate" "wires", .same "Swap" "Gate" "back", .same "Ccx" "Gate" "on", .same "Ccx" "Gate" "wires", .same "Ccx" "Gate" "back", .inst "State", .inst "X", .inst "Y", .inst "Z", .inst "S", .inst "R", .inst "T", .inst "U", .inst "H", .inst "Cx", .inst "Cz", .inst "Swap", .inst "Ccx", .inst "Reading", .inst "Asking", .inst "Circuit", .kit "X" "Gate" true, .kit "X" "Reading" false, .kit "X" "Asking" false, .kit "Y" "Gate" true, .kit "Y" "Reading" false, .kit "Y" "Asking" false, .kit "Z" "Gate" true, .kit "Z" "Reading" false, .kit "Z" "Asking" false, .kit "S" "Gate" true, .kit "S" "Reading" false, .kit "S" "Asking" false, .kit "R" "Gate" true, .kit "R" "Reading" false, .kit "R" "Asking" false, .kit "T" "Gate" true, .kit "T" "Reading" false, .kit "T" "Asking" false, .kit "U" "Gate" true, .kit "U" "Reading" false, .kit "U" "Asking" false, .kit "H" "Gate" true, .kit "H" "Reading" false, .kit "H" "Asking" false, .kit "Cx" "Gate" true, .kit "Cx" "Reading" false, .kit "Cx" "Asking" false, .kit "Cz" "Gate" true, .kit "Cz" "Reading" false, .kit "Cz" "Asking" false, .kit "Swap" "Gate" true, .kit "Swap" "Reading" false, .kit "Swap" "Asking" false, .kit "Ccx" "Gate" true, .kit "Ccx" "Reading" false, .kit "Ccx" "Asking" false, .kit "Reading" "Gate" false, .kit "Reading" "Reading" true, .kit "Reading" "Asking" false, .kit "Asking" "Gate" false, .kit "Asking" "Reading" false, .kit "Asking" "Asking" true, .kit "State" "State" true, .kit "Circuit" "Circuit" true, .tupI "NOUGHT" [0, 0, 0, 0, 0], .tupI "SIZES" [2, 4, 8, 16, 32], .base "Gate" "__init__", .tupD "SIZES"]
/-! ### the part of the heap that is looked at: what the module's names reach in four steps -/
def refsK (o : Obj) : List Addr := match o.data with
  | .dict es _ => es.toList.flatMap fun e => He.refV e.val
  | .func fd => He.refV fd.code
  | .cls cd => [cd.ns]
  | _ => []
def nextK (g : Addr → Option Obj) (as : List Addr) : List Addr := as.flatMap fun a => match g a with
  | some o => refsK o
  | none => []
def lvK (g : Addr → Option Obj) : Nat → List Addr → List Addr
  | 0, as => as
  | n + 1, as => as ++ lvK g n (nextK g as)
def kOf (g : Addr → Option Obj) : PySem.W.Frag := He.frG g (lvK g 4 [mainGlobals] ++ [cStatics])
def fnsW (K : PySem.W.Frag) : List He.DefD → List He.FnW
  | [] => []
  | d :: r => He.fnW K d.at_ :: fnsW K r
def valsW : List He.DefD → List He.FnW
  | [] => []
  | d :: r => d.val :: valsW r
theorem fnsW_eq (K : PySem.W.Frag) : ∀ l : List He.DefD, fnsW K l = l.map fun d => He.fnW K d.at_
  | [] => rfl
  | d :: r => congrArg (He.fnW K d.at_ :: ·) (fnsW_eq K r)
theorem valsW_eq : ∀ l : List He.DefD, valsW l = l.map He.DefD.val
  | [] => rfl
  | d :: r => congrArg (d.val :: ·) (valsW_eq r)
def oFacts (K : PySem.W.Frag) : Bool := facts.all fun f => f.ok K
def oMore (K : PySem.W.Frag) : Bool := more.all fun f => f.ok K
def oDefs (K : PySem.W.Frag) : Bool := fns.all fun d => d.ok K
structure Says (K : PySem.W.Frag) : Prop where
  f : oFacts K = true
  m : oMore K = true
  d : oDefs K = true
  v : fnsW K fns = valsW fns
abbrev AlX : Type := Bool × Bool × Bool × List He.FnW
def obsX (K : PySem.W.Frag) : AlX := (oFacts K, oMore K, oDefs K, fnsW K fns)
def hookX : PySem.W.Hook where
  α := AlX
  obs := fun s => obsX (kOf s.heap.get?)
  val := fun _ => (true, true, true, valsW fns)
  says := fun _ h => ∃ K : PySem.W.Frag, K.In h ∧ Says K
  of := fun _ s e => ⟨kOf s.heap.get?, He.frG_in, by
    have e : ((oFacts (kOf s.heap.get?), oMore (kOf s.heap.get?), oDefs (kOf s.heap.get?), fnsW (kOf s.heap.get?) fns) : AlX) = (true, true, true, valsW fns) := e
    simp only [Prod.mk.injEq] at e
    exact ⟨e.1, e.2.1, e.2.2.1, e.2.2.2⟩⟩
  keeps := fun _ _ _ ⟨K, hK, c⟩ k => ⟨K, PySem.W.Frag.In.keeps hK k, c⟩
theorem Says.sd {K : PySem.W.Frag} (c : Says K) : He.SaysD facts fns K := by
  show ((facts.all fun f => f.ok K) && fns.all fun d => d.ok K, fns.map fun d => He.fnW K d.at_) = (true, fns.map He.DefD.val)
  rw [← fnsW_eq, ← valsW_eq, c.v]
  have a : (facts.all fun f => f.ok K) = true := c.f
  have b : (fns.all fun d => d.ok K) = true := c.d
  rw [a, b] <;> rfl
theorem Says.ex {K : PySem.W.Frag} (c : Says K) (i : Nat) {f : Fx} (h : more[i]? = some f := by rfl) : f.ok K = true := by
  have c1 : (BW.more.all fun f => f.ok K) = true := c.m
  exact List.all_eq_true.mp c1 f (List.mem_of_getElem? h)
def loose0 : List Str := ["_wall", "WireError", "NoNumber", "NoState", "NoGate", "NoWire", "TooMany", "NoCircuit", "is_whole", "lowest", "is_eighth", "rooted", "plus", "turned", "over_root"]
def loose1 : List Str := ["lowest_length", "square", "length_sum", "is_above", "is_less", "SIZES", "NOUGHT", "State", "MOST_WIRE", "Gate", "put_bits", "X", "Y", "Turner", "Z"]
def loose2 : List Str := ["S", "R", "T", "U", "H", "Cx", "Cz", "Swap", "Ccx", "single", "gate_of", "LETTERS", "MOST_LETTERS", "MOST_WIRES", "MOST_ROWS"]
def loose3 : List Str := ["MOST_READINGS", "is_name", "Reading", "Asking", "is_gate", "is_reading", "is_asking", "looked", "Circuit", "half_of", "read_out", "asked", "run", "_law_next", "_law_cell"]
def loose4 : List Str := ["_law_state", "_law_rooted", "_law_value", "_law_grown", "_law_same", "_law_add", "_law_mul", "_law_turn", "_law_by_root", "_law_lowest", "_law_number", "_law_eighth", "_law_turned", "_law_eighths", "_law_drawn_gate"]
def loose5 : List Str := ["_law_rows", "_law_made_row", "_law_square", "_law_low", "_law_total"]
def loose : List Str := loose0 ++ loose1 ++ loose2 ++ loose3 ++ loose4 ++ loose5
abbrev RR : PySem.W.OpenRow := PySem.W.OpenLaw.row PySem.Challenge.rw_bothwire_k53_whole_chances_add_up
abbrev qV : Program := PySem.W.view RR.prog [88]
def kS (s : PySem.W.SharedT) : PySem.W.Frag := kOf (HandSHeadRun.getT s)
def ob (s : PySem.W.SharedT) : AlX := obsX (kS s)
theorem ob_eq (s : PySem.W.SharedT) : ob s = hookX.obs s.abs := by
  have e : HandSHeadRun.getT s = s.abs.heap.get? := funext (HandSHeadRun.getT_eq s)
  show obsX (kOf (HandSHeadRun.getT s)) = obsX (kOf s.abs.heap.get?)
  rw [e] <;> rfl
section
open HandSHeadRun PySem.W PySem.Calls
noncomputable def tops (w : World) (os : OsState) := endF (stepQ (denQ tabQ) RR.prog w) 20000 RR.prog w os
theorem t_looks (w : World) (os : OsState) : (tops w os).map (fun s => looksF RR.prog (boot_heap w.params) s.abs) = some true := by kernel_rfl
theorem t_seen (w : World) (os : OsState) : (tops w os).map (fun s => seenQ qV loose (importedModules RR.prog.main.body) (fun s => xlAt qV [] s && recOk RR.toRowW.records s) s.abs) = some (openGood qV loose) := by kernel_rfl
theorem t_facts (w : World) (os : OsState) : (tops w os).map (fun s => oFacts (kS s)) = some true := by kernel_rfl
theorem t_more (w : World) (os : OsState) : (tops w os).map (fun s => oMore (kS s)) = some true := by kernel_rfl
theorem t_defs (w : World) (os : OsState) : (tops w os).map (fun s => oDefs (kS s)) = some true := by kernel_rfl
theorem t_vals (w : World) (os : OsState) : (tops w os).map (fun s => fnsW (kS s) fns) = some (valsW fns) := by kernel_rfl
theorem map_of {A B : Type} {o : Option A} {f : A → B} {b : B} {a : A} (h : o.map f = some b) (e : o = some a) : f a = b := by
  rw [e] at h
  exact Option.some.inj h
theorem run_top (w : World) : RunEq RR qV hookX ob 20000 loose w := by
  intro os
  show (tops w os).map _ = _
  have h1 := t_looks w os
  have h2 := t_seen w os
  have h3 := t_facts w os
  have h4 := t_more w os
  have h5 := t_defs w os
  have h6 := t_vals w os
  cases e : tops w os with
  | none => rw [e] at h1; cases h1
  | some s =>
    have g1 := map_of h1 e
    have g2 := map_of h2 e
    have g3 := map_of h3 e
    have g4 := map_of h4 e
    have g5 := map_of h5 e
    have g6 := map_of h6 e
    refine congrArg some (Prod.ext g1 (Prod.ext g2 ?_))
    show ((oFacts (kS s), oMore (kS s), oDefs (kS s), fnsW (kS s) fns) : AlX) = (true, true, true, valsW fns)
    rw [g3, g4, g5, g6]
end
end BW

set_option Elab.async false
set_option linter.all false
set_option maxRecDepth 100000
set_option maxHeartbeats 4000000
namespace BW
open PySem PySem.Spec PyProof.Rows L2
/-! ### the head's facts, for the walks -/
structure Txt (K : PySem.W.Frag) (mg : Str → Option Value) : Prop where
  says : Says K
  gl : ∀ x : Str, (He.Fa.glo x).ok K = true → mg x = some (.ref (He.ga K x))
  fr : ∀ x : Str, (He.Fa.free x).ok K = true → mg x = none
  it : ∀ (x : Str) (i : Int), (He.Fa.int x i).ok K = true → ∃ t, mg x = some (.int i t)
  st : ∀ x z : Str, (He.Fa.str x z).ok K = true → ∃ t, mg x = some (.str z t)
theorem txt_of {K : PySem.W.Frag} {h : Heap} {mg : Str → Option Value} (X : K.In h) (G : h.Ns mainGlobals mg) (c : Says K) : Txt K mg :=
  ⟨c, fun _ z => He.glo_ok X G z, fun _ z => He.free_ok X G z, fun _ _ z => He.int_ok X G z, fun _ _ z => He.str_ok X G z⟩
abbrev FnF (K : PySem.W.Frag) (x qual : Str) (st : Stmt) (f : Addr) (fd : FuncData) : Prop := FunD K x qual (defArgs st) (defBody st) (defScope st) [] [] f fd
/-- an instance of the class at C: what isinstance asks -/
structure InstF (K : PySem.W.Frag) (C : Addr) : Prop where
  ha : PySem.W.findIn K (.ref C) "__class__" = some (some (.builtin "object.__class__"))
  hn : PySem.W.specialIn K (.builtin "object.__class__") "__get__" = some (some (.builtin "getset_descriptor.__get__"))
  ht : PySem.W.takesIn K (.builtin "object.__class__") = some true
  hm : PySem.W.mroIn K C (.type "object") = some true
theorem same_ok {K : PySem.W.Frag} {C D m : Str} (h : (Fx.same C D m).ok K = true) : He.ma K (He.ga K C) m = He.ma K (He.ga K D) m := of_decide_eq_true h
theorem kit_ok {K : PySem.W.Frag} {C D : Str} {b : Bool} (h : (Fx.kit C D b).ok K = true) : PySem.W.kitOne K (.ref (He.ga K C)) (.ref (He.ga K D)) = some b := of_decide_eq_true h
theorem inst_ok {K : PySem.W.Frag} {C : Str} (h : (Fx.inst C).ok K = true) : InstF K (He.ga K C) := by
  obtain ⟨h1, h2⟩ := He.ba h
  obtain ⟨h3, h4⟩ := He.ba h2
  obtain ⟨h5, h6⟩ := He.ba h4
  exact ⟨He.eqO_ok h1, He.eqO_ok h3, of_decide_eq_true h5, of_decide_eq_true h6⟩
theorem tupI_ok {K : PySem.W.Frag} {x : Str} {ns : List Int} (h : (Fx.tupI x ns).ok K = true) (H : Hp) : SqT K H (He.ga K x) (ns.map V.int) := by
  have z := He.tupB_ok (show He.tupB K x (ns.map He.Dv.int) = true from h) H
  rw [List.map_map] at z
  exact z
theorem tupD_ok {K : PySem.W.Frag} {x : Str} (h : (Fx.tupD x).ok K = true) : ∃ o, K.lookup (He.ga K x) = some o ∧ o.cls = .type "tuple" ∧ o.dict = none := by
  have h : (match K.lookup (He.ga K x) with
    | some o => decide (o.cls = .type "tuple") && o.dict.isNone
    | none => false) = true := h
  generalize K.lookup (He.ga K x) = r at h
  cases r with
  | none => exact Bool.noConfusion h
  | some o =>
    obtain ⟨h1, h2⟩ := He.ba h
    exact ⟨o, rfl, of_decide_eq_true h1, Option.isNone_iff_eq_none.mp h2⟩
theorem base_ok {K : PySem.W.Frag} {C m : Str} (h : (Fx.base C m).ok K = true) (hk : PySem.W.keepIn K (.ref (He.ma K (He.ga K C) m)) = true) : Base K (He.ga K C) m (He.ma K (He.ga K C) m) := by
  obtain ⟨h1, h2⟩ := He.ba h
  obtain ⟨h3, h4⟩ := He.ba h2
  refine ⟨h1, He.eqO_ok h3, ?_, hk⟩
  revert h4
  cases q : PySem.W.findCls K (.ref (He.ga K C)) (.type "type") m with
  | none => intro h4; cases h4
  | some r =>
    cases r with
    | get _ _ _ _ => intro h4; cases h4
    | val v =>
      cases v with
      | ref a => intro h4; rw [of_decide_eq_true h4]
      | _ => intro h4; cases h4
section
variable {K : PySem.W.Frag} {mg : Str → Option Value}
theorem Txt.g_is_whole (T : Txt K mg) : mg "is_whole" = some (.ref (He.ga K "is_whole")) := T.gl _ (T.says.sd.fact 0)
theorem Txt.g_lowest (T : Txt K mg) : mg "lowest" = some (.ref (He.ga K "lowest")) := T.gl _ (T.says.sd.fact 1)
theorem Txt.g_is_eighth (T : Txt K mg) : mg "is_eighth" = some (.ref (He.ga K "is_eighth")) := T.gl _ (T.says.sd.fact 2)
theorem Txt.g_rooted (T : Txt K mg) : mg "rooted" = some (.ref (He.ga K "rooted")) := T.gl _ (T.says.sd.fact 3)
theorem Txt.g_plus (T : Txt K mg) : mg "plus" = some (.ref (He.ga K "plus")) := T.gl _ (T.says.sd.fact 4)
theorem Txt.g_turned (T : Txt K mg) : mg "turned" = some (.ref (He.ga K "turned")) := T.gl _ (T.says.sd.fact 5)
theorem Txt.g_over_root (T : Txt K mg) : mg "over_root" = some (.ref (He.ga K "over_root")) := T.gl _ (T.says.sd.fact 6)
theorem Txt.g_lowest_length (T : Txt K mg) : mg "lowest_length" = some (.ref (He.ga K "lowest_length")) := T.gl _ (T.says.sd.fact 7)
theorem Txt.g_square (T : Txt K mg) : mg "square" = some (.ref (He.ga K "square")) := T.gl _ (T.says.sd.fact 8)
theorem Txt.g_length_sum (T : Txt K mg) : mg "length_sum" = some (.ref (He.ga K "length_sum")) := T.gl _ (T.says.sd.fact 9)
theorem Txt.g_is_above (T : Txt K mg) : mg "is_above" = some (.ref (He.ga K "is_above")) := T.gl _ (T.says.sd.fact 10)
theorem Txt.g_is_less (T : Txt K mg) : mg "is_less" = some (.ref (He.ga K "is_less")) := T.gl _ (T.says.sd.fact 11)
theorem Txt.g_put_bits (T : Txt K mg) : mg "put_bits" = some (.ref (He.ga K "put_bits")) := T.gl _ (T.says.sd.fact 12)
theorem Txt.g_single (T : Txt K mg) : mg "single" = some (.ref (He.ga K "single")) := T.gl _ (T.says.sd.fact 13)
theorem Txt.g_gate_of (T : Txt K mg) : mg "gate_of" = some (.ref (He.ga K "gate_of")) := T.gl _ (T.says.sd.fact 14)
theorem Txt.g_is_name (T : Txt K mg) : mg "is_name" = some (.ref (He.ga K "is_name")) := T.gl _ (T.says.sd.fact 15)
theorem Txt.g_is_gate (T : Txt K mg) : mg "is_gate" = some (.ref (He.ga K "is_gate")) := T.gl _ (T.says.sd.fact 16)
theorem Txt.g_is_reading (T : Txt K mg) : mg "is_reading" = some (.ref (He.ga K "is_reading")) := T.gl _ (T.says.sd.fact 17)
theorem Txt.g_is_asking (T : Txt K mg) : mg "is_asking" = some (.ref (He.ga K "is_asking")) := T.gl _ (T.says.sd.fact 18)
theorem Txt.g_looked (T : Txt K mg) : mg "looked" = some (.ref (He.ga K "looked")) := T.gl _ (T.says.sd.fact 19)
theorem Txt.g_half_of (T : Txt K mg) : mg "half_of" = some (.ref (He.ga K "half_of")) := T.gl _ (T.says.sd.fact 20)
theorem Txt.g_read_out (T : Txt K mg) : mg "read_out" = some (.ref (He.ga K "read_out")) := T.gl _ (T.says.sd.fact 21)
theorem Txt.g_asked (T : Txt K mg) : mg "asked" = some (.ref (He.ga K "asked")) := T.gl _ (T.says.sd.fact 22)
theorem Txt.g_run (T : Txt K mg) : mg "run" = some (.ref (He.ga K "run")) := T.gl _ (T.says.sd.fact 23)
theorem Txt.g_l_next (T : Txt K mg) : mg "_law_next" = some (.ref (He.ga K "_law_next")) := T.gl _ (T.says.sd.fact 24)
theorem Txt.g_l_cell (T : Txt K mg) : mg "_law_cell" = some (.ref (He.ga K "_law_cell")) := T.gl _ (T.says.sd.fact 25)
theorem Txt.g_l_state (T : Txt K mg) : mg "_law_state" = some (.ref (He.ga K "_law_state")) := T.gl _ (T.says.sd.fact 26)
theorem Txt.g_l_rooted (T : Txt K mg) : mg "_law_rooted" = some (.ref (He.ga K "_law_rooted")) := T.gl _ (T.says.sd.fact 27)
theorem Txt.g_l_lowest (T : Txt K mg) : mg "_law_lowest" = some (.ref (He.ga K "_law_lowest")) := T.gl _ (T.says.sd.fact 28)
theorem Txt.g_l_number (T : Txt K mg) : mg "_law_number" = some (.ref (He.ga K "_law_number")) := T.gl _ (T.says.sd.fact 29)
theorem Txt.g_l_eighth (T : Txt K mg) : mg "_law_eighth" = some (.ref (He.ga K "_law_eighth")) := T.gl _ (T.says.sd.fact 30)
theorem Txt.g_l_turned (T : Txt K mg) : mg "_law_turned" = some (.ref (He.ga K "_law_turned")) := T.gl _ (T.says.sd.fact 31)
theorem Txt.g_l_eighths (T : Txt K mg) : mg "_law_eighths" = some (.ref (He.ga K "_law_eighths")) := T.gl _ (T.says.sd.fact 32)
theorem Txt.g_l_drawn_gate (T : Txt K mg) : mg "_law_drawn_gate" = some (.ref (He.ga K "_law_drawn_gate")) := T.gl _ (T.says.sd.fact 33)
theorem Txt.g_l_rows (T : Txt K mg) : mg "_law_rows" = some (.ref (He.ga K "_law_rows")) := T.gl _ (T.says.sd.fact 34)
theorem Txt.g_l_made_row (T : Txt K mg) : mg "_law_made_row" = some (.ref (He.ga K "_law_made_row")) := T.gl _ (T.says.sd.fact 35)
theorem Txt.g_l_square (T : Txt K mg) : mg "_law_square" = some (.ref (He.ga K "_law_square")) := T.gl _ (T.says.sd.fact 36)
theorem Txt.g_l_low (T : Txt K mg) : mg "_law_low" = some (.ref (He.ga K "_law_low")) := T.gl _ (T.says.sd.fact 37)
theorem Txt.g_l_total (T : Txt K mg) : mg "_law_total" = some (.ref (He.ga K "_law_total")) := T.gl _ (T.says.sd.fact 38)
theorem Txt.g_law (T : Txt K mg) : mg "law" = some (.ref (He.ga K "law")) := T.gl _ (T.says.sd.fact 39)
theorem Txt.g_State (T : Txt K mg) : mg "State" = some (.ref (He.ga K "State")) := T.gl _ (T.says.sd.fact 40)
theorem Txt.g_Gate (T : Txt K mg) : mg "Gate" = some (.ref (He.ga K "Gate")) := T.gl _ (T.says.sd.fact 41)
theorem Txt.g_X (T : Txt K mg) : mg "X" = some (.ref (He.ga K "X")) := T.gl _ (T.says.sd.fact 42)
theorem Txt.g_Y (T : Txt K mg) : mg "Y" = some (.ref (He.ga K "Y")) := T.gl _ (T.says.sd.fact 43)
theorem Txt.g_Z (T : Txt K mg) : mg "Z" = some (.ref (He.ga K "Z")) := T.gl _ (T.says.sd.fact 44)
theorem Txt.g_S (T : Txt K mg) : mg "S" = some (.ref (He.ga K "S")) := T.gl _ (T.says.sd.fact 45)
theorem Txt.g_R (T : Txt K mg) : mg "R" = some (.ref (He.ga K "R")) := T.gl _ (T.says.sd.fact 46)
theorem Txt.g_T (T : Txt K mg) : mg "T" = some (.ref (He.ga K "T")) := T.gl _ (T.says.sd.fact 47)
theorem Txt.g_U (T : Txt K mg) : mg "U" = some (.ref (He.ga K "U")) := T.gl _ (T.says.sd.fact 48)
theorem Txt.g_H (T : Txt K mg) : mg "H" = some (.ref (He.ga K "H")) := T.gl _ (T.says.sd.fact 49)
theorem Txt.g_Cx (T : Txt K mg) : mg "Cx" = some (.ref (He.ga K "Cx")) := T.gl _ (T.says.sd.fact 50)
theorem Txt.g_Cz (T : Txt K mg) : mg "Cz" = some (.ref (He.ga K "Cz")) := T.gl _ (T.says.sd.fact 51)
theorem Txt.g_Swap (T : Txt K mg) : mg "Swap" = some (.ref (He.ga K "Swap")) := T.gl _ (T.says.sd.fact 52)
theorem Txt.g_Ccx (T : Txt K mg) : mg "Ccx" = some (.ref (He.ga K "Ccx")) := T.gl _ (T.says.sd.fact 53)
theorem Txt.g_Reading (T : Txt K mg) : mg "Reading" = some (.ref (He.ga K "Reading")) := T.gl _ (T.says.sd.fact 54)
theorem Txt.g_Asking (T : Txt K mg) : mg "Asking" = some (.ref (He.ga K "Asking")) := T.gl _ (T.says.sd.fact 55)
theorem Txt.g_Circuit (T : Txt K mg) : mg "Circuit" = some (.ref (He.ga K "Circuit")) := T.gl _ (T.says.sd.fact 56)
theorem Txt.g_NOUGHT (T : Txt K mg) : mg "NOUGHT" = some (.ref (He.ga K "NOUGHT")) := T.gl _ (T.says.sd.fact 57)
theorem Txt.g_SIZES (T : Txt K mg) : mg "SIZES" = some (.ref (He.ga K "SIZES")) := T.gl _ (T.says.sd.fact 58)
theorem Txt.b_isinstance (T : Txt K mg) : mg "isinstance" = none := T.fr _ (T.says.sd.fact 59)
theorem Txt.b_int (T : Txt K mg) : mg "int" = none := T.fr _ (T.says.sd.fact 60)
theorem Txt.b_bool (T : Txt K mg) : mg "bool" = none := T.fr _ (T.says.sd.fact 61)
theorem Txt.b_tuple (T : Txt K mg) : mg "tuple" = none := T.fr _ (T.says.sd.fact 62)
theorem Txt.b_list (T : Txt K mg) : mg "list" = none := T.fr _ (T.says.sd.fact 63)
theorem Txt.b_str (T : Txt K mg) : mg "str" = none := T.fr _ (T.says.sd.fact 64)
theorem Txt.b_len (T : Txt K mg) : mg "len" = none := T.fr _ (T.says.sd.fact 65)
theorem Txt.b_all (T : Txt K mg) : mg "all" = none := T.fr _ (T.says.sd.fact 66)
theorem Txt.b_max (T : Txt K mg) : mg "max" = none := T.fr _ (T.says.sd.fact 67)
theorem Txt.b_min (T : Txt K mg) : mg "min" = none := T.fr _ (T.says.sd.fact 68)
theorem Txt.b_sum (T : Txt K mg) : mg "sum" = none := T.fr _ (T.says.sd.fact 69)
theorem Txt.b_enumerate (T : Txt K mg) : mg "enumerate" = none := T.fr _ (T.says.sd.fact 70)
theorem Txt.b_range (T : Txt K mg) : mg "range" = none := T.fr _ (T.says.sd.fact 71)
theorem Txt.b_zip (T : Txt K mg) : mg "zip" = none := T.fr _ (T.says.sd.fact 72)
theorem Txt.b_reversed (T : Txt K mg) : mg "reversed" = none := T.fr _ (T.says.sd.fact 73)
theorem Txt.b_set (T : Txt K mg) : mg "set" = none := T.fr _ (T.says.sd.fact 74)
theorem Txt.i_MOST_WIRE (T : Txt K mg) : ∃ t, mg "MOST_WIRE" = some (.int 4 t) := T.it _ _ (T.says.sd.fact 75)
theorem Txt.i_MOST_LETTERS (T : Txt K mg) : ∃ t, mg "MOST_LETTERS" = some (.int 8 t) := T.it _ _ (T.says.sd.fact 76)
theorem Txt.i_MOST_WIRES (T : Txt K mg) : ∃ t, mg "MOST_WIRES" = some (.int 5 t) := T.it _ _ (T.says.sd.fact 77)
theorem Txt.i_MOST_ROWS (T : Txt K mg) : ∃ t, mg "MOST_ROWS" = some (.int 60 t) := T.it _ _ (T.says.sd.fact 78)
theorem Txt.i_MOST_READINGS (T : Txt K mg) : ∃ t, mg "MOST_READINGS" = some (.int 5 t) := T.it _ _ (T.says.sd.fact 79)
theorem Txt.s_LETTERS (T : Txt K mg) : ∃ t, mg "LETTERS" = some (.str "abcdefghijklmnopqrstuvwxyz" t) := T.st _ _ (T.says.sd.fact 80)
theorem Txt.c_State (T : Txt K mg) : Cls K (He.ga K "State") := He.cls_ok (T.says.sd.fact 81)
theorem Txt.c_X (T : Txt K mg) : Cls K (He.ga K "X") := He.cls_ok (T.says.sd.fact 82)
theorem Txt.c_Y (T : Txt K mg) : Cls K (He.ga K "Y") := He.cls_ok (T.says.sd.fact 83)
theorem Txt.c_Z (T : Txt K mg) : Cls K (He.ga K "Z") := He.cls_ok (T.says.sd.fact 84)
theorem Txt.c_S (T : Txt K mg) : Cls K (He.ga K "S") := He.cls_ok (T.says.sd.fact 85)
theorem Txt.c_R (T : Txt K mg) : Cls K (He.ga K "R") := He.cls_ok (T.says.sd.fact 86)
theorem Txt.c_T (T : Txt K mg) : Cls K (He.ga K "T") := He.cls_ok (T.says.sd.fact 87)
theorem Txt.c_U (T : Txt K mg) : Cls K (He.ga K "U") := He.cls_ok (T.says.sd.fact 88)
theorem Txt.c_H (T : Txt K mg) : Cls K (He.ga K "H") := He.cls_ok (T.says.sd.fact 89)
theorem Txt.c_Cx (T : Txt K mg) : Cls K (He.ga K "Cx") := He.cls_ok (T.says.sd.fact 90)
theorem Txt.c_Cz (T : Txt K mg) : Cls K (He.ga K "Cz") := He.cls_ok (T.says.sd.fact 91)
theorem Txt.c_Swap (T : Txt K mg) : Cls K (He.ga K "Swap") := He.cls_ok (T.says.sd.fact 92)
theorem Txt.c_Ccx (T : Txt K mg) : Cls K (He.ga K "Ccx") := He.cls_ok (T.says.sd.fact 93)
theorem Txt.c_Reading (T : Txt K mg) : Cls K (He.ga K "Reading") := He.cls_ok (T.says.sd.fact 94)
theorem Txt.c_Asking (T : Txt K mg) : Cls K (He.ga K "Asking") := He.cls_ok (T.says.sd.fact 95)
theorem Txt.c_Circuit (T : Txt K mg) : Cls K (He.ga K "Circuit") := He.cls_ok (T.says.sd.fact 96)
theorem Txt.n_State_kept (T : Txt K mg) : NoAttr K (He.ga K "State") "kept" := He.noat_ok (T.says.sd.fact 97)
theorem Txt.n_X_on_wires (T : Txt K mg) : NoAttr K (He.ga K "X") "on_wires" := He.noat_ok (T.says.sd.fact 98)
theorem Txt.n_Y_on_wires (T : Txt K mg) : NoAttr K (He.ga K "Y") "on_wires" := He.noat_ok (T.says.sd.fact 99)
theorem Txt.n_Z_on_wires (T : Txt K mg) : NoAttr K (He.ga K "Z") "on_wires" := He.noat_ok (T.says.sd.fact 100)
theorem Txt.n_S_on_wires (T : Txt K mg) : NoAttr K (He.ga K "S") "on_wires" := He.noat_ok (T.says.sd.fact 101)
theorem Txt.n_R_on_wires (T : Txt K mg) : NoAttr K (He.ga K "R") "on_wires" := He.noat_ok (T.says.sd.fact 102)
theorem Txt.n_T_on_wires (T : Txt K mg) : NoAttr K (He.ga K "T") "on_wires" := He.noat_ok (T.says.sd.fact 103)
theorem Txt.n_U_on_wires (T : Txt K mg) : NoAttr K (He.ga K "U") "on_wires" := He.noat_ok (T.says.sd.fact 104)
theorem Txt.n_H_on_wires (T : Txt K mg) : NoAttr K (He.ga K "H") "on_wires" := He.noat_ok (T.says.sd.fact 105)
theorem Txt.n_Cx_on_wires (T : Txt K mg) : NoAttr K (He.ga K "Cx") "on_wires" := He.noat_ok (T.says.sd.fact 106)
theorem Txt.n_Cz_on_wires (T : Txt K mg) : NoAttr K (He.ga K "Cz") "on_wires" := He.noat_ok (T.says.sd.fact 107)
theorem Txt.n_Swap_on_wires (T : Txt K mg) : NoAttr K (He.ga K "Swap") "on_wires" := He.noat_ok (T.says.sd.fact 108)
theorem Txt.n_Ccx_on_wires (T : Txt K mg) : NoAttr K (He.ga K "Ccx") "on_wires" := He.noat_ok (T.says.sd.fact 109)
theorem Txt.n_Reading_wire (T : Txt K mg) : NoAttr K (He.ga K "Reading") "wire" := He.noat_ok (T.says.sd.fact 110)
theorem Txt.n_Reading_bit (T : Txt K mg) : NoAttr K (He.ga K "Reading") "bit" := He.noat_ok (T.says.sd.fact 111)
theorem Txt.n_Asking_bit (T : Txt K mg) : NoAttr K (He.ga K "Asking") "bit" := He.noat_ok (T.says.sd.fact 112)
theorem Txt.n_Asking_value (T : Txt K mg) : NoAttr K (He.ga K "Asking") "value" := He.noat_ok (T.says.sd.fact 113)
theorem Txt.n_Asking_gate (T : Txt K mg) : NoAttr K (He.ga K "Asking") "gate" := He.noat_ok (T.says.sd.fact 114)
theorem Txt.n_Circuit_bits_read (T : Txt K mg) : NoAttr K (He.ga K "Circuit") "bits_read" := He.noat_ok (T.says.sd.fact 115)
theorem Txt.n_Circuit_size (T : Txt K mg) : NoAttr K (He.ga K "Circuit") "size" := He.noat_ok (T.says.sd.fact 116)
theorem Txt.n_Circuit_kept (T : Txt K mg) : NoAttr K (He.ga K "Circuit") "kept" := He.noat_ok (T.says.sd.fact 117)
theorem Txt.m_State_many (T : Txt K mg) : Meth K (He.ga K "State") "many" (He.ma K (He.ga K "State") "many") := He.meth_ok (T.says.sd.fact 118)
theorem Txt.m_State_eighths (T : Txt K mg) : Meth K (He.ga K "State") "eighths" (He.ma K (He.ga K "State") "eighths") := He.meth_ok (T.says.sd.fact 119)
theorem Txt.m_State_length (T : Txt K mg) : Meth K (He.ga K "State") "length" (He.ma K (He.ga K "State") "length") := He.meth_ok (T.says.sd.fact 120)
theorem Txt.m_X_wires (T : Txt K mg) : Meth K (He.ga K "X") "wires" (He.ma K (He.ga K "X") "wires") := He.meth_ok (T.says.sd.fact 121)
theorem Txt.m_X_back (T : Txt K mg) : Meth K (He.ga K "X") "back" (He.ma K (He.ga K "X") "back") := He.meth_ok (T.says.sd.fact 122)
theorem Txt.m_X_goes (T : Txt K mg) : Meth K (He.ga K "X") "goes" (He.ma K (He.ga K "X") "goes") := He.meth_ok (T.says.sd.fact 123)
theorem Txt.m_X_on (T : Txt K mg) : Meth K (He.ga K "X") "on" (He.ma K (He.ga K "X") "on") := He.meth_ok (T.says.sd.fact 124)
theorem Txt.m_Y_wires (T : Txt K mg) : Meth K (He.ga K "Y") "wires" (He.ma K (He.ga K "Y") "wires") := He.meth_ok (T.says.sd.fact 125)
theorem Txt.m_Y_back (T : Txt K mg) : Meth K (He.ga K "Y") "back" (He.ma K (He.ga K "Y") "back") := He.meth_ok (T.says.sd.fact 126)
theorem Txt.m_Y_goes (T : Txt K mg) : Meth K (He.ga K "Y") "goes" (He.ma K (He.ga K "Y") "goes") := He.meth_ok (T.says.sd.fact 127)
theorem Txt.m_Y_on (T : Txt K mg) : Meth K (He.ga K "Y") "on" (He.ma K (He.ga K "Y") "on") := He.meth_ok (T.says.sd.fact 128)
theorem Txt.m_Z_wires (T : Txt K mg) : Meth K (He.ga K "Z") "wires" (He.ma K (He.ga K "Z") "wires") := He.meth_ok (T.says.sd.fact 129)
theorem Txt.m_Z_back (T : Txt K mg) : Meth K (He.ga K "Z") "back" (He.ma K (He.ga K "Z") "back") := He.meth_ok (T.says.sd.fact 130)
theorem Txt.m_Z_goes (T : Txt K mg) : Meth K (He.ga K "Z") "goes" (He.ma K (He.ga K "Z") "goes") := He.meth_ok (T.says.sd.fact 131)
theorem Txt.m_Z_on (T : Txt K mg) : Meth K (He.ga K "Z") "on" (He.ma K (He.ga K "Z") "on") := He.meth_ok (T.says.sd.fact 132)
theorem Txt.m_S_wires (T : Txt K mg) : Meth K (He.ga K "S") "wires" (He.ma K (He.ga K "S") "wires") := He.meth_ok (T.says.sd.fact 133)
theorem Txt.m_S_back (T : Txt K mg) : Meth K (He.ga K "S") "back" (He.ma K (He.ga K "S") "back") := He.meth_ok (T.says.sd.fact 134)
theorem Txt.m_S_goes (T : Txt K mg) : Meth K (He.ga K "S") "goes" (He.ma K (He.ga K "S") "goes") := He.meth_ok (T.says.sd.fact 135)
theorem Txt.m_S_on (T : Txt K mg) : Meth K (He.ga K "S") "on" (He.ma K (He.ga K "S") "on") := He.meth_ok (T.says.sd.fact 136)
theorem Txt.m_R_wires (T : Txt K mg) : Meth K (He.ga K "R") "wires" (He.ma K (He.ga K "R") "wires") := He.meth_ok (T.says.sd.fact 137)
theorem Txt.m_R_back (T : Txt K mg) : Meth K (He.ga K "R") "back" (He.ma K (He.ga K "R") "back") := He.meth_ok (T.says.sd.fact 138)
theorem Txt.m_R_goes (T : Txt K mg) : Meth K (He.ga K "R") "goes" (He.ma K (He.ga K "R") "goes") := He.meth_ok (T.says.sd.fact 139)
theorem Txt.m_R_on (T : Txt K mg) : Meth K (He.ga K "R") "on" (He.ma K (He.ga K "R") "on") := He.meth_ok (T.says.sd.fact 140)
theorem Txt.m_T_wires (T : Txt K mg) : Meth K (He.ga K "T") "wires" (He.ma K (He.ga K "T") "wires") := He.meth_ok (T.says.sd.fact 141)
theorem Txt.m_T_back (T : Txt K mg) : Meth K (He.ga K "T") "back" (He.ma K (He.ga K "T") "back") := He.meth_ok (T.says.sd.fact 142)
theorem Txt.m_T_goes (T : Txt K mg) : Meth K (He.ga K "T") "goes" (He.ma K (He.ga K "T") "goes") := He.meth_ok (T.says.sd.fact 143)
theorem Txt.m_T_on (T : Txt K mg) : Meth K (He.ga K "T") "on" (He.ma K (He.ga K "T") "on") := He.meth_ok (T.says.sd.fact 144)
theorem Txt.m_U_wires (T : Txt K mg) : Meth K (He.ga K "U") "wires" (He.ma K (He.ga K "U") "wires") := He.meth_ok (T.says.sd.fact 145)
theorem Txt.m_U_back (T : Txt K mg) : Meth K (He.ga K "U") "back" (He.ma K (He.ga K "U") "back") := He.meth_ok (T.says.sd.fact 146)
theorem Txt.m_U_goes (T : Txt K mg) : Meth K (He.ga K "U") "goes" (He.ma K (He.ga K "U") "goes") := He.meth_ok (T.says.sd.fact 147)
theorem Txt.m_U_on (T : Txt K mg) : Meth K (He.ga K "U") "on" (He.ma K (He.ga K "U") "on") := He.meth_ok (T.says.sd.fact 148)
theorem Txt.m_H_wires (T : Txt K mg) : Meth K (He.ga K "H") "wires" (He.ma K (He.ga K "H") "wires") := He.meth_ok (T.says.sd.fact 149)
theorem Txt.m_H_back (T : Txt K mg) : Meth K (He.ga K "H") "back" (He.ma K (He.ga K "H") "back") := He.meth_ok (T.says.sd.fact 150)
theorem Txt.m_H_goes (T : Txt K mg) : Meth K (He.ga K "H") "goes" (He.ma K (He.ga K "H") "goes") := He.meth_ok (T.says.sd.fact 151)
theorem Txt.m_H_on (T : Txt K mg) : Meth K (He.ga K "H") "on" (He.ma K (He.ga K "H") "on") := He.meth_ok (T.says.sd.fact 152)
theorem Txt.m_Cx_wires (T : Txt K mg) : Meth K (He.ga K "Cx") "wires" (He.ma K (He.ga K "Cx") "wires") := He.meth_ok (T.says.sd.fact 153)
theorem Txt.m_Cx_back (T : Txt K mg) : Meth K (He.ga K "Cx") "back" (He.ma K (He.ga K "Cx") "back") := He.meth_ok (T.says.sd.fact 154)
theorem Txt.m_Cx_goes (T : Txt K mg) : Meth K (He.ga K "Cx") "goes" (He.ma K (He.ga K "Cx") "goes") := He.meth_ok (T.says.sd.fact 155)
theorem Txt.m_Cx_on (T : Txt K mg) : Meth K (He.ga K "Cx") "on" (He.ma K (He.ga K "Cx") "on") := He.meth_ok (T.says.sd.fact 156)
theorem Txt.m_Cz_wires (T : Txt K mg) : Meth K (He.ga K "Cz") "wires" (He.ma K (He.ga K "Cz") "wires") := He.meth_ok (T.says.sd.fact 157)
theorem Txt.m_Cz_back (T : Txt K mg) : Meth K (He.ga K "Cz") "back" (He.ma K (He.ga K "Cz") "back") := He.meth_ok (T.says.sd.fact 158)
theorem Txt.m_Cz_goes (T : Txt K mg) : Meth K (He.ga K "Cz") "goes" (He.ma K (He.ga K "Cz") "goes") := He.meth_ok (T.says.sd.fact 159)
theorem Txt.m_Cz_on (T : Txt K mg) : Meth K (He.ga K "Cz") "on" (He.ma K (He.ga K "Cz") "on") := He.meth_ok (T.says.sd.fact 160)
theorem Txt.m_Swap_wires (T : Txt K mg) : Meth K (He.ga K "Swap") "wires" (He.ma K (He.ga K "Swap") "wires") := He.meth_ok (T.says.sd.fact 161)
theorem Txt.m_Swap_back (T : Txt K mg) : Meth K (He.ga K "Swap") "back" (He.ma K (He.ga K "Swap") "back") := He.meth_ok (T.says.sd.fact 162)
theorem Txt.m_Swap_goes (T : Txt K mg) : Meth K (He.ga K "Swap") "goes" (He.ma K (He.ga K "Swap") "goes") := He.meth_ok (T.says.sd.fact 163)
theorem Txt.m_Swap_on (T : Txt K mg) : Meth K (He.ga K "Swap") "on" (He.ma K (He.ga K "Swap") "on") := He.meth_ok (T.says.sd.fact 164)
theorem Txt.m_Ccx_wires (T : Txt K mg) : Meth K (He.ga K "Ccx") "wires" (He.ma K (He.ga K "Ccx") "wires") := He.meth_ok (T.says.sd.fact 165)
theorem Txt.m_Ccx_back (T : Txt K mg) : Meth K (He.ga K "Ccx") "back" (He.ma K (He.ga K "Ccx") "back") := He.meth_ok (T.says.sd.fact 166)
theorem Txt.m_Ccx_goes (T : Txt K mg) : Meth K (He.ga K "Ccx") "goes" (He.ma K (He.ga K "Ccx") "goes") := He.meth_ok (T.says.sd.fact 167)
theorem Txt.m_Ccx_on (T : Txt K mg) : Meth K (He.ga K "Ccx") "on" (He.ma K (He.ga K "Ccx") "on") := He.meth_ok (T.says.sd.fact 168)
theorem Txt.m_Z_turns (T : Txt K mg) : Meth K (He.ga K "Z") "turns" (He.ma K (He.ga K "Z") "turns") := He.meth_ok (T.says.sd.fact 169)
theorem Txt.m_S_turns (T : Txt K mg) : Meth K (He.ga K "S") "turns" (He.ma K (He.ga K "S") "turns") := He.meth_ok (T.says.sd.fact 170)
theorem Txt.m_R_turns (T : Txt K mg) : Meth K (He.ga K "R") "turns" (He.ma K (He.ga K "R") "turns") := He.meth_ok (T.says.sd.fact 171)
theorem Txt.m_T_turns (T : Txt K mg) : Meth K (He.ga K "T") "turns" (He.ma K (He.ga K "T") "turns") := He.meth_ok (T.says.sd.fact 172)
theorem Txt.m_U_turns (T : Txt K mg) : Meth K (He.ga K "U") "turns" (He.ma K (He.ga K "U") "turns") := He.meth_ok (T.says.sd.fact 173)
theorem Txt.m_Circuit_many (T : Txt K mg) : Meth K (He.ga K "Circuit") "many" (He.ma K (He.ga K "Circuit") "many") := He.meth_ok (T.says.sd.fact 174)
theorem Txt.m_Circuit_rows (T : Txt K mg) : Meth K (He.ga K "Circuit") "rows" (He.ma K (He.ga K "Circuit") "rows") := He.meth_ok (T.says.sd.fact 175)
theorem Txt.m_Circuit_bits (T : Txt K mg) : Meth K (He.ga K "Circuit") "bits" (He.ma K (He.ga K "Circuit") "bits") := He.meth_ok (T.says.sd.fact 176)
theorem Txt.m_Circuit_is_plain (T : Txt K mg) : Meth K (He.ga K "Circuit") "is_plain" (He.ma K (He.ga K "Circuit") "is_plain") := He.meth_ok (T.says.sd.fact 177)
theorem Txt.m_Circuit_back (T : Txt K mg) : Meth K (He.ga K "Circuit") "back" (He.ma K (He.ga K "Circuit") "back") := He.meth_ok (T.says.sd.fact 178)
theorem Txt.k_State (T : Txt K mg) : Mk K (He.ga K "State") (He.ma K (He.ga K "State") "__init__") := He.mkr_ok (T.says.sd.fact 179)
theorem Txt.k_X (T : Txt K mg) : Mk K (He.ga K "X") (He.ma K (He.ga K "X") "__init__") := He.mkr_ok (T.says.sd.fact 180)
theorem Txt.k_Y (T : Txt K mg) : Mk K (He.ga K "Y") (He.ma K (He.ga K "Y") "__init__") := He.mkr_ok (T.says.sd.fact 181)
theorem Txt.k_Z (T : Txt K mg) : Mk K (He.ga K "Z") (He.ma K (He.ga K "Z") "__init__") := He.mkr_ok (T.says.sd.fact 182)
theorem Txt.k_S (T : Txt K mg) : Mk K (He.ga K "S") (He.ma K (He.ga K "S") "__init__") := He.mkr_ok (T.says.sd.fact 183)
theorem Txt.k_R (T : Txt K mg) : Mk K (He.ga K "R") (He.ma K (He.ga K "R") "__init__") := He.mkr_ok (T.says.sd.fact 184)
theorem Txt.k_T (T : Txt K mg) : Mk K (He.ga K "T") (He.ma K (He.ga K "T") "__init__") := He.mkr_ok (T.says.sd.fact 185)
theorem Txt.k_U (T : Txt K mg) : Mk K (He.ga K "U") (He.ma K (He.ga K "U") "__init__") := He.mkr_ok (T.says.sd.fact 186)
theorem Txt.k_H (T : Txt K mg) : Mk K (He.ga K "H") (He.ma K (He.ga K "H") "__init__") := He.mkr_ok (T.says.sd.fact 187)
theorem Txt.k_Cx (T : Txt K mg) : Mk K (He.ga K "Cx") (He.ma K (He.ga K "Cx") "__init__") := He.mkr_ok (T.says.sd.fact 188)
theorem Txt.k_Cz (T : Txt K mg) : Mk K (He.ga K "Cz") (He.ma K (He.ga K "Cz") "__init__") := He.mkr_ok (T.says.sd.fact 189)
theorem Txt.k_Swap (T : Txt K mg) : Mk K (He.ga K "Swap") (He.ma K (He.ga K "Swap") "__init__") := He.mkr_ok (T.says.sd.fact 190)
theorem Txt.k_Ccx (T : Txt K mg) : Mk K (He.ga K "Ccx") (He.ma K (He.ga K "Ccx") "__init__") := He.mkr_ok (T.says.sd.fact 191)
theorem Txt.k_Reading (T : Txt K mg) : Mk K (He.ga K "Reading") (He.ma K (He.ga K "Reading") "__init__") := He.mkr_ok (T.says.sd.fact 192)
theorem Txt.k_Asking (T : Txt K mg) : Mk K (He.ga K "Asking") (He.ma K (He.ga K "Asking") "__init__") := He.mkr_ok (T.says.sd.fact 193)
theorem Txt.k_Circuit (T : Txt K mg) : Mk K (He.ga K "Circuit") (He.ma K (He.ga K "Circuit") "__init__") := He.mkr_ok (T.says.sd.fact 194)
theorem Txt.d_is_whole (T : Txt K mg) : ∃ fd, FnF K "is_whole" "is_whole" s_is_whole (He.ga K "is_whole") fd := T.says.sd.def_ 0 (d := BW.d_is_whole)
theorem Txt.d_lowest (T : Txt K mg) : ∃ fd, FnF K "lowest" "lowest" s_lowest (He.ga K "lowest") fd := T.says.sd.def_ 1 (d := BW.d_lowest)
theorem Txt.d_is_eighth (T : Txt K mg) : ∃ fd, FnF K "is_eighth" "is_eighth" s_is_eighth (He.ga K "is_eighth") fd := T.says.sd.def_ 2 (d := BW.d_is_eighth)
theorem Txt.d_rooted (T : Txt K mg) : ∃ fd, FnF K "rooted" "rooted" s_rooted (He.ga K "rooted") fd := T.says.sd.def_ 3 (d := BW.d_rooted)
theorem Txt.d_plus (T : Txt K mg) : ∃ fd, FnF K "plus" "plus" s_plus (He.ga K "plus") fd := T.says.sd.def_ 4 (d := BW.d_plus)
theorem Txt.d_turned (T : Txt K mg) : ∃ fd, FnF K "turned" "turned" s_turned (He.ga K "turned") fd := T.says.sd.def_ 5 (d := BW.d_turned)
theorem Txt.d_over_root (T : Txt K mg) : ∃ fd, FnF K "over_root" "over_root" s_over_root (He.ga K "over_root") fd := T.says.sd.def_ 6 (d := BW.d_over_root)
theorem Txt.d_lowest_length (T : Txt K mg) : ∃ fd, FnF K "lowest_length" "lowest_length" s_lowest_length (He.ga K "lowest_length") fd := T.says.sd.def_ 7 (d := BW.d_lowest_length)
theorem Txt.d_square (T : Txt K mg) : ∃ fd, FnF K "square" "square" s_square (He.ga K "square") fd := T.says.sd.def_ 8 (d := BW.d_square)
theorem Txt.d_length_sum (T : Txt K mg) : ∃ fd, FnF K "length_sum" "length_sum" s_length_sum (He.ga K "length_sum") fd := T.says.sd.def_ 9 (d := BW.d_length_sum)
theorem Txt.d_is_above (T : Txt K mg) : ∃ fd, FnF K "is_above" "is_above" s_is_above (He.ga K "is_above") fd := T.says.sd.def_ 10 (d := BW.d_is_above)
theorem Txt.d_is_less (T : Txt K mg) : ∃ fd, FnF K "is_less" "is_less" s_is_less (He.ga K "is_less") fd := T.says.sd.def_ 11 (d := BW.d_is_less)
theorem Txt.d_State_init (T : Txt K mg) : ∃ fd, FnF K "__init__" "State.__init__" s_State_init (He.ma K (He.ga K "State") "__init__") fd := T.says.sd.def_ 12 (d := BW.d_State_init)
theorem Txt.d_State_many (T : Txt K mg) : ∃ fd, FnF K "many" "State.many" s_State_many (He.ma K (He.ga K "State") "many") fd := T.says.sd.def_ 13 (d := BW.d_State_many)
theorem Txt.d_State_eighths (T : Txt K mg) : ∃ fd, FnF K "eighths" "State.eighths" s_State_eighths (He.ma K (He.ga K "State") "eighths") fd := T.says.sd.def_ 14 (d := BW.d_State_eighths)
theorem Txt.d_State_length (T : Txt K mg) : ∃ fd, FnF K "length" "State.length" s_State_length (He.ma K (He.ga K "State") "length") fd := T.says.sd.def_ 15 (d := BW.d_State_length)
theorem Txt.d_Gate_init (T : Txt K mg) : ∃ fd, FnF K "__init__" "Gate.__init__" s_Gate_init (He.ma K (He.ga K "Gate") "__init__") fd := T.says.sd.def_ 16 (d := BW.d_Gate_init)
theorem Txt.d_Gate_wires (T : Txt K mg) : ∃ fd, FnF K "wires" "Gate.wires" s_Gate_wires (He.ma K (He.ga K "Gate") "wires") fd := T.says.sd.def_ 17 (d := BW.d_Gate_wires)
theorem Txt.d_Gate_back (T : Txt K mg) : ∃ fd, FnF K "back" "Gate.back" s_Gate_back (He.ma K (He.ga K "Gate") "back") fd := T.says.sd.def_ 18 (d := BW.d_Gate_back)
theorem Txt.d_Gate_on (T : Txt K mg) : ∃ fd, FnF K "on" "Gate.on" s_Gate_on (He.ma K (He.ga K "Gate") "on") fd := T.says.sd.def_ 19 (d := BW.d_Gate_on)
theorem Txt.d_put_bits (T : Txt K mg) : ∃ fd, FnF K "put_bits" "put_bits" s_put_bits (He.ga K "put_bits") fd := T.says.sd.def_ 20 (d := BW.d_put_bits)
theorem Txt.d_X_init (T : Txt K mg) : ∃ fd, FnF K "__init__" "X.__init__" s_X_init (He.ma K (He.ga K "X") "__init__") fd := T.says.sd.def_ 21 (d := BW.d_X_init)
theorem Txt.d_X_goes (T : Txt K mg) : ∃ fd, FnF K "goes" "X.goes" s_X_goes (He.ma K (He.ga K "X") "goes") fd := T.says.sd.def_ 22 (d := BW.d_X_goes)
theorem Txt.d_Y_init (T : Txt K mg) : ∃ fd, FnF K "__init__" "Y.__init__" s_Y_init (He.ma K (He.ga K "Y") "__init__") fd := T.says.sd.def_ 23 (d := BW.d_Y_init)
theorem Txt.d_Y_goes (T : Txt K mg) : ∃ fd, FnF K "goes" "Y.goes" s_Y_goes (He.ma K (He.ga K "Y") "goes") fd := T.says.sd.def_ 24 (d := BW.d_Y_goes)
theorem Txt.d_Turner_init (T : Txt K mg) : ∃ fd, FnF K "__init__" "Turner.__init__" s_Turner_init (He.ma K (He.ga K "Turner") "__init__") fd := T.says.sd.def_ 25 (d := BW.d_Turner_init)
theorem Txt.d_Turner_goes (T : Txt K mg) : ∃ fd, FnF K "goes" "Turner.goes" s_Turner_goes (He.ma K (He.ga K "Turner") "goes") fd := T.says.sd.def_ 26 (d := BW.d_Turner_goes)
theorem Txt.d_Z_turns (T : Txt K mg) : ∃ fd, FnF K "turns" "Z.turns" s_Z_turns (He.ma K (He.ga K "Z") "turns") fd := T.says.sd.def_ 27 (d := BW.d_Z_turns)
theorem Txt.d_S_turns (T : Txt K mg) : ∃ fd, FnF K "turns" "S.turns" s_S_turns (He.ma K (He.ga K "S") "turns") fd := T.says.sd.def_ 28 (d := BW.d_S_turns)
theorem Txt.d_S_back (T : Txt K mg) : ∃ fd, FnF K "back" "S.back" s_S_back (He.ma K (He.ga K "S") "back") fd := T.says.sd.def_ 29 (d := BW.d_S_back)
theorem Txt.d_R_turns (T : Txt K mg) : ∃ fd, FnF K "turns" "R.turns" s_R_turns (He.ma K (He.ga K "R") "turns") fd := T.says.sd.def_ 30 (d := BW.d_R_turns)
theorem Txt.d_R_back (T : Txt K mg) : ∃ fd, FnF K "back" "R.back" s_R_back (He.ma K (He.ga K "R") "back") fd := T.says.sd.def_ 31 (d := BW.d_R_back)
theorem Txt.d_T_turns (T : Txt K mg) : ∃ fd, FnF K "turns" "T.turns" s_T_turns (He.ma K (He.ga K "T") "turns") fd := T.says.sd.def_ 32 (d := BW.d_T_turns)
theorem Txt.d_T_back (T : Txt K mg) : ∃ fd, FnF K "back" "T.back" s_T_back (He.ma K (He.ga K "T") "back") fd := T.says.sd.def_ 33 (d := BW.d_T_back)
theorem Txt.d_U_turns (T : Txt K mg) : ∃ fd, FnF K "turns" "U.turns" s_U_turns (He.ma K (He.ga K "U") "turns") fd := T.says.sd.def_ 34 (d := BW.d_U_turns)
theorem Txt.d_U_back (T : Txt K mg) : ∃ fd, FnF K "back" "U.back" s_U_back (He.ma K (He.ga K "U") "back") fd := T.says.sd.def_ 35 (d := BW.d_U_back)
theorem Txt.d_H_init (T : Txt K mg) : ∃ fd, FnF K "__init__" "H.__init__" s_H_init (He.ma K (He.ga K "H") "__init__") fd := T.says.sd.def_ 36 (d := BW.d_H_init)
theorem Txt.d_H_goes (T : Txt K mg) : ∃ fd, FnF K "goes" "H.goes" s_H_goes (He.ma K (He.ga K "H") "goes") fd := T.says.sd.def_ 37 (d := BW.d_H_goes)
theorem Txt.d_Cx_init (T : Txt K mg) : ∃ fd, FnF K "__init__" "Cx.__init__" s_Cx_init (He.ma K (He.ga K "Cx") "__init__") fd := T.says.sd.def_ 38 (d := BW.d_Cx_init)
theorem Txt.d_Cx_goes (T : Txt K mg) : ∃ fd, FnF K "goes" "Cx.goes" s_Cx_goes (He.ma K (He.ga K "Cx") "goes") fd := T.says.sd.def_ 39 (d := BW.d_Cx_goes)
theorem Txt.d_Cz_init (T : Txt K mg) : ∃ fd, FnF K "__init__" "Cz.__init__" s_Cz_init (He.ma K (He.ga K "Cz") "__init__") fd := T.says.sd.def_ 40 (d := BW.d_Cz_init)
theorem Txt.d_Cz_goes (T : Txt K mg) : ∃ fd, FnF K "goes" "Cz.goes" s_Cz_goes (He.ma K (He.ga K "Cz") "goes") fd := T.says.sd.def_ 41 (d := BW.d_Cz_goes)
theorem Txt.d_Swap_init (T : Txt K mg) : ∃ fd, FnF K "__init__" "Swap.__init__" s_Swap_init (He.ma K (He.ga K "Swap") "__init__") fd := T.says.sd.def_ 42 (d := BW.d_Swap_init)
theorem Txt.d_Swap_goes (T : Txt K mg) : ∃ fd, FnF K "goes" "Swap.goes" s_Swap_goes (He.ma K (He.ga K "Swap") "goes") fd := T.says.sd.def_ 43 (d := BW.d_Swap_goes)
theorem Txt.d_Ccx_init (T : Txt K mg) : ∃ fd, FnF K "__init__" "Ccx.__init__" s_Ccx_init (He.ma K (He.ga K "Ccx") "__init__") fd := T.says.sd.def_ 44 (d := BW.d_Ccx_init)
theorem Txt.d_Ccx_goes (T : Txt K mg) : ∃ fd, FnF K "goes" "Ccx.goes" s_Ccx_goes (He.ma K (He.ga K "Ccx") "goes") fd := T.says.sd.def_ 45 (d := BW.d_Ccx_goes)
theorem Txt.d_single (T : Txt K mg) : ∃ fd, FnF K "single" "single" s_single (He.ga K "single") fd := T.says.sd.def_ 46 (d := BW.d_single)
theorem Txt.d_gate_of (T : Txt K mg) : ∃ fd, FnF K "gate_of" "gate_of" s_gate_of (He.ga K "gate_of") fd := T.says.sd.def_ 47 (d := BW.d_gate_of)
theorem Txt.d_is_name (T : Txt K mg) : ∃ fd, FnF K "is_name" "is_name" s_is_name (He.ga K "is_name") fd := T.says.sd.def_ 48 (d := BW.d_is_name)
theorem Txt.d_Reading_init (T : Txt K mg) : ∃ fd, FnF K "__init__" "Reading.__init__" s_Reading_init (He.ma K (He.ga K "Reading") "__init__") fd := T.says.sd.def_ 49 (d := BW.d_Reading_init)
theorem Txt.d_Asking_init (T : Txt K mg) : ∃ fd, FnF K "__init__" "Asking.__init__" s_Asking_init (He.ma K (He.ga K "Asking") "__init__") fd := T.says.sd.def_ 50 (d := BW.d_Asking_init)
theorem Txt.d_is_gate (T : Txt K mg) : ∃ fd, FnF K "is_gate" "is_gate" s_is_gate (He.ga K "is_gate") fd := T.says.sd.def_ 51 (d := BW.d_is_gate)
theorem Txt.d_is_reading (T : Txt K mg) : ∃ fd, FnF K "is_reading" "is_reading" s_is_reading (He.ga K "is_reading") fd := T.says.sd.def_ 52 (d := BW.d_is_reading)
theorem Txt.d_is_asking (T : Txt K mg) : ∃ fd, FnF K "is_asking" "is_asking" s_is_asking (He.ga K "is_asking") fd := T.says.sd.def_ 53 (d := BW.d_is_asking)
theorem Txt.d_looked (T : Txt K mg) : ∃ fd, FnF K "looked" "looked" s_looked (He.ga K "looked") fd := T.says.sd.def_ 54 (d := BW.d_looked)
theorem Txt.d_Circuit_init (T : Txt K mg) : ∃ fd, FnF K "__init__" "Circuit.__init__" s_Circuit_init (He.ma K (He.ga K "Circuit") "__init__") fd := T.says.sd.def_ 55 (d := BW.d_Circuit_init)
theorem Txt.d_Circuit_many (T : Txt K mg) : ∃ fd, FnF K "many" "Circuit.many" s_Circuit_many (He.ma K (He.ga K "Circuit") "many") fd := T.says.sd.def_ 56 (d := BW.d_Circuit_many)
theorem Txt.d_Circuit_rows (T : Txt K mg) : ∃ fd, FnF K "rows" "Circuit.rows" s_Circuit_rows (He.ma K (He.ga K "Circuit") "rows") fd := T.says.sd.def_ 57 (d := BW.d_Circuit_rows)
theorem Txt.d_Circuit_bits (T : Txt K mg) : ∃ fd, FnF K "bits" "Circuit.bits" s_Circuit_bits (He.ma K (He.ga K "Circuit") "bits") fd := T.says.sd.def_ 58 (d := BW.d_Circuit_bits)
theorem Txt.d_Circuit_is_plain (T : Txt K mg) : ∃ fd, FnF K "is_plain" "Circuit.is_plain" s_Circuit_is_plain (He.ma K (He.ga K "Circuit") "is_plain") fd := T.says.sd.def_ 59 (d := BW.d_Circuit_is_plain)
theorem Txt.d_Circuit_back (T : Txt K mg) : ∃ fd, FnF K "back" "Circuit.back" s_Circuit_back (He.ma K (He.ga K "Circuit") "back") fd := T.says.sd.def_ 60 (d := BW.d_Circuit_back)
theorem Txt.d_half_of (T : Txt K mg) : ∃ fd, FnF K "half_of" "half_of" s_half_of (He.ga K "half_of") fd := T.says.sd.def_ 61 (d := BW.d_half_of)
theorem Txt.d_read_out (T : Txt K mg) : ∃ fd, FnF K "read_out" "read_out" s_read_out (He.ga K "read_out") fd := T.says.sd.def_ 62 (d := BW.d_read_out)
theorem Txt.d_asked (T : Txt K mg) : ∃ fd, FnF K "asked" "asked" s_asked (He.ga K "asked") fd := T.says.sd.def_ 63 (d := BW.d_asked)
theorem Txt.d_run (T : Txt K mg) : ∃ fd, FnF K "run" "run" s_run (He.ga K "run") fd := T.says.sd.def_ 64 (d := BW.d_run)
theorem Txt.d_l_next (T : Txt K mg) : ∃ fd, FnF K "_law_next" "_law_next" s_l_next (He.ga K "_law_next") fd := T.says.sd.def_ 65 (d := BW.d_l_next)
theorem Txt.d_l_cell (T : Txt K mg) : ∃ fd, FnF K "_law_cell" "_law_cell" s_l_cell (He.ga K "_law_cell") fd := T.says.sd.def_ 66 (d := BW.d_l_cell)
theorem Txt.d_l_state (T : Txt K mg) : ∃ fd, FnF K "_law_state" "_law_state" s_l_state (He.ga K "_law_state") fd := T.says.sd.def_ 67 (d := BW.d_l_state)
theorem Txt.d_l_rooted (T : Txt K mg) : ∃ fd, FnF K "_law_rooted" "_law_rooted" s_l_rooted (He.ga K "_law_rooted") fd := T.says.sd.def_ 68 (d := BW.d_l_rooted)
theorem Txt.d_l_lowest (T : Txt K mg) : ∃ fd, FnF K "_law_lowest" "_law_lowest" s_l_lowest (He.ga K "_law_lowest") fd := T.says.sd.def_ 69 (d := BW.d_l_lowest)
theorem Txt.d_l_number (T : Txt K mg) : ∃ fd, FnF K "_law_number" "_law_number" s_l_number (He.ga K "_law_number") fd := T.says.sd.def_ 70 (d := BW.d_l_number)
theorem Txt.d_l_eighth (T : Txt K mg) : ∃ fd, FnF K "_law_eighth" "_law_eighth" s_l_eighth (He.ga K "_law_eighth") fd := T.says.sd.def_ 71 (d := BW.d_l_eighth)
theorem Txt.d_l_turned (T : Txt K mg) : ∃ fd, FnF K "_law_turned" "_law_turned" s_l_turned (He.ga K "_law_turned") fd := T.says.sd.def_ 72 (d := BW.d_l_turned)
theorem Txt.d_l_eighths (T : Txt K mg) : ∃ fd, FnF K "_law_eighths" "_law_eighths" s_l_eighths (He.ga K "_law_eighths") fd := T.says.sd.def_ 73 (d := BW.d_l_eighths)
theorem Txt.d_l_drawn_gate (T : Txt K mg) : ∃ fd, FnF K "_law_drawn_gate" "_law_drawn_gate" s_l_drawn_gate (He.ga K "_law_drawn_gate") fd := T.says.sd.def_ 74 (d := BW.d_l_drawn_gate)
theorem Txt.d_l_rows (T : Txt K mg) : ∃ fd, FnF K "_law_rows" "_law_rows" s_l_rows (He.ga K "_law_rows") fd := T.says.sd.def_ 75 (d := BW.d_l_rows)
theorem Txt.d_l_made_row (T : Txt K mg) : ∃ fd, FnF K "_law_made_row" "_law_made_row" s_l_made_row (He.ga K "_law_made_row") fd := T.says.sd.def_ 76 (d := BW.d_l_made_row)
theorem Txt.d_l_square (T : Txt K mg) : ∃ fd, FnF K "_law_square" "_law_square" s_l_square (He.ga K "_law_square") fd := T.says.sd.def_ 77 (d := BW.d_l_square)
theorem Txt.d_l_low (T : Txt K mg) : ∃ fd, FnF K "_law_low" "_law_low" s_l_low (He.ga K "_law_low") fd := T.says.sd.def_ 78 (d := BW.d_l_low)
theorem Txt.d_l_total (T : Txt K mg) : ∃ fd, FnF K "_law_total" "_law_total" s_l_total (He.ga K "_law_total") fd := T.says.sd.def_ 79 (d := BW.d_l_total)
theorem Txt.d_law (T : Txt K mg) : ∃ fd, FnF K "law" "law" s_law (He.ga K "law") fd := T.says.sd.def_ 80 (d := BW.d_law)
theorem Txt.e_on_X (T : Txt K mg) : He.ma K (He.ga K "X") "on" = He.ma K (He.ga K "Gate") "on" := same_ok (T.says.ex 0)
theorem Txt.e_wires_X (T : Txt K mg) : He.ma K (He.ga K "X") "wires" = He.ma K (He.ga K "Gate") "wires" := same_ok (T.says.ex 1)
theorem Txt.e_back_X (T : Txt K mg) : He.ma K (He.ga K "X") "back" = He.ma K (He.ga K "Gate") "back" := same_ok (T.says.ex 2)
theorem Txt.e_on_Y (T : Txt K mg) : He.ma K (He.ga K "Y") "on" = He.ma K (He.ga K "Gate") "on" := same_ok (T.says.ex 3)
theorem Txt.e_wires_Y (T : Txt K mg) : He.ma K (He.ga K "Y") "wires" = He.ma K (He.ga K "Gate") "wires" := same_ok (T.says.ex 4)
theorem Txt.e_back_Y (T : Txt K mg) : He.ma K (He.ga K "Y") "back" = He.ma K (He.ga K "Gate") "back" := same_ok (T.says.ex 5)
theorem Txt.e_on_Z (T : Txt K mg) : He.ma K (He.ga K "Z") "on" = He.ma K (He.ga K "Gate") "on" := same_ok (T.says.ex 6)
theorem Txt.e_wires_Z (T : Txt K mg) : He.ma K (He.ga K "Z") "wires" = He.ma K (He.ga K "Gate") "wires" := same_ok (T.says.ex 7)
theorem Txt.e_back_Z (T : Txt K mg) : He.ma K (He.ga K "Z") "back" = He.ma K (He.ga K "Gate") "back" := same_ok (T.says.ex 8)
theorem Txt.e_goes_Z (T : Txt K mg) : He.ma K (He.ga K "Z") "goes" = He.ma K (He.ga K "Turner") "goes" := same_ok (T.says.ex 9)
theorem Txt.e_init_Z (T : Txt K mg) : He.ma K (He.ga K "Z") "__init__" = He.ma K (He.ga K "Turner") "__init__" := same_ok (T.says.ex 10)
theorem Txt.e_on_S (T : Txt K mg) : He.ma K (He.ga K "S") "on" = He.ma K (He.ga K "Gate") "on" := same_ok (T.says.ex 11)
theorem Txt.e_wires_S (T : Txt K mg) : He.ma K (He.ga K "S") "wires" = He.ma K (He.ga K "Gate") "wires" := same_ok (T.says.ex 12)
theorem Txt.e_goes_S (T : Txt K mg) : He.ma K (He.ga K "S") "goes" = He.ma K (He.ga K "Turner") "goes" := same_ok (T.says.ex 13)
theorem Txt.e_init_S (T : Txt K mg) : He.ma K (He.ga K "S") "__init__" = He.ma K (He.ga K "Turner") "__init__" := same_ok (T.says.ex 14)
theorem Txt.e_on_R (T : Txt K mg) : He.ma K (He.ga K "R") "on" = He.ma K (He.ga K "Gate") "on" := same_ok (T.says.ex 15)
theorem Txt.e_wires_R (T : Txt K mg) : He.ma K (He.ga K "R") "wires" = He.ma K (He.ga K "Gate") "wires" := same_ok (T.says.ex 16)
theorem Txt.e_goes_R (T : Txt K mg) : He.ma K (He.ga K "R") "goes" = He.ma K (He.ga K "Turner") "goes" := same_ok (T.says.ex 17)
theorem Txt.e_init_R (T : Txt K mg) : He.ma K (He.ga K "R") "__init__" = He.ma K (He.ga K "Turner") "__init__" := same_ok (T.says.ex 18)
theorem Txt.e_on_T (T : Txt K mg) : He.ma K (He.ga K "T") "on" = He.ma K (He.ga K "Gate") "on" := same_ok (T.says.ex 19)
theorem Txt.e_wires_T (T : Txt K mg) : He.ma K (He.ga K "T") "wires" = He.ma K (He.ga K "Gate") "wires" := same_ok (T.says.ex 20)
theorem Txt.e_goes_T (T : Txt K mg) : He.ma K (He.ga K "T") "goes" = He.ma K (He.ga K "Turner") "goes" := same_ok (T.says.ex 21)
theorem Txt.e_init_T (T : Txt K mg) : He.ma K (He.ga K "T") "__init__" = He.ma K (He.ga K "Turner") "__init__" := same_ok (T.says.ex 22)
theorem Txt.e_on_U (T : Txt K mg) : He.ma K (He.ga K "U") "on" = He.ma K (He.ga K "Gate") "on" := same_ok (T.says.ex 23)
theorem Txt.e_wires_U (T : Txt K mg) : He.ma K (He.ga K "U") "wires" = He.ma K (He.ga K "Gate") "wires" := same_ok (T.says.ex 24)
theorem Txt.e_goes_U (T : Txt K mg) : He.ma K (He.ga K "U") "goes" = He.ma K (He.ga K "Turner") "goes" := same_ok (T.says.ex 25)
theorem Txt.e_init_U (T : Txt K mg) : He.ma K (He.ga K "U") "__init__" = He.ma K (He.ga K "Turner") "__init__" := same_ok (T.says.ex 26)
theorem Txt.e_on_H (T : Txt K mg) : He.ma K (He.ga K "H") "on" = He.ma K (He.ga K "Gate") "on" := same_ok (T.says.ex 27)
theorem Txt.e_wires_H (T : Txt K mg) : He.ma K (He.ga K "H") "wires" = He.ma K (He.ga K "Gate") "wires" := same_ok (T.says.ex 28)
theorem Txt.e_back_H (T : Txt K mg) : He.ma K (He.ga K "H") "back" = He.ma K (He.ga K "Gate") "back" := same_ok (T.says.ex 29)
theorem Txt.e_on_Cx (T : Txt K mg) : He.ma K (He.ga K "Cx") "on" = He.ma K (He.ga K "Gate") "on" := same_ok (T.says.ex 30)
theorem Txt.e_wires_Cx (T : Txt K mg) : He.ma K (He.ga K "Cx") "wires" = He.ma K (He.ga K "Gate") "wires" := same_ok (T.says.ex 31)
theorem Txt.e_back_Cx (T : Txt K mg) : He.ma K (He.ga K "Cx") "back" = He.ma K (He.ga K "Gate") "back" := same_ok (T.says.ex 32)
theorem Txt.e_on_Cz (T : Txt K mg) : He.ma K (He.ga K "Cz") "on" = He.ma K (He.ga K "Gate") "on" := same_ok (T.says.ex 33)
theorem Txt.e_wires_Cz (T : Txt K mg) : He.ma K (He.ga K "Cz") "wires" = He.ma K (He.ga K "Gate") "wires" := same_ok (T.says.ex 34)
theorem Txt.e_back_Cz (T : Txt K mg) : He.ma K (He.ga K "Cz") "back" = He.ma K (He.ga K "Gate") "back" := same_ok (T.says.ex 35)
theorem Txt.e_on_Swap (T : Txt K mg) : He.ma K (He.ga K "Swap") "on" = He.ma K (He.ga K "Gate") "on" := same_ok (T.says.ex 36)
theorem Txt.e_wires_Swap (T : Txt K mg) : He.ma K (He.ga K "Swap") "wires" = He.ma K (He.ga K "Gate") "wires" := same_ok (T.says.ex 37)
theorem Txt.e_back_Swap (T : Txt K mg) : He.ma K (He.ga K "Swap") "back" = He.ma K (He.ga K "Gate") "back" := same_ok (T.says.ex 38)
theorem Txt.e_on_Ccx (T : Txt K mg) : He.ma K (He.ga K "Ccx") "on" = He.ma K (He.ga K "Gate") "on" := same_ok (T.says.ex 39)
theorem Txt.e_wires_Ccx (T : Txt K mg) : He.ma K (He.ga K "Ccx") "wires" = He.ma K (He.ga K "Gate") "wires" := same_ok (T.says.ex 40)
theorem Txt.e_back_Ccx (T : Txt K mg) : He.ma K (He.ga K "Ccx") "back" = He.ma K (He.ga K "Gate") "back" := same_ok (T.says.ex 41)
theorem Txt.y_State (T : Txt K mg) : InstF K (He.ga K "State") := inst_ok (T.says.ex 42)
theorem Txt.y_X (T : Txt K mg) : InstF K (He.ga K "X") := inst_ok (T.says.ex 43)
theorem Txt.y_Y (T : Txt K mg) : InstF K (He.ga K "Y") := inst_ok (T.says.ex 44)
theorem Txt.y_Z (T : Txt K mg) : InstF K (He.ga K "Z") := inst_ok (T.says.ex 45)
theorem Txt.y_S (T : Txt K mg) : InstF K (He.ga K "S") := inst_ok (T.says.ex 46)
theorem Txt.y_R (T : Txt K mg) : InstF K (He.ga K "R") := inst_ok (T.says.ex 47)
theorem Txt.y_T (T : Txt K mg) : InstF K (He.ga K "T") := inst_ok (T.says.ex 48)
theorem Txt.y_U (T : Txt K mg) : InstF K (He.ga K "U") := inst_ok (T.says.ex 49)
theorem Txt.y_H (T : Txt K mg) : InstF K (He.ga K "H") := inst_ok (T.says.ex 50)
theorem Txt.y_Cx (T : Txt K mg) : InstF K (He.ga K "Cx") := inst_ok (T.says.ex 51)
theorem Txt.y_Cz (T : Txt K mg) : InstF K (He.ga K "Cz") := inst_ok (T.says.ex 52)
theorem Txt.y_Swap (T : Txt K mg) : InstF K (He.ga K "Swap") := inst_ok (T.says.ex 53)
theorem Txt.y_Ccx (T : Txt K mg) : InstF K (He.ga K "Ccx") := inst_ok (T.says.ex 54)
theorem Txt.y_Reading (T : Txt K mg) : InstF K (He.ga K "Reading") := inst_ok (T.says.ex 55)
theorem Txt.y_Asking (T : Txt K mg) : InstF K (He.ga K "Asking") := inst_ok (T.says.ex 56)
theorem Txt.y_Circuit (T : Txt K mg) : InstF K (He.ga K "Circuit") := inst_ok (T.says.ex 57)
theorem Txt.t_X_Gate (T : Txt K mg) : PySem.W.kitOne K (.ref (He.ga K "X")) (.ref (He.ga K "Gate")) = some true := kit_ok (T.says.ex 58)
theorem Txt.t_X_Reading (T : Txt K mg) : PySem.W.kitOne K (.ref (He.ga K "X")) (.ref (He.ga K "Reading")) = some false := kit_ok (T.says.ex 59)
theorem Txt.t_X_Asking (T : Txt K mg) : PySem.W.kitOne K (.ref (He.ga K "X")) (.ref (He.ga K "Asking")) = some false := kit_ok (T.says.ex 60)
theorem Txt.t_Y_Gate (T : Txt K mg) : PySem.W.kitOne K (.ref (He.ga K "Y")) (.ref (He.ga K "Gate")) = some true := kit_ok (T.says.ex 61)
theorem Txt.t_Y_Reading (T : Txt K mg) : PySem.W.kitOne K (.ref (He.ga K "Y")) (.ref (He.ga K "Reading")) = some false := kit_ok (T.says.ex 62)
theorem Txt.t_Y_Asking (T : Txt K mg) : PySem.W.kitOne K (.ref (He.ga K "Y")) (.ref (He.ga K "Asking")) = some false := kit_ok (T.says.ex 63)
theorem Txt.t_Z_Gate (T : Txt K mg) : PySem.W.kitOne K (.ref (He.ga K "Z")) (.ref (He.ga K "Gate")) = some true := kit_ok (T.says.ex 64)
theorem Txt.t_Z_Reading (T : Txt K mg) : PySem.W.kitOne K (.ref (He.ga K "Z")) (.ref (He.ga K "Reading")) = some false := kit_ok (T.says.ex 65)
theorem Txt.t_Z_Asking (T : Txt K mg) : PySem.W.kitOne K (.ref (He.ga K "Z")) (.ref (He.ga K "Asking")) = some false := kit_ok (T.says.ex 66)
theorem Txt.t_S_Gate (T : Txt K mg) : PySem.W.kitOne K (.ref (He.ga K "S")) (.ref (He.ga K "Gate")) = some true := kit_ok (T.says.ex 67)
theorem Txt.t_S_Reading (T : Txt K mg) : PySem.W.kitOne K (.ref (He.ga K "S")) (.ref (He.ga K "Reading")) = some false := kit_ok (T.says.ex 68)
theorem Txt.t_S_Asking (T : Txt K mg) : PySem.W.kitOne K (.ref (He.ga K "S")) (.ref (He.ga K "Asking")) = some false := kit_ok (T.says.ex 69)
theorem Txt.t_R_Gate (T : Txt K mg) : PySem.W.kitOne K (.ref (He.ga K "R")) (.ref (He.ga K "Gate")) = some true := kit_ok (T.says.ex 70)
theorem Txt.t_R_Reading (T : Txt K mg) : PySem.W.kitOne K (.ref (He.ga K "R")) (.ref (He.ga K "Reading")) = some false := kit_ok (T.says.ex 71)
theorem Txt.t_R_Asking (T : Txt K mg) : PySem.W.kitOne K (.ref (He.ga K "R")) (.ref (He.ga K "Asking")) = some false := kit_ok (T.says.ex 72)
theorem Txt.t_T_Gate (T : Txt K mg) : PySem.W.kitOne K (.ref (He.ga K "T")) (.ref (He.ga K "Gate")) = some true := kit_ok (T.says.ex 73)
theorem Txt.t_T_Reading (T : Txt K mg) : PySem.W.kitOne K (.ref (He.ga K "T")) (.ref (He.ga K "Reading")) = some false := kit_ok (T.says.ex 74)
theorem Txt.t_T_Asking (T : Txt K mg) : PySem.W.kitOne K (.ref (He.ga K "T")) (.ref (He.ga K "Asking")) = some false := kit_ok (T.says.ex 75)
theorem Txt.t_U_Gate (T : Txt K mg) : PySem.W.kitOne K (.ref (He.ga K "U")) (.ref (He.ga K "Gate")) = some true := kit_ok (T.says.ex 76)
theorem Txt.t_U_Reading (T : Txt K mg) : PySem.W.kitOne K (.ref (He.ga K "U")) (.ref (He.ga K "Reading")) = some false := kit_ok (T.says.ex 77)
theorem Txt.t_U_Asking (T : Txt K mg) : PySem.W.kitOne K (.ref (He.ga K "U")) (.ref (He.ga K "Asking")) = some false := kit_ok (T.says.ex 78)
theorem Txt.t_H_Gate (T : Txt K mg) : PySem.W.kitOne K (.ref (He.ga K "H")) (.ref (He.ga K "Gate")) = some true := kit_ok (T.says.ex 79)
theorem Txt.t_H_Reading (T : Txt K mg) : PySem.W.kitOne K (.ref (He.ga K "H")) (.ref (He.ga K "Reading")) = some false := kit_ok (T.says.ex 80)
theorem Txt.t_H_Asking (T : Txt K mg) : PySem.W.kitOne K (.ref (He.ga K "H")) (.ref (He.ga K "Asking")) = some false := kit_ok (T.says.ex 81)
theorem Txt.t_Cx_Gate (T : Txt K mg) : PySem.W.kitOne K (.ref (He.ga K "Cx")) (.ref (He.ga K "Gate")) = some true := kit_ok (T.says.ex 82)
theorem Txt.t_Cx_Reading (T : Txt K mg) : PySem.W.kitOne K (.ref (He.ga K "Cx")) (.ref (He.ga K "Reading")) = some false := kit_ok (T.says.ex 83)
theorem Txt.t_Cx_Asking (T : Txt K mg) : PySem.W.kitOne K (.ref (He.ga K "Cx")) (.ref (He.ga K "Asking")) = some false := kit_ok (T.says.ex 84)
theorem Txt.t_Cz_Gate (T : Txt K mg) : PySem.W.kitOne K (.ref (He.ga K "Cz")) (.ref (He.ga K "Gate")) = some true := kit_ok (T.says.ex 85)
theorem Txt.t_Cz_Reading (T : Txt K mg) : PySem.W.kitOne K (.ref (He.ga K "Cz")) (.ref (He.ga K "Reading")) = some false := kit_ok (T.says.ex 86)
theorem Txt.t_Cz_Asking (T : Txt K mg) : PySem.W.kitOne K (.ref (He.ga K "Cz")) (.ref (He.ga K "Asking")) = some false := kit_ok (T.says.ex 87)
theorem Txt.t_Swap_Gate (T : Txt K mg) : PySem.W.kitOne K (.ref (He.ga K "Swap")) (.ref (He.ga K "Gate")) = some true := kit_ok (T.says.ex 88)
theorem Txt.t_Swap_Reading (T : Txt K mg) : PySem.W.kitOne K (.ref (He.ga K "Swap")) (.ref (He.ga K "Reading")) = some false := kit_ok (T.says.ex 89)
theorem Txt.t_Swap_Asking (T : Txt K mg) : PySem.W.kitOne K (.ref (He.ga K "Swap")) (.ref (He.ga K "Asking")) = some false := kit_ok (T.says.ex 90)
theorem Txt.t_Ccx_Gate (T : Txt K mg) : PySem.W.kitOne K (.ref (He.ga K "Ccx")) (.ref (He.ga K "Gate")) = some true := kit_ok (T.says.ex 91)
theorem Txt.t_Ccx_Reading (T : Txt K mg) : PySem.W.kitOne K (.ref (He.ga K "Ccx")) (.ref (He.ga K "Reading")) = some false := kit_ok (T.says.ex 92)
theorem Txt.t_Ccx_Asking (T : Txt K mg) : PySem.W.kitOne K (.ref (He.ga K "Ccx")) (.ref (He.ga K "Asking")) = some false := kit_ok (T.says.ex 93)
theorem Txt.t_Reading_Gate (T : Txt K mg) : PySem.W.kitOne K (.ref (He.ga K "Reading")) (.ref (He.ga K "Gate")) = some false := kit_ok (T.says.ex 94)
theorem Txt.t_Reading_Reading (T : Txt K mg) : PySem.W.kitOne K (.ref (He.ga K "Reading")) (.ref (He.ga K "Reading")) = some true := kit_ok (T.says.ex 95)
theorem Txt.t_Reading_Asking (T : Txt K mg) : PySem.W.kitOne K (.ref (He.ga K "Reading")) (.ref (He.ga K "Asking")) = some false := kit_ok (T.says.ex 96)
theorem Txt.t_Asking_Gate (T : Txt K mg) : PySem.W.kitOne K (.ref (He.ga K "Asking")) (.ref (He.ga K "Gate")) = some false := kit_ok (T.says.ex 97)
theorem Txt.t_Asking_Reading (T : Txt K mg) : PySem.W.kitOne K (.ref (He.ga K "Asking")) (.ref (He.ga K "Reading")) = some false := kit_ok (T.says.ex 98)
theorem Txt.t_Asking_Asking (T : Txt K mg) : PySem.W.kitOne K (.ref (He.ga K "Asking")) (.ref (He.ga K "Asking")) = some true := kit_ok (T.says.ex 99)
theorem Txt.t_State_State (T : Txt K mg) : PySem.W.kitOne K (.ref (He.ga K "State")) (.ref (He.ga K "State")) = some true := kit_ok (T.says.ex 100)
theorem Txt.t_Circuit_Circuit (T : Txt K mg) : PySem.W.kitOne K (.ref (He.ga K "Circuit")) (.ref (He.ga K "Circuit")) = some true := kit_ok (T.says.ex 101)
theorem Txt.x_NOUGHT (T : Txt K mg) (H : Hp) : SqT K H (He.ga K "NOUGHT") (([0, 0, 0, 0, 0] : List Int).map V.int) := tupI_ok (T.says.ex 102) H
theorem Txt.x_SIZES (T : Txt K mg) (H : Hp) : SqT K H (He.ga K "SIZES") (([2, 4, 8, 16, 32] : List Int).map V.int) := tupI_ok (T.says.ex 103) H
theorem Txt.x_Gate_init (T : Txt K mg) (hk : PySem.W.keepIn K (.ref (He.ma K (He.ga K "Gate") "__init__")) = true) : Base K (He.ga K "Gate") "__init__" (He.ma K (He.ga K "Gate") "__init__") := base_ok (T.says.ex 104) hk
theorem Txt.n_SIZES (T : Txt K mg) : ∃ o, K.lookup (He.ga K "SIZES") = some o ∧ o.cls = .type "tuple" ∧ o.dict = none := tupD_ok (T.says.ex 105)
end
section
variable {P : Program} {w : World} {K : PySem.W.Frag} {mg : Str → Option Value} {base : Heap} {x qual : Str} {st : Stmt} {f C : Addr} {fd : FuncData} {N ps : List Str} {k : Nat} {sp : Sp}
/-- the context of a def's body -/
abbrev cxB (P : Program) (w : World) (K : PySem.W.Frag) (mg : Str → Option Value) (base : Heap) (N : List Str) (qual : Str) (st : Stmt) (f : Addr) (cdv : Value) (A : Around) (outer : List Env) (s : Shared) (H : Hp) (E : XK) : Cx :=
  (cxOf CX0 P w K mg base N qual (defScope st) f cdv A outer s H E).nox
theorem fn_ok (F : FnF K x qual st f fd) (S : FnScope N ps (defScope st)) (len : ∀ vs H Q E, sp vs H Q E → vs.length = ps.length)
    (body : ∀ (cdv : Value) (A : Around) (outer : List Env) (s : Shared) (H : Hp) (vs : List V) (Q : VK) (E : XK), Room k (cxB P w K mg base N qual st f cdv A outer s H E).A → sp vs H Q E →
      Ss (cxB P w K mg base N qual st f cdv A outer s H E) (defBody st) { nx := fun _ H' => Q .non H', rt := Q } (start N vs) H) : FnOk P w K mg base CX0 (k + 1) f fd ps sp :=
  F.ok S len fun cdv A outer s H vs Q E hr h => ⟨_, PSs.nox Ss.ps, body cdv A outer s H vs Q E hr h⟩
abbrev BindE (x qual : Str) (st : Stmt) (ps : List Str) : Prop := ∀ (kV doc pm : Value) (an : Option Addr) (cdv ct : Value) (us : List Value), us.length = ps.length → bindArgs (PySem.W.fnOf x qual (defArgs st) (defBody st) (defScope st) .none kV doc pm an cdv ct) ⟨us, []⟩ = pure (ps.zip us)
theorem cal_ok (F : ∃ fd, FnF K x qual st f fd) (hm : mg x = some (.ref f)) (S : FnScope N ps (defScope st)) (hb : BindE x qual st ps) (len : ∀ vs H Q E, sp vs H Q E → vs.length = ps.length)
    (body : ∀ (cdv : Value) (A : Around) (outer : List Env) (s : Shared) (H : Hp) (vs : List V) (Q : VK) (E : XK), Room k (cxB P w K mg base N qual st f cdv A outer s H E).A → sp vs H Q E →
      Ss (cxB P w K mg base N qual st f cdv A outer s H E) (defBody st) { nx := fun _ H' => Q .non H', rt := Q } (start N vs) H) : Cal P w K mg base (k + 1) x sp := by
  obtain ⟨fd, F⟩ := F
  exact ⟨f, fd, ps, hm, F.kp, fn_ok F S len body, F.bindsN hb⟩
theorem mcal_ok {m : Str} (F : ∃ fd, FnF K x qual st f fd) (hm : Meth K C m f) (S : FnScope N ps (defScope st)) (hb : BindE x qual st ps) (len : ∀ vs H Q E, sp vs H Q E → vs.length = ps.length)
    (body : ∀ (cdv : Value) (A : Around) (outer : List Env) (s : Shared) (H : Hp) (vs : List V) (Q : VK) (E : XK), Room k (cxB P w K mg base N qual st f cdv A outer s H E).A → sp vs H Q E →
      Ss (cxB P w K mg base N qual st f cdv A outer s H E) (defBody st) { nx := fun _ H' => Q .non H', rt := Q } (start N vs) H) : MCal P w K mg base (k + 1) C m sp := by
  obtain ⟨fd, F⟩ := F
  exact ⟨f, fd, ps, hm, fn_ok F S len body, F.bindsN hb⟩
theorem kcal_ok {y : Str} (F : ∃ fd, FnF K x qual st f fd) (hg : mg y = some (.ref C)) (hm : Mk K C f) (S : FnScope N ps (defScope st)) (hb : BindE x qual st ps) (len : ∀ vs H Q E, sp vs H Q E → vs.length = ps.length)
    (body : ∀ (cdv : Value) (A : Around) (outer : List Env) (s : Shared) (H : Hp) (vs : List V) (Q : VK) (E : XK), Room k (cxB P w K mg base N qual st f cdv A outer s H E).A → sp vs H Q E →
      Ss (cxB P w K mg base N qual st f cdv A outer s H E) (defBody st) { nx := fun _ H' => Q .non H', rt := Q } (start N vs) H) : KCal P w K mg base (k + 1) y C sp := by
  obtain ⟨fd, F⟩ := F
  exact ⟨f, fd, ps, hg, hm, fn_ok F S len body, F.bindsN hb⟩
end
end BW

set_option maxRecDepth 100000
set_option linter.all false
namespace BW
/-! ### numbers of eighths -/
structure Q4 where
  a : Int
  b : Int
  c : Int
  d : Int
deriving DecidableEq
def Q4.zero : Q4 := ⟨0, 0, 0, 0⟩
def Q4.rt (x : Q4) : Q4 := ⟨x.b - x.d, x.a + x.c, x.b + x.d, x.c - x.a⟩
def Q4.rtN : Nat → Q4 → Q4
  | 0, x => x
  | n + 1, x => (Q4.rtN n x).rt
def Q4.tw (x : Q4) : Q4 := ⟨-x.d, x.a, x.b, x.c⟩
def Q4.twN : Nat → Q4 → Q4
  | 0, x => x
  | n + 1, x => (Q4.twN n x).tw
def Q4.hf (x : Q4) : Q4 := ⟨(x.b - x.d) / 2, (x.a + x.c) / 2, (x.b + x.d) / 2, (x.c - x.a) / 2⟩
def Q4.add (x y : Q4) : Q4 := ⟨x.a + y.a, x.b + y.b, x.c + y.c, x.d + y.d⟩
def Q4.neg (x : Q4) : Q4 := ⟨-x.a, -x.b, -x.c, -x.d⟩
def Q4.ev (x : Q4) : Prop := (x.a - x.c) % 2 = 0 ∧ (x.b - x.d) % 2 = 0
instance (x : Q4) : Decidable x.ev := inferInstanceAs (Decidable (_ ∧ _))
structure Z8 where
  v : Q4
  k : Nat
deriving DecidableEq
def Z8.nought : Z8 := ⟨Q4.zero, 0⟩
def low : Q4 → Nat → Z8
  | x, 0 => ⟨x, 0⟩
  | x, k + 1 => if x.ev then low x.hf k else ⟨x, k + 1⟩
def lowest (x : Q4) (k : Nat) : Z8 := if x = Q4.zero then Z8.nought else low x k
def Canon (e : Z8) : Prop := lowest e.v e.k = e
instance (e : Z8) : Decidable (Canon e) := inferInstanceAs (Decidable (_ = _))
def plus (x y : Z8) : Z8 := lowest ((Q4.rtN (max x.k y.k - x.k) x.v).add (Q4.rtN (max x.k y.k - y.k) y.v)) (max x.k y.k)
def turned (x : Z8) (j : Nat) : Z8 := ⟨Q4.twN (j % 8) x.v, x.k⟩
def overRoot (x : Z8) (m : Nat) : Z8 := lowest x.v (x.k + m)

theorem Q4.ext' {x y : Q4} (h1 : x.a = y.a) (h2 : x.b = y.b) (h3 : x.c = y.c) (h4 : x.d = y.d) : x = y := by
  cases x; cases y; simp at *; exact ⟨h1, h2, h3, h4⟩
theorem rt_add (x y : Q4) : (x.add y).rt = x.rt.add y.rt := by simp only [Q4.rt, Q4.add, Q4.mk.injEq]; omega
theorem rt_rt (x : Q4) : x.rt.rt = x.add x := by simp only [Q4.rt, Q4.add, Q4.mk.injEq]; omega
theorem rt_zero : Q4.zero.rt = Q4.zero := rfl
theorem rt_inj {x y : Q4} (h : x.rt = y.rt) : x = y := by
  simp only [Q4.rt, Q4.mk.injEq] at h
  apply Q4.ext' <;> omega
theorem rt_hf {x : Q4} (h : x.ev) : x.hf.rt = x := by
  obtain ⟨h1, h2⟩ := h
  apply Q4.ext' <;> simp only [Q4.rt, Q4.hf] <;> omega
theorem hf_zero {x : Q4} (h : x.ev) (z : x.hf = Q4.zero) : x = Q4.zero := by
  rw [← rt_hf h, z]; rfl
theorem ev_rt (x : Q4) : x.rt.ev := by constructor <;> simp only [Q4.rt] <;> omega
theorem rtN_succ (n : Nat) (x : Q4) : Q4.rtN (n + 1) x = Q4.rtN n x.rt := by
  induction n with
  | zero => rfl
  | succ n ih => show (Q4.rtN (n + 1) x).rt = (Q4.rtN n x.rt).rt; rw [ih]
theorem rtN_add (m n : Nat) (x : Q4) : Q4.rtN (m + n) x = Q4.rtN m (Q4.rtN n x) := by
  induction m with
  | zero => rw [Nat.zero_add]; rfl
  | succ m ih => rw [Nat.add_right_comm]; show (Q4.rtN (m + n) x).rt = _; rw [ih]; rfl
theorem rtN_sum (n : Nat) (x y : Q4) : Q4.rtN n (x.add y) = (Q4.rtN n x).add (Q4.rtN n y) := by
  induction n with
  | zero => rfl
  | succ n ih => show (Q4.rtN n (x.add y)).rt = _; rw [ih, rt_add]; rfl
theorem rtN_zero (n : Nat) : Q4.rtN n Q4.zero = Q4.zero := by
  induction n with
  | zero => rfl
  | succ n ih => show (Q4.rtN n Q4.zero).rt = _; rw [ih]; rfl
theorem rtN_inj {n : Nat} {x y : Q4} (h : Q4.rtN n x = Q4.rtN n y) : x = y := by
  induction n with
  | zero => exact h
  | succ n ih => exact ih (rt_inj h)
theorem tw_rt (x : Q4) : x.tw.rt = x.rt.tw := by apply Q4.ext' <;> simp only [Q4.rt, Q4.tw] <;> omega
theorem twN_rt (j : Nat) (x : Q4) : Q4.twN j x.rt = (Q4.twN j x).rt := by
  induction j with
  | zero => rfl
  | succ j ih => show (Q4.twN j x.rt).tw = _; rw [ih, ← tw_rt]; rfl
theorem twN_rtN (j n : Nat) (x : Q4) : Q4.rtN n (Q4.twN j x) = Q4.twN j (Q4.rtN n x) := by
  induction n with
  | zero => rfl
  | succ n ih => show (Q4.rtN n (Q4.twN j x)).rt = _; rw [ih, ← twN_rt]; rfl
theorem twN_add (m n : Nat) (x : Q4) : Q4.twN (m + n) x = Q4.twN m (Q4.twN n x) := by
  induction m with
  | zero => rw [Nat.zero_add]; rfl
  | succ m ih => rw [Nat.add_right_comm]; show (Q4.twN (m + n) x).tw = _; rw [ih]; rfl
theorem tw8 (x : Q4) : Q4.twN 8 x = x := by
  show x.tw.tw.tw.tw.tw.tw.tw.tw = x
  cases x; simp [Q4.tw]
theorem tw8m (m : Nat) (x : Q4) : Q4.twN (8 * m) x = x := by
  induction m with
  | zero => rfl
  | succ m ih => rw [Nat.mul_succ, twN_add, tw8, ih]
theorem twN_mod (j : Nat) (x : Q4) : Q4.twN (j % 8) x = Q4.twN j x := by
  have h : Q4.twN (j % 8 + 8 * (j / 8)) x = Q4.twN (j % 8) x := by rw [twN_add, tw8m]
  rw [Nat.mod_add_div] at h
  exact h.symm
theorem twN_zero (j : Nat) : Q4.twN j Q4.zero = Q4.zero := by
  induction j with
  | zero => rfl
  | succ j ih => show (Q4.twN j Q4.zero).tw = _; rw [ih]; rfl
theorem tw_ev {x : Q4} : x.tw.ev ↔ x.ev := by
  simp only [Q4.ev, Q4.tw]; omega
theorem tw_inj {x y : Q4} (h : x.tw = y.tw) : x = y := by
  simp only [Q4.tw, Q4.mk.injEq] at h
  apply Q4.ext' <;> omega
theorem twN_ev (j : Nat) (x : Q4) : (Q4.twN j x).ev ↔ x.ev := by
  induction j with
  | zero => exact Iff.rfl
  | succ j ih => exact tw_ev.trans ih
theorem twN_zero_iff (j : Nat) (x : Q4) : Q4.twN j x = Q4.zero ↔ x = Q4.zero := by
  constructor
  · intro h
    induction j with
    | zero => exact h
    | succ j ih => exact ih (tw_inj (h.trans (show Q4.zero = Q4.zero.tw from rfl)))
  · rintro rfl; exact twN_zero j

/-! ### the value at a level N: root ** N times the eighth -/
def val (N : Nat) (e : Z8) : Q4 := Q4.rtN (N - e.k) e.v
theorem canon_iff (e : Z8) : Canon e ↔ e.k = 0 ∨ ¬ e.v.ev := by
  obtain ⟨x, k⟩ := e
  unfold Canon lowest
  by_cases hz : x = Q4.zero
  · subst hz
    rw [if_pos rfl]
    constructor
    · intro h; injection h with _ h; exact .inl h.symm
    · rintro (h | h)
      · cases h; rfl
      · exact absurd (show Q4.zero.ev from by constructor <;> decide) h
  · rw [if_neg hz]
    cases k with
    | zero => exact ⟨fun _ => .inl rfl, fun _ => rfl⟩
    | succ k =>
      have lk : ∀ (k : Nat) (x : Q4), (low x k).k ≤ k := by
        intro k
        induction k with
        | zero => intro x; exact Nat.le_refl _
        | succ k ih => intro x; unfold low; split; exact Nat.le_succ_of_le (ih _); exact Nat.le_refl _
      constructor
      · intro h
        refine .inr fun he => ?_
        have h : (if x.ev then low x.hf k else ⟨x, k + 1⟩ : Z8) = ⟨x, k + 1⟩ := h
        rw [if_pos he] at h
        have := lk k x.hf
        rw [h] at this
        exact absurd this (by show ¬ (k + 1 ≤ k); omega)
      · rintro (h | h)
        · cases h
        · show (if x.ev then low x.hf k else ⟨x, k + 1⟩ : Z8) = ⟨x, k + 1⟩
          rw [if_neg h]
theorem low_spec : ∀ (k : Nat) (x : Q4), (low x k).k ≤ k ∧ ((low x k).k = 0 ∨ ¬ (low x k).v.ev) ∧ ∀ N, k ≤ N → val N (low x k) = Q4.rtN (N - k) x
  | 0, x => ⟨Nat.le_refl _, .inl rfl, fun N _ => rfl⟩
  | k + 1, x => by
    unfold low
    split
    · rename_i h
      obtain ⟨h1, h2, h3⟩ := low_spec k x.hf
      refine ⟨by omega, h2, fun N hN => ?_⟩
      rw [h3 N (by omega)]
      have e : N - k = (N - (k + 1)) + 1 := by omega
      rw [e, rtN_succ, rt_hf h]
    · rename_i h
      exact ⟨Nat.le_refl _, .inr h, fun N hN => rfl⟩
theorem lowest_k (x : Q4) (k : Nat) : (lowest x k).k ≤ k := by
  unfold lowest; split
  · exact Nat.zero_le _
  · exact (low_spec k x).1
theorem lowest_canon (x : Q4) (k : Nat) : Canon (lowest x k) := by
  rw [canon_iff]
  unfold lowest; split
  · exact .inl rfl
  · exact (low_spec k x).2.1
theorem lowest_val (x : Q4) {k N : Nat} (h : k ≤ N) : val N (lowest x k) = Q4.rtN (N - k) x := by
  unfold lowest; split
  · rename_i z; subst z; unfold val; rw [rtN_zero]; exact rtN_zero _
  · exact (low_spec k x).2.2 N h
theorem nought_canon : Canon Z8.nought := by decide
theorem val_nought (N : Nat) : val N Z8.nought = Q4.zero := rtN_zero _
theorem val_succ {N : Nat} {e : Z8} (h : e.k ≤ N) : val (N + 1) e = (val N e).rt := by
  unfold val
  rw [Nat.succ_sub h]; rfl
theorem val_inj {N : Nat} {e f : Z8} (ce : Canon e) (cf : Canon f) (he : e.k ≤ N) (hf : f.k ≤ N) (h : val N e = val N f) : e = f := by
  rw [canon_iff] at ce cf
  have main : ∀ {e f : Z8}, (f.k = 0 ∨ ¬ f.v.ev) → e.k ≤ N → f.k ≤ N → val N e = val N f → ¬ e.k < f.k := by
    intro e f cf he hf h hlt
    unfold val at h
    have e1 : N - e.k = (N - f.k) + (f.k - e.k) := by omega
    rw [e1, rtN_add] at h
    have h2 := rtN_inj h
    have e2 : f.k - e.k = (f.k - e.k - 1) + 1 := by omega
    rw [e2] at h2
    rcases cf with z | z
    · omega
    · apply z; rw [← h2]; exact ev_rt _
  have k1 := main cf he hf h
  have k2 := main ce hf he h.symm
  have ek : e.k = f.k := by omega
  obtain ⟨x, k⟩ := e
  obtain ⟨y, l⟩ := f
  simp only at ek
  subst ek
  have hh : x = y := rtN_inj (n := N - k) h
  rw [hh]
theorem plus_k (x y : Z8) : (plus x y).k ≤ max x.k y.k := lowest_k _ _
theorem plus_canon (x y : Z8) : Canon (plus x y) := lowest_canon _ _
theorem plus_val {N : Nat} {x y : Z8} (hx : x.k ≤ N) (hy : y.k ≤ N) : val N (plus x y) = (val N x).add (val N y) := by
  unfold plus
  rw [lowest_val _ (by omega), rtN_sum, ← rtN_add, ← rtN_add]
  unfold val
  congr 2 <;> omega
theorem turned_canon {x : Z8} (h : Canon x) (j : Nat) : Canon (turned x j) := by
  rw [canon_iff] at h ⊢
  rcases h with h | h
  · exact .inl h
  · exact .inr fun z => h ((twN_ev _ _).mp z)
theorem turned_val (N : Nat) (x : Z8) (j : Nat) : val N (turned x j) = Q4.twN j (val N x) := by
  unfold turned val
  rw [twN_rtN, twN_mod]
theorem overRoot_canon (x : Z8) (m : Nat) : Canon (overRoot x m) := lowest_canon _ _
theorem overRoot_k (x : Z8) (m : Nat) : (overRoot x m).k ≤ x.k + m := lowest_k _ _
theorem overRoot_val {N : Nat} {x : Z8} (m : Nat) (h : x.k ≤ N) : val (N + m) (overRoot x m) = val N x := by
  unfold overRoot
  rw [lowest_val _ (by omega)]
  unfold val
  congr 1; omega

/-! ### norms and lengths -/
def np (x : Q4) : Int := x.a * x.a + x.b * x.b + x.c * x.c + x.d * x.d
def nq (x : Q4) : Int := x.a * x.b + x.b * x.c + x.c * x.d - x.d * x.a
theorem np_rt (x : Q4) : np x.rt = 2 * np x := by simp only [np, Q4.rt]; grind
theorem nq_rt (x : Q4) : nq x.rt = 2 * nq x := by simp only [nq, Q4.rt]; grind
theorem np_tw (x : Q4) : np x.tw = np x := by simp only [np, Q4.tw]; grind
theorem nq_tw (x : Q4) : nq x.tw = nq x := by simp only [nq, Q4.tw]; grind
theorem np_twN (j : Nat) (x : Q4) : np (Q4.twN j x) = np x := by
  induction j with
  | zero => rfl
  | succ j ih => show np (Q4.twN j x).tw = _; rw [np_tw, ih]
theorem nq_twN (j : Nat) (x : Q4) : nq (Q4.twN j x) = nq x := by
  induction j with
  | zero => rfl
  | succ j ih => show nq (Q4.twN j x).tw = _; rw [nq_tw, ih]
theorem np_rtN (n : Nat) (x : Q4) : np (Q4.rtN n x) = np x * 2 ^ n := by
  induction n with
  | zero => show np x = np x * 1; omega
  | succ n ih => show np (Q4.rtN n x).rt = _; rw [np_rt, ih, Int.pow_succ]; grind
theorem nq_rtN (n : Nat) (x : Q4) : nq (Q4.rtN n x) = nq x * 2 ^ n := by
  induction n with
  | zero => show nq x = nq x * 1; omega
  | succ n ih => show nq (Q4.rtN n x).rt = _; rw [nq_rt, ih, Int.pow_succ]; grind
theorem np_par (x y : Q4) : np (x.add y) + np (x.add y.neg) = 2 * np x + 2 * np y := by simp only [np, Q4.add, Q4.neg]; grind
theorem nq_par (x y : Q4) : nq (x.add y) + nq (x.add y.neg) = 2 * nq x + 2 * nq y := by simp only [nq, Q4.add, Q4.neg]; grind
structure L3 where
  p : Int
  q : Int
  k : Nat
deriving DecidableEq
def lowL : Int → Int → Nat → L3
  | p, q, 0 => ⟨p, q, 0⟩
  | p, q, k + 1 => if p % 2 = 0 ∧ q % 2 = 0 then lowL (p / 2) (q / 2) k else ⟨p, q, k + 1⟩
def squ (e : Z8) : L3 := lowL (np e.v) (nq e.v) e.k
def maxK (ls : List L3) : Nat := ls.foldl (fun m l => max m l.k) 0
def sumP (K : Nat) (ls : List L3) : Int := (ls.map fun l => l.p * 2 ^ (K - l.k)).sum
def sumQ (K : Nat) (ls : List L3) : Int := (ls.map fun l => l.q * 2 ^ (K - l.k)).sum
def lsum (ls : List L3) : L3 := lowL (sumP (maxK ls) ls) (sumQ (maxK ls) ls) (maxK ls)
/-- the length l, times 2 ** N, is P + Q root; l is lowest -/
structure LAt (N : Nat) (l : L3) (P Q : Int) : Prop where
  k : l.k ≤ N
  p : l.p * 2 ^ (N - l.k) = P
  q : l.q * 2 ^ (N - l.k) = Q
  c : l.k = 0 ∨ ¬ (l.p % 2 = 0 ∧ l.q % 2 = 0)
theorem two_pow_pos (n : Nat) : (0 : Int) < 2 ^ n := Int.pow_pos (by decide)
theorem lowL_at : ∀ (k N : Nat) (p q : Int), k ≤ N → LAt N (lowL p q k) (p * 2 ^ (N - k)) (q * 2 ^ (N - k)) ∧ (lowL p q k).k ≤ k
  | 0, N, p, q, h => ⟨⟨Nat.zero_le _, rfl, rfl, .inl rfl⟩, Nat.le_refl _⟩
  | k + 1, N, p, q, h => by
    unfold lowL
    split
    · rename_i e
      obtain ⟨i, j⟩ := lowL_at k N (p / 2) (q / 2) (by omega)
      have e1 : N - k = (N - (k + 1)) + 1 := by omega
      have a : ∀ z : Int, z % 2 = 0 → z / 2 * 2 ^ (N - k) = z * 2 ^ (N - (k + 1)) := by
        intro z hz
        rw [e1, Int.pow_succ]
        have : z / 2 * 2 = z := by omega
        grind
      rw [a _ e.1, a _ e.2] at i
      exact ⟨i, by omega⟩
    · rename_i e
      exact ⟨⟨h, rfl, rfl, .inr e⟩, Nat.le_refl _⟩
theorem LAt.inj {N : Nat} {l m : L3} {P Q : Int} (a : LAt N l P Q) (b : LAt N m P Q) : l = m := by
  have main : ∀ {l m : L3}, LAt N l P Q → LAt N m P Q → ¬ l.k < m.k := by
    intro l m a b h
    have e : N - l.k = (N - m.k) + ((m.k - l.k - 1) + 1) := by have := b.k; omega
    have z : ∀ x y : Int, x * 2 ^ (N - l.k) = y * 2 ^ (N - m.k) → y = (x * 2 ^ (m.k - l.k - 1)) * 2 := by
      intro x y h
      rw [e, Int.pow_add, Int.pow_succ] at h
      have pos := two_pow_pos (N - m.k)
      have h2 : ((x * 2 ^ (m.k - l.k - 1)) * 2) * 2 ^ (N - m.k) = y * 2 ^ (N - m.k) := by grind
      exact (Int.eq_of_mul_eq_mul_right (Int.ne_of_gt pos) h2).symm
    have z1 := z _ _ (a.p.trans b.p.symm)
    have z2 := z _ _ (a.q.trans b.q.symm)
    rcases b.c with c | c
    · omega
    · apply c; constructor <;> omega
  have h1 := main a b
  have h2 := main b a
  have ek : l.k = m.k := by omega
  have pos := two_pow_pos (N - l.k)
  have ep : l.p = m.p := by
    have h := a.p.trans b.p.symm
    rw [← ek] at h
    exact Int.eq_of_mul_eq_mul_right (Int.ne_of_gt pos) h
  have eq : l.q = m.q := by
    have h := a.q.trans b.q.symm
    rw [← ek] at h
    exact Int.eq_of_mul_eq_mul_right (Int.ne_of_gt pos) h
  cases l; cases m; simp only at ep eq ek; subst ep eq ek; rfl
theorem squ_at {N : Nat} {e : Z8} (h : e.k ≤ N) : LAt N (squ e) (np (val N e)) (nq (val N e)) := by
  have z := (lowL_at e.k N (np e.v) (nq e.v) h).1
  unfold val
  rw [np_rtN, nq_rtN]
  exact z
theorem maxK_le {N : Nat} {ls : List L3} (h : ∀ l ∈ ls, l.k ≤ N) : maxK ls ≤ N := by
  have g : ∀ (ls : List L3) (m : Nat), m ≤ N → (∀ l ∈ ls, l.k ≤ N) → ls.foldl (fun m l => max m l.k) m ≤ N := by
    intro ls
    induction ls with
    | nil => intro m h _; exact h
    | cons l ls ih =>
      intro m hm h
      have := h l List.mem_cons_self
      exact ih _ (show max m l.k ≤ N by omega) fun x hx => h x (List.mem_cons_of_mem _ hx)
  exact g ls 0 (Nat.zero_le _) h
theorem le_maxK {ls : List L3} : ∀ l ∈ ls, l.k ≤ maxK ls := by
  have g : ∀ (ls : List L3) (m : Nat), m ≤ ls.foldl (fun m l => max m l.k) m ∧ ∀ l ∈ ls, l.k ≤ ls.foldl (fun m l => max m l.k) m := by
    intro ls
    induction ls with
    | nil => intro m; exact ⟨Nat.le_refl _, fun _ h => by cases h⟩
    | cons l ls ih =>
      intro m
      obtain ⟨i, j⟩ := ih (max m l.k)
      refine ⟨by have := Nat.le_max_left m l.k; exact Nat.le_trans this i, fun x hx => ?_⟩
      rcases List.mem_cons.mp hx with rfl | hx
      · have := Nat.le_max_right m x.k; exact Nat.le_trans this i
      · exact j x hx
  exact (g ls 0).2
/-- the sum of lengths, by their values -/
theorem lsum_at {N : Nat} {ls : List L3} {PQ : List (Int × Int)} (h : ls.length = PQ.length) (ha : ∀ (i : Nat) (l : L3) (pq : Int × Int), ls[i]? = some l → PQ[i]? = some pq → LAt N l pq.1 pq.2) : LAt N (lsum ls) (PQ.map (·.1)).sum (PQ.map (·.2)).sum := by
  have hk : maxK ls ≤ N := maxK_le fun l hl => by
    obtain ⟨i, hi⟩ := List.getElem?_of_mem hl
    have hlt := (List.getElem?_eq_some_iff.mp hi).1
    have : i < PQ.length := by omega
    exact (ha i l PQ[i] hi (by simp [this])).k
  have g : ∀ (ls : List L3) (PQ : List (Int × Int)), ls.length = PQ.length → (∀ l ∈ ls, l.k ≤ maxK ls ∨ True) → ∀ K, K ≤ N → (∀ l ∈ ls, l.k ≤ K) → (∀ (i : Nat) (l : L3) (pq : Int × Int), ls[i]? = some l → PQ[i]? = some pq → LAt N l pq.1 pq.2) →
      sumP K ls * 2 ^ (N - K) = (PQ.map (·.1)).sum ∧ sumQ K ls * 2 ^ (N - K) = (PQ.map (·.2)).sum := by
    intro ls
    induction ls with
    | nil =>
      intro PQ h _ K _ _ _
      cases PQ with
      | nil => simp [sumP, sumQ]
      | cons _ _ => simp at h
    | cons l ls ih =>
      intro PQ h _ K hK hl ha
      cases PQ with
      | nil => simp at h
      | cons pq PQ =>
        obtain ⟨i1, i2⟩ := ih PQ (by simpa using h) (fun _ _ => .inr trivial) K hK (fun x hx => hl x (List.mem_cons_of_mem _ hx)) fun i x y hx hy => ha (i + 1) x y (by simpa using hx) (by simpa using hy)
        have a := ha 0 l pq rfl rfl
        have hlk := hl l List.mem_cons_self
        have e : N - l.k = (K - l.k) + (N - K) := by omega
        have ap := a.p
        have aq := a.q
        rw [e, Int.pow_add] at ap aq
        simp only [sumP, sumQ, List.map_cons, List.sum_cons] at i1 i2 ⊢
        constructor
        · rw [Int.add_mul, i1, ← ap]; grind
        · rw [Int.add_mul, i2, ← aq]; grind
  obtain ⟨g1, g2⟩ := g ls PQ h (fun _ _ => .inr trivial) (maxK ls) hk le_maxK ha
  have z := (lowL_at (maxK ls) N (sumP (maxK ls) ls) (sumQ (maxK ls) ls) hk).1
  rw [g1, g2] at z
  exact z

/-! ### lengths above nought -/
def Pst (P Q : Int) : Prop := 0 < P ∧ 2 * (Q * Q) < P * P
theorem sqrt2_nat : ∀ (n s q : Nat), s ≤ n → q * q = 2 * (s * s) → s = 0
  | 0, s, q, h, _ => by omega
  | n + 1, s, q, h, e => by
    by_cases hs : s = 0
    · exact hs
    · have q2 : q % 2 = 0 := by
        rcases Nat.mod_two_eq_zero_or_one q with z | z
        · exact z
        · exfalso
          have : q * q % 2 = 1 := by rw [Nat.mul_mod, z]
          omega
      have eq : q = 2 * (q / 2) := by omega
      have e2 : s * s = 2 * ((q / 2) * (q / 2)) := by
        have : q * q = 2 * (q / 2) * (2 * (q / 2)) := by rw [← eq]
        have h4 : 2 * (q / 2) * (2 * (q / 2)) = 4 * ((q / 2) * (q / 2)) := by grind
        omega
      have lt : q / 2 ≤ n := by
        have : ¬ n < q / 2 := by
          intro hh
          have hsl : s ≤ q / 2 := by omega
          have h1 : s * s ≤ (q / 2) * (q / 2) := Nat.mul_le_mul hsl hsl
          have h2 : 0 < (q / 2) * (q / 2) := Nat.mul_pos (by omega) (by omega)
          omega
        omega
      have z := sqrt2_nat n (q / 2) s lt e2
      rw [z] at e2
      have : s * s = 0 := by omega
      exact absurd ((Nat.mul_eq_zero.mp this).elim id id) hs
theorem sqrt2_int {s q : Int} (e : q * q = 2 * (s * s)) : s = 0 := by
  have h : q.natAbs * q.natAbs = 2 * (s.natAbs * s.natAbs) := by
    have h1 := Int.natAbs_mul_self (a := q)
    have h2 := Int.natAbs_mul_self (a := s)
    omega
  have := sqrt2_nat s.natAbs s.natAbs q.natAbs (Nat.le_refl _) h
  omega
theorem sq_nn (x : Int) : 0 ≤ x * x := by
  have h := Int.natAbs_mul_self (a := x)
  rw [← h]
  exact Int.natCast_nonneg _
theorem sq_zero {x : Int} (h : x * x = 0) : x = 0 := by
  rcases Int.mul_eq_zero.mp h with h | h <;> exact h
theorem np_nn (x : Q4) : 0 ≤ np x := by
  have h1 := sq_nn x.a; have h2 := sq_nn x.b; have h3 := sq_nn x.c; have h4 := sq_nn x.d
  unfold np; omega
theorem np_zero {x : Q4} (h : np x = 0) : x = Q4.zero := by
  have h1 := sq_nn x.a; have h2 := sq_nn x.b; have h3 := sq_nn x.c; have h4 := sq_nn x.d
  unfold np at h
  apply Q4.ext' <;> apply sq_zero <;> omega
theorem pos_of {x : Q4} (h : x ≠ Q4.zero) : Pst (np x) (nq x) := by
  have hp : 0 < np x := by
    have := np_nn x
    have : np x ≠ 0 := fun e => h (np_zero e)
    omega
  refine ⟨hp, ?_⟩
  -- s = a^2 + c^2, t = b^2 + d^2, q = u b + v d with u = a + c, v = c - a
  have key : nq x * nq x + ((x.a + x.c) * x.d - (x.c - x.a) * x.b) * ((x.a + x.c) * x.d - (x.c - x.a) * x.b) = 2 * ((x.a * x.a + x.c * x.c) * (x.b * x.b + x.d * x.d)) := by unfold nq; grind
  have r := sq_nn ((x.a + x.c) * x.d - (x.c - x.a) * x.b)
  have sq : np x * np x = 4 * ((x.a * x.a + x.c * x.c) * (x.b * x.b + x.d * x.d)) + ((x.a * x.a + x.c * x.c) - (x.b * x.b + x.d * x.d)) * ((x.a * x.a + x.c * x.c) - (x.b * x.b + x.d * x.d)) := by unfold np; grind
  have r2 := sq_nn ((x.a * x.a + x.c * x.c) - (x.b * x.b + x.d * x.d))
  have le : 2 * (nq x * nq x) ≤ np x * np x := by omega
  have ne : 2 * (nq x * nq x) ≠ np x * np x := by
    intro e
    have z2 : ((x.a * x.a + x.c * x.c) - (x.b * x.b + x.d * x.d)) * ((x.a * x.a + x.c * x.c) - (x.b * x.b + x.d * x.d)) = 0 := by omega
    have z3 := sq_zero z2
    have st : x.a * x.a + x.c * x.c = x.b * x.b + x.d * x.d := by omega
    have e2 : np x * np x = 2 * (nq x * nq x) := e.symm
    have e3 := sqrt2_int e2
    have : np x * np x = 0 := by rw [e2, e3]; rfl
    have := sq_zero this
    omega
  omega
theorem Pst.add {P Q P' Q' : Int} (h : Pst P Q) (h' : Pst P' Q') : Pst (P + P') (Q + Q') := by
  obtain ⟨a, b⟩ := h
  obtain ⟨a', b'⟩ := h'
  refine ⟨by omega, ?_⟩
  have pp : 0 < P * P' := Int.mul_pos a a'
  -- 2 Q Q' < P P'
  have cross : 2 * (Q * Q') < P * P' := by
    apply Classical.byContradiction
    intro hn
    have hn : P * P' ≤ 2 * (Q * Q') := by omega
    have h1 : (P * P') * (P * P') ≤ (2 * (Q * Q')) * (2 * (Q * Q')) := Int.mul_le_mul hn hn (by omega) (by omega)
    have h2 : 2 * (Q * Q) * (2 * (Q' * Q')) < P * P * (P' * P') := by
      have s1 := sq_nn Q
      have s2 := sq_nn Q'
      have t : 0 < P' * P' := Int.mul_pos a' a'
      have u1 : 2 * (Q * Q) * (2 * (Q' * Q')) ≤ 2 * (Q * Q) * (P' * P') := Int.mul_le_mul_of_nonneg_left (by omega) (by omega)
      have u2 : 2 * (Q * Q) * (P' * P') < P * P * (P' * P') := Int.mul_lt_mul_of_pos_right b t
      omega
    have e1 : (P * P') * (P * P') = P * P * (P' * P') := by grind
    have e2 : (2 * (Q * Q')) * (2 * (Q * Q')) = 2 * (Q * Q) * (2 * (Q' * Q')) := by grind
    omega
  have e1 : (P + P') * (P + P') = P * P + 2 * (P * P') + P' * P' := by grind
  have e2 : 2 * ((Q + Q') * (Q + Q')) = 2 * (Q * Q) + 2 * (2 * (Q * Q')) + 2 * (Q' * Q') := by grind
  omega
theorem Pst.of_scale {P Q : Int} {n : Nat} {p q : Int} (h : Pst P Q) (hp : p * 2 ^ n = P) (hq : q * 2 ^ n = Q) : Pst p q := by
  have t := two_pow_pos n
  obtain ⟨a, b⟩ := h
  subst hp hq
  refine ⟨?_, ?_⟩
  · apply Classical.byContradiction
    intro hn
    have : p * 2 ^ n ≤ 0 * 2 ^ n := Int.mul_le_mul_of_nonneg_right (by omega) (by omega)
    omega
  · apply Classical.byContradiction
    intro hn
    have t2 : 0 ≤ (2 : Int) ^ n * 2 ^ n := Int.le_of_lt (Int.mul_pos t t)
    have : p * p * (2 ^ n * 2 ^ n) ≤ 2 * (q * q) * (2 ^ n * 2 ^ n) := Int.mul_le_mul_of_nonneg_right (by omega) t2
    have e1 : p * 2 ^ n * (p * 2 ^ n) = p * p * (2 ^ n * 2 ^ n) := by grind
    have e2 : 2 * (q * 2 ^ n * (q * 2 ^ n)) = 2 * (q * q) * (2 ^ n * 2 ^ n) := by grind
    omega

/-! ### gates -/
inductive Kd where
  | x | y | z | s | r | t | u | h | cx | cz | swap | ccx
deriving DecidableEq
def Kd.arity : Kd → Nat
  | .cx => 2
  | .cz => 2
  | .swap => 2
  | .ccx => 3
  | _ => 1
def Kd.back : Kd → Kd
  | .s => .r
  | .r => .s
  | .t => .u
  | .u => .t
  | k => k
def Kd.trn : Kd → Nat
  | .z => 4
  | .s => 2
  | .r => 6
  | .t => 1
  | .u => 7
  | _ => 0
structure Gt where
  kd : Kd
  ws : List Nat
deriving DecidableEq
def Gt.back (g : Gt) : Gt := ⟨g.kd.back, g.ws⟩
/-- a gate on n wires -/
def Gt.Ok (n : Nat) (g : Gt) : Prop := g.ws.length = g.kd.arity ∧ g.ws.Nodup ∧ ∀ w ∈ g.ws, w < n
def goes : Kd → List Bool → List (List Bool × Nat × Nat)
  | .x, [b] => [([!b], 0, 0)]
  | .y, [b] => [([!b], 2 + 4 * b.toNat, 0)]
  | .h, [b] => [([false], 0, 1), ([true], 4 * b.toNat, 1)]
  | .cx, [p, q] => [([p, xor p q], 0, 0)]
  | .cz, [p, q] => [([p, q], 4 * p.toNat * q.toNat, 0)]
  | .swap, [p, q] => [([q, p], 0, 0)]
  | .ccx, [p, q, r] => [([p, q, xor r (p && q)], 0, 0)]
  | k, [b] => [([b], k.trn * b.toNat, 0)]
  | _, _ => []
def put1 (r p : Nat) (b : Bool) : Nat := r - (if r.testBit p then 2 ^ p else 0) + (if b then 2 ^ p else 0)
def putB (r : Nat) (pl : List Nat) (bs : List Bool) : Nat := (pl.zip bs).foldl (fun r pb => put1 r pb.1 pb.2) r
def places (n : Nat) (ws : List Nat) : List Nat := ws.map fun w => n - 1 - w
def bitsAt (r : Nat) (pl : List Nat) : List Bool := pl.map r.testBit
def stepO (e : Z8) (pl : List Nat) (r : Nat) (fd : List Z8) (o : List Bool × Nat × Nat) : List Z8 :=
  fd.set (putB r pl o.1) (plus (fd.getD (putB r pl o.1) Z8.nought) (overRoot (turned e o.2.1) o.2.2))
def rowO (n : Nat) (g : Gt) (fd : List Z8) (er : Z8 × Nat) : List Z8 :=
  if er.1 = Z8.nought then fd else (goes g.kd (bitsAt er.2 (places n g.ws))).foldl (stepO er.1 (places n g.ws) er.2) fd
def onM (n : Nat) (g : Gt) (es : List Z8) : List Z8 := es.zipIdx.foldl (rowO n g) (List.replicate (2 ^ n) Z8.nought)

/-! ### what a gate sends where -/
def sends (n : Nat) (g : Gt) (r : Nat) : List (Nat × Nat × Nat × Nat) := (goes g.kd (bitsAt r (places n g.ws))).map fun o => (putB r (places n g.ws) o.1, r, o.2.1, o.2.2)
def tbl (n : Nat) (g : Gt) (m : Nat) : List (Nat × Nat × Nat × Nat) := (List.range m).flatMap (sends n g)
def pl0 (n : Nat) (g : Gt) : Nat := (places n g.ws).headD 0
/-- the row, and the turn, of a gate that sends each row to one -/
def pi_ (n : Nat) (g : Gt) (r : Nat) : Nat := ((sends n g r).headD (0, 0, 0, 0)).1
def tau (n : Nat) (g : Gt) (r : Nat) : Nat := ((sends n g r).headD (0, 0, 0, 0)).2.2.1
def flip_ (n : Nat) (g : Gt) (r : Nat) : Nat := put1 r (pl0 n g) (!r.testBit (pl0 n g))
def chk (n : Nat) (g : Gt) : Bool :=
  (tbl n g (2 ^ n)).all (fun q => decide (q.1 < 2 ^ n) && (q.2.2.2 == 0 || q.2.2.2 == 1)) &&
  if g.kd = .h then
    ((List.range (2 ^ n)).map (flip_ n g)).isPerm (List.range (2 ^ n)) && (List.range (2 ^ n)).all fun t =>
      decide (flip_ n g t < 2 ^ n) && decide (flip_ n g (flip_ n g t) = t) && ((flip_ n g t).testBit (pl0 n g) == !t.testBit (pl0 n g)) &&
      decide ((tbl n g (2 ^ n)).filter (fun q => q.1 == t) = if t.testBit (pl0 n g) then [(t, flip_ n g t, 0, 1), (t, t, 4, 1)] else [(t, t, 0, 1), (t, flip_ n g t, 0, 1)])
  else
    ((List.range (2 ^ n)).map (pi_ n g)).isPerm (List.range (2 ^ n)) && (List.range (2 ^ n)).all fun t =>
      decide (pi_ n g t < 2 ^ n) && decide (pi_ n g (pi_ n g t) = t) && decide (pi_ n g.back t = pi_ n g t) && decide ((tau n g.back (pi_ n g t) + tau n g t) % 8 = 0) &&
      decide ((tbl n g (2 ^ n)).filter (fun q => q.1 == t) = [(t, pi_ n g t, tau n g (pi_ n g t), 0)])
theorem chk1 : ∀ n, n < 5 → ∀ a, a < n → (chk n ⟨.x, [a]⟩ && chk n ⟨.y, [a]⟩ && chk n ⟨.z, [a]⟩ && chk n ⟨.s, [a]⟩ && chk n ⟨.r, [a]⟩ && chk n ⟨.t, [a]⟩ && chk n ⟨.u, [a]⟩ && chk n ⟨.h, [a]⟩) = true := by decide +kernel
theorem chk2 : ∀ n, n < 5 → ∀ a, a < n → ∀ b, b < n → a ≠ b → (chk n ⟨.cx, [a, b]⟩ && chk n ⟨.cz, [a, b]⟩ && chk n ⟨.swap, [a, b]⟩) = true := by decide +kernel
theorem chk3' : ∀ n, n < 5 → ((List.range n).all fun a => (List.range n).all fun b => (List.range n).all fun c => a == b || (a == c || (b == c || chk n ⟨.ccx, [a, b, c]⟩))) = true := by decide +kernel
theorem chk3 (n : Nat) (hn : n < 5) (a : Nat) (ha : a < n) (b : Nat) (hb : b < n) (c : Nat) (hc : c < n) (p : a ≠ b) (q : a ≠ c) (r : b ≠ c) : chk n ⟨.ccx, [a, b, c]⟩ = true := by
  have h := List.all_eq_true.mp (List.all_eq_true.mp (List.all_eq_true.mp (chk3' n hn) a (List.mem_range.mpr ha)) b (List.mem_range.mpr hb)) c (List.mem_range.mpr hc)
  simpa [p, q, r] using h
theorem chk_ok {n : Nat} {g : Gt} (hn : n < 5) (h : g.Ok n) : chk n g = true := by
  obtain ⟨k, ws⟩ := g
  obtain ⟨h1, h2, h3⟩ := h
  have one : k.arity = 1 → ∃ a, ws = [a] ∧ a < n := by
    intro e
    rw [e] at h1
    match ws, h1 with
    | [a], _ => exact ⟨a, rfl, h3 a (by simp)⟩
  have two : k.arity = 2 → ∃ a b, ws = [a, b] ∧ a < n ∧ b < n ∧ a ≠ b := by
    intro e
    rw [e] at h1
    match ws, h1 with
    | [a, b], _ =>
      simp at h2
      exact ⟨a, b, rfl, h3 a (by simp), h3 b (by simp), h2⟩
  have tri : k.arity = 3 → ∃ a b c, ws = [a, b, c] ∧ a < n ∧ b < n ∧ c < n ∧ a ≠ b ∧ a ≠ c ∧ b ≠ c := by
    intro e
    rw [e] at h1
    match ws, h1 with
    | [a, b, c], _ =>
      simp at h2
      exact ⟨a, b, c, rfl, h3 a (by simp), h3 b (by simp), h3 c (by simp), h2.1.1, h2.1.2, h2.2⟩
  cases k
  case cx => obtain ⟨a, b, rfl, x, y, z⟩ := two rfl; have := chk2 n hn a x b y z; simp only [Bool.and_eq_true] at this; exact this.1.1
  case cz => obtain ⟨a, b, rfl, x, y, z⟩ := two rfl; have := chk2 n hn a x b y z; simp only [Bool.and_eq_true] at this; exact this.1.2
  case swap => obtain ⟨a, b, rfl, x, y, z⟩ := two rfl; have := chk2 n hn a x b y z; simp only [Bool.and_eq_true] at this; exact this.2
  case ccx => obtain ⟨a, b, c, rfl, x, y, z, p, q, r⟩ := tri rfl; exact chk3 n hn a x b y c z p q r
  all_goals
    obtain ⟨a, rfl, x⟩ := one rfl
    have := chk1 n hn a x
    simp only [Bool.and_eq_true] at this
    obtain ⟨⟨⟨⟨⟨⟨⟨c1, c2⟩, c3⟩, c4⟩, c5⟩, c6⟩, c7⟩, c8⟩ := this
    assumption
theorem back_ok {n : Nat} {g : Gt} (h : g.Ok n) : g.back.Ok n := by
  obtain ⟨k, ws⟩ := g
  obtain ⟨h1, h2⟩ := h
  refine ⟨?_, h2⟩
  show ws.length = k.back.arity
  rw [h1]
  cases k <;> rfl

/-! ### what a gate makes of a state, by values -/
def vsum : List Q4 → Q4
  | [] => Q4.zero
  | x :: xs => x.add (vsum xs)
theorem add_zero4 (x : Q4) : x.add Q4.zero = x := by apply Q4.ext' <;> simp [Q4.add, Q4.zero]
theorem add_assoc4 (x y z : Q4) : (x.add y).add z = x.add (y.add z) := by apply Q4.ext' <;> simp only [Q4.add] <;> omega
theorem zero_add4 (x : Q4) : Q4.zero.add x = x := by apply Q4.ext' <;> simp [Q4.add, Q4.zero]
theorem vsum_app (xs ys : List Q4) : vsum (xs ++ ys) = (vsum xs).add (vsum ys) := by
  induction xs with
  | nil => exact (zero_add4 _).symm
  | cons x xs ih => show x.add (vsum (xs ++ ys)) = (x.add (vsum xs)).add (vsum ys); rw [ih, add_assoc4]
/-- what the row q.2.1 sends, at the level above -/
def part (x : Nat → Q4) (q : Nat × Nat × Nat × Nat) : Q4 := if q.2.2.2 = 0 then (Q4.twN q.2.2.1 (x q.2.1)).rt else Q4.twN q.2.2.1 (x q.2.1)
def got (x : Nat → Q4) (L : List (Nat × Nat × Nat × Nat)) (t : Nat) : Q4 := vsum ((L.filter fun q => q.1 == t).map (part x))
theorem got_app (x : Nat → Q4) (L M : List (Nat × Nat × Nat × Nat)) (t : Nat) : got x (L ++ M) t = (got x L t).add (got x M t) := by
  unfold got
  rw [List.filter_append, List.map_append, vsum_app]
theorem got_zero (x : Nat → Q4) (L : List (Nat × Nat × Nat × Nat)) (t : Nat) (h : ∀ q ∈ L, x q.2.1 = Q4.zero) : got x L t = Q4.zero := by
  unfold got
  have g : ∀ M : List (Nat × Nat × Nat × Nat), (∀ q ∈ M, x q.2.1 = Q4.zero) → vsum (M.map (part x)) = Q4.zero := by
    intro M
    induction M with
    | nil => intro _; rfl
    | cons q M ih =>
      intro h
      show (part x q).add (vsum (M.map (part x))) = Q4.zero
      rw [ih fun z hz => h z (List.mem_cons_of_mem _ hz), add_zero4]
      unfold part
      rw [h q List.mem_cons_self, twN_zero]
      split <;> rfl
  exact g _ fun q hq => h q (List.mem_filter.mp hq).1
/-- a list of eighths behind so many contributions -/
structure Fil (N K m : Nat) (fd : List Z8) (V : Nat → Q4) : Prop where
  len : fd.length = m
  can : ∀ e ∈ fd, Canon e
  kk : ∀ e ∈ fd, e.k ≤ K
  vals : ∀ t, t < m → val N (fd.getD t Z8.nought) = V t
theorem getD_mem {fd : List Z8} {t : Nat} (h : t < fd.length) : fd.getD t Z8.nought ∈ fd := by
  rw [List.getD_eq_getElem?_getD, List.getElem?_eq_getElem h]
  exact List.getElem_mem h
theorem fil_step {N K m : Nat} {fd : List Z8} {V : Nat → Q4} (F : Fil (N + 1) (K + 1) m fd V) (hK : K ≤ N) {e : Z8} (he : e.k ≤ K) {pl : List Nat} {r : Nat} {o : List Bool × Nat × Nat} (x : Nat → Q4) (hx : x r = val N e)
    (ho : o.2.2 = 0 ∨ o.2.2 = 1) (ht : putB r pl o.1 < m) : Fil (N + 1) (K + 1) m (stepO e pl r fd o) (fun t => (V t).add (got x [(putB r pl o.1, r, o.2.1, o.2.2)] t)) := by
  have hf : fd.getD (putB r pl o.1) Z8.nought ∈ fd := getD_mem (by rw [F.len]; exact ht)
  have hk1 := F.kk _ hf
  have hk2 : (overRoot (turned e o.2.1) o.2.2).k ≤ K + 1 := by
    have := overRoot_k (turned e o.2.1) o.2.2
    have z : (turned e o.2.1).k = e.k := rfl
    rw [z] at this
    rcases ho with q | q <;> omega
  have hv : val (N + 1) (overRoot (turned e o.2.1) o.2.2) = part x (putB r pl o.1, r, o.2.1, o.2.2) := by
    have hkt : (turned e o.2.1).k ≤ N := Nat.le_trans he hK
    unfold part
    show _ = if o.2.2 = 0 then (Q4.twN o.2.1 (x r)).rt else Q4.twN o.2.1 (x r)
    rcases ho with q | q
    · rw [if_pos q, q, hx, ← turned_val, ← val_succ hkt]
      exact overRoot_val (N := N + 1) 0 (by omega)
    · rw [if_neg (by omega), q, hx, ← turned_val]
      exact overRoot_val 1 hkt
  refine ⟨by unfold stepO; rw [List.length_set]; exact F.len, ?_, ?_, ?_⟩
  · intro z hz
    rcases List.mem_or_eq_of_mem_set hz with hz | rfl
    · exact F.can z hz
    · exact plus_canon _ _
  · intro z hz
    rcases List.mem_or_eq_of_mem_set hz with hz | rfl
    · exact F.kk z hz
    · have := plus_k (fd.getD (putB r pl o.1) Z8.nought) (overRoot (turned e o.2.1) o.2.2)
      omega
  · intro t htm
    unfold stepO got
    by_cases hh : putB r pl o.1 = t
    · subst hh
      rw [List.filter_cons_of_pos (by simp)]
      rw [List.getD_eq_getElem?_getD, List.getElem?_set_self (by rw [F.len]; exact ht)]
      show val (N + 1) (plus _ _) = _
      rw [plus_val (by omega) (by omega), F.vals _ ht, hv]
      show _ = (V (putB r pl o.1)).add ((part x _).add Q4.zero)
      rw [add_zero4]
    · rw [List.filter_cons_of_neg (by simpa using hh)]
      rw [List.getD_eq_getElem?_getD, List.getElem?_set_ne hh, ← List.getD_eq_getElem?_getD]
      show _ = (V t).add Q4.zero
      rw [add_zero4]
      exact F.vals t htm
theorem fil_steps {N K m : Nat} (hK : K ≤ N) {e : Z8} (he : e.k ≤ K) {pl : List Nat} {r : Nat} (x : Nat → Q4) (hx : x r = val N e) : ∀ (os : List (List Bool × Nat × Nat)) {fd : List Z8} {V : Nat → Q4}, Fil (N + 1) (K + 1) m fd V →
    (∀ o ∈ os, (o.2.2 = 0 ∨ o.2.2 = 1) ∧ putB r pl o.1 < m) → Fil (N + 1) (K + 1) m (os.foldl (stepO e pl r) fd) (fun t => (V t).add (got x (os.map fun o => (putB r pl o.1, r, o.2.1, o.2.2)) t))
  | [], fd, V, F, _ => by
    have z : (fun t => (V t).add (got x [] t)) = V := funext fun t => add_zero4 _
    show Fil _ _ _ fd (fun t => (V t).add (got x [] t))
    rw [z]
    exact F
  | o :: os, fd, V, F, h => by
    have F1 := fil_step F hK he x hx (h o List.mem_cons_self).1 (h o List.mem_cons_self).2
    have F2 := fil_steps hK he x hx os F1 fun z hz => h z (List.mem_cons_of_mem _ hz)
    have z : (fun t => ((V t).add (got x [(putB r pl o.1, r, o.2.1, o.2.2)] t)).add (got x (os.map fun o => (putB r pl o.1, r, o.2.1, o.2.2)) t)) = fun t => (V t).add (got x ((o :: os).map fun o => (putB r pl o.1, r, o.2.1, o.2.2)) t) := by
      funext t
      rw [add_assoc4, ← got_app]
      rfl
    rw [z] at F2
    exact F2
theorem fil_row {N K m n : Nat} {g : Gt} (hK : K ≤ N) {e : Z8} (he : e.k ≤ K) {r : Nat} (x : Nat → Q4) (hx : x r = val N e) {fd : List Z8} {V : Nat → Q4} (F : Fil (N + 1) (K + 1) m fd V) (h : ∀ q ∈ sends n g r, q.1 < m ∧ (q.2.2.2 = 0 ∨ q.2.2.2 = 1)) :
    Fil (N + 1) (K + 1) m (rowO n g fd (e, r)) (fun t => (V t).add (got x (sends n g r) t)) := by
  unfold rowO
  split
  · rename_i z
    have z : e = Z8.nought := z
    have q : (fun t => (V t).add (got x (sends n g r) t)) = V := by
      funext t
      rw [got_zero x _ t, add_zero4]
      intro q hq
      obtain ⟨o, _, rfl⟩ := List.mem_map.mp hq
      show x r = _
      rw [hx, z, val_nought]
    rw [q]
    exact F
  · exact fil_steps hK he x hx _ F fun o ho => ⟨(h _ (List.mem_map.mpr ⟨o, ho, rfl⟩)).2, (h _ (List.mem_map.mpr ⟨o, ho, rfl⟩)).1⟩
/-- the rows from i on -/
theorem fil_rows {N K m n : Nat} {g : Gt} (hK : K ≤ N) (x : Nat → Q4) : ∀ (es : List Z8) (i : Nat) {fd : List Z8} {V : Nat → Q4}, (∀ e ∈ es, e.k ≤ K) → (∀ (j : Nat) (e : Z8), es[j]? = some e → x (i + j) = val N e) → Fil (N + 1) (K + 1) m fd V →
    (∀ j, j < es.length → ∀ q ∈ sends n g (i + j), q.1 < m ∧ (q.2.2.2 = 0 ∨ q.2.2.2 = 1)) →
    Fil (N + 1) (K + 1) m ((es.zipIdx i).foldl (rowO n g) fd) (fun t => (V t).add (got x ((List.range' i es.length).flatMap (sends n g)) t))
  | [], i, fd, V, _, _, F, _ => by
    have z : (fun t => (V t).add (got x [] t)) = V := funext fun t => add_zero4 _
    show Fil _ _ _ fd (fun t => (V t).add (got x [] t))
    rw [z]
    exact F
  | e :: es, i, fd, V, hk, hx, F, h => by
    have F1 := fil_row (n := n) (g := g) hK (hk e List.mem_cons_self) x (hx 0 e rfl) F (h 0 (by simp))
    have F2 := fil_rows hK x es (i + 1) (fun z hz => hk z (List.mem_cons_of_mem _ hz)) (fun j z hz => by rw [Nat.add_assoc, Nat.add_comm 1 j]; exact hx (j + 1) z hz) F1 fun j hj => by
      rw [Nat.add_assoc, Nat.add_comm 1 j]
      exact h (j + 1) (by simp; omega)
    have z : (fun t => ((V t).add (got x (sends n g i) t)).add (got x ((List.range' (i + 1) es.length).flatMap (sends n g)) t)) = fun t => (V t).add (got x ((List.range' i (e :: es).length).flatMap (sends n g)) t) := by
      funext t
      rw [add_assoc4, ← got_app]
      rfl
    rw [List.zipIdx_cons, List.foldl_cons]
    have z' : (fun t => ((V t).add (got x (sends n g (i + 0)) t)).add (got x ((List.range' (i + 1) es.length).flatMap (sends n g)) t)) = fun t => (V t).add (got x ((List.range' i (e :: es).length).flatMap (sends n g)) t) := z
    rw [z'] at F2
    exact F2
/-- what is asked of a state's eighths -/
structure EsOk (n K : Nat) (es : List Z8) : Prop where
  len : es.length = 2 ^ n
  can : ∀ e ∈ es, Canon e
  kk : ∀ e ∈ es, e.k ≤ K
theorem EsOk.mono {n K K' : Nat} {es : List Z8} (h : EsOk n K es) (l : K ≤ K') : EsOk n K' es := ⟨h.len, h.can, fun e he => Nat.le_trans (h.kk e he) l⟩
theorem chk_tbl {n : Nat} {g : Gt} (h : chk n g = true) : ∀ q ∈ tbl n g (2 ^ n), q.1 < 2 ^ n ∧ (q.2.2.2 = 0 ∨ q.2.2.2 = 1) := by
  unfold chk at h
  rw [Bool.and_eq_true] at h
  intro q hq
  have z := List.all_eq_true.mp h.1 q hq
  simpa using z
theorem on_fil {n K N : Nat} {g : Gt} (hc : chk n g = true) {es : List Z8} (h : EsOk n K es) (hK : K ≤ N) : Fil (N + 1) (K + 1) (2 ^ n) (onM n g es) (got (fun r => val N (es.getD r Z8.nought)) (tbl n g (2 ^ n))) := by
  have F0 : Fil (N + 1) (K + 1) (2 ^ n) (List.replicate (2 ^ n) Z8.nought) (fun _ => Q4.zero) := by
    refine ⟨List.length_replicate, fun e he => ?_, fun e he => ?_, fun t ht => ?_⟩
    · rw [List.eq_of_mem_replicate he]; exact nought_canon
    · rw [List.eq_of_mem_replicate he]; exact Nat.zero_le _
    · rw [List.getD_eq_getElem?_getD, List.getElem?_replicate, if_pos ht]; exact val_nought _
  have F := fil_rows (g := g) (n := n) hK (fun r => val N (es.getD r Z8.nought)) es 0 h.kk (fun j e hj => by
    show val N (es.getD (0 + j) Z8.nought) = _
    rw [Nat.zero_add, List.getD_eq_getElem?_getD, hj]; rfl) F0 fun j hj q hq => by
      refine chk_tbl hc q (List.mem_flatMap.mpr ⟨0 + j, ?_, hq⟩)
      rw [h.len] at hj
      exact List.mem_range.mpr (by omega)
  have z : (fun t => Q4.zero.add (got (fun r => val N (es.getD r Z8.nought)) ((List.range' 0 es.length).flatMap (sends n g)) t)) = got (fun r => val N (es.getD r Z8.nought)) (tbl n g (2 ^ n)) := by
    funext t
    rw [zero_add4, h.len]
    unfold tbl
    rw [List.range_eq_range']
  rw [z] at F
  exact F
theorem on_ok {n K : Nat} {g : Gt} (hc : chk n g = true) {es : List Z8} (h : EsOk n K es) : EsOk n (K + 1) (onM n g es) :=
  let F := on_fil hc h (Nat.le_refl K)
  ⟨F.len, F.can, F.kk⟩

/-! ### a gate keeps the length; undone it gives the state back -/
theorem sum_perm {l m : List Int} (h : l.Perm m) : l.sum = m.sum := by
  induction h with
  | nil => rfl
  | cons x _ ih => rw [List.sum_cons, List.sum_cons, ih]
  | swap x y l => rw [List.sum_cons, List.sum_cons, List.sum_cons, List.sum_cons]; omega
  | trans _ _ a b => exact a.trans b
theorem sum_turn {m : Nat} {p : Nat → Nat} (h : ((List.range m).map p).isPerm (List.range m) = true) (f : Nat → Int) : ((List.range m).map fun t => f (p t)).sum = ((List.range m).map f).sum := by
  have z := (List.isPerm_iff.mp h).map f
  rw [List.map_map] at z
  exact sum_perm z
theorem sum_add (l : List Nat) (f g : Nat → Int) : (l.map fun t => f t + g t).sum = (l.map f).sum + (l.map g).sum := by
  induction l with
  | nil => rfl
  | cons x l ih => simp only [List.map_cons, List.sum_cons, ih]; omega
theorem sum_mul (l : List Nat) (c : Int) (f : Nat → Int) : (l.map fun t => c * f t).sum = c * (l.map f).sum := by
  induction l with
  | nil => simp
  | cons x l ih => simp only [List.map_cons, List.sum_cons, ih, Int.mul_add]
theorem sum_congr {l : List Nat} {f g : Nat → Int} (h : ∀ t ∈ l, f t = g t) : (l.map f).sum = (l.map g).sum := by
  rw [List.map_congr_left h]
theorem map_range {es : List Z8} (f : Z8 → Int) : es.map f = (List.range es.length).map fun t => f (es.getD t Z8.nought) := by
  apply List.ext_getElem
  · simp
  · intro i h1 h2
    simp only [List.getElem_map, List.getElem_range, List.getD_eq_getElem?_getD]
    rw [List.getElem?_eq_getElem (by simpa using h1)]
    rfl
def PN (N : Nat) (es : List Z8) : Int := (es.map fun e => np (val N e)).sum
def QN (N : Nat) (es : List Z8) : Int := (es.map fun e => nq (val N e)).sum
theorem tw4 (x : Q4) : Q4.twN 4 x = x.neg := by
  show x.tw.tw.tw.tw = x.neg
  rfl
/-- the parts of chk -/
theorem chk_h {n : Nat} {g : Gt} (h : chk n g = true) (hk : g.kd = .h) : ((List.range (2 ^ n)).map (flip_ n g)).isPerm (List.range (2 ^ n)) = true ∧ ∀ t, t < 2 ^ n → flip_ n g t < 2 ^ n ∧ flip_ n g (flip_ n g t) = t ∧ (flip_ n g t).testBit (pl0 n g) = !t.testBit (pl0 n g) ∧
    (tbl n g (2 ^ n)).filter (fun q => q.1 == t) = if t.testBit (pl0 n g) then [(t, flip_ n g t, 0, 1), (t, t, 4, 1)] else [(t, t, 0, 1), (t, flip_ n g t, 0, 1)] := by
  unfold chk at h
  rw [if_pos hk, Bool.and_eq_true, Bool.and_eq_true] at h
  refine ⟨h.2.1, fun t ht => ?_⟩
  have z := List.all_eq_true.mp h.2.2 t (List.mem_range.mpr ht)
  simp only [Bool.and_eq_true, decide_eq_true_eq, beq_iff_eq] at z
  exact ⟨z.1.1.1, z.1.1.2, z.1.2, z.2⟩
theorem chk_p {n : Nat} {g : Gt} (h : chk n g = true) (hk : g.kd ≠ .h) : ((List.range (2 ^ n)).map (pi_ n g)).isPerm (List.range (2 ^ n)) = true ∧ ∀ t, t < 2 ^ n → pi_ n g t < 2 ^ n ∧ pi_ n g (pi_ n g t) = t ∧ pi_ n g.back t = pi_ n g t ∧ (tau n g.back (pi_ n g t) + tau n g t) % 8 = 0 ∧
    (tbl n g (2 ^ n)).filter (fun q => q.1 == t) = [(t, pi_ n g t, tau n g (pi_ n g t), 0)] := by
  unfold chk at h
  rw [if_neg hk, Bool.and_eq_true, Bool.and_eq_true] at h
  refine ⟨h.2.1, fun t ht => ?_⟩
  have z := List.all_eq_true.mp h.2.2 t (List.mem_range.mpr ht)
  simp only [Bool.and_eq_true, decide_eq_true_eq] at z
  exact ⟨z.1.1.1.1, z.1.1.1.2, z.1.1.2, z.1.2, z.2⟩
theorem got_p {n : Nat} {g : Gt} (h : chk n g = true) (hk : g.kd ≠ .h) (x : Nat → Q4) {t : Nat} (ht : t < 2 ^ n) : got x (tbl n g (2 ^ n)) t = (Q4.twN (tau n g (pi_ n g t)) (x (pi_ n g t))).rt := by
  unfold got
  rw [((chk_p h hk).2 t ht).2.2.2.2]
  show (part x _).add Q4.zero = _
  rw [add_zero4]
  rfl
theorem got_h {n : Nat} {g : Gt} (h : chk n g = true) (hk : g.kd = .h) (x : Nat → Q4) {t : Nat} (ht : t < 2 ^ n) : got x (tbl n g (2 ^ n)) t = if t.testBit (pl0 n g) then (x (flip_ n g t)).add (x t).neg else (x t).add (x (flip_ n g t)) := by
  unfold got
  rw [((chk_h h hk).2 t ht).2.2.2]
  split
  · show (part x (t, flip_ n g t, 0, 1)).add ((part x (t, t, 4, 1)).add Q4.zero) = _
    rw [add_zero4]
    show (x (flip_ n g t)).add (Q4.twN 4 (x t)) = _
    rw [tw4]
  · show (part x (t, t, 0, 1)).add ((part x (t, flip_ n g t, 0, 1)).add Q4.zero) = _
    rw [add_zero4]
    rfl
theorem got_np {n : Nat} {g : Gt} (h : chk n g = true) (x : Nat → Q4) (f : Q4 → Int) (f1 : ∀ x, f x.rt = 2 * f x) (f2 : ∀ j x, f (Q4.twN j x) = f x) (f3 : ∀ x y, f (x.add y) + f (x.add y.neg) = 2 * f x + 2 * f y) :
    ((List.range (2 ^ n)).map fun t => f (got x (tbl n g (2 ^ n)) t)).sum = 2 * ((List.range (2 ^ n)).map fun t => f (x t)).sum := by
  by_cases hk : g.kd = .h
  · obtain ⟨c1, c2⟩ := chk_h h hk
    have e1 := sum_turn c1 (fun t => f (got x (tbl n g (2 ^ n)) t))
    have e2 := sum_turn c1 (fun t => f (x t))
    have e3 := sum_add (List.range (2 ^ n)) (fun t => f (got x (tbl n g (2 ^ n)) t)) (fun t => f (got x (tbl n g (2 ^ n)) (flip_ n g t)))
    have e4 : ((List.range (2 ^ n)).map fun t => f (got x (tbl n g (2 ^ n)) t) + f (got x (tbl n g (2 ^ n)) (flip_ n g t))).sum = ((List.range (2 ^ n)).map fun t => 2 * (f (x t) + f (x (flip_ n g t)))).sum := by
      refine sum_congr fun t ht => ?_
      have ht := List.mem_range.mp ht
      obtain ⟨d1, d2, d3, d4⟩ := c2 t ht
      rw [got_h h hk x ht, got_h h hk x d1, d3, d2]
      have p1 := f3 (x t) (x (flip_ n g t))
      have p2 := f3 (x (flip_ n g t)) (x t)
      cases t.testBit (pl0 n g)
      · simp only [Bool.false_eq_true, if_false, Bool.not_false, if_true]
        omega
      · simp only [Bool.false_eq_true, if_false, Bool.not_true, if_true]
        omega
    have e5 := sum_add (List.range (2 ^ n)) (fun t => f (x t)) (fun t => f (x (flip_ n g t)))
    rw [sum_mul] at e4
    omega
  · obtain ⟨c1, c2⟩ := chk_p h hk
    have e1 := sum_turn c1 (fun t => f (x t))
    rw [← e1, ← sum_mul]
    refine sum_congr fun t ht => ?_
    rw [got_p h hk x (List.mem_range.mp ht), f1, f2]
theorem on_sum {n K N : Nat} {g : Gt} (h : chk n g = true) {es : List Z8} (he : EsOk n K es) (hK : K < N) (f : Q4 → Int) (f1 : ∀ x, f x.rt = 2 * f x) (f2 : ∀ j x, f (Q4.twN j x) = f x) (f3 : ∀ x y, f (x.add y) + f (x.add y.neg) = 2 * f x + 2 * f y) :
    ((onM n g es).map fun e => f (val N e)).sum = (es.map fun e => f (val N e)).sum := by
  obtain ⟨M, rfl⟩ : ∃ M, N = M + 1 := ⟨N - 1, by omega⟩
  have F := on_fil h he (show K ≤ M by omega)
  rw [map_range (fun e => f (val (M + 1) e)), map_range (fun e => f (val (M + 1) e)) (es := es), F.len, he.len]
  have e1 := got_np h (fun r => val M (es.getD r Z8.nought)) f f1 f2 f3
  have e2 : ((List.range (2 ^ n)).map fun t => f (val (M + 1) ((onM n g es).getD t Z8.nought))).sum = ((List.range (2 ^ n)).map fun t => f (got (fun r => val M (es.getD r Z8.nought)) (tbl n g (2 ^ n)) t)).sum :=
    sum_congr fun t ht => by rw [F.vals t (List.mem_range.mp ht)]
  have e3 : ((List.range (2 ^ n)).map fun t => f (val (M + 1) (es.getD t Z8.nought))).sum = ((List.range (2 ^ n)).map fun t => 2 * f (val M (es.getD t Z8.nought))).sum :=
    sum_congr fun t ht => by
      have : (es.getD t Z8.nought).k ≤ K := he.kk _ (getD_mem (by rw [he.len]; exact List.mem_range.mp ht))
      rw [val_succ (by omega), f1]
  rw [e2, e1, e3, sum_mul]
theorem on_PN {n K N : Nat} {g : Gt} (h : chk n g = true) {es : List Z8} (he : EsOk n K es) (hK : K < N) : PN N (onM n g es) = PN N es := on_sum h he hK np np_rt np_twN np_par
theorem on_QN {n K N : Nat} {g : Gt} (h : chk n g = true) {es : List Z8} (he : EsOk n K es) (hK : K < N) : QN N (onM n g es) = QN N es := on_sum h he hK nq nq_rt nq_twN nq_par
theorem twice {x : Q4} : (x.add x).add (x.add x.neg) = x.add x := by apply Q4.ext' <;> simp only [Q4.add, Q4.neg] <;> omega
theorem on_back {n K : Nat} {g : Gt} (h : chk n g = true) (hb : chk n g.back = true) {es : List Z8} (he : EsOk n K es) : onM n g.back (onM n g es) = es := by
  have h1 := on_ok h he
  have F := on_fil h he (Nat.le_refl K)
  have F2 := on_fil hb h1 (Nat.le_refl (K + 1))
  apply List.ext_getElem
  · rw [F2.len, he.len]
  · intro t ht ht2
    have htm : t < 2 ^ n := by rw [F2.len] at ht; exact ht
    have ea : (onM n g.back (onM n g es))[t] = (onM n g.back (onM n g es)).getD t Z8.nought := by rw [List.getD_eq_getElem?_getD, List.getElem?_eq_getElem ht]; rfl
    have eb : es[t] = es.getD t Z8.nought := by rw [List.getD_eq_getElem?_getD, List.getElem?_eq_getElem ht2]; rfl
    have m1 : (onM n g.back (onM n g es)).getD t Z8.nought ∈ onM n g.back (onM n g es) := getD_mem ht
    have m2 : es.getD t Z8.nought ∈ es := getD_mem ht2
    rw [ea, eb]
    have k2 := he.kk _ m2
    refine val_inj (F2.can _ m1) (he.can _ m2) (F2.kk _ m1) (show _ ≤ K + 1 + 1 by omega) ?_
    rw [F2.vals t htm, val_succ (e := es.getD t Z8.nought) (N := K + 1) (by omega), val_succ k2, rt_rt]
    by_cases hk : g.kd = .h
    · have hkb : g.back.kd = .h := by show g.kd.back = _; rw [hk]; rfl
      have ef : ∀ t, flip_ n g.back t = flip_ n g t := fun _ => rfl
      have ep : pl0 n g.back = pl0 n g := rfl
      obtain ⟨d1, d2, d3, _⟩ := (chk_h h hk).2 t htm
      rw [got_h hb hkb _ htm, ef, ep, F.vals t htm, F.vals _ d1, got_h h hk _ htm, got_h h hk _ d1, d3, d2]
      cases t.testBit (pl0 n g)
      · simp only [Bool.false_eq_true, if_false, Bool.not_false, if_true]
        apply Q4.ext' <;> simp only [Q4.add, Q4.neg] <;> omega
      · simp only [Bool.false_eq_true, if_false, Bool.not_true, if_true]
        apply Q4.ext' <;> simp only [Q4.add, Q4.neg] <;> omega
    · have hkb : g.back.kd ≠ .h := by
        show g.kd.back ≠ _
        intro q
        apply hk
        cases hh : g.kd <;> rw [hh] at q <;> first | rfl | cases q
      obtain ⟨d1, d2, d3, d4, _⟩ := (chk_p h hk).2 t htm
      rw [got_p hb hkb _ htm, d3, F.vals _ d1, got_p h hk _ d1, d2, twN_rt, ← twN_add]
      have z : Q4.twN (tau n g.back (pi_ n g t) + tau n g t) (val K (es.getD t Z8.nought)) = val K (es.getD t Z8.nought) := by
        rw [← twN_mod, d4]; rfl
      rw [z, rt_rt]

/-! ### runs -/
def halfM (n w : Nat) (b : Bool) (es : List Z8) : List Z8 := es.zipIdx.map fun er => if er.2.testBit (n - 1 - w) = b then er.1 else Z8.nought
abbrev Br := List Bool × List Z8
def allN (es : List Z8) : Prop := es = List.replicate es.length Z8.nought
instance (es : List Z8) : Decidable (allN es) := inferInstanceAs (Decidable (_ = _))
def part1 (n w : Nat) (br : Br) (b : Bool) : List Br := if allN (halfM n w b br.2) then [] else [(br.1 ++ [b], halfM n w b br.2)]
def partsM (n w : Nat) (br : Br) : List Br := part1 n w br false ++ part1 n w br true
def readM (n w : Nat) (brs : List Br) : List Br := brs.flatMap (partsM n w)
def askM (n j : Nat) (v : Bool) (g : Gt) (brs : List Br) : List Br := brs.map fun br => if br.1.getD j false = v then (br.1, onM n g br.2) else br
def gateM (n : Nat) (g : Gt) (brs : List Br) : List Br := brs.map fun br => (br.1, onM n g br.2)
inductive Rw where
  | gate (g : Gt)
  | read (w j : Nat)
  | ask (j : Nat) (v : Bool) (g : Gt)
deriving DecidableEq
def rowM (n : Nat) (brs : List Br) : Rw → List Br
  | .gate g => gateM n g brs
  | .read w _ => readM n w brs
  | .ask j v g => askM n j v g brs
def runM (n : Nat) (rows : List Rw) (es : List Z8) : List Br := rows.foldl (rowM n) [([], es)]
/-- a row that may stand behind m readings -/
def Rw.Ok (n m : Nat) : Rw → Prop
  | .gate g => g.Ok n
  | .read w j => w < n ∧ j = m ∧ m < 5
  | .ask j _ g => j < m ∧ g.Ok n
def Rw.reads : Rw → Nat
  | .read _ _ => 1
  | _ => 0
def RowsOk (n : Nat) : Nat → List Rw → Prop
  | _, [] => True
  | m, r :: rs => r.Ok n m ∧ RowsOk n (m + r.reads) rs
def reads (rs : List Rw) : Nat := (rs.map Rw.reads).sum
def Rw.isGate : Rw → Bool
  | .gate _ => true
  | _ => false
def nz (es : List Z8) : Prop := ¬ allN es

theorem allN_iff {es : List Z8} : allN es ↔ ∀ e ∈ es, e = Z8.nought := by
  unfold allN
  constructor
  · intro h e he
    rw [h] at he
    exact List.eq_of_mem_replicate he
  · intro h
    exact List.eq_replicate_iff.mpr ⟨rfl, h⟩
theorem val_zero {N : Nat} {e : Z8} (c : Canon e) (h : val N e = Q4.zero) : e = Z8.nought := by
  have h1 : Q4.rtN (N - e.k) e.v = Q4.rtN (N - e.k) Q4.zero := by rw [rtN_zero]; exact h
  have h2 := rtN_inj h1
  unfold Canon lowest at c
  rw [if_pos h2] at c
  exact c.symm
theorem Fsum_nn : ∀ {l : List Int}, (∀ x ∈ l, 0 ≤ x) → 0 ≤ l.sum
  | [], _ => Int.le_refl 0
  | x :: l, h => by
    rw [List.sum_cons]
    have := h x List.mem_cons_self
    have := Fsum_nn (l := l) fun y hy => h y (List.mem_cons_of_mem _ hy)
    omega
theorem Fsum_ge : ∀ {l : List Int}, (∀ x ∈ l, 0 ≤ x) → ∀ y ∈ l, y ≤ l.sum
  | x :: l, h, y, hy => by
    rw [List.sum_cons]
    have h0 := h x List.mem_cons_self
    have h1 := Fsum_nn (l := l) fun y hy => h y (List.mem_cons_of_mem _ hy)
    rcases List.mem_cons.mp hy with rfl | hy
    · omega
    · have := Fsum_ge (l := l) (fun y hy => h y (List.mem_cons_of_mem _ hy)) y hy
      omega
theorem PN_ge {N : Nat} {es : List Z8} : ∀ e ∈ es, np (val N e) ≤ PN N es := fun e he =>
  Fsum_ge (fun x hx => by obtain ⟨z, _, rfl⟩ := List.mem_map.mp hx; exact np_nn _) _ (List.mem_map.mpr ⟨e, he, rfl⟩)
theorem PN_nn (N : Nat) (es : List Z8) : 0 ≤ PN N es := Fsum_nn fun x hx => by obtain ⟨z, _, rfl⟩ := List.mem_map.mp hx; exact np_nn _
/-- a length is nought, or above it -/
theorem posN {N : Nat} : ∀ {es : List Z8}, (∀ e ∈ es, Canon e) → (allN es ∧ PN N es = 0 ∧ QN N es = 0) ∨ (¬ allN es ∧ Pst (PN N es) (QN N es))
  | [], _ => .inl ⟨rfl, rfl, rfl⟩
  | e :: es, h => by
    have ih := posN (N := N) (es := es) fun x hx => h x (List.mem_cons_of_mem _ hx)
    have e1 : PN N (e :: es) = np (val N e) + PN N es := by unfold PN; rw [List.map_cons, List.sum_cons]
    have e2 : QN N (e :: es) = nq (val N e) + QN N es := by unfold QN; rw [List.map_cons, List.sum_cons]
    rw [e1, e2]
    by_cases hz : val N e = Q4.zero
    · have en := val_zero (h e List.mem_cons_self) hz
      have z1 : np (val N e) = 0 := by rw [hz]; rfl
      have z2 : nq (val N e) = 0 := by rw [hz]; rfl
      rw [z1, z2, Int.zero_add, Int.zero_add]
      rcases ih with ⟨a, b, c⟩ | ⟨a, b⟩
      · refine .inl ⟨?_, b, c⟩
        rw [allN_iff] at a ⊢
        intro x hx
        rcases List.mem_cons.mp hx with rfl | hx
        · exact en
        · exact a x hx
      · refine .inr ⟨fun q => a ?_, b⟩
        rw [allN_iff] at q ⊢
        exact fun x hx => q x (List.mem_cons_of_mem _ hx)
    · have p := pos_of hz
      refine .inr ⟨fun q => hz ?_, ?_⟩
      · rw [allN_iff] at q
        rw [q e List.mem_cons_self, val_nought]
      · rcases ih with ⟨_, b, c⟩ | ⟨_, b⟩
        · rw [b, c, Int.add_zero, Int.add_zero]; exact p
        · exact p.add b
theorem nz_on {n K : Nat} {g : Gt} (h : chk n g = true) {es : List Z8} (he : EsOk n K es) (z : nz es) : nz (onM n g es) := by
  have a := posN (N := K + 1) he.can
  have b := posN (N := K + 1) (on_ok h he).can
  rw [on_PN h he (show K < K + 1 by omega), on_QN h he (show K < K + 1 by omega)] at b
  rcases a with ⟨q, _⟩ | ⟨_, p⟩
  · exact absurd q z
  · rcases b with ⟨_, c, _⟩ | ⟨c, _⟩
    · have := p.1; omega
    · exact c
theorem half_ok {n K w : Nat} {b : Bool} {es : List Z8} (h : EsOk n K es) : EsOk n K (halfM n w b es) := by
  have mem : ∀ e ∈ halfM n w b es, e ∈ es ∨ e = Z8.nought := by
    intro e he
    obtain ⟨⟨x, i⟩, hx, rfl⟩ := List.mem_map.mp he
    have := List.mem_zipIdx hx
    show (if i.testBit (n - 1 - w) = b then x else Z8.nought) ∈ es ∨ _
    split
    · left
      rw [this.2.2]
      exact List.getElem_mem _
    · exact .inr rfl
  refine ⟨by unfold halfM; rw [List.length_map, List.length_zipIdx]; exact h.len, fun e he => ?_, fun e he => ?_⟩
  · rcases mem e he with q | rfl
    · exact h.can e q
    · exact nought_canon
  · rcases mem e he with q | rfl
    · exact h.kk e q
    · exact Nat.zero_le _
theorem half_sum {n w N : Nat} (f : Q4 → Int) (f0 : f Q4.zero = 0) : ∀ (es : List Z8) (i : Nat), (((es.zipIdx i).map fun er => if er.2.testBit (n - 1 - w) = false then er.1 else Z8.nought).map fun e => f (val N e)).sum +
    (((es.zipIdx i).map fun er => if er.2.testBit (n - 1 - w) = true then er.1 else Z8.nought).map fun e => f (val N e)).sum = (es.map fun e => f (val N e)).sum
  | [], _ => rfl
  | e :: es, i => by
    have ih := half_sum (N := N) (n := n) (w := w) f f0 es (i + 1)
    simp only [List.zipIdx_cons, List.map_cons, List.sum_cons]
    cases i.testBit (n - 1 - w)
    · simp only [if_true, Bool.false_eq_true, if_false, val_nought, f0]
      omega
    · simp only [if_true, Bool.true_eq_false, if_false, val_nought, f0]
      omega
theorem half_PN (n w N : Nat) (es : List Z8) : PN N (halfM n w false es) + PN N (halfM n w true es) = PN N es := half_sum np rfl es 0
theorem half_QN (n w N : Nat) (es : List Z8) : QN N (halfM n w false es) + QN N (halfM n w true es) = QN N es := half_sum nq rfl es 0
def SP (N : Nat) (brs : List Br) : Int := (brs.map fun br => PN N br.2).sum
def SQ (N : Nat) (brs : List Br) : Int := (brs.map fun br => QN N br.2).sum
theorem SP_app (N : Nat) (a b : List Br) : SP N (a ++ b) = SP N a + SP N b := by unfold SP; rw [List.map_append, List.sum_append]
theorem SQ_app (N : Nat) (a b : List Br) : SQ N (a ++ b) = SQ N a + SQ N b := by unfold SQ; rw [List.map_append, List.sum_append]
theorem part1_P {n K N w : Nat} {br : Br} (h : EsOk n K br.2) (b : Bool) : SP N (part1 n w br b) = PN N (halfM n w b br.2) ∧ SQ N (part1 n w br b) = QN N (halfM n w b br.2) := by
  unfold part1
  have z := posN (N := N) (half_ok (w := w) (b := b) h).can
  split
  · rename_i q
    rcases z with ⟨_, c, d⟩ | ⟨c, _⟩
    · rw [c, d]; exact ⟨rfl, rfl⟩
    · exact absurd q c
  · unfold SP SQ
    simp
theorem parts_P {n K N w : Nat} {br : Br} (h : EsOk n K br.2) : SP N (partsM n w br) = PN N br.2 ∧ SQ N (partsM n w br) = QN N br.2 := by
  unfold partsM
  rw [SP_app, SQ_app, (part1_P h _).1, (part1_P h _).1, (part1_P h _).2, (part1_P h _).2]
  exact ⟨half_PN n w N br.2, half_QN n w N br.2⟩
/-- what holds of the branches behind m readings -/
structure BrOk (n K m : Nat) (brs : List Br) : Prop where
  es : ∀ br ∈ brs, EsOk n K br.2
  len : ∀ br ∈ brs, br.1.length = m
  nd : (brs.map (·.1)).Nodup
  nz : 0 < m → ∀ br ∈ brs, nz br.2
  one : m = 0 → brs.length = 1
theorem mem_part1 {n w : Nat} {br z : Br} {b : Bool} (h : z ∈ part1 n w br b) : z = (br.1 ++ [b], halfM n w b br.2) ∧ nz z.2 := by
  unfold part1 at h
  split at h
  · cases h
  · rename_i q
    have e : z = (br.1 ++ [b], halfM n w b br.2) := by simpa using h
    exact ⟨e, by rw [e]; exact q⟩
theorem mem_parts {n w : Nat} {br z : Br} (h : z ∈ partsM n w br) : ∃ b, z = (br.1 ++ [b], halfM n w b br.2) ∧ nz z.2 := by
  rcases List.mem_append.mp h with h | h
  · exact ⟨_, mem_part1 h⟩
  · exact ⟨_, mem_part1 h⟩
theorem parts_nd (n w : Nat) (br : Br) : ((partsM n w br).map (·.1)).Nodup := by
  unfold partsM part1
  split <;> split <;> simp
theorem read_nd {n w m : Nat} : ∀ {brs : List Br}, (brs.map (·.1)).Nodup → (∀ br ∈ brs, br.1.length = m) → ((readM n w brs).map (·.1)).Nodup
  | [], _, _ => List.nodup_nil
  | br :: brs, h, hl => by
    rw [List.map_cons, List.nodup_cons] at h
    have ih := read_nd (n := n) (w := w) h.2 fun z hz => hl z (List.mem_cons_of_mem _ hz)
    show ((partsM n w br ++ readM n w brs).map (·.1)).Nodup
    rw [List.map_append, List.nodup_append]
    refine ⟨parts_nd n w br, ih, fun a ha b hb => ?_⟩
    obtain ⟨za, hza, rfl⟩ := List.mem_map.mp ha
    obtain ⟨zb, hzb, rfl⟩ := List.mem_map.mp hb
    obtain ⟨b1, e1, _⟩ := mem_parts hza
    obtain ⟨br2, hbr2, hzb2⟩ := List.mem_flatMap.mp hzb
    obtain ⟨b2, e2, _⟩ := mem_parts hzb2
    rw [e1, e2]
    intro q
    have q : br.1 ++ [b1] = br2.1 ++ [b2] := q
    have := List.append_inj_left' q rfl
    exact h.1 (List.mem_map.mpr ⟨br2, hbr2, this.symm⟩)
theorem row_ok {n K m N : Nat} (hn : n < 5) {r : Rw} (hr : r.Ok n m) {brs : List Br} (h : BrOk n K m brs) (hK : K < N) : BrOk n (K + 1) (m + r.reads) (rowM n brs r) ∧ SP N (rowM n brs r) = SP N brs ∧ SQ N (rowM n brs r) = SQ N brs := by
  cases r with
  | gate g =>
    have hc := chk_ok hn (show g.Ok n from hr)
    refine ⟨⟨?_, ?_, ?_, ?_, ?_⟩, ?_, ?_⟩
    · intro br hb
      obtain ⟨z, hz, rfl⟩ := List.mem_map.mp hb
      exact on_ok hc (h.es z hz)
    · intro br hb
      obtain ⟨z, hz, rfl⟩ := List.mem_map.mp hb
      exact h.len z hz
    · show ((brs.map fun br => (br.1, onM n g br.2)).map (·.1)).Nodup
      rw [List.map_map]
      exact h.nd
    · intro hm br hb
      obtain ⟨z, hz, rfl⟩ := List.mem_map.mp hb
      exact nz_on hc (h.es z hz) (h.nz hm z hz)
    · intro hm
      show (brs.map _).length = 1
      rw [List.length_map]
      exact h.one hm
    · show SP N (brs.map fun br => (br.1, onM n g br.2)) = _
      unfold SP
      rw [List.map_map]
      exact congrArg List.sum (List.map_congr_left fun z hz => on_PN hc (h.es z hz) hK)
    · show SQ N (brs.map fun br => (br.1, onM n g br.2)) = _
      unfold SQ
      rw [List.map_map]
      exact congrArg List.sum (List.map_congr_left fun z hz => on_QN hc (h.es z hz) hK)
  | ask j v g =>
    have hc := chk_ok hn hr.2
    have sel : ∀ z ∈ brs, ∀ (C : Br → Prop), C (z.1, onM n g z.2) → C z → C (if z.1.getD j false = v then (z.1, onM n g z.2) else z) := by
      intro z _ C c1 c2
      split
      · exact c1
      · exact c2
    refine ⟨⟨?_, ?_, ?_, ?_, ?_⟩, ?_, ?_⟩
    · intro br hb
      obtain ⟨z, hz, rfl⟩ := List.mem_map.mp hb
      exact sel z hz (fun y => EsOk n (K + 1) y.2) (on_ok hc (h.es z hz)) ((h.es z hz).mono (Nat.le_succ K))
    · intro br hb
      obtain ⟨z, hz, rfl⟩ := List.mem_map.mp hb
      exact sel z hz (fun y => y.1.length = m) (h.len z hz) (h.len z hz)
    · show ((brs.map fun br => if br.1.getD j false = v then (br.1, onM n g br.2) else br).map (·.1)).Nodup
      rw [List.map_map]
      have e : brs.map ((·.1) ∘ fun br => if br.1.getD j false = v then (br.1, onM n g br.2) else br) = brs.map (·.1) := List.map_congr_left fun z hz => sel z hz (fun y => y.1 = z.1) rfl rfl
      rw [e]
      exact h.nd
    · intro hm br hb
      obtain ⟨z, hz, rfl⟩ := List.mem_map.mp hb
      exact sel z hz (fun y => BW.nz y.2) (nz_on hc (h.es z hz) (h.nz hm z hz)) (h.nz hm z hz)
    · intro hm
      show (brs.map _).length = 1
      rw [List.length_map]
      exact h.one hm
    · show SP N (brs.map fun br => if br.1.getD j false = v then (br.1, onM n g br.2) else br) = _
      unfold SP
      rw [List.map_map]
      exact congrArg List.sum (List.map_congr_left fun z hz => sel z hz (fun y => PN N y.2 = PN N z.2) (on_PN hc (h.es z hz) hK) rfl)
    · show SQ N (brs.map fun br => if br.1.getD j false = v then (br.1, onM n g br.2) else br) = _
      unfold SQ
      rw [List.map_map]
      exact congrArg List.sum (List.map_congr_left fun z hz => sel z hz (fun y => QN N y.2 = QN N z.2) (on_QN hc (h.es z hz) hK) rfl)
  | read w j =>
    refine ⟨⟨?_, ?_, read_nd h.nd h.len, ?_, fun hm => absurd hm (Nat.succ_ne_zero m)⟩, ?_, ?_⟩
    · intro br hb
      obtain ⟨z, hz, hb⟩ := List.mem_flatMap.mp hb
      obtain ⟨b, rfl, _⟩ := mem_parts hb
      exact (half_ok (h.es z hz)).mono (Nat.le_succ K)
    · intro br hb
      obtain ⟨z, hz, hb⟩ := List.mem_flatMap.mp hb
      obtain ⟨b, rfl, _⟩ := mem_parts hb
      show (z.1 ++ [b]).length = m + 1
      rw [List.length_append, h.len z hz]
      rfl
    · intro _ br hb
      obtain ⟨z, hz, hb⟩ := List.mem_flatMap.mp hb
      obtain ⟨b, _, q⟩ := mem_parts hb
      exact q
    · have g : ∀ l : List Br, (∀ br ∈ l, EsOk n K br.2) → SP N (l.flatMap (partsM n w)) = SP N l := by
        intro l
        induction l with
        | nil => intro _; rfl
        | cons z l ih =>
          intro q
          rw [List.flatMap_cons, SP_app, (parts_P (q z List.mem_cons_self)).1, ih fun y hy => q y (List.mem_cons_of_mem _ hy)]
          unfold SP
          rw [List.map_cons, List.sum_cons]
      exact g brs h.es
    · have g : ∀ l : List Br, (∀ br ∈ l, EsOk n K br.2) → SQ N (l.flatMap (partsM n w)) = SQ N l := by
        intro l
        induction l with
        | nil => intro _; rfl
        | cons z l ih =>
          intro q
          rw [List.flatMap_cons, SQ_app, (parts_P (q z List.mem_cons_self)).2, ih fun y hy => q y (List.mem_cons_of_mem _ hy)]
          unfold SQ
          rw [List.map_cons, List.sum_cons]
      exact g brs h.es
theorem rows_ok {n N : Nat} (hn : n < 5) : ∀ (rs : List Rw) {K m : Nat} {brs : List Br}, RowsOk n m rs → BrOk n K m brs → K + rs.length ≤ N → BrOk n (K + rs.length) (m + reads rs) (rs.foldl (rowM n) brs) ∧ SP N (rs.foldl (rowM n) brs) = SP N brs ∧ SQ N (rs.foldl (rowM n) brs) = SQ N brs
  | [], K, m, brs, _, h, _ => ⟨h, rfl, rfl⟩
  | r :: rs, K, m, brs, hr, h, hl => by
    rw [List.length_cons] at hl
    obtain ⟨a, b, c⟩ := row_ok hn hr.1 h (show K < N by omega)
    obtain ⟨a2, b2, c2⟩ := rows_ok (N := N) (K := K + 1) hn rs hr.2 a (by omega)
    have e1 : K + (r :: rs).length = K + 1 + rs.length := by rw [List.length_cons]; omega
    have e2 : m + reads (r :: rs) = m + r.reads + reads rs := by unfold reads; rw [List.map_cons, List.sum_cons]; omega
    rw [e1, e2, List.foldl_cons]
    exact ⟨a2, b2.trans b, c2.trans c⟩
theorem run_ok {n K N : Nat} (hn : n < 5) {rs : List Rw} (hr : RowsOk n 0 rs) {es : List Z8} (he : EsOk n K es) (hl : K + rs.length ≤ N) : BrOk n (K + rs.length) (reads rs) (runM n rs es) ∧ SP N (runM n rs es) = PN N es ∧ SQ N (runM n rs es) = QN N es := by
  have h0 : BrOk n K 0 [([], es)] := ⟨by intro br hb; rw [List.mem_singleton.mp hb]; exact he, by intro br hb; rw [List.mem_singleton.mp hb]; rfl, by simp, fun h => absurd h (Nat.lt_irrefl 0), fun _ => rfl⟩
  obtain ⟨a, b, c⟩ := rows_ok hn rs hr h0 hl
  rw [Nat.zero_add] at a
  refine ⟨a, b.trans ?_, c.trans ?_⟩
  · unfold SP; simp
  · unfold SQ; simp

/-! ### lengths of states and of branches -/
def stLen (es : List Z8) : L3 := lsum (es.map squ)
theorem stLen_at {N : Nat} {es : List Z8} (h : ∀ e ∈ es, e.k ≤ N) : LAt N (stLen es) (PN N es) (QN N es) := by
  have z := lsum_at (N := N) (ls := es.map squ) (PQ := es.map fun e => (np (val N e), nq (val N e))) (by simp) fun i l pq h1 h2 => by
    rw [List.getElem?_map] at h1 h2
    cases e : es[i]? with
    | none => rw [e] at h1; cases h1
    | some x =>
      rw [e] at h1 h2
      simp only [Option.map_some, Option.some.injEq] at h1 h2
      subst h1 h2
      exact squ_at (h x (List.mem_of_getElem? e))
  rw [List.map_map, List.map_map] at z
  exact z
theorem brLen_at {n K m N : Nat} {brs : List Br} (h : BrOk n K m brs) (hK : K ≤ N) : LAt N (lsum (brs.map fun br => stLen br.2)) (SP N brs) (SQ N brs) := by
  have z := lsum_at (N := N) (ls := brs.map fun br => stLen br.2) (PQ := brs.map fun br => (PN N br.2, QN N br.2)) (by simp) fun i l pq h1 h2 => by
    rw [List.getElem?_map] at h1 h2
    cases e : brs[i]? with
    | none => rw [e] at h1; cases h1
    | some x =>
      rw [e] at h1 h2
      simp only [Option.map_some, Option.some.injEq] at h1 h2
      subst h1 h2
      exact stLen_at fun y hy => Nat.le_trans ((h.es x (List.mem_of_getElem? e)).kk y hy) hK
  rw [List.map_map, List.map_map] at z
  exact z
/-- the lengths of the branches add up to the state's own -/
theorem run_len {n K : Nat} (hn : n < 5) {rs : List Rw} (hr : RowsOk n 0 rs) {es : List Z8} (he : EsOk n K es) : lsum ((runM n rs es).map fun br => stLen br.2) = stLen es := by
  obtain ⟨a, b, c⟩ := run_ok hn hr he (Nat.le_refl _)
  have z := brLen_at a (Nat.le_refl _)
  rw [b, c] at z
  exact z.inj (stLen_at fun e h => Nat.le_trans (he.kk e h) (Nat.le_add_right _ _))
theorem stLen_pos {n K : Nat} {es : List Z8} (he : EsOk n K es) (z : nz es) : Pst (stLen es).p (stLen es).q := by
  have a := stLen_at he.kk
  rcases posN (N := K) he.can with ⟨q, _⟩ | ⟨_, p⟩
  · exact absurd q z
  · exact p.of_scale a.p a.q
theorem stLen_zero {n K : Nat} {es : List Z8} (he : EsOk n K es) (z : stLen es ≠ ⟨0, 0, 0⟩) : nz es := by
  intro q
  have a := stLen_at he.kk
  rcases posN (N := K) he.can with ⟨_, c, d⟩ | ⟨c, _⟩
  · rw [c, d] at a
    exact z (a.inj ⟨Nat.zero_le _, by simp, by simp, .inl rfl⟩)
  · exact c q
theorem run_some {n K : Nat} (hn : n < 5) {rs : List Rw} (hr : RowsOk n 0 rs) {es : List Z8} (he : EsOk n K es) (z : stLen es ≠ ⟨0, 0, 0⟩) : runM n rs es ≠ [] := by
  intro q
  have h := run_len hn hr he
  rw [q] at h
  exact z h.symm
/-- a number of a state is within its length -/
theorem np_within {n K N : Nat} {es : List Z8} (he : EsOk n K es) (hK : K ≤ N) {e : Z8} (h : e ∈ es) : np e.v ≤ PN N es := by
  have a := PN_ge (N := N) e h
  unfold val at a
  rw [np_rtN] at a
  have t : (1 : Int) ≤ 2 ^ (N - e.k) := by have := two_pow_pos (N - e.k); omega
  have b := Int.mul_le_mul_of_nonneg_left t (np_nn e.v)
  omega
theorem SP_ge {n K m N : Nat} {brs : List Br} (h : BrOk n K m brs) {br : Br} (hb : br ∈ brs) : PN N br.2 ≤ SP N brs :=
  Fsum_ge (fun x hx => by obtain ⟨z, _, rfl⟩ := List.mem_map.mp hx; exact PN_nn _ _) _ (List.mem_map.mpr ⟨br, hb, rfl⟩)

/-! ### read again -/
theorem half_half (n w : Nat) (b c : Bool) (es : List Z8) : halfM n w c (halfM n w b es) = if b = c then halfM n w b es else List.replicate es.length Z8.nought := by
  apply List.ext_getElem
  · split <;> simp [halfM]
  · intro i h1 h2
    simp only [halfM, List.length_map, List.length_zipIdx] at h1
    have e : (if b = c then halfM n w b es else List.replicate es.length Z8.nought)[i] = if b = c then (if i.testBit (n - 1 - w) = b then es[i] else Z8.nought) else Z8.nought := by
      by_cases q : b = c
      · simp [q, halfM]
      · simp [q]
    rw [e]
    simp only [halfM, List.getElem_map, List.getElem_zipIdx, Nat.zero_add]
    cases b <;> cases c <;> cases i.testBit (n - 1 - w) <;> simp
theorem half_nz_allN {n w : Nat} {b : Bool} {es : List Z8} : allN (halfM n w (!b) (halfM n w b es)) := by
  rw [half_half]
  cases b <;> simp [allN]
theorem again {n w : Nat} {b : Bool} {es : List Z8} (z : nz (halfM n w b es)) : runM n [.read w 0, .read w 1] (halfM n w b es) = [([b, b], halfM n w b es)] := by
  have one : ∀ (l : List Bool), partsM n w (l, halfM n w b es) = [(l ++ [b], halfM n w b es)] := by
    intro l
    have hb : halfM n w b (halfM n w b es) = halfM n w b es := by rw [half_half, if_pos rfl]
    have ho := half_nz_allN (n := n) (w := w) (b := b) (es := es)
    unfold partsM part1
    cases b
    · simp only [Bool.not_false] at ho
      rw [if_pos ho]
      show (if allN (halfM n w false (halfM n w false es)) then _ else [(l ++ [false], halfM n w false (halfM n w false es))]) ++ [] = _
      rw [hb, if_neg z]
      rfl
    · simp only [Bool.not_true] at ho
      rw [if_pos ho]
      show [] ++ (if allN (halfM n w true (halfM n w true es)) then _ else [(l ++ [true], halfM n w true (halfM n w true es))]) = _
      rw [hb, if_neg z]
      rfl
  show (([([], halfM n w b es)] : List Br).flatMap (partsM n w)).flatMap (partsM n w) = _
  simp only [List.flatMap_cons, List.flatMap_nil, List.append_nil, one, List.nil_append]
  rfl
theorem read1 {n w : Nat} {es : List Z8} {br : Br} (h : br ∈ runM n [.read w 0] es) : ∃ b, br = ([b], halfM n w b es) ∧ nz (halfM n w b es) := by
  have h : br ∈ ([([], es)] : List Br).flatMap (partsM n w) := h
  simp only [List.flatMap_cons, List.flatMap_nil, List.append_nil] at h
  obtain ⟨b, rfl, z⟩ := mem_parts h
  exact ⟨b, rfl, z⟩

/-! ### undone -/
theorem run_gates (n : Nat) : ∀ (gs : List Gt) (bs : List Bool) (es : List Z8), (gs.map Rw.gate).foldl (rowM n) [(bs, es)] = [(bs, gs.foldl (fun e g => onM n g e) es)]
  | [], _, _ => rfl
  | g :: gs, bs, es => run_gates n gs bs (onM n g es)
theorem undo_gates {n : Nat} (hn : n < 5) : ∀ (gs : List Gt) {K : Nat} {es : List Z8}, (∀ g ∈ gs, g.Ok n) → EsOk n K es → (gs.reverse.map Gt.back).foldl (fun e g => onM n g e) (gs.foldl (fun e g => onM n g e) es) = es
  | [], _, _, _, _ => rfl
  | g :: gs, K, es, h, he => by
    have hg := h g List.mem_cons_self
    have hc := chk_ok hn hg
    have hb := chk_ok hn (back_ok hg)
    rw [List.reverse_cons, List.map_append, List.foldl_append, List.foldl_cons, undo_gates hn gs (fun z hz => h z (List.mem_cons_of_mem _ hz)) (on_ok hc he)]
    exact on_back hc hb he
end BW

set_option Elab.async false
set_option linter.all false
set_option maxRecDepth 100000
set_option maxHeartbeats 4000000
namespace BW
open PySem PySem.Spec PyProof.Rows L2
/-! ### data by the heap -/
/-- a tuple of ints -/
def TI (K : PySem.W.Frag) (H : Hp) (v : V) (ns : List Int) : Prop := ∃ p, v = .ref p ∧ SqT K H p (ns.map V.int)
theorem TI.fz {K : PySem.W.Frag} {H H' : Hp} {v : V} {ns : List Int} (h : TI K H v ns) (e : Fz H H') : TI K H' v ns := by
  obtain ⟨p, rfl, h⟩ := h
  exact ⟨p, rfl, SqT.fz h e⟩
theorem TI.ex {K : PySem.W.Frag} {H H' : Hp} {v : V} {ns : List Int} (h : TI K H v ns) (e : Ex H H') : TI K H' v ns := h.fz (Fz.of e)
theorem TI.new {K : PySem.W.Frag} {H : Hp} {p : Addr} {vs : List V} {ns : List Int} (h : H p = some (.tup vs)) (e : vs = ns.map V.int) : TI K H (.ref p) ns := ⟨p, rfl, by rw [← e]; exact SqT.of h⟩
def Q4.ns (x : Q4) : List Int := [x.a, x.b, x.c, x.d]
def Z8.ns (e : Z8) : List Int := [e.v.a, e.v.b, e.v.c, e.v.d, (e.k : Int)]
def L3.ns (l : L3) : List Int := [l.p, l.q, (l.k : Int)]
theorem Z8.ns_inj {e f : Z8} (h : e.ns = f.ns) : e = f := by
  obtain ⟨⟨a, b, c, d⟩, k⟩ := e
  obtain ⟨⟨a', b', c', d'⟩, k'⟩ := f
  simp only [Z8.ns, List.cons.injEq, and_true] at h
  obtain ⟨rfl, rfl, rfl, rfl, h⟩ := h
  have : k = k' := by omega
  rw [this]
theorem L3.ns_inj {e f : L3} (h : e.ns = f.ns) : e = f := by
  obtain ⟨a, b, k⟩ := e
  obtain ⟨a', b', k'⟩ := f
  simp only [L3.ns, List.cons.injEq, and_true] at h
  obtain ⟨rfl, rfl, h⟩ := h
  have : k = k' := by omega
  rw [this]
/-- one by one -/
inductive All2 {α β : Type} (R : α → β → Prop) : List α → List β → Prop
  | nil : All2 R [] []
  | cons {a : α} {b : β} {l : List α} {m : List β} : R a b → All2 R l m → All2 R (a :: l) (b :: m)
theorem All2.mp {α β : Type} {R R' : α → β → Prop} {l : List α} {m : List β} (h : All2 R l m) (k : ∀ a b, R a b → R' a b) : All2 R' l m := by
  induction h with
  | nil => exact .nil
  | cons r _ ih => exact .cons (k _ _ r) ih
theorem All2.len {α β : Type} {R : α → β → Prop} {l : List α} {m : List β} (h : All2 R l m) : l.length = m.length := by
  induction h with
  | nil => rfl
  | cons _ _ ih => rw [List.length_cons, List.length_cons, ih]
theorem All2.get {α β : Type} {R : α → β → Prop} {l : List α} {m : List β} (h : All2 R l m) : ∀ {i : Nat} {a : α}, l[i]? = some a → ∃ b, m[i]? = some b ∧ R a b := by
  induction h with
  | nil => intro i a e; simp at e
  | cons r _ ih =>
    intro i a e
    cases i with
    | zero => simp at e; subst e; exact ⟨_, rfl, r⟩
    | succ i => simp at e; obtain ⟨b, h1, h2⟩ := ih e; exact ⟨b, by simpa using h1, h2⟩
theorem All2.get' {α β : Type} {R : α → β → Prop} {l : List α} {m : List β} (h : All2 R l m) : ∀ {i : Nat} {b : β}, m[i]? = some b → ∃ a, l[i]? = some a ∧ R a b := by
  induction h with
  | nil => intro i a e; simp at e
  | cons r _ ih =>
    intro i a e
    cases i with
    | zero => simp at e; subst e; exact ⟨_, rfl, r⟩
    | succ i => simp at e; obtain ⟨b, h1, h2⟩ := ih e; exact ⟨b, by simpa using h1, h2⟩
theorem All2.app {α β : Type} {R : α → β → Prop} {l l' : List α} {m m' : List β} (h : All2 R l m) (h' : All2 R l' m') : All2 R (l ++ l') (m ++ m') := by
  induction h with
  | nil => exact h'
  | cons r _ ih => exact .cons r ih
theorem All2.snoc {α β : Type} {R : α → β → Prop} {l : List α} {m : List β} {a : α} {b : β} (h : All2 R l m) (r : R a b) : All2 R (l ++ [a]) (m ++ [b]) := h.app (.cons r .nil)
theorem All2.rep {α β : Type} {R : α → β → Prop} {a : α} {b : β} (r : R a b) : ∀ n, All2 R (List.replicate n a) (List.replicate n b)
  | 0 => .nil
  | n + 1 => .cons r (All2.rep r n)
theorem All2.set {α β : Type} {R : α → β → Prop} {l : List α} {m : List β} {a : α} {b : β} (h : All2 R l m) (r : R a b) : ∀ i, All2 R (l.set i a) (m.set i b) := by
  induction h with
  | nil => intro i; exact .nil
  | cons q t ih =>
    intro i
    cases i with
    | zero => exact .cons r t
    | succ i => exact .cons q (ih i)
theorem All2.of {α β : Type} {R : α → β → Prop} : ∀ {l : List α} {m : List β}, l.length = m.length → (∀ (i : Nat) a b, l[i]? = some a → m[i]? = some b → R a b) → All2 R l m
  | [], [], _, _ => .nil
  | a :: l, b :: m, h, k => .cons (k 0 a b rfl rfl) (All2.of (by simpa using h) fun i x y h1 h2 => k (i + 1) x y (by simpa using h1) (by simpa using h2))
  | [], _ :: _, h, _ => by simp at h
  | _ :: _, [], h, _ => by simp at h
theorem All2.rev {α β : Type} {R : α → β → Prop} {l : List α} {m : List β} (h : All2 R l m) : All2 R l.reverse m.reverse := by
  induction h with
  | nil => exact .nil
  | cons r _ ih => rw [List.reverse_cons, List.reverse_cons]; exact ih.snoc r
/-- a list of tuples of ints at p, read -/
def LTI (K : PySem.W.Frag) (H : Hp) (p : Addr) (nss : List (List Int)) : Prop := ∃ vs, SqL K H p vs ∧ All2 (TI K H) vs nss
theorem LTI.ex {K : PySem.W.Frag} {H H' : Hp} {p : Addr} {nss : List (List Int)} (h : LTI K H p nss) (e : Ex H H') : LTI K H' p nss := by
  obtain ⟨vs, h1, h2⟩ := h
  exact ⟨vs, SqL.ex h1 e, h2.mp fun _ _ h => h.ex e⟩
theorem sqt_ty {K : PySem.W.Frag} {H : Hp} {p : Addr} {xs : List V} (h : SqT K H p xs) : TyX K H (.ref p) (.type "tuple") := by
  rcases h with (h | ⟨o, h⟩) | ⟨o, its, n, h, hc, _⟩
  · exact .base (.tup h)
  · exact .fTuple h
  · exact .kTuple h hc
/-! ### == of such data -/
section
variable {K : PySem.W.Frag} {H : Hp}
theorem dpI : ∀ ns : List Int, DpAll K H (ns.map V.int) (ns.map PyData.int)
  | [] => .nil
  | n :: ns => .cons (.int n) (dpI ns)
theorem TI.dp {v : V} {ns : List Int} (h : TI K H v ns) : Dp K H v (.tuple (ns.map PyData.int)) := by
  obtain ⟨p, rfl, h⟩ := h
  exact .tup h (dpI ns)
theorem layI : ∀ ns : List Int, PyData.canLayAll0 (ns.map PyData.int) = true ∧ PyData.depthAll (ns.map PyData.int) ≤ 1
  | [] => by simp [PyData.canLayAll0, PyData.depthAll]
  | n :: ns => by
    obtain ⟨h1, h2⟩ := layI ns
    rw [List.map_cons, PyData.canLayAll0, PyData.depthAll, h1]
    exact ⟨by simp [PyData.canLay0], by simp [PyData.depth]; omega⟩
theorem shI (ns : List Int) : SeqAt.shaped (.tuple (ns.map PyData.int)) = true := by
  obtain ⟨h1, h2⟩ := layI ns
  unfold SeqAt.shaped
  rw [PyData.canLay0, h1, PyData.depth]
  simp
  omega
theorem eqvI (ns ms : List Int) : PyData.eqv (.tuple (ns.map PyData.int)) (.tuple (ms.map PyData.int)) = decide (ns = ms) := by
  rw [PyData.eqv]
  exact PySem.W.ked_eqvAll ns ms
def tupP (ns : List Int) : PyData := .tuple (ns.map PyData.int)
theorem dpL {vs : List V} {nss : List (List Int)} (h : All2 (TI K H) vs nss) : DpAll K H vs (nss.map tupP) := by
  induction h with
  | nil => exact .nil
  | cons r _ ih => exact .cons r.dp ih
theorem layL : ∀ nss : List (List Int), PyData.canLayAll0 (nss.map tupP) = true ∧ PyData.depthAll (nss.map tupP) ≤ 3
  | [] => by simp [PyData.canLayAll0, PyData.depthAll]
  | n :: ns => by
    obtain ⟨h1, h2⟩ := layL ns
    obtain ⟨h3, h4⟩ := layI n
    rw [List.map_cons, PyData.canLayAll0, PyData.depthAll, h1]
    refine ⟨by simp [tupP, PyData.canLay0, h3], ?_⟩
    have e : PyData.depth (tupP n) = PyData.depth (.tuple (n.map PyData.int)) := rfl
    rw [e, PyData.depth]
    omega
theorem shL (nss : List (List Int)) : SeqAt.shaped (.list (nss.map tupP)) = true := by
  obtain ⟨h1, h2⟩ := layL nss
  unfold SeqAt.shaped
  rw [PyData.canLay0, h1, PyData.depth]
  simp
  omega
theorem eqvL : ∀ nss mss : List (List Int), PyData.eqvAll (nss.map tupP) (mss.map tupP) = decide (nss = mss)
  | [], [] => by simp [PyData.eqvAll]
  | [], _ :: _ => by simp [PyData.eqvAll]
  | _ :: _, [] => by simp [PyData.eqvAll]
  | n :: ns, m :: ms => by
    rw [List.map_cons, List.map_cons, PyData.eqvAll, eqvL ns ms]
    have e : PyData.eqv (tupP n) (tupP m) = decide (n = m) := eqvI n m
    rw [e]
    by_cases h : n = m <;> by_cases h' : ns = ms <;> simp [h, h']
theorem LTI.dp {p : Addr} {nss : List (List Int)} (h : LTI K H p nss) : Dp K H (.ref p) (.list (nss.map tupP)) := by
  obtain ⟨vs, h1, h2⟩ := h
  exact .lst h1 (dpL h2)
end
theorem OpR.imp {X : Cx} {f : Value → Value → Sem Value} {r r' : R2} (h : OpR X f r) (k : ∀ x y H Q, r' x y H Q → r x y H Q) : OpR X f r' :=
  fun pins s σ H x y v u Q I rx ry q => h pins s σ H x y v u Q I rx ry (k _ _ _ _ q)
section
variable {X : Cx}
theorem op_eqTI (hu : X.A.units + 64 < cLine) : OpR X (compareOp .Eq) (fun x y H Q => ∃ ns ms, TI X.K H x ns ∧ TI X.K H y ms ∧ Q (.bl (decide (ns = ms))) H) :=
  OpR.imp (op_eqD hu) fun x y H Q ⟨ns, ms, h1, h2, q⟩ => ⟨_, _, h1.dp, h2.dp, shI ns, shI ms, by rw [eqvI]; exact q⟩
theorem op_neTI (hu : X.A.units + 64 < cLine) : OpR X (compareOp .NotEq) (fun x y H Q => ∃ ns ms, TI X.K H x ns ∧ TI X.K H y ms ∧ Q (.bl (!decide (ns = ms))) H) :=
  OpR.imp (op_neD hu) fun x y H Q ⟨ns, ms, h1, h2, q⟩ => ⟨_, _, h1.dp, h2.dp, shI ns, shI ms, by rw [eqvI]; exact q⟩
theorem op_eqLT (hu : X.A.units + 64 < cLine) : OpR X (compareOp .Eq) (fun x y H Q => ∃ p q ns ms, x = .ref p ∧ y = .ref q ∧ LTI X.K H p ns ∧ LTI X.K H q ms ∧ Q (.bl (decide (ns = ms))) H) :=
  OpR.imp (op_eqD hu) fun x y H Q ⟨p, q, ns, ms, e1, e2, h1, h2, z⟩ => by
    subst e1 e2
    refine ⟨_, _, h1.dp, h2.dp, shL ns, shL ms, ?_⟩
    rw [PyData.eqv, eqvL]
    exact z
theorem op_neLT (hu : X.A.units + 64 < cLine) : OpR X (compareOp .NotEq) (fun x y H Q => ∃ p q ns ms, x = .ref p ∧ y = .ref q ∧ LTI X.K H p ns ∧ LTI X.K H q ms ∧ Q (.bl (!decide (ns = ms))) H) :=
  OpR.imp (op_neD hu) fun x y H Q ⟨p, q, ns, ms, e1, e2, h1, h2, z⟩ => by
    subst e1 e2
    refine ⟨_, _, h1.dp, h2.dp, shL ns, shL ms, ?_⟩
    rw [PyData.eqv, eqvL]
    exact z
theorem op_eqI : OpR X (compareOp .Eq) (rI0 fun i j => .bl (decide (i = j))) := OpR.imp op_eq fun x y H Q ⟨i, j, e1, e2, q⟩ => by
  subst e1 e2
  refine ⟨rfl, ?_⟩
  have e : decide (V.int i = V.int j) = decide (i = j) := by simp
  rw [e]
  exact q
theorem op_neI : OpR X (compareOp .NotEq) (rI0 fun i j => .bl (!decide (i = j))) := OpR.imp op_ne fun x y H Q ⟨i, j, e1, e2, q⟩ => by
  subst e1 e2
  refine ⟨rfl, ?_⟩
  have e : decide (V.int i = V.int j) = decide (i = j) := by simp
  rw [e]
  exact q
theorem op_eqS : OpR X (compareOp .Eq) (fun x y H Q => ∃ i j, x = .str i ∧ y = .str j ∧ Q (.bl (decide (i = j))) H) := OpR.imp op_eq fun x y H Q ⟨i, j, e1, e2, q⟩ => by
  subst e1 e2
  refine ⟨rfl, ?_⟩
  have e : decide (V.str i = V.str j) = decide (i = j) := by simp
  rw [e]
  exact q
theorem op_neS : OpR X (compareOp .NotEq) (fun x y H Q => ∃ i j, x = .str i ∧ y = .str j ∧ Q (.bl (!decide (i = j))) H) := OpR.imp op_ne fun x y H Q ⟨i, j, e1, e2, q⟩ => by
  subst e1 e2
  refine ⟨rfl, ?_⟩
  have e : decide (V.str i = V.str j) = decide (i = j) := by simp
  rw [e]
  exact q
/-! ### tests that leave the heap -/
variable {σ : L2.St} {H : Hp} {e a b c o : Expr} {es : List Expr} {st : Stmt} {sts as bs : List Stmt} {pos p apos : PySem.Pos} {D : Ends} {Q : VK} {c1 c2 : Bool}
def TB (X : Cx) (e : Expr) (σ : L2.St) (H : Hp) (k : Bool) : Prop := T X e σ H fun b H1 => b = k ∧ H1 = H
def WB (X : Cx) (e : Expr) (σ : L2.St) (H : Hp) (k : Bool) : Prop := Wt X e σ H fun b H1 => b = k ∧ H1 = H
theorem TB_w (h : WB X e σ H c1) : TB X e σ H c1 := T_w h
theorem WB_and1 (h : TB X a σ H c1) : WB X (.BoolOp .And [a] pos) σ H c1 := W_and1 h
theorem WB_or1 (h : TB X a σ H c1) : WB X (.BoolOp .Or [a] pos) σ H c1 := W_or1 h
theorem WB_and (h : TB X a σ H c1) (h2 : c1 = true → WB X (.BoolOp .And (b :: es) pos) σ H c2) : WB X (.BoolOp .And (a :: b :: es) pos) σ H (c1 && c2) := by
  refine W_and (T.mono h fun k H1 q => ?_)
  obtain ⟨rfl, rfl⟩ := q
  cases k with
  | true => exact iteT (h2 rfl)
  | false => exact iteF ⟨rfl, rfl⟩
theorem WB_or (h : TB X a σ H c1) (h2 : c1 = false → WB X (.BoolOp .Or (b :: es) pos) σ H c2) : WB X (.BoolOp .Or (a :: b :: es) pos) σ H (c1 || c2) := by
  refine W_or (T.mono h fun k H1 q => ?_)
  obtain ⟨rfl, rfl⟩ := q
  cases k with
  | true => exact iteT ⟨rfl, rfl⟩
  | false => exact iteF (h2 rfl)
theorem TB_not (h : TB X a σ H c1) : TB X (.UnaryOp .Not a pos) σ H (!c1) := T_not (T.mono h fun k H1 q => ⟨congrArg (!·) q.1, q.2⟩)
theorem TB_cmp {op : CmpOp} {r : R2} (ho : OpR X (compareOp op) r) (q : E X a σ H fun x H1 => E X b σ H1 fun y H2 => r x y H2 fun z H3 => ∃ k, z = .bl k ∧ k = c1 ∧ H3 = H) (hm : behindInMarks op b = false := by first | exact nomark _ | rfl) : TB X (.Compare a [op] [b] pos) σ H c1 := T_cmp ho q hm
theorem TB_eq (q : E X a σ H fun x H1 => E X b σ H1 fun y H2 => ∃ i j, x = .int i ∧ y = .int j ∧ decide (i = j) = c1 ∧ H2 = H) : TB X (.Compare a [.Eq] [b] pos) σ H c1 :=
  TB_cmp op_eqI (E.mono q fun x H1 h => E.mono h fun y H2 ⟨i, j, h1, h2, h3, h4⟩ => ⟨i, j, h1, h2, _, rfl, h3, h4⟩)
theorem TB_ne (q : E X a σ H fun x H1 => E X b σ H1 fun y H2 => ∃ i j, x = .int i ∧ y = .int j ∧ (!decide (i = j)) = c1 ∧ H2 = H) : TB X (.Compare a [.NotEq] [b] pos) σ H c1 :=
  TB_cmp op_neI (E.mono q fun x H1 h => E.mono h fun y H2 ⟨i, j, h1, h2, h3, h4⟩ => ⟨i, j, h1, h2, _, rfl, h3, h4⟩)
theorem TB_lt (q : E X a σ H fun x H1 => E X b σ H1 fun y H2 => ∃ i j, x = .int i ∧ y = .int j ∧ decide (i < j) = c1 ∧ H2 = H) : TB X (.Compare a [.Lt] [b] pos) σ H c1 :=
  TB_cmp op_lt (E.mono q fun x H1 h => E.mono h fun y H2 ⟨i, j, h1, h2, h3, h4⟩ => ⟨i, j, h1, h2, _, rfl, h3, h4⟩)
theorem TB_le (q : E X a σ H fun x H1 => E X b σ H1 fun y H2 => ∃ i j, x = .int i ∧ y = .int j ∧ decide (i ≤ j) = c1 ∧ H2 = H) : TB X (.Compare a [.LtE] [b] pos) σ H c1 :=
  TB_cmp op_le (E.mono q fun x H1 h => E.mono h fun y H2 ⟨i, j, h1, h2, h3, h4⟩ => ⟨i, j, h1, h2, _, rfl, h3, h4⟩)
theorem TB_gt (q : E X a σ H fun x H1 => E X b σ H1 fun y H2 => ∃ i j, x = .int i ∧ y = .int j ∧ decide (j < i) = c1 ∧ H2 = H) : TB X (.Compare a [.Gt] [b] pos) σ H c1 :=
  TB_cmp op_gt (E.mono q fun x H1 h => E.mono h fun y H2 ⟨i, j, h1, h2, h3, h4⟩ => ⟨i, j, h1, h2, _, rfl, h3, h4⟩)
theorem TB_ge (q : E X a σ H fun x H1 => E X b σ H1 fun y H2 => ∃ i j, x = .int i ∧ y = .int j ∧ decide (j ≤ i) = c1 ∧ H2 = H) : TB X (.Compare a [.GtE] [b] pos) σ H c1 :=
  TB_cmp op_ge (E.mono q fun x H1 h => E.mono h fun y H2 ⟨i, j, h1, h2, h3, h4⟩ => ⟨i, j, h1, h2, _, rfl, h3, h4⟩)
theorem TB_val (q : E X e σ H fun x H1 => ∃ k, x = .bl k ∧ k = c1 ∧ H1 = H) (he : ∀ whole, isTrue e X.env whole = (do let v ← whole; standAt e.pos; holding [v] (truthy v)) := by intro _; rfl) : TB X e σ H c1 := T_val q he
theorem TB_is (h : TB X e σ H c1) (k : c1 = c2) : TB X e σ H c2 := k ▸ h
theorem S_ifB (h : TB X c σ H c1) (h1 : c1 = true → Ss X as D σ H) (h2 : c1 = false → Ss X bs D σ H) : S X (.If c as bs pos) D σ H := by
  refine S_if (T.mono h fun k H1 q => ?_)
  obtain ⟨rfl, rfl⟩ := q
  cases k with
  | true => exact iteT (h1 rfl)
  | false => exact iteF (h2 rfl)
theorem S_whileB {body : List Stmt} (hp : PassesOwn (model X.prog X.w) X.A X.env X.xe) (Pv : L2.St → Hp → Prop) (mu : L2.St → Hp → Nat) (h0 : Pv σ H)
    (hs : ∀ σ H, Pv σ H → ∃ k, TB X c σ H k ∧ (k = true → Ss X body { D with nx := fun σ' H' => Pv σ' H' ∧ mu σ' H' < mu σ H, ct := fun σ' H' => Pv σ' H' ∧ mu σ' H' < mu σ H, bk := D.nx } σ H) ∧ (k = false → D.nx σ H)) : S X (.While c body [] pos) D σ H := by
  refine S_while hp Pv mu h0 fun σ H pv => ?_
  obtain ⟨k, h, h1, h2⟩ := hs σ H pv
  refine T.mono h fun k' H1 q => ?_
  obtain ⟨rfl, rfl⟩ := q
  cases k' with
  | true => exact iteT (h1 rfl)
  | false => exact iteF (h2 rfl)
theorem S_aug {i : Nat} {x : Str} {v : V} {op : Operator} {ti : TIp} {pos' : PySem.Pos} (hi : X.N[i]? = some x) (hv : σ[i]? = some (some v)) (ho : PIp X op ti) (q : E X e σ H fun y H1 => ti v y H1 fun z H2 => D.nx (σ.set i (some z)) H2) (hN : X.N.Nodup)
    (hx : Loc X.env.scope x := by first | exact Or.inl rfl | exact Or.inr rfl) (hf : X.fn x = true ∨ X.env.scope.names.lookup x = some .local := by first | exact .inl rfl | exact .inr rfl) : S X (.AugAssign (.Name x pos') op e pos) D σ H :=
  S.of (ps_aug hN hi hx E.pe ho hf) ⟨v, hv, q⟩
theorem E_modc {j : Int} {kk : Nat} {p2 : PySem.Pos} (q : E X a σ H fun x H1 => ∃ i, x = .int i ∧ Q (.int (i % j)) H1) (hj : 0 < j := by decide) : E X (.BinOp a .Mod (.Constant (.int j) kk p2) pos) σ H Q :=
  E.of (pe_op op_mod E.pe pe_int) (E.mono q fun x H1 h => by
    obtain ⟨i, rfl, h⟩ := h
    exact ⟨i, j, rfl, rfl, hj, h⟩)
theorem E_fdivc {j : Int} {kk : Nat} {p2 : PySem.Pos} (q : E X a σ H fun x H1 => ∃ i, x = .int i ∧ Q (.int (i / j)) H1) (hj : 0 < j ∧ j < 1073741824 := by decide) : E X (.BinOp a .FloorDiv (.Constant (.int j) kk p2) pos) σ H Q :=
  E.of (pe_op op_fdiv E.pe pe_int) (E.mono q fun x H1 h => by
    obtain ⟨i, rfl, h⟩ := h
    exact ⟨i, j, rfl, rfl, hj, h⟩)
theorem E_add (q : E X a σ H fun x H1 => E X b σ H1 fun y H2 => ∃ i j, x = .int i ∧ y = .int j ∧ Q (.int (i + j)) H2) : E X (.BinOp a .Add b pos) σ H Q := E_op op_add q
theorem E_sub (q : E X a σ H fun x H1 => E X b σ H1 fun y H2 => ∃ i j, x = .int i ∧ y = .int j ∧ Q (.int (i - j)) H2) : E X (.BinOp a .Sub b pos) σ H Q := E_op op_sub q
theorem E_band (q : E X a σ H fun x H1 => E X b σ H1 fun y H2 => ∃ i j, x = .int i ∧ y = .int j ∧ Q (.int (Builtin.bitAnd i j)) H2) : E X (.BinOp a .BitAnd b pos) σ H Q := E_op op_and q
theorem E_bor (q : E X a σ H fun x H1 => E X b σ H1 fun y H2 => ∃ i j, x = .int i ∧ y = .int j ∧ Q (.int (Builtin.bitOr i j)) H2) : E X (.BinOp a .BitOr b pos) σ H Q := E_op op_or q
theorem E_bxor (q : E X a σ H fun x H1 => E X b σ H1 fun y H2 => ∃ i j, x = .int i ∧ y = .int j ∧ Q (.int (Builtin.bitXor i j)) H2) : E X (.BinOp a .BitXor b pos) σ H Q := E_op op_xor q
theorem E_mul (q : E X a σ H fun x H1 => E X b σ H1 fun y H2 => ∃ i j, x = .int i ∧ y = .int j ∧ CMul i j ∧ Q (.int (i * j)) H2) : E X (.BinOp a .Mult b pos) σ H Q := E_op op_mul q
theorem E_mulW (q : E X a σ H fun x H1 => E X b σ H1 fun y H2 => ∃ i j, x = .int i ∧ y = .int j ∧ CMulW i j ∧ Q (.int (i * j)) H2) : E X (.BinOp a .Mult b pos) σ H Q := E_op op_mulW q
theorem E_shl (q : E X a σ H fun x H1 => E X b σ H1 fun y H2 => ∃ i j, x = .int i ∧ y = .int j ∧ CPow i j ∧ Q (.int (i * 2 ^ j.toNat)) H2) : E X (.BinOp a .LShift b pos) σ H Q := E_op op_shl q
theorem E_shlW (q : E X a σ H fun x H1 => E X b σ H1 fun y H2 => ∃ i j, x = .int i ∧ y = .int j ∧ CShl i j ∧ Q (.int (i * 2 ^ j.toNat)) H2) : E X (.BinOp a .LShift b pos) σ H Q := E_op op_shlW q
theorem E_shr (q : E X a σ H fun x H1 => E X b σ H1 fun y H2 => ∃ i j, x = .int i ∧ y = .int j ∧ 0 ≤ j ∧ Q (.int (i / 2 ^ j.toNat)) H2) : E X (.BinOp a .RShift b pos) σ H Q := E_op op_shr q
theorem E_pow (q : E X a σ H fun x H1 => E X b σ H1 fun y H2 => ∃ i j, x = .int i ∧ y = .int j ∧ CPow i j ∧ Q (.int (i ^ j.toNat)) H2) : E X (.BinOp a .Pow b pos) σ H Q := E_op op_pow q
theorem E_modI (q : E X a σ H fun x H1 => E X b σ H1 fun y H2 => ∃ i j, x = .int i ∧ y = .int j ∧ 0 < j ∧ Q (.int (i % j)) H2) : E X (.BinOp a .Mod b pos) σ H Q := E_op op_mod q
theorem E_fdivI (q : E X a σ H fun x H1 => E X b σ H1 fun y H2 => ∃ i j, x = .int i ∧ y = .int j ∧ CDiv i j ∧ Q (.int (i / j)) H2) : E X (.BinOp a .FloorDiv b pos) σ H Q := E_op op_fdiv q
theorem E_neg (q : E X a σ H fun x H1 => ∃ i, x = .int i ∧ Q (.int (-i)) H1) : E X (.UnaryOp .USub a pos) σ H Q := E_un un_neg q
theorem E_inv (q : E X a σ H fun x H1 => ∃ i, x = .int i ∧ Q (.int (Builtin.bitNot i)) H1) : E X (.UnaryOp .Invert a pos) σ H Q := E_un un_inv q
theorem E_ceq (q : E X a σ H fun x H1 => E X b σ H1 fun y H2 => ∃ i j, x = .int i ∧ y = .int j ∧ Q (.bl (decide (i = j))) H2) : E X (.Compare a [.Eq] [b] pos) σ H Q := E_cmp op_eqI q
theorem T_ceq {R : Bool → Hp → Prop} (q : E X a σ H fun x H1 => E X b σ H1 fun y H2 => ∃ i j, x = .int i ∧ y = .int j ∧ R (decide (i = j)) H2) : T X (.Compare a [.Eq] [b] pos) σ H R :=
  T_cmp op_eqI (E.mono q fun x H1 h => E.mono h fun y H2 ⟨i, j, h1, h2, h3⟩ => ⟨i, j, h1, h2, _, rfl, h3⟩)
theorem E_cne (q : E X a σ H fun x H1 => E X b σ H1 fun y H2 => ∃ i j, x = .int i ∧ y = .int j ∧ Q (.bl (!decide (i = j))) H2) : E X (.Compare a [.NotEq] [b] pos) σ H Q := E_cmp op_neI q
theorem T_cne {R : Bool → Hp → Prop} (q : E X a σ H fun x H1 => E X b σ H1 fun y H2 => ∃ i j, x = .int i ∧ y = .int j ∧ R (!decide (i = j)) H2) : T X (.Compare a [.NotEq] [b] pos) σ H R :=
  T_cmp op_neI (E.mono q fun x H1 h => E.mono h fun y H2 ⟨i, j, h1, h2, h3⟩ => ⟨i, j, h1, h2, _, rfl, h3⟩)
theorem E_clt (q : E X a σ H fun x H1 => E X b σ H1 fun y H2 => ∃ i j, x = .int i ∧ y = .int j ∧ Q (.bl (decide (i < j))) H2) : E X (.Compare a [.Lt] [b] pos) σ H Q := E_cmp op_lt q
theorem T_clt {R : Bool → Hp → Prop} (q : E X a σ H fun x H1 => E X b σ H1 fun y H2 => ∃ i j, x = .int i ∧ y = .int j ∧ R (decide (i < j)) H2) : T X (.Compare a [.Lt] [b] pos) σ H R :=
  T_cmp op_lt (E.mono q fun x H1 h => E.mono h fun y H2 ⟨i, j, h1, h2, h3⟩ => ⟨i, j, h1, h2, _, rfl, h3⟩)
theorem E_cle (q : E X a σ H fun x H1 => E X b σ H1 fun y H2 => ∃ i j, x = .int i ∧ y = .int j ∧ Q (.bl (decide (i ≤ j))) H2) : E X (.Compare a [.LtE] [b] pos) σ H Q := E_cmp op_le q
theorem T_cle {R : Bool → Hp → Prop} (q : E X a σ H fun x H1 => E X b σ H1 fun y H2 => ∃ i j, x = .int i ∧ y = .int j ∧ R (decide (i ≤ j)) H2) : T X (.Compare a [.LtE] [b] pos) σ H R :=
  T_cmp op_le (E.mono q fun x H1 h => E.mono h fun y H2 ⟨i, j, h1, h2, h3⟩ => ⟨i, j, h1, h2, _, rfl, h3⟩)
theorem E_cgt (q : E X a σ H fun x H1 => E X b σ H1 fun y H2 => ∃ i j, x = .int i ∧ y = .int j ∧ Q (.bl (decide (j < i))) H2) : E X (.Compare a [.Gt] [b] pos) σ H Q := E_cmp op_gt q
theorem T_cgt {R : Bool → Hp → Prop} (q : E X a σ H fun x H1 => E X b σ H1 fun y H2 => ∃ i j, x = .int i ∧ y = .int j ∧ R (decide (j < i)) H2) : T X (.Compare a [.Gt] [b] pos) σ H R :=
  T_cmp op_gt (E.mono q fun x H1 h => E.mono h fun y H2 ⟨i, j, h1, h2, h3⟩ => ⟨i, j, h1, h2, _, rfl, h3⟩)
theorem E_cge (q : E X a σ H fun x H1 => E X b σ H1 fun y H2 => ∃ i j, x = .int i ∧ y = .int j ∧ Q (.bl (decide (j ≤ i))) H2) : E X (.Compare a [.GtE] [b] pos) σ H Q := E_cmp op_ge q
theorem T_cge {R : Bool → Hp → Prop} (q : E X a σ H fun x H1 => E X b σ H1 fun y H2 => ∃ i j, x = .int i ∧ y = .int j ∧ R (decide (j ≤ i)) H2) : T X (.Compare a [.GtE] [b] pos) σ H R :=
  T_cmp op_ge (E.mono q fun x H1 h => E.mono h fun y H2 ⟨i, j, h1, h2, h3⟩ => ⟨i, j, h1, h2, _, rfl, h3⟩)
/-! ### names of built-ins as values; isinstance, len, all -/
theorem E_blt {x : Str} {v : V} {u : Value} (hm : X.mg x = none) (hv : bootBuiltins x = some u) (r : RelV v u) (q : Q v H) (hg : Gl X x := by rfl) (hn : x ≠ "__name__" := by decide) (hd : (x == ("__debug__" : Str)) = false := by decide) : E X (.Name x pos) σ H Q := E.of (pe_bltn hg hm hv r hn hd) q
theorem E_isi {pf : PySem.Pos} {k : Bool} {u : Value} {cv : V} (hm : X.mg "isinstance" = none) (q : E X a σ H fun x H1 => E X b σ H1 fun y H2 => ∃ t, y = cv ∧ ClsV cv u ∧ TyX X.K H2 x t ∧ PySem.W.kitOne X.K t u = some k ∧ Q (.bl k) H2)
    (hg : Gl X "isinstance" := by rfl) (hs1 : starEach [a, b] X.env = (false, eval a X.env) :: starEach [b] X.env := by rfl) (hs2 : starEach [b] X.env = (false, eval b X.env) :: starEach [] X.env := by rfl) (hpl : (backTo pos (starEach [b] X.env)).any (·.1) = false := by rfl) :
    E X (.Call (.Name "isinstance" pf) [a, b] [] pos) σ H Q :=
  E_callB call_isi hm (by decide +kernel) (As_cons (E.mono q fun x H1 q => As_cons (E.mono q fun y H2 h => As_nil (by
    obtain ⟨t, rfl, h1, h2, h3, h4⟩ := h
    exact ⟨x, y, t, u, k, rfl, h1, h2, h3, h4⟩)) hs2) hs1) hg (by decide) (by decide) hs1 hpl
theorem E_len {pf : PySem.Pos} (hm : X.mg "len" = none) (q : E X a σ H fun x H1 => ∃ p ys, x = .ref p ∧ (SqL X.K H1 p ys ∨ SqT X.K H1 p ys) ∧ Q (.int ys.length) H1)
    (hg : Gl X "len" := by rfl) (hs1 : starEach [a] X.env = (false, eval a X.env) :: starEach [] X.env := by rfl) (hpl : (backTo pos (starEach [] X.env)).any (·.1) = false := by rfl) :
    E X (.Call (.Name "len" pf) [a] [] pos) σ H Q :=
  E_callB call_len_seq hm PySem.boot_len (As_cons (E.mono q fun x H1 h => As_nil (by
    obtain ⟨p, ys, rfl, h1, h2⟩ := h
    exact ⟨p, ys, rfl, h1, h2⟩)) hs1) hg (by decide) (by decide) hs1 hpl
theorem E_all {pf : PySem.Pos} (hc : X.calm = true) (hm : X.mg "all" = none) (q : E X a σ H fun x H1 => ∃ (p : Addr) (bs : List Bool), x = .ref p ∧ SqL X.K H1 p (bs.map V.bl) ∧ Q (.bl (bs.all id)) H1)
    (hg : Gl X "all" := by rfl) (hs1 : starEach [a] X.env = (false, eval a X.env) :: starEach [] X.env := by rfl) (hpl : (backTo pos (starEach [] X.env)).any (·.1) = false := by rfl) :
    E X (.Call (.Name "all" pf) [a] [] pos) σ H Q :=
  E_callB (cr_all hc) hm (by decide +kernel) (As_cons (E.mono q fun x H1 h => As_nil (by
    obtain ⟨p, ys, rfl, h1, h2⟩ := h
    exact ⟨p, ys, rfl, h1, h2⟩)) hs1) hg (by decide) (by decide) hs1 hpl
/-! ### comprehensions of one name and no test -/
theorem wipe1 (σ : L2.St) (i : Nat) (x : V) : wipe ((wipe σ [i]).set i (some x)) [i] = wipe σ [i] := by
  show ((σ.set i none).set i (some x)).set i none = σ.set i none
  rw [List.set_set, List.set_set]
theorem wipe1s (σ : L2.St) (i : Nat) (x : V) : (wipe σ [i]).set i (some x) = σ.set i (some x) := by
  show (σ.set i none).set i (some x) = σ.set i (some x)
  rw [List.set_set]
/-- a turn: the name in place i -/
theorem turn1 {scope : Scope} {x : Str} {pt : PySem.Pos} {i : Nat} {v : V} {elt : Expr} {R : L2.St → Hp → Prop} (hN : X.N.Nodup) (hi : X.N[i]? = some x) (hl : ∀ cl C, (compEnvC scope cl C X.env).scope.names.lookup x = some .local) {Q2 : VK}
    (q : EB X scope elt (σ.set i (some v)) H Q2) : GB X scope (.Name x pt) v (wipe σ [i]) H fun σ2 H2 => wipe σ2 [i] = wipe σ [i] ∧ TsB X scope [] σ2 H2 fun bb H3 => if bb = true then EB X scope elt σ2 H3 Q2 else R σ2 H3 := fun s H0 C cl fp =>
  G_name (X := X.blk s H0 scope (compEnvC scope cl C X.env) fp) (i := i) hi ⟨wipe1 σ i v, by
    show (if true = true then EB X scope elt ((wipe σ [i]).set i (some v)) H Q2 else R ((wipe σ [i]).set i (some v)) H)
    rw [if_pos rfl, wipe1s]
    exact q⟩ hN (Or.inl (hl cl C)) (Or.inr (hl cl C))
section
variable {elt iter : Expr} {scope : Scope} {x : Str} {pt : PySem.Pos} (i : Nat)
/-- [elt for x in iter], iter a list -/
theorem E_lcL (hc : X.calm = true) (hN : X.N.Nodup) (hi : X.N[i]? = some x) (ok : blkC X.N X.env.scope scope [(x, i)] = true)
    (q : E X iter σ H fun v H1 => ∃ (l : Addr) (xs : List V) (Acc : Nat → List V → Hp → Prop), v = .ref l ∧ SqL X.K H1 l xs ∧ xs.length < sizeLine ∧ (∀ H', Ex H1 H' → Acc 0 [] H') ∧ (∀ j acc H' H'', Fz H' H'' → Acc j acc H' → Acc j acc H'') ∧
      (∀ j y acc H', xs[j]? = some y → Ex H1 H' → acc.length ≤ j → Acc j acc H' → EB X scope elt (σ.set i (some y)) H' fun z H4 => Ex H' H4 ∧ Acc (j + 1) (acc ++ [z]) H4) ∧
      ∀ Dl H' ys, H1 Dl = none → Ex H1 H' → H' Dl = some (.lst ys) → Acc xs.length ys H' → Q (.ref Dl) H')
    (hl : ∀ cl C, (compEnvC scope cl C X.env).scope.names.lookup x = some .local := by intro _ _; rfl) (hs : ∀ x, foldedSetIterable iter X.env x = pure x := by intro _; rfl) : E X (.ListComp elt [⟨.Name x pt, iter, [], 0⟩] scope pos) σ H Q := by
  refine E_lc [(x, i)] hc hN (pi_list E.pe) ok (fun h kk => E.mono h fun v H1 ⟨l, e, hx, r⟩ => ⟨l, e, hx, kk _ _ r⟩) (E.mono q fun v H1 h => ?_) hs
  obtain ⟨l, xs, Acc, rfl, hx, hn, h0, hu, hst, hd⟩ := h
  refine ⟨l, rfl, ⟨xs, hx⟩, lc_ex walk_list Acc hn (fun H' e => SqL.ex hx e) h0 hu ?_ fun Dl H' ys hD e hy _ hA => hd Dl H' ys hD e hy hA⟩
  rintro j y acc H' H'' hj e1 hl' hA ⟨rfl, hy⟩
  exact turn1 hN hi hl (hst j y acc _ hy e1 hl' hA)
/-- [elt for x in iter], iter a tuple -/
theorem E_lcT (hc : X.calm = true) (hN : X.N.Nodup) (hi : X.N[i]? = some x) (ok : blkC X.N X.env.scope scope [(x, i)] = true)
    (q : E X iter σ H fun v H1 => ∃ (l : Addr) (xs : List V) (Acc : Nat → List V → Hp → Prop), v = .ref l ∧ SqT X.K H1 l xs ∧ xs.length < sizeLine ∧ (∀ H', Ex H1 H' → Acc 0 [] H') ∧ (∀ j acc H' H'', Fz H' H'' → Acc j acc H' → Acc j acc H'') ∧
      (∀ j y acc H', xs[j]? = some y → Ex H1 H' → acc.length ≤ j → Acc j acc H' → EB X scope elt (σ.set i (some y)) H' fun z H4 => Ex H' H4 ∧ Acc (j + 1) (acc ++ [z]) H4) ∧
      ∀ Dl H' ys, H1 Dl = none → Ex H1 H' → H' Dl = some (.lst ys) → Acc xs.length ys H' → Q (.ref Dl) H')
    (hl : ∀ cl C, (compEnvC scope cl C X.env).scope.names.lookup x = some .local := by intro _ _; rfl) (hs : ∀ x, foldedSetIterable iter X.env x = pure x := by intro _; rfl) : E X (.ListComp elt [⟨.Name x pt, iter, [], 0⟩] scope pos) σ H Q := by
  refine E_lc [(x, i)] hc hN (pi_tup E.pe) ok (fun h kk => E.mono h fun v H1 ⟨l, e, hx, r⟩ => ⟨l, e, hx, kk _ _ r⟩) (E.mono q fun v H1 h => ?_) hs
  obtain ⟨l, xs, Acc, rfl, hx, hn, h0, hu, hst, hd⟩ := h
  refine ⟨l, rfl, ⟨xs, hx⟩, lc_ex walk_tup Acc hn (fun H' e => SqT.fz hx (Fz.of e)) h0 hu ?_ fun Dl H' ys hD e hy _ hA => hd Dl H' ys hD e hy hA⟩
  rintro j y acc H' H'' hj e1 hl' hA ⟨rfl, hy⟩
  exact turn1 hN hi hl (hst j y acc _ hy e1 hl' hA)
end
/-- what an element's list is, when each item y j told by R j -/
def AccR (R : Nat → V → Hp → Prop) : Nat → List V → Hp → Prop := fun j acc H' => acc.length = j ∧ ∀ (m : Nat) z, acc[m]? = some z → R m z H'
theorem AccR.zero {R : Nat → V → Hp → Prop} {H' : Hp} : AccR R 0 [] H' := ⟨rfl, fun m z h => by simp at h⟩
theorem AccR.fz {R : Nat → V → Hp → Prop} (hR : ∀ m z H' H'', Fz H' H'' → R m z H' → R m z H'') : ∀ j acc H' H'', Fz H' H'' → AccR R j acc H' → AccR R j acc H'' := fun j acc H' H'' e h => ⟨h.1, fun m z hz => hR m z H' H'' e (h.2 m z hz)⟩
theorem AccR.snoc {R : Nat → V → Hp → Prop} (hR : ∀ m z H' H'', Fz H' H'' → R m z H' → R m z H'') {j : Nat} {acc : List V} {H' H'' : Hp} {z : V} (h : AccR R j acc H') (e : Ex H' H'') (r : R j z H'') : AccR R (j + 1) (acc ++ [z]) H'' := by
  refine ⟨by rw [List.length_append, h.1]; rfl, fun m y hm => ?_⟩
  by_cases hlt : m < acc.length
  · rw [List.getElem?_append_left hlt] at hm
    exact hR m y _ _ (Fz.of e) (h.2 m y hm)
  · rw [List.getElem?_append_right (by omega)] at hm
    have : m - acc.length = 0 := by
      have := (List.getElem?_eq_some_iff.mp hm).1
      simp at this
      omega
    rw [this] at hm
    simp at hm
    subst hm
    have e2 : m = j := by have := h.1; omega
    rw [e2]
    exact r
theorem AccR.map {α : Type} {xs : List α} {f : α → V} {ys : List V} {H' : Hp} {m : Nat} (h : AccR (fun j z _ => ∃ x, xs[j]? = some x ∧ z = f x) m ys H') (hm : m = xs.length) : ys = xs.map f := by
  subst hm
  apply List.ext_getElem?
  intro j
  rw [List.getElem?_map]
  cases e : ys[j]? with
  | none =>
    have : xs[j]? = none := by
      rw [List.getElem?_eq_none_iff] at e ⊢
      rw [h.1] at e
      exact e
    rw [this]
    rfl
  | some z =>
    obtain ⟨x, h1, h2⟩ := h.2 j z e
    rw [h1, h2]
    rfl
theorem E_sum {pf : PySem.Pos} (hc : X.calm = true) (hm : X.mg "sum" = none) (q : E X a σ H fun x H1 => ∃ (p : Addr) (ns : List Int), x = .ref p ∧ SqL X.K H1 p (ns.map V.int) ∧ Q (.int ns.sum) H1)
    (hg : Gl X "sum" := by rfl) (hs1 : starEach [a] X.env = (false, eval a X.env) :: starEach [] X.env := by rfl) (hpl : (backTo pos (starEach [] X.env)).any (·.1) = false := by rfl) :
    E X (.Call (.Name "sum" pf) [a] [] pos) σ H Q :=
  E_callB (cr_sum hc) hm (by decide +kernel) (As_cons (E.mono q fun x H1 h => As_nil (by
    obtain ⟨p, ns, rfl, h1, h2⟩ := h
    exact ⟨p, ns, rfl, h1, h2⟩)) hs1) hg (by decide) (by decide) hs1 hpl
theorem E_max2 {pf : PySem.Pos} (hc : X.calm = true) (hm : X.mg "max" = none) (q : E X a σ H fun x H1 => E X b σ H1 fun y H2 => ∃ i j, x = .int i ∧ y = .int j ∧ Q (.int (if j > i then j else i)) H2)
    (hg : Gl X "max" := by rfl) (hs1 : starEach [a, b] X.env = (false, eval a X.env) :: starEach [b] X.env := by rfl) (hs2 : starEach [b] X.env = (false, eval b X.env) :: starEach [] X.env := by rfl) (hpl : (backTo pos (starEach [b] X.env)).any (·.1) = false := by rfl) :
    E X (.Call (.Name "max" pf) [a, b] [] pos) σ H Q :=
  E_callB (call_max2 hc) hm (by decide +kernel) (As_cons (E.mono q fun x H1 q => As_cons (E.mono q fun y H2 h => As_nil (by
    obtain ⟨i, j, rfl, rfl, h⟩ := h
    exact ⟨i, j, rfl, h⟩)) hs2) hs1) hg (by decide) (by decide) hs1 hpl
end
end BW

set_option Elab.async false
set_option linter.all false
set_option maxRecDepth 100000
set_option maxHeartbeats 4000000
namespace BW
open PySem PySem.Spec PyProof.Rows L2
/-! ### name = [..]: the comprehension's value goes straight to the name -/
section
variable {X : Cx} {σ : L2.St} {H : Hp} {D : Ends} {pos spos py : PySem.Pos} {y : Str} {k : Nat}
theorem S_lc {elt tg iter : Expr} {ifs : List Expr} {scope : Scope} {wi : L2.TI} (own : List (Str × Nat)) (hc : X.calm = true) (hN : X.N.Nodup) (hi : PI X tg iter wi) (ok : blkC X.N X.env.scope scope own = true)
    (him : ∀ {R R' : It → Hp → Prop}, wi σ H R → (∀ J H1, R J H1 → R' J H1) → wi σ H R') (hy : X.N[k]? = some y)
    (q : wi σ H fun J H1 => ∀ Dl, H1 Dl = none → ∃ W : Nat → Nat → Hp → Prop, (∃ mm, W 0 mm (upd H1 Dl (.lst []))) ∧ ∀ i mm H, W i mm H →
      (J.stop i H ∧ D.nx (σ.set k (some (.ref Dl))) H) ∨ (J.go i H ∧ ∃ Nx : Hp → Prop, (∀ H', Nx H' → ∃ m', m' < mm ∧ W (i + 1) m' H') ∧ ∀ x H', J.yld i H x H' → GB X scope tg x (wipe σ (own.map (·.2))) H' fun σ2 H2 => wipe σ2 (own.map (·.2)) = wipe σ (own.map (·.2)) ∧ TsB X scope ifs σ2 H2 fun bb H3 =>
        if bb = true then EB X scope elt σ2 H3 fun y H4 => ∃ acc, H4 Dl = some (.lst acc) ∧ acc.length < sizeLine ∧ Nx (upd H4 Dl (.lst (acc ++ [y]))) else Nx H3))
    (hs : ∀ x, foldedSetIterable iter X.env x = pure x := by intro _; rfl) (hyl : X.env.scope.names.lookup y = some .local := by rfl)
    (hsw : swapsWith (.ListComp elt [⟨tg, iter, ifs, 0⟩] scope pos) (some (.Name y py)) spos.line X.env = pure true := by exact sw_true rfl rfl rfl rfl) : S X (.Assign [.Name y py] (.ListComp elt [⟨tg, iter, ifs, 0⟩] scope pos) spos) D σ H :=
  S.of (ps_setLc hc hN hy hyl hsw hi (blkOk_by ok) (g := GB X scope tg) (tt := TsB X scope ifs) (te := EB X scope elt) (fun s H0 C cl fp => ⟨fun pins s1 σ H v u R I r h => (h s H0 C cl fp).run pins s1 u I r⟩) (TsB.pt ifs) (fun s H0 C cl fp => ⟨fun pins s1 σ H R I h => (h s H0 C cl fp).run pins s1 I⟩) hs) q
section
variable {elt iter : Expr} {scope : Scope} {x : Str} {pt : PySem.Pos} (i : Nat)
/-- y = [elt for x in iter], iter a list -/
theorem S_lcL (hc : X.calm = true) (hN : X.N.Nodup) (hi : X.N[i]? = some x) (ok : blkC X.N X.env.scope scope [(x, i)] = true) (hy : X.N[k]? = some y)
    (q : E X iter σ H fun v H1 => ∃ (l : Addr) (xs : List V) (Acc : Nat → List V → Hp → Prop), v = .ref l ∧ SqL X.K H1 l xs ∧ xs.length < sizeLine ∧ (∀ H', Ex H1 H' → Acc 0 [] H') ∧ (∀ j acc H' H'', Fz H' H'' → Acc j acc H' → Acc j acc H'') ∧
      (∀ j y acc H', xs[j]? = some y → Ex H1 H' → acc.length ≤ j → Acc j acc H' → EB X scope elt (σ.set i (some y)) H' fun z H4 => Ex H' H4 ∧ Acc (j + 1) (acc ++ [z]) H4) ∧
      ∀ Dl H' ys, H1 Dl = none → Ex H1 H' → H' Dl = some (.lst ys) → Acc xs.length ys H' → D.nx (σ.set k (some (.ref Dl))) H')
    (hl : ∀ cl C, (compEnvC scope cl C X.env).scope.names.lookup x = some .local := by intro _ _; rfl) (hs : ∀ x, foldedSetIterable iter X.env x = pure x := by intro _; rfl) (hyl : X.env.scope.names.lookup y = some .local := by rfl)
    (hsw : swapsWith (.ListComp elt [⟨.Name x pt, iter, [], 0⟩] scope pos) (some (.Name y py)) spos.line X.env = pure true := by exact sw_true rfl rfl rfl rfl) : S X (.Assign [.Name y py] (.ListComp elt [⟨.Name x pt, iter, [], 0⟩] scope pos) spos) D σ H := by
  refine S_lc [(x, i)] hc hN (pi_list E.pe) ok (fun h kk => E.mono h fun v H1 ⟨l, e, hx, r⟩ => ⟨l, e, hx, kk _ _ r⟩) hy (E.mono q fun v H1 h => ?_) hs hyl hsw
  obtain ⟨l, xs, Acc, rfl, hx, hn, h0, hu, hst, hd⟩ := h
  refine ⟨l, rfl, ⟨xs, hx⟩, lc_ex (Q := fun v H' => D.nx (σ.set k (some v)) H') walk_list Acc hn (fun H' e => SqL.ex hx e) h0 hu ?_ fun Dl H' ys hD e hy _ hA => hd Dl H' ys hD e hy hA⟩
  rintro j y acc H' H'' hj e1 hl' hA ⟨rfl, hy⟩
  exact turn1 hN hi hl (hst j y acc _ hy e1 hl' hA)
/-- y = [elt for x in iter], iter a tuple -/
theorem S_lcT (hc : X.calm = true) (hN : X.N.Nodup) (hi : X.N[i]? = some x) (ok : blkC X.N X.env.scope scope [(x, i)] = true) (hy : X.N[k]? = some y)
    (q : E X iter σ H fun v H1 => ∃ (l : Addr) (xs : List V) (Acc : Nat → List V → Hp → Prop), v = .ref l ∧ SqT X.K H1 l xs ∧ xs.length < sizeLine ∧ (∀ H', Ex H1 H' → Acc 0 [] H') ∧ (∀ j acc H' H'', Fz H' H'' → Acc j acc H' → Acc j acc H'') ∧
      (∀ j y acc H', xs[j]? = some y → Ex H1 H' → acc.length ≤ j → Acc j acc H' → EB X scope elt (σ.set i (some y)) H' fun z H4 => Ex H' H4 ∧ Acc (j + 1) (acc ++ [z]) H4) ∧
      ∀ Dl H' ys, H1 Dl = none → Ex H1 H' → H' Dl = some (.lst ys) → Acc xs.length ys H' → D.nx (σ.set k (some (.ref Dl))) H')
    (hl : ∀ cl C, (compEnvC scope cl C X.env).scope.names.lookup x = some .local := by intro _ _; rfl) (hs : ∀ x, foldedSetIterable iter X.env x = pure x := by intro _; rfl) (hyl : X.env.scope.names.lookup y = some .local := by rfl)
    (hsw : swapsWith (.ListComp elt [⟨.Name x pt, iter, [], 0⟩] scope pos) (some (.Name y py)) spos.line X.env = pure true := by exact sw_true rfl rfl rfl rfl) : S X (.Assign [.Name y py] (.ListComp elt [⟨.Name x pt, iter, [], 0⟩] scope pos) spos) D σ H := by
  refine S_lc [(x, i)] hc hN (pi_tup E.pe) ok (fun h kk => E.mono h fun v H1 ⟨l, e, hx, r⟩ => ⟨l, e, hx, kk _ _ r⟩) hy (E.mono q fun v H1 h => ?_) hs hyl hsw
  obtain ⟨l, xs, Acc, rfl, hx, hn, h0, hu, hst, hd⟩ := h
  refine ⟨l, rfl, ⟨xs, hx⟩, lc_ex (Q := fun v H' => D.nx (σ.set k (some v)) H') walk_tup Acc hn (fun H' e => SqT.fz hx (Fz.of e)) h0 hu ?_ fun Dl H' ys hD e hy _ hA => hd Dl H' ys hD e hy hA⟩
  rintro j y acc H' H'' hj e1 hl' hA ⟨rfl, hy⟩
  exact turn1 hN hi hl (hst j y acc _ hy e1 hl' hA)
end
end
/-! ### comprehensions over a text, over reversed(tuple) -/
theorem walk_revT {K : PySem.W.Frag} {a : Addr} {xs : List V} : Walk (RT.ItvT K a xs.length) xs.length (fun H => SqT K H a xs) (fun i H x H' => H' = H ∧ xs[xs.length - 1 - i]? = some x) :=
  ⟨fun i _ hi q => ⟨hi, xs, xs[xs.length - 1 - i]'(by omega), q, by simp [show xs.length - 1 - i < xs.length by omega]⟩, fun _ _ => Nat.le_refl _, fun _ _ _ _ _ q y => ⟨y.1, y.2 xs q⟩⟩
section
variable {X : Cx} {σ : L2.St} {H : Hp} {pos p pr : PySem.Pos} {Q : VK} {elt iter e : Expr} {scope : Scope} {x : Str} {pt : PySem.Pos} (i : Nat)
theorem E_lcS (hc : X.calm = true) (hN : X.N.Nodup) (hi : X.N[i]? = some x) (ok : blkC X.N X.env.scope scope [(x, i)] = true)
    (q : E X iter σ H fun v H1 => ∃ (z : Str) (Acc : Nat → List V → Hp → Prop), v = .str z ∧ z.cps.size < sizeLine ∧ (∀ H', Ex H1 H' → Acc 0 [] H') ∧ (∀ j acc H' H'', Fz H' H'' → Acc j acc H' → Acc j acc H'') ∧
      (∀ j c acc H', z.cps[j]? = some c → Ex H1 H' → acc.length ≤ j → Acc j acc H' → EB X scope elt (σ.set i (some (.str ⟨#[c]⟩))) H' fun z H4 => Ex H' H4 ∧ Acc (j + 1) (acc ++ [z]) H4) ∧
      ∀ Dl H' ys, H1 Dl = none → Ex H1 H' → H' Dl = some (.lst ys) → Acc z.cps.size ys H' → Q (.ref Dl) H')
    (hl : ∀ cl C, (compEnvC scope cl C X.env).scope.names.lookup x = some .local := by intro _ _; rfl) (hs : ∀ x, foldedSetIterable iter X.env x = pure x := by intro _; rfl) : E X (.ListComp elt [⟨.Name x pt, iter, [], 0⟩] scope pos) σ H Q := by
  refine E_lc [(x, i)] hc hN (pi_str E.pe) ok (fun h kk => E.mono h fun v H1 ⟨l, e, r⟩ => ⟨l, e, kk _ _ r⟩) (E.mono q fun v H1 h => ?_) hs
  obtain ⟨z, Acc, rfl, hn, h0, hu, hst, hd⟩ := h
  refine ⟨z, rfl, lc_ex walk_str Acc hn (fun H' e => trivial) h0 hu ?_ fun Dl H' ys hD e hy _ hA => hd Dl H' ys hD e hy hA⟩
  rintro j y acc H' H'' hj e1 hl' hA ⟨rfl, c, hy, rfl⟩
  exact turn1 hN hi hl (hst j c acc _ hy e1 hl' hA)
/-- [elt for x in reversed(e)], e a tuple -/
theorem E_lcRT (hc : X.calm = true) (hN : X.N.Nodup) (hi : X.N[i]? = some x) (ok : blkC X.N X.env.scope scope [(x, i)] = true) (hmr : X.mg "reversed" = none)
    (q : E X e σ H fun v H1 => ∃ (l : Addr) (xs : List V) (Acc : Nat → List V → Hp → Prop), v = .ref l ∧ SqT X.K H1 l xs ∧ xs.length < sizeLine ∧ (∀ H', Ex H1 H' → Acc 0 [] H') ∧ (∀ j acc H' H'', Fz H' H'' → Acc j acc H' → Acc j acc H'') ∧
      (∀ j y acc H', xs[xs.length - 1 - j]? = some y → j < xs.length → Ex H1 H' → acc.length ≤ j → Acc j acc H' → EB X scope elt (σ.set i (some y)) H' fun z H4 => Ex H' H4 ∧ Acc (j + 1) (acc ++ [z]) H4) ∧
      ∀ Dl H' ys, H1 Dl = none → Ex H1 H' → H' Dl = some (.lst ys) → Acc xs.length ys H' → Q (.ref Dl) H')
    (hg : Gl X "reversed" := by rfl) (hes : starEach [e] X.env = (false, eval e X.env) :: starEach [] X.env := by rfl)
    (hl : ∀ cl C, (compEnvC scope cl C X.env).scope.names.lookup x = some .local := by intro _ _; rfl) (hs : ∀ x, foldedSetIterable (.Call (.Name "reversed" pr) [e] [] p) X.env x = pure x := by intro _; rfl) : E X (.ListComp elt [⟨.Name x pt, .Call (.Name "reversed" pr) [e] [] p, [], 0⟩] scope pos) σ H Q := by
  refine E_lc [(x, i)] hc hN (RT.pi_revA hg hmr E.pe hes) ok (fun h kk => E.mono h fun v H1 ⟨l, xs, e, r⟩ => ⟨l, xs, e, r.elim (fun z => .inl ⟨z.1, kk _ _ z.2⟩) (fun z => .inr ⟨z.1, kk _ _ z.2⟩)⟩) (E.mono q fun v H1 h => ?_) hs
  obtain ⟨l, xs, Acc, rfl, hx, hn, h0, hu, hst, hd⟩ := h
  refine ⟨l, xs, rfl, .inr ⟨hx, lc_ex walk_revT Acc hn (fun H' e => SqT.fz hx (Fz.of e)) h0 hu ?_ fun Dl H' ys hD e hy _ hA => hd Dl H' ys hD e hy hA⟩⟩
  rintro j y acc H' H'' hj e1 hl' hA ⟨rfl, hy⟩
  exact turn1 hN hi hl (hst j y acc _ hy hj e1 hl' hA)
end
end BW

set_option Elab.async false
set_option linter.all false
set_option maxRecDepth 100000
set_option maxHeartbeats 4000000
namespace BW
open PySem PySem.Spec PyProof.Rows L2
/-! ### comprehensions of two names: over pairs, over enumerate -/
section
variable {X : Cx} {σ : L2.St} {H : Hp} {D : Ends} {pos spos py p pr tp : PySem.Pos} {y : Str} {k kk : Nat} {Q : VK} {elt iter e : Expr} {scope : Scope} {x x' : Str} {pt pt' : PySem.Pos} (i j : Nat)
theorem wipe2 (h : i ≠ j) (σ : L2.St) (u v : V) : wipe (((wipe σ [i, j]).set i (some u)).set j (some v)) [i, j] = wipe σ [i, j] := by
  show (((((σ.set j none).set i none).set i (some u)).set j (some v)).set j none).set i none = (σ.set j none).set i none
  rw [List.set_set, List.set_set, List.set_comm (some u) none h, List.set_set, List.set_set]
theorem wipe2s (h : i ≠ j) (σ : L2.St) (u v : V) : ((wipe σ [i, j]).set i (some u)).set j (some v) = (σ.set i (some u)).set j (some v) := by
  show (((σ.set j none).set i none).set i (some u)).set j (some v) = (σ.set i (some u)).set j (some v)
  rw [List.set_set, List.set_comm none (some u) (Ne.symm h), List.set_set]
theorem turn2 {u v : V} {t : Addr} {R : L2.St → Hp → Prop} {Q2 : VK} (hij : i ≠ j) (hc : X.calm = true) (hN : X.N.Nodup) (hi : X.N[i]? = some x) (hj : X.N[j]? = some x') (hl : ∀ cl C, (compEnvC scope cl C X.env).scope.names.lookup x = some .local) (hl' : ∀ cl C, (compEnvC scope cl C X.env).scope.names.lookup x' = some .local)
    (ht : SqT X.K H t [u, v]) (q : EB X scope elt ((σ.set i (some u)).set j (some v)) H Q2) : GB X scope (.Tuple [.Name x pt, .Name x' pt'] kk tp) (.ref t) (wipe σ [i, j]) H fun σ2 H2 => wipe σ2 [i, j] = wipe σ [i, j] ∧ TsB X scope [] σ2 H2 fun bb H3 => if bb = true then EB X scope elt σ2 H3 Q2 else R σ2 H3 := fun s H0 C cl fp =>
  G_tup (X := X.blk s H0 scope (compEnvC scope cl C X.env) fp) hc ht rfl (Gs_cons (G_name (i := i) hi (Gs_cons (G_name (i := j) hj (Gs_nil ⟨wipe2 i j hij σ u v, by
    show (if true = true then EB X scope elt (((wipe σ [i, j]).set i (some u)).set j (some v)) H Q2 else R (((wipe σ [i, j]).set i (some u)).set j (some v)) H)
    rw [if_pos rfl, wipe2s i j hij]
    exact q⟩) hN (Or.inl (hl' cl C)) (Or.inr (hl' cl C)))) hN (Or.inl (hl cl C)) (Or.inr (hl cl C))))
/-- [elt for x, x' in iter], iter a list of pairs -/
theorem E_lcP (hij : i ≠ j) (hc : X.calm = true) (hN : X.N.Nodup) (hi : X.N[i]? = some x) (hj : X.N[j]? = some x') (ok : blkC X.N X.env.scope scope [(x, i), (x', j)] = true)
    (q : E X iter σ H fun v H1 => ∃ (l : Addr) (xs : List V) (Acc : Nat → List V → Hp → Prop), v = .ref l ∧ SqL X.K H1 l xs ∧ xs.length < sizeLine ∧ (∀ H', Ex H1 H' → Acc 0 [] H') ∧ (∀ j acc H' H'', Fz H' H'' → Acc j acc H' → Acc j acc H'') ∧
      (∀ m y acc H', xs[m]? = some y → Ex H1 H' → acc.length ≤ m → Acc m acc H' → ∃ t u v, y = .ref t ∧ SqT X.K H' t [u, v] ∧ EB X scope elt ((σ.set i (some u)).set j (some v)) H' fun z H4 => Ex H' H4 ∧ Acc (m + 1) (acc ++ [z]) H4) ∧
      ∀ Dl H' ys, H1 Dl = none → Ex H1 H' → H' Dl = some (.lst ys) → Acc xs.length ys H' → Q (.ref Dl) H')
    (hl : ∀ cl C, (compEnvC scope cl C X.env).scope.names.lookup x = some .local := by intro _ _; rfl) (hl' : ∀ cl C, (compEnvC scope cl C X.env).scope.names.lookup x' = some .local := by intro _ _; rfl)
    (hs : ∀ x, foldedSetIterable iter X.env x = pure x := by intro _; rfl) : E X (.ListComp elt [⟨.Tuple [.Name x pt, .Name x' pt'] kk tp, iter, [], 0⟩] scope pos) σ H Q := by
  refine E_lc [(x, i), (x', j)] hc hN (pi_list E.pe) ok (fun h kk => E.mono h fun v H1 ⟨l, e, hx, r⟩ => ⟨l, e, hx, kk _ _ r⟩) (E.mono q fun v H1 h => ?_) hs
  obtain ⟨l, xs, Acc, rfl, hx, hn, h0, hu, hst, hd⟩ := h
  refine ⟨l, rfl, ⟨xs, hx⟩, lc_ex walk_list Acc hn (fun H' e => SqL.ex hx e) h0 hu ?_ fun Dl H' ys hD e hy _ hA => hd Dl H' ys hD e hy hA⟩
  rintro m y acc H' H'' hm e1 hl0 hA ⟨rfl, hy⟩
  obtain ⟨t, u, v, rfl, ht, hb⟩ := hst m y acc _ hy e1 hl0 hA
  exact turn2 i j hij hc hN hi hj hl hl' ht hb
/-- y = [elt for x, x' in iter], iter a list of pairs -/
theorem S_lcP (hij : i ≠ j) (hc : X.calm = true) (hN : X.N.Nodup) (hi : X.N[i]? = some x) (hj : X.N[j]? = some x') (ok : blkC X.N X.env.scope scope [(x, i), (x', j)] = true) (hy : X.N[k]? = some y)
    (q : E X iter σ H fun v H1 => ∃ (l : Addr) (xs : List V) (Acc : Nat → List V → Hp → Prop), v = .ref l ∧ SqL X.K H1 l xs ∧ xs.length < sizeLine ∧ (∀ H', Ex H1 H' → Acc 0 [] H') ∧ (∀ j acc H' H'', Fz H' H'' → Acc j acc H' → Acc j acc H'') ∧
      (∀ m y acc H', xs[m]? = some y → Ex H1 H' → acc.length ≤ m → Acc m acc H' → ∃ t u v, y = .ref t ∧ SqT X.K H' t [u, v] ∧ EB X scope elt ((σ.set i (some u)).set j (some v)) H' fun z H4 => Ex H' H4 ∧ Acc (m + 1) (acc ++ [z]) H4) ∧
      ∀ Dl H' ys, H1 Dl = none → Ex H1 H' → H' Dl = some (.lst ys) → Acc xs.length ys H' → D.nx (σ.set k (some (.ref Dl))) H')
    (hl : ∀ cl C, (compEnvC scope cl C X.env).scope.names.lookup x = some .local := by intro _ _; rfl) (hl' : ∀ cl C, (compEnvC scope cl C X.env).scope.names.lookup x' = some .local := by intro _ _; rfl)
    (hs : ∀ x, foldedSetIterable iter X.env x = pure x := by intro _; rfl) (hyl : X.env.scope.names.lookup y = some .local := by rfl)
    (hsw : swapsWith (.ListComp elt [⟨.Tuple [.Name x pt, .Name x' pt'] kk tp, iter, [], 0⟩] scope pos) (some (.Name y py)) spos.line X.env = pure true := by exact sw_true rfl rfl rfl rfl) : S X (.Assign [.Name y py] (.ListComp elt [⟨.Tuple [.Name x pt, .Name x' pt'] kk tp, iter, [], 0⟩] scope pos) spos) D σ H := by
  refine S_lc [(x, i), (x', j)] hc hN (pi_list E.pe) ok (fun h kk => E.mono h fun v H1 ⟨l, e, hx, r⟩ => ⟨l, e, hx, kk _ _ r⟩) hy (E.mono q fun v H1 h => ?_) hs hyl hsw
  obtain ⟨l, xs, Acc, rfl, hx, hn, h0, hu, hst, hd⟩ := h
  refine ⟨l, rfl, ⟨xs, hx⟩, lc_ex (Q := fun v H' => D.nx (σ.set k (some v)) H') walk_list Acc hn (fun H' e => SqL.ex hx e) h0 hu ?_ fun Dl H' ys hD e hy _ hA => hd Dl H' ys hD e hy hA⟩
  rintro m y acc H' H'' hm e1 hl0 hA ⟨rfl, hy⟩
  obtain ⟨t, u, v, rfl, ht, hb⟩ := hst m y acc _ hy e1 hl0 hA
  exact turn2 i j hij hc hN hi hj hl hl' ht hb
/-- y = [elt for x, x' in enumerate(e)], e a list -/
theorem S_lcE (hij : i ≠ j) (hc : X.calm = true) (hN : X.N.Nodup) (hi : X.N[i]? = some x) (hj : X.N[j]? = some x') (ok : blkC X.N X.env.scope scope [(x, i), (x', j)] = true) (hy : X.N[k]? = some y) (hmr : X.mg "enumerate" = none)
    (q : E X e σ H fun v H1 => ∃ (l : Addr) (xs : List V) (Acc : Nat → List V → Hp → Prop), v = .ref l ∧ SqL X.K H1 l xs ∧ xs.length < sizeLine ∧ (∀ H', Ex H1 H' → Acc 0 [] H') ∧ (∀ j acc H' H'', Fz H' H'' → Acc j acc H' → Acc j acc H'') ∧
      (∀ (m : Nat) y acc H' H'', xs[m]? = some y → Ex H1 H' → Ex H' H'' → acc.length ≤ m → Acc m acc H' → EB X scope elt ((σ.set i (some (.int m))).set j (some y)) H'' fun z H4 => Ex H' H4 ∧ Acc (m + 1) (acc ++ [z]) H4) ∧
      ∀ Dl H' ys, H1 Dl = none → Ex H1 H' → H' Dl = some (.lst ys) → Acc xs.length ys H' → D.nx (σ.set k (some (.ref Dl))) H')
    (hg : Gl X "enumerate" := by rfl) (hes : starEach [e] X.env = [(false, eval e X.env)] := by rfl)
    (hl : ∀ cl C, (compEnvC scope cl C X.env).scope.names.lookup x = some .local := by intro _ _; rfl) (hl' : ∀ cl C, (compEnvC scope cl C X.env).scope.names.lookup x' = some .local := by intro _ _; rfl)
    (hs : ∀ x, foldedSetIterable (.Call (.Name "enumerate" pr) [e] [] p) X.env x = pure x := by intro _; rfl) (hyl : X.env.scope.names.lookup y = some .local := by rfl)
    (hsw : swapsWith (.ListComp elt [⟨.Tuple [.Name x pt, .Name x' pt'] kk tp, .Call (.Name "enumerate" pr) [e] [] p, [], 0⟩] scope pos) (some (.Name y py)) spos.line X.env = pure true := by exact sw_true rfl rfl rfl rfl) : S X (.Assign [.Name y py] (.ListComp elt [⟨.Tuple [.Name x pt, .Name x' pt'] kk tp, .Call (.Name "enumerate" pr) [e] [] p, [], 0⟩] scope pos) spos) D σ H := by
  refine S_lc [(x, i), (x', j)] hc hN (pi_enum hg hmr (pa_cons E.pe pa_nil hes) hes) ok (fun h kk => E.mono h fun v H1 ⟨l, xs, e, hx, r⟩ => ⟨l, xs, e, hx, kk _ _ r⟩) hy (E.mono q fun v H1 h => ?_) hs hyl hsw
  obtain ⟨l, xs, Acc, rfl, hx, hn, h0, hu, hst, hd⟩ := h
  refine ⟨l, xs, rfl, hx, lc_ex (Q := fun v H' => D.nx (σ.set k (some v)) H') walk_enum Acc hn (fun H' e => SqL.ex hx e) h0 hu ?_ fun Dl H' ys hD e hy _ hA => hd Dl H' ys hD e hy hA⟩
  rintro m y acc H' H'' hm e1 hl0 hA ⟨t, u, v, rfl, h1, rfl, h2, h3⟩
  cases h2
  exact turn2 i j hij hc hN hi hj hl hl' (SqT.of upd_same) (hst m v acc H' _ h3 e1 (Evl.Ex.new h1) hl0 hA)
end
end BW

set_option Elab.async false
set_option linter.all false
set_option maxRecDepth 100000
set_option maxHeartbeats 4000000
namespace BW
open PySem PySem.Spec PyProof.Rows L2
/-! ### a list beside the empty one; len of a set of tuples; comprehensions with a test; range(a, b) -/
section
variable {X : Cx} {σ : L2.St} {H : Hp} {D : Ends} {pos spos py p pr : PySem.Pos} {y : Str} {k : Nat} {Q : VK} {a b c e iter elt : Expr}
theorem op_eqNil (hu : X.A.units + 64 < cLine) : OpR X (compareOp .Eq) (fun x y H Q => ∃ p q xs, x = .ref p ∧ y = .ref q ∧ SqL X.K H p xs ∧ SqL X.K H q [] ∧ Q (.bl (decide (xs = []))) H) := by
  intro pins s σ H x y v u Q I rx ry h
  obtain ⟨p, q, xs, rfl, rfl, hp, hq, z⟩ := h
  cases rx
  cases ry
  obtain ⟨its, r, pl, _⟩ := I.list hp
  obtain ⟨its2, r2, pl2, _⟩ := I.list hq
  cases r2
  cases r with
  | nil => exact SeqAt.eq_listAt (e := fun _ => true) pl.isList pl2.isList rfl (by omega) (fun j h1 => absurd h1 (by simp)) ⟨.bl true, H, I, rfl, z⟩
  | cons r t => exact SeqAt.eq_list_lengthsAt pl.isList pl2.isList (by simp) (by omega) ⟨.bl false, H, I, rfl, by
      rw [decide_eq_false (by simp)] at z
      exact z⟩
theorem E_eqNil (hu : X.A.units + 64 < cLine) (q : E X a σ H fun x H1 => ∃ p xs, x = .ref p ∧ SqL X.K H1 p xs ∧ ∀ H2, Ex H1 H2 → Q (.bl (decide (xs = []))) H2) {pl : PySem.Pos} (hm : behindInMarks .Eq (.List [] pl) = false := by first | exact nomark _ | rfl) : E X (.Compare a [.Eq] [.List [] pl] pos) σ H Q :=
  E_cmp (op_eqNil hu) (E.mono q fun x H1 h => E_lst (As_nil ⟨by show 0 ≤ sizeLine; decide, fun p2 H2 z2 e2 h2 => by
    obtain ⟨p, xs, rfl, h3, h4⟩ := h
    exact ⟨p, p2, xs, rfl, rfl, SqL.ex h3 e2, SqL.of h2, h4 H2 e2⟩⟩)) hm
theorem len_le {α : Type} [DecidableEq α] : ∀ {l m : List α}, l.Nodup → (∀ x ∈ l, x ∈ m) → l.length ≤ m.length
  | [], _, _, _ => Nat.zero_le _
  | x :: l, m, hn, h => by
    have hx := h x (by simp)
    have h1 := List.nodup_cons.mp hn
    have h2 := len_le (m := m.erase x) h1.2 fun y hy => (List.mem_erase_of_ne (fun z => h1.1 (by rw [← z]; exact hy))).mpr (h y (by simp [hy]))
    rw [List.length_erase_of_mem hx] at h2
    have h3 := List.length_pos_of_mem hx
    rw [List.length_cons]
    omega
/-- len of a set of tuples -/
theorem cr_lenSetT : CallR X (.builtin "len") (fun xs H Q => ∃ (a : Addr) (L : List (Addr × List Int)), xs = [V.ref a] ∧ H a = some (SetTO X.prog X.w a L) ∧ (∀ p ∈ L, SqT X.K H p.1 (p.2.map V.int)) ∧ ((L.map (·.2)).Nodup → Q (.int (L.length : Nat)) H)) := by
  intro pins s σ H xs us Q I r h
  obtain ⟨a, L, rfl, ha, hk, q⟩ := h
  rw [Vals.ref1 r]
  have R0 : SetT0 X.prog X.w s.heap a L := (I.hok a _ ha).1
  obtain ⟨es, ep, t, R⟩ := R0.full fun p hp => I.isT (hk p hp)
  obtain ⟨o, ho, hex, hd⟩ := R.ob
  have hsz : es.size = L.length := by
    have := congrArg List.length R.rows
    unfold rowsOf at this
    rw [List.length_map, Array.length_toList] at this
    exact this
  have h8 := R.few
  exact call_len_set ho hex hd R.fits (by rw [hsz]; omega) ⟨.int (L.length : Nat), H, (I.tok _).tok _, ⟨_, by rw [hsz]⟩, q R.nd⟩
theorem E_lenSetT {pf ps pp : PySem.Pos} (hc : X.calm = true) (hu : X.A.units + 64 < cLine) (hm : X.mg "len" = none) (hm2 : X.mg "set" = none)
    (q : E X a σ H fun x H1 => ∃ (l : Addr) (ks : List (Addr × List Int)), x = .ref l ∧ SqL X.K H1 l (ks.map fun p => V.ref p.1) ∧ (∀ p ∈ ks, SqT X.K H1 p.1 (p.2.map V.int)) ∧ ks.length < 64 ∧ (ks.map (·.2)).Nodup ∧ ∀ H2, Ex H1 H2 → Q (.int (ks.length : Nat)) H2)
    (hg : Gl X "len" := by rfl) (hg2 : Gl X "set" := by rfl) (hs0 : starEach [.Call (.Name "set" ps) [a] [] pp] X.env = (false, eval (.Call (.Name "set" ps) [a] [] pp) X.env) :: starEach [] X.env := by rfl)
    (hs1 : starEach [a] X.env = (false, eval a X.env) :: starEach [] X.env := by rfl) (hpl : (backTo pos (starEach [] X.env)).any (·.1) = false := by rfl) (hpl2 : (backTo pp (starEach [] X.env)).any (·.1) = false := by rfl) :
    E X (.Call (.Name "len" pf) [.Call (.Name "set" ps) [a] [] pp] [] pos) σ H Q :=
  E_callB cr_lenSetT hm PySem.boot_len (As_cons (E_callT (cr_setOfT hc hu) hm2 (by decide +kernel) (As_cons (E.mono q fun x H1 h => As_nil (by
    obtain ⟨l, ks, rfl, h1, h2, h3, h4, h5⟩ := h
    refine ⟨l, ks, rfl, h1, h2, h3, fun t L ht hL1 hL2 => As_nil ⟨t, L, rfl, upd_same, fun p hp => SqT.fz (h2 p (hL1 p hp)) (Fz.of (Evl.Ex.new ht)), fun nd => ?_⟩⟩
    have e1 : L.length ≤ ks.length := by
      have := len_le nd (m := ks.map (·.2)) fun x hx => by
        obtain ⟨p, hp, rfl⟩ := List.mem_map.mp hx
        exact List.mem_map.mpr ⟨p, hL1 p hp, rfl⟩
      simpa using this
    have e2 : ks.length ≤ L.length := by
      have := len_le h4 (m := L.map (·.2)) fun x hx => by
        obtain ⟨p, hp, rfl⟩ := List.mem_map.mp hx
        exact hL2 p hp
      simpa using this
    rw [Nat.le_antisymm e1 e2]
    exact h5 _ (Evl.Ex.new ht))) hs1) hg2 (by decide) (by decide) hs1 hpl2) hs0) hg (by decide) (by decide) hs0 hpl
/-! ### a comprehension with a test -/
section
variable {scope : Scope} {x : Str} {pt : PySem.Pos} (i : Nat)
theorem turn1if {v : V} {R : Hp → Prop} {Q2 : VK} (hN : X.N.Nodup) (hi : X.N[i]? = some x) (hl : ∀ cl C, (compEnvC scope cl C X.env).scope.names.lookup x = some .local)
    (q : TB1 X scope c (σ.set i (some v)) H fun bb H3 => if bb = true then EB X scope elt (σ.set i (some v)) H3 Q2 else R H3) : GB X scope (.Name x pt) v (wipe σ [i]) H fun σ2 H2 => wipe σ2 [i] = wipe σ [i] ∧ TsB X scope [c] σ2 H2 fun bb H3 => if bb = true then EB X scope elt σ2 H3 Q2 else R H3 := fun s H0 C cl fp =>
  G_name (X := X.blk s H0 scope (compEnvC scope cl C X.env) fp) (i := i) hi ⟨wipe1 σ i v, by
    show TB1 X scope c ((wipe σ [i]).set i (some v)) H fun bb H3 => if bb = true then EB X scope elt ((wipe σ [i]).set i (some v)) H3 Q2 else R H3
    rw [wipe1s]
    exact q⟩ hN (Or.inl (hl cl C)) (Or.inr (hl cl C))
/-- [elt for x in iter if c], iter a tuple -/
theorem E_lcTif (hc : X.calm = true) (hN : X.N.Nodup) (hi : X.N[i]? = some x) (ok : blkC X.N X.env.scope scope [(x, i)] = true)
    (q : E X iter σ H fun v H1 => ∃ (l : Addr) (xs : List V) (Acc : Nat → List V → Hp → Prop), v = .ref l ∧ SqT X.K H1 l xs ∧ xs.length < sizeLine ∧ (∀ H', Ex H1 H' → Acc 0 [] H') ∧ (∀ j acc H' H'', Fz H' H'' → Acc j acc H' → Acc j acc H'') ∧
      (∀ j y acc H', xs[j]? = some y → Ex H1 H' → acc.length ≤ j → Acc j acc H' → TB1 X scope c (σ.set i (some y)) H' fun bb H3 => if bb = true then EB X scope elt (σ.set i (some y)) H3 fun z H4 => Ex H' H4 ∧ Acc (j + 1) (acc ++ [z]) H4 else Ex H' H3 ∧ Acc (j + 1) acc H3) ∧
      ∀ Dl H' ys, H1 Dl = none → Ex H1 H' → H' Dl = some (.lst ys) → Acc xs.length ys H' → Q (.ref Dl) H')
    (hl : ∀ cl C, (compEnvC scope cl C X.env).scope.names.lookup x = some .local := by intro _ _; rfl) (hs : ∀ x, foldedSetIterable iter X.env x = pure x := by intro _; rfl) : E X (.ListComp elt [⟨.Name x pt, iter, [c], 0⟩] scope pos) σ H Q := by
  refine E_lc [(x, i)] hc hN (pi_tup E.pe) ok (fun h kk => E.mono h fun v H1 ⟨l, e, hx, r⟩ => ⟨l, e, hx, kk _ _ r⟩) (E.mono q fun v H1 h => ?_) hs
  obtain ⟨l, xs, Acc, rfl, hx, hn, h0, hu, hst, hd⟩ := h
  refine ⟨l, rfl, ⟨xs, hx⟩, lc_ex walk_tup Acc hn (fun H' e => SqT.fz hx (Fz.of e)) h0 hu ?_ fun Dl H' ys hD e hy _ hA => hd Dl H' ys hD e hy hA⟩
  rintro j y acc H' H'' hj e1 hl' hA ⟨rfl, hy⟩
  exact turn1if i hN hi hl (hst j y acc _ hy e1 hl' hA)
/-- .. iter a list -/
theorem E_lcLif (hc : X.calm = true) (hN : X.N.Nodup) (hi : X.N[i]? = some x) (ok : blkC X.N X.env.scope scope [(x, i)] = true)
    (q : E X iter σ H fun v H1 => ∃ (l : Addr) (xs : List V) (Acc : Nat → List V → Hp → Prop), v = .ref l ∧ SqL X.K H1 l xs ∧ xs.length < sizeLine ∧ (∀ H', Ex H1 H' → Acc 0 [] H') ∧ (∀ j acc H' H'', Fz H' H'' → Acc j acc H' → Acc j acc H'') ∧
      (∀ j y acc H', xs[j]? = some y → Ex H1 H' → acc.length ≤ j → Acc j acc H' → TB1 X scope c (σ.set i (some y)) H' fun bb H3 => if bb = true then EB X scope elt (σ.set i (some y)) H3 fun z H4 => Ex H' H4 ∧ Acc (j + 1) (acc ++ [z]) H4 else Ex H' H3 ∧ Acc (j + 1) acc H3) ∧
      ∀ Dl H' ys, H1 Dl = none → Ex H1 H' → H' Dl = some (.lst ys) → Acc xs.length ys H' → Q (.ref Dl) H')
    (hl : ∀ cl C, (compEnvC scope cl C X.env).scope.names.lookup x = some .local := by intro _ _; rfl) (hs : ∀ x, foldedSetIterable iter X.env x = pure x := by intro _; rfl) : E X (.ListComp elt [⟨.Name x pt, iter, [c], 0⟩] scope pos) σ H Q := by
  refine E_lc [(x, i)] hc hN (pi_list E.pe) ok (fun h kk => E.mono h fun v H1 ⟨l, e, hx, r⟩ => ⟨l, e, hx, kk _ _ r⟩) (E.mono q fun v H1 h => ?_) hs
  obtain ⟨l, xs, Acc, rfl, hx, hn, h0, hu, hst, hd⟩ := h
  refine ⟨l, rfl, ⟨xs, hx⟩, lc_ex walk_list Acc hn (fun H' e => SqL.ex hx e) h0 hu ?_ fun Dl H' ys hD e hy _ hA => hd Dl H' ys hD e hy hA⟩
  rintro j y acc H' H'' hj e1 hl' hA ⟨rfl, hy⟩
  exact turn1if i hN hi hl (hst j y acc _ hy e1 hl' hA)
theorem S_lcLif (hc : X.calm = true) (hN : X.N.Nodup) (hi : X.N[i]? = some x) (ok : blkC X.N X.env.scope scope [(x, i)] = true) (hy : X.N[k]? = some y)
    (q : E X iter σ H fun v H1 => ∃ (l : Addr) (xs : List V) (Acc : Nat → List V → Hp → Prop), v = .ref l ∧ SqL X.K H1 l xs ∧ xs.length < sizeLine ∧ (∀ H', Ex H1 H' → Acc 0 [] H') ∧ (∀ j acc H' H'', Fz H' H'' → Acc j acc H' → Acc j acc H'') ∧
      (∀ j y acc H', xs[j]? = some y → Ex H1 H' → acc.length ≤ j → Acc j acc H' → TB1 X scope c (σ.set i (some y)) H' fun bb H3 => if bb = true then EB X scope elt (σ.set i (some y)) H3 fun z H4 => Ex H' H4 ∧ Acc (j + 1) (acc ++ [z]) H4 else Ex H' H3 ∧ Acc (j + 1) acc H3) ∧
      ∀ Dl H' ys, H1 Dl = none → Ex H1 H' → H' Dl = some (.lst ys) → Acc xs.length ys H' → D.nx (σ.set k (some (.ref Dl))) H')
    (hl : ∀ cl C, (compEnvC scope cl C X.env).scope.names.lookup x = some .local := by intro _ _; rfl) (hs : ∀ x, foldedSetIterable iter X.env x = pure x := by intro _; rfl) (hyl : X.env.scope.names.lookup y = some .local := by rfl)
    (hsw : swapsWith (.ListComp elt [⟨.Name x pt, iter, [c], 0⟩] scope pos) (some (.Name y py)) spos.line X.env = pure true := by exact sw_true rfl rfl rfl rfl) : S X (.Assign [.Name y py] (.ListComp elt [⟨.Name x pt, iter, [c], 0⟩] scope pos) spos) D σ H := by
  refine S_lc [(x, i)] hc hN (pi_list E.pe) ok (fun h kk => E.mono h fun v H1 ⟨l, e, hx, r⟩ => ⟨l, e, hx, kk _ _ r⟩) hy (E.mono q fun v H1 h => ?_) hs hyl hsw
  obtain ⟨l, xs, Acc, rfl, hx, hn, h0, hu, hst, hd⟩ := h
  refine ⟨l, rfl, ⟨xs, hx⟩, lc_ex (Q := fun v H' => D.nx (σ.set k (some v)) H') walk_list Acc hn (fun H' e => SqL.ex hx e) h0 hu ?_ fun Dl H' ys hD e hy _ hA => hd Dl H' ys hD e hy hA⟩
  rintro j y acc H' H'' hj e1 hl' hA ⟨rfl, hy⟩
  exact turn1if i hN hi hl (hst j y acc _ hy e1 hl' hA)
/-- [elt for x in range(n)]; all but the list at l stands -/
theorem E_lcRb (hc : X.calm = true) (hN : X.N.Nodup) (hi : X.N[i]? = some x) (ok : blkC X.N X.env.scope scope [(x, i)] = true) (hmr : X.mg "range" = none)
    (q : E X e σ H fun v H1 => ∃ (n : Nat) (l : Addr) (Acc : Nat → List V → Hp → Prop), v = .int (n : Nat) ∧ n < 1000 ∧ H1 l ≠ none ∧ (∀ Dl, H1 Dl = none → Acc 0 [] (upd H1 Dl (.lst []))) ∧ (∀ j acc H' Dl xs ob, Dl ≠ l → H' Dl = some (.lst xs) → Acc j acc H' → Acc j acc (upd H' Dl ob)) ∧
      (∀ (j : Nat) acc H', j < n → ExB l H1 H' → acc.length ≤ j → Acc j acc H' → EB X scope elt (σ.set i (some (.int j))) H' fun z H4 => ExB l H' H4 ∧ Acc (j + 1) (acc ++ [z]) H4) ∧
      ∀ Dl H' ys, H1 Dl = none → ExB l H1 H' → H' Dl = some (.lst ys) → Acc n ys H' → Q (.ref Dl) H')
    (hg : Gl X "range" := by rfl) (hes : starEach [e] X.env = [(false, eval e X.env)] := by rfl)
    (hl : ∀ cl C, (compEnvC scope cl C X.env).scope.names.lookup x = some .local := by intro _ _; rfl) (hs : ∀ x, foldedSetIterable (.Call (.Name "range" pr) [e] [] p) X.env x = pure x := by intro _; rfl) : E X (.ListComp elt [⟨.Name x pt, .Call (.Name "range" pr) [e] [] p, [], 0⟩] scope pos) σ H Q := by
  refine E_lc [(x, i)] hc hN (pi_range1 hg hmr (pa_cons E.pe pa_nil hes) hes) ok (fun h kk => E.mono h fun v H1 ⟨j, e1, h1, h2, r⟩ => ⟨j, e1, h1, h2, kk _ _ r⟩) (E.mono q fun v H1 h => ?_) hs
  obtain ⟨n, l, Acc, rfl, hn, hl0, h0, hu, hst, hd⟩ := h
  have en : ((n : Nat) : Int).toNat = n := Int.toNat_natCast n
  refine ⟨(n : Int), rfl, by omega, by omega, ?_⟩
  rw [en]
  refine lc_exb walk_range l hl0 Acc (Nat.lt_trans hn (by decide)) (fun H' e => trivial) h0 hu ?_ fun Dl H' ys hD e hy _ hA => hd Dl H' ys hD e hy hA
  rintro j y acc H' H'' hj e1 hl' hA ⟨rfl, rfl⟩
  have z : (0 : Int) + (j : Int) = j := Int.zero_add _
  show GB X scope (.Name x pt) (V.int ((0 : Int) + (j : Int))) _ _ _
  rw [z]
  exact turn1 hN hi hl (hst j acc _ hj e1 hl' hA)
end
/-- for tg in range(a, b) -/
theorem S_forR2 {tg : Expr} {body : List Stmt} (hp : PassesOwn (model X.prog X.w) X.A X.env X.xe) (hc : X.calm = true) (hmr : X.mg "range" = none)
    (q : E X a σ H fun v H0 => E X b σ H0 fun v' H1 => ∃ (lo n : Nat) (hi : Int) (Pv : Nat → L2.St → Hp → Prop), v = .int (lo : Nat) ∧ v' = .int hi ∧ lo < 2 ^ 60 ∧ -(2 ^ 62) ≤ hi ∧ hi < 2 ^ 62 ∧ (hi - lo).toNat = n ∧ Pv 0 σ H1 ∧
      (∀ (i : Nat) σ' H', i < n → Pv i σ' H' → G X tg (.int ((lo + i : Nat) : Int)) σ' H' fun σ2 H2 => Ss X body { D with nx := Pv (i + 1), ct := Pv (i + 1), bk := D.nx } σ2 H2) ∧ ∀ σ' H', Pv n σ' H' → D.nx σ' H')
    (hg : Gl X "range" := by rfl) (hes : starEach [a, b] X.env = [(false, eval a X.env), (false, eval b X.env)] := by rfl) (hes2 : starEach [b] X.env = [(false, eval b X.env)] := by rfl) (hs : ∀ x, foldedSetIterable (.Call (.Name "range" pr) [a, b] [] p) X.env x = pure x := by intro _; rfl) : S X (.For tg (.Call (.Name "range" pr) [a, b] [] p) body [] pos) D σ H := by
  refine S.of (ps_for hp hc (pi_range2 hg hmr (pa_cons E.pe (pa_cons E.pe pa_nil hes2) (by rw [hes, hes2])) hes hes2) G.pg Ss.ps hs) (E.mono q fun v H0 h => E.mono h fun v' H1 h => ?_)
  obtain ⟨lo, n, hi, Pv, rfl, rfl, h1, h2, h3, hn, h0, hst, hd⟩ := h
  subst hn
  refine ⟨_, hi, rfl, ⟨by omega, by omega, h2, h3⟩, for_range (lo := ((lo : Nat) : Int)) (n := (hi - lo).toNat) Pv h0 (fun i σ' H' hi' pv => ?_) hd⟩
  have z : ((lo : Nat) : Int) + (i : Int) = ((lo + i : Nat) : Int) := by omega
  rw [z]
  exact hst i σ' H' hi' pv
end
end BW

set_option Elab.async false
set_option linter.all false
set_option maxRecDepth 100000
set_option maxHeartbeats 4000000
namespace BW
open PySem PySem.Spec PyProof.Rows L2
/-- e[:i], e a tuple, not the whole -/
theorem E_slT {X : Cx} {σ : L2.St} {H : Hp} {e hi : Expr} {pos p2 : PySem.Pos} {Q : VK} (q : E X e σ H fun x H1 => E X hi σ H1 fun y H2 => ∃ i a xs, y = .int i ∧ x = .ref a ∧ SqT X.K H2 a xs ∧ ¬ (HT.sIx xs.length 0 none = 0 ∧ HT.sIx xs.length xs.length (some i) = xs.length) ∧
    ∀ p H3, H2 p = none → Ex H2 H3 → H3 p = some (.tup (cutV xs none (some i))) → Q (.ref p) H3) : E X (.Subscript e (.Slice none (some hi) none p2) pos) σ H Q :=
  E.of (pe_slice sl_tup E.pe po_none (po_some E.pe)) (E.mono q fun x H1 h => E.mono h fun y H2 h => by
    obtain ⟨i, a, xs, rfl, rfl, h1, h2, h3⟩ := h
    exact ⟨i, rfl, a, xs, rfl, h1, h2, new_of h3⟩)
theorem low_stop {x : Q4} {k : Nat} (h : ¬ (0 < k ∧ x.ev)) : low x k = ⟨x, k⟩ := by
  cases k with
  | zero => rfl
  | succ k =>
    show (if x.ev then low x.hf k else ⟨x, k + 1⟩ : Z8) = _
    rw [if_neg fun z => h ⟨Nat.succ_pos k, z⟩]
theorem low_step {x : Q4} {k : Nat} (h0 : 0 < k) (h : x.ev) : low x k = low x.hf (k - 1) := by
  cases k with
  | zero => omega
  | succ k =>
    show (if x.ev then low x.hf k else ⟨x, k + 1⟩ : Z8) = _
    rw [if_pos h]
    rfl
def slotN (i : Nat) (σ : L2.St) : Nat := match σ[i]? with
  | some (some (.int k)) => k.toNat
  | _ => 0
section
variable {P : Program} {w : World} {K : PySem.W.Frag} {mg : Str → Option Value} {base : Heap}
/-! ### is_whole -/
def spWhole : Sp := fun vs H Q _ => ∃ i : Int, vs = [.int i] ∧ ∀ H', Ex H H' → Q (.bl true) H'
theorem sc_whole : FnScope ["thing"] ["thing"] (defScope s_is_whole) := ⟨rfl, rfl, rfl, by decide +kernel, rfl, by decide +kernel, by decide +kernel⟩
theorem ok_is_whole (T : Txt K mg) : Cal P w K mg base 1 "is_whole" spWhole := by
  refine cal_ok T.d_is_whole T.g_is_whole sc_whole (fun _ _ _ _ _ _ us hl => match us, hl with | [_], _ => rfl) (fun vs H Q E h => ?_) (fun cdv A outer s H vs Q E hr h => ?_)
  · obtain ⟨_, rfl, _⟩ := h
    rfl
  · obtain ⟨i, rfl, fin⟩ := h
    have nd := sc_whole.nd
    refine Ss_one (S_ret (E_and (E_isi (k := true) (u := .type "int") (cv := .ty "int") T.b_isinstance ?_)))
    refine E_var 0 rfl ?_
    refine E_blt (v := .ty "int") (u := .type "int") T.b_int (by decide +kernel) rfl ⟨_, rfl, .ty _, .base (.int _), kit_ty (by decide +kernel), _, rfl, iteT ?_⟩
    refine E_one (E_not (E_isi (k := false) (u := .type "bool") (cv := .ty "bool") T.b_isinstance ?_))
    refine E_var 0 rfl ?_
    exact E_blt (v := .ty "bool") (u := .type "bool") T.b_bool (by decide +kernel) rfl ⟨_, rfl, .ty _, .base (.int _), kit_ty (by decide +kernel), _, rfl, fin _ (Evl.Ex.refl _)⟩
/-! ### lowest -/
def spLowest (K : PySem.W.Frag) : Sp := fun vs H Q _ => ∃ (x : Q4) (k : Nat), vs = [.int x.a, .int x.b, .int x.c, .int x.d, .int k] ∧ ∀ r H', Ex H H' → TI K H' r (lowest x k).ns → Q r H'
theorem sc_lowest : FnScope ["a", "b", "c", "d", "k"] ["a", "b", "c", "d", "k"] (defScope s_lowest) := ⟨rfl, rfl, rfl, by decide +kernel, rfl, by decide +kernel, by decide +kernel⟩
theorem ok_lowest (T : Txt K mg) : Cal P w K mg base 1 "lowest" (spLowest K) := by
  refine cal_ok T.d_lowest T.g_lowest sc_lowest (fun _ _ _ _ _ _ us hl => match us, hl with | [_, _, _, _, _], _ => rfl) (fun vs H Q E h => ?_) (fun cdv A outer s H vs Q E hr h => ?_)
  · obtain ⟨_, _, rfl, _⟩ := h
    rfl
  · obtain ⟨x, k, rfl, fin⟩ := h
    have nd := sc_lowest.nd
    refine Ss_cons ?_
    apply S_ifB
    · apply TB_w
      apply WB_and
      · apply TB_eq
        refine E_var 0 rfl ?_
        refine E_int ?_
        exact ⟨_, _, rfl, rfl, rfl, rfl⟩
      · intro _
        apply WB_and
        · apply TB_eq
          refine E_var 1 rfl ?_
          refine E_int ?_
          exact ⟨_, _, rfl, rfl, rfl, rfl⟩
        · intro _
          apply WB_and
          · apply TB_eq
            refine E_var 2 rfl ?_
            refine E_int ?_
            exact ⟨_, _, rfl, rfl, rfl, rfl⟩
          · intro _
            apply WB_and1
            apply TB_eq
            refine E_var 3 rfl ?_
            refine E_int ?_
            exact ⟨_, _, rfl, rfl, rfl, rfl⟩
    · intro hz
      simp only [Bool.and_eq_true, decide_eq_true_eq] at hz
      have hz : x = Q4.zero := Q4.ext' hz.1 hz.2.1 hz.2.2.1 hz.2.2.2
      refine Ss_one ?_
      refine S_ret ?_
      refine E_tup ?_
      refine As_cons ?_
      refine E_int ?_
      refine As_cons ?_
      refine E_int ?_
      refine As_cons ?_
      refine E_int ?_
      refine As_cons ?_
      refine E_int ?_
      refine As_cons ?_
      refine E_int ?_
      refine As_nil ?_
      refine ⟨by show 5 ≤ sizeLine; decide, fun p1 H1 z1 e1 h1 => ?_⟩
      refine fin _ _ e1 (TI.new h1 ?_)
      rw [hz]
      rfl
    · intro hz
      have hz : ¬ x = Q4.zero := by
        rintro rfl
        cases hz
      have el : lowest x k = low x k := if_neg hz
      rw [el] at fin
      refine Ss_nil ?_
      refine Ss_cons ?_
      refine S_whileB PassesOwn.never (fun σ' H' => ∃ (y : Q4) (l : Nat), Ex H H' ∧ low x k = low y l ∧ σ' = [some (.int y.a), some (.int y.b), some (.int y.c), some (.int y.d), some (.int l)]) (fun σ' _ => slotN 4 σ') ⟨x, k, Evl.Ex.refl H, rfl, rfl⟩ ?_
      rintro σ' H' ⟨y, l, e0, el2, rfl⟩
      refine ⟨decide (0 < l ∧ y.ev), TB_is (c1 := decide ((0 : Int) < l) && (decide ((y.a - y.c) % 2 = 0) && decide ((y.b - y.d) % 2 = 0))) ?tt1 ?ee1, fun hc => ?_, fun hc => ?_⟩
      case tt1 =>
        apply TB_w
        apply WB_and
        · apply TB_gt
          refine E_var 4 rfl ?_
          refine E_int ?_
          exact ⟨_, _, rfl, rfl, rfl, rfl⟩
        · intro _
          apply WB_and
          · apply TB_eq
            refine E_modc ?_
            refine E_sub ?_
            refine E_var 0 rfl ?_
            refine E_var 2 rfl ?_
            refine ⟨_, _, rfl, rfl, ?_⟩
            refine ⟨_, rfl, ?_⟩
            refine E_int ?_
            exact ⟨_, _, rfl, rfl, rfl, rfl⟩
          · intro _
            apply WB_and1
            apply TB_eq
            refine E_modc ?_
            refine E_sub ?_
            refine E_var 1 rfl ?_
            refine E_var 3 rfl ?_
            refine ⟨_, _, rfl, rfl, ?_⟩
            refine ⟨_, rfl, ?_⟩
            refine E_int ?_
            exact ⟨_, _, rfl, rfl, rfl, rfl⟩
      case ee1 =>
        rw [Bool.eq_iff_iff]
        simp only [Bool.and_eq_true, decide_eq_true_eq]
        exact ⟨fun h => ⟨by omega, h.2⟩, fun h => ⟨by omega, h.2⟩⟩
      · obtain ⟨h0, hev⟩ := of_decide_eq_true hc
        refine Ss_cons ?_
        refine S_asg ?_
        refine E_tup ?_
        refine As_cons ?_
        refine E_fdivc ?_
        refine E_sub ?_
        refine E_var 1 rfl ?_
        refine E_var 3 rfl ?_
        refine ⟨_, _, rfl, rfl, ?_⟩
        refine ⟨_, rfl, ?_⟩
        refine As_cons ?_
        refine E_fdivc ?_
        refine E_add ?_
        refine E_var 0 rfl ?_
        refine E_var 2 rfl ?_
        refine ⟨_, _, rfl, rfl, ?_⟩
        refine ⟨_, rfl, ?_⟩
        refine As_cons ?_
        refine E_fdivc ?_
        refine E_add ?_
        refine E_var 1 rfl ?_
        refine E_var 3 rfl ?_
        refine ⟨_, _, rfl, rfl, ?_⟩
        refine ⟨_, rfl, ?_⟩
        refine As_cons ?_
        refine E_fdivc ?_
        refine E_sub ?_
        refine E_var 2 rfl ?_
        refine E_var 0 rfl ?_
        refine ⟨_, _, rfl, rfl, ?_⟩
        refine ⟨_, rfl, ?_⟩
        refine As_nil ?_
        refine ⟨by show 4 ≤ sizeLine; decide, fun p1 H1 z1 e1 h1 => ?_⟩
        refine G_tup rfl (SqT.of h1) rfl ?_
        refine Gs_cons ?_
        refine G_name (i := 0) rfl ?_ nd
        refine Gs_cons ?_
        refine G_name (i := 1) rfl ?_ nd
        refine Gs_cons ?_
        refine G_name (i := 2) rfl ?_ nd
        refine Gs_cons ?_
        refine G_name (i := 3) rfl ?_ nd
        refine Gs_nil ?_
        refine Ss_one ?_
        refine S_aug (i := 4) rfl rfl ip_sub ?_ nd
        refine E_int ?_
        refine ⟨_, _, rfl, rfl, ?_⟩
        refine ⟨⟨y.hf, l - 1, e0.trans e1, el2.trans (low_step h0 hev), ?_⟩, ?_⟩
        · show [some (V.int y.hf.a), some (.int y.hf.b), some (.int y.hf.c), some (.int y.hf.d), some (.int ((l : Int) - 1))] = _
          have e : (l : Int) - 1 = ((l - 1 : Nat) : Int) := by omega
          rw [e]
        · show ((l : Int) - 1).toNat < (l : Int).toNat
          omega
      · have hc := of_decide_eq_false hc
        rw [low_stop hc] at el2
        refine Ss_one ?_
        refine S_ret ?_
        refine E_tup ?_
        refine As_cons ?_
        refine E_var 0 rfl ?_
        refine As_cons ?_
        refine E_var 1 rfl ?_
        refine As_cons ?_
        refine E_var 2 rfl ?_
        refine As_cons ?_
        refine E_var 3 rfl ?_
        refine As_cons ?_
        refine E_var 4 rfl ?_
        refine As_nil ?_
        refine ⟨by show 5 ≤ sizeLine; decide, fun p1 H1 z1 e1 h1 => ?_⟩
        refine fin _ _ (e0.trans e1) (TI.new h1 ?_)
        rw [el2]
        rfl
/-! ### rooted -/
def spRooted (K : PySem.W.Frag) : Sp := fun vs H Q _ => ∃ (v : V) (x : Q4) (k : Int) (m : Nat), vs = [v, .int m] ∧ TI K H v [x.a, x.b, x.c, x.d, k] ∧ m < 2 ^ 60 ∧ ∀ r H', Ex H H' → TI K H' r (Q4.rtN m x).ns → Q r H'
theorem sc_rooted : FnScope ["one", "many", "a", "b", "c", "d", "turn"] ["one", "many"] (defScope s_rooted) := ⟨rfl, rfl, rfl, by decide +kernel, rfl, by decide +kernel, by decide +kernel⟩
theorem ok_rooted (T : Txt K mg) : Cal P w K mg base 1 "rooted" (spRooted K) := by
  refine cal_ok T.d_rooted T.g_rooted sc_rooted (fun _ _ _ _ _ _ us hl => match us, hl with | [_, _], _ => rfl) (fun vs H Q E h => ?_) (fun cdv A outer s H vs Q E hr h => ?_)
  · obtain ⟨_, _, _, _, rfl, _⟩ := h
    rfl
  · obtain ⟨v, x, k, m, rfl, ⟨p, rfl, hp⟩, hm, fin⟩ := h
    have nd := sc_rooted.nd
    refine Ss_cons (S_asg (E_slT ?_))
    refine E_var 0 rfl ?_
    refine E_int ?_
    refine ⟨4, p, _, rfl, rfl, hp, by show ¬ (0 = 0 ∧ 4 = 5); decide, fun q H1 _ e1 h1 => ?_⟩
    refine G_tup rfl (SqT.of h1) rfl ?_
    refine Gs_cons (G_name (i := 2) rfl (Gs_cons (G_name (i := 3) rfl (Gs_cons (G_name (i := 4) rfl (Gs_cons (G_name (i := 5) rfl (Gs_nil ?_) nd)) nd)) nd)) nd)
    refine Ss_cons ?_
    refine S_forR PassesOwn.never rfl T.b_range ?_
    refine E_var 1 rfl ?_
    refine ⟨m, fun i σ' H' => ∃ t : Option V, Ex H H' ∧ σ' = [some (.ref p), some (.int m), some (.int (Q4.rtN i x).a), some (.int (Q4.rtN i x).b), some (.int (Q4.rtN i x).c), some (.int (Q4.rtN i x).d), t], rfl, by omega, by omega, ⟨none, e1, rfl⟩, ?_, ?_⟩
    · rintro i σ' H' hi ⟨t, e2, rfl⟩
      refine G_name (i := 6) rfl ?_ nd
      refine Ss_one ?_
      refine S_asg ?_
      refine E_tup ?_
      refine As_cons ?_
      refine E_sub ?_
      refine E_var 3 rfl ?_
      refine E_var 5 rfl ?_
      refine ⟨_, _, rfl, rfl, ?_⟩
      refine As_cons ?_
      refine E_add ?_
      refine E_var 2 rfl ?_
      refine E_var 4 rfl ?_
      refine ⟨_, _, rfl, rfl, ?_⟩
      refine As_cons ?_
      refine E_add ?_
      refine E_var 3 rfl ?_
      refine E_var 5 rfl ?_
      refine ⟨_, _, rfl, rfl, ?_⟩
      refine As_cons ?_
      refine E_sub ?_
      refine E_var 4 rfl ?_
      refine E_var 2 rfl ?_
      refine ⟨_, _, rfl, rfl, ?_⟩
      refine As_nil ?_
      refine ⟨by show 4 ≤ sizeLine; decide, fun p3 H3 z3 e3 h3 => ?_⟩
      refine G_tup rfl (SqT.of h3) rfl ?_
      refine Gs_cons ?_
      refine G_name (i := 2) rfl ?_ nd
      refine Gs_cons ?_
      refine G_name (i := 3) rfl ?_ nd
      refine Gs_cons ?_
      refine G_name (i := 4) rfl ?_ nd
      refine Gs_cons ?_
      refine G_name (i := 5) rfl ?_ nd
      refine Gs_nil ?_
      exact ⟨_, e2.trans e3, rfl⟩
    · rintro σ' H' ⟨t, e2, rfl⟩
      refine Ss_one ?_
      refine S_ret ?_
      refine E_tup ?_
      refine As_cons ?_
      refine E_var 2 rfl ?_
      refine As_cons ?_
      refine E_var 3 rfl ?_
      refine As_cons ?_
      refine E_var 4 rfl ?_
      refine As_cons ?_
      refine E_var 5 rfl ?_
      refine As_nil ?_
      refine ⟨by show 4 ≤ sizeLine; decide, fun p3 H3 z3 e3 h3 => ?_⟩
      exact fin _ _ (e2.trans e3) (TI.new h3 rfl)
/-! ### plus -/
theorem TI.sq {K : PySem.W.Frag} {H : Hp} {p : Addr} {ns : List Int} (h : TI K H (.ref p) ns) : SqT K H p (ns.map V.int) := by
  obtain ⟨q, e, h⟩ := h
  cases e
  exact h
def spPlus (K : PySem.W.Frag) : Sp := fun vs H Q _ => ∃ (v u : V) (x y : Z8), vs = [v, u] ∧ TI K H v x.ns ∧ TI K H u y.ns ∧ x.k < 2 ^ 50 ∧ y.k < 2 ^ 50 ∧ ∀ r H', Ex H H' → TI K H' r (plus x y).ns → Q r H'
theorem sc_plus : FnScope ["one", "other", "k", "first", "second"] ["one", "other"] (defScope s_plus) := ⟨rfl, rfl, rfl, by decide +kernel, rfl, by decide +kernel, by decide +kernel⟩
theorem ok_plus (T : Txt K mg) : Cal P w K mg base 2 "plus" (spPlus K) := by
  refine cal_ok T.d_plus T.g_plus sc_plus (fun _ _ _ _ _ _ us hl => match us, hl with | [_, _], _ => rfl) (fun vs H Q E h => ?_) (fun cdv A outer s H vs Q E hr h => ?_)
  · obtain ⟨_, _, _, _, rfl, _⟩ := h
    rfl
  · obtain ⟨v, u, x, y, rfl, ⟨p, rfl, hp⟩, ⟨q, rfl, hq⟩, kx, ky, fin⟩ := h
    have nd := sc_plus.nd
    refine Ss_cons (S_set (i := 2) rfl (E_callB (call_max2 rfl) T.b_max (by decide +kernel) (As_cons ?_)) nd)
    refine E_ixT ?_
    refine E_var 0 rfl ?_
    refine E_int ?_
    refine ⟨_, _, _, _, rfl, rfl, hp, rfl, ?_⟩
    refine As_cons ?_
    refine E_ixT ?_
    refine E_var 1 rfl ?_
    refine E_int ?_
    refine ⟨_, _, _, _, rfl, rfl, hq, rfl, ?_⟩
    refine As_nil ⟨_, _, rfl, ?_⟩
    have ek : (if (y.k : Int) > (x.k : Int) then (y.k : Int) else (x.k : Int)) = ((max x.k y.k : Nat) : Int) := by split <;> omega
    rw [ek]
    refine Ss_cons (S_set (i := 3) rfl (E_call (ok_rooted T) hr (As_cons ?_)) nd)
    refine E_var 0 rfl ?_
    refine As_cons ?_
    refine E_sub ?_
    refine E_var 2 rfl ?_
    refine E_ixT ?_
    refine E_var 0 rfl ?_
    refine E_int ?_
    refine ⟨_, _, _, _, rfl, rfl, hp, rfl, ?_⟩
    refine ⟨_, _, rfl, rfl, ?_⟩
    refine As_nil ?_
    have e1 : ((max x.k y.k : Nat) : Int) - (x.k : Int) = ((max x.k y.k - x.k : Nat) : Int) := by omega
    rw [e1]
    refine ⟨_, x.v, _, _, rfl, ⟨p, rfl, hp⟩, by omega, fun r1 H1 x1 t1 => ?_⟩
    obtain ⟨p1, rfl, t1⟩ := t1
    have hp1 := SqT.fz hp (Fz.of x1)
    have hq1 := SqT.fz hq (Fz.of x1)
    refine Ss_cons (S_set (i := 4) rfl (E_call (ok_rooted T) hr (As_cons ?_)) nd)
    refine E_var 1 rfl ?_
    refine As_cons ?_
    refine E_sub ?_
    refine E_var 2 rfl ?_
    refine E_ixT ?_
    refine E_var 1 rfl ?_
    refine E_int ?_
    refine ⟨_, _, _, _, rfl, rfl, hq1, rfl, ?_⟩
    refine ⟨_, _, rfl, rfl, ?_⟩
    refine As_nil ?_
    have e2 : ((max x.k y.k : Nat) : Int) - (y.k : Int) = ((max x.k y.k - y.k : Nat) : Int) := by omega
    rw [e2]
    refine ⟨_, y.v, _, _, rfl, ⟨q, rfl, hq1⟩, by omega, fun r2 H2 x2 t2 => ?_⟩
    obtain ⟨p2, rfl, t2⟩ := t2
    have t12 := SqT.fz t1 (Fz.of x2)
    refine Ss_one (S_ret (E_call (ok_lowest T) hr ?_))
    refine As_cons ?_
    refine E_add ?_
    refine E_ixT ?_
    refine E_var 3 rfl ?_
    refine E_int ?_
    refine ⟨_, _, _, _, rfl, rfl, t12, rfl, ?_⟩
    refine E_ixT ?_
    refine E_var 4 rfl ?_
    refine E_int ?_
    refine ⟨_, _, _, _, rfl, rfl, t2, rfl, ?_⟩
    refine ⟨_, _, rfl, rfl, ?_⟩
    refine As_cons ?_
    refine E_add ?_
    refine E_ixT ?_
    refine E_var 3 rfl ?_
    refine E_int ?_
    refine ⟨_, _, _, _, rfl, rfl, t12, rfl, ?_⟩
    refine E_ixT ?_
    refine E_var 4 rfl ?_
    refine E_int ?_
    refine ⟨_, _, _, _, rfl, rfl, t2, rfl, ?_⟩
    refine ⟨_, _, rfl, rfl, ?_⟩
    refine As_cons ?_
    refine E_add ?_
    refine E_ixT ?_
    refine E_var 3 rfl ?_
    refine E_int ?_
    refine ⟨_, _, _, _, rfl, rfl, t12, rfl, ?_⟩
    refine E_ixT ?_
    refine E_var 4 rfl ?_
    refine E_int ?_
    refine ⟨_, _, _, _, rfl, rfl, t2, rfl, ?_⟩
    refine ⟨_, _, rfl, rfl, ?_⟩
    refine As_cons ?_
    refine E_add ?_
    refine E_ixT ?_
    refine E_var 3 rfl ?_
    refine E_int ?_
    refine ⟨_, _, _, _, rfl, rfl, t12, rfl, ?_⟩
    refine E_ixT ?_
    refine E_var 4 rfl ?_
    refine E_int ?_
    refine ⟨_, _, _, _, rfl, rfl, t2, rfl, ?_⟩
    refine ⟨_, _, rfl, rfl, ?_⟩
    refine As_cons ?_
    refine E_var 2 rfl ?_
    refine As_nil ?_
    exact ⟨(Q4.rtN (max x.k y.k - x.k) x.v).add (Q4.rtN (max x.k y.k - y.k) y.v), _, rfl, fun r H' e t => fin r H' (x1.trans (x2.trans e)) t⟩
/-! ### turned -/
def spTurned (K : PySem.W.Frag) : Sp := fun vs H Q _ => ∃ (v : V) (x : Z8) (m : Nat), vs = [v, .int m] ∧ TI K H v x.ns ∧ ∀ r H', Ex H H' → TI K H' r (turned x m).ns → Q r H'
theorem sc_turned : FnScope ["one", "many", "a", "b", "c", "d", "k", "turn"] ["one", "many"] (defScope s_turned) := ⟨rfl, rfl, rfl, by decide +kernel, rfl, by decide +kernel, by decide +kernel⟩
theorem ok_turned (T : Txt K mg) : Cal P w K mg base 2 "turned" (spTurned K) := by
  refine cal_ok T.d_turned T.g_turned sc_turned (fun _ _ _ _ _ _ us hl => match us, hl with | [_, _], _ => rfl) (fun vs H Q E h => ?_) (fun cdv A outer s H vs Q E hr h => ?_)
  · obtain ⟨_, _, _, rfl, _⟩ := h
    rfl
  · obtain ⟨v, x, m, rfl, ⟨p, rfl, hp⟩, fin⟩ := h
    have nd := sc_turned.nd
    refine Ss_cons (S_if (T_not (T_val (E_call (ok_is_whole T) hr (As_cons ?_)))))
    refine E_var 1 rfl ?_
    refine As_nil ⟨_, rfl, fun H1 x1 => ⟨_, rfl, iteF (Ss_nil ?_)⟩⟩
    have hp1 := SqT.fz hp (Fz.of x1)
    refine Ss_cons (S_asg ?_)
    refine E_var 0 rfl ?_
    refine G_tup rfl hp1 rfl ?_
    refine Gs_cons (G_name (i := 2) rfl (Gs_cons (G_name (i := 3) rfl (Gs_cons (G_name (i := 4) rfl (Gs_cons (G_name (i := 5) rfl (Gs_cons (G_name (i := 6) rfl (Gs_nil ?_) nd)) nd)) nd)) nd)) nd)
    refine Ss_cons ?_
    refine S_forR PassesOwn.never rfl T.b_range ?_
    refine E_modc ?_
    refine E_var 1 rfl ?_
    refine ⟨_, rfl, ?_⟩
    refine ⟨_, fun i σ' H' => ∃ t : Option V, Ex H H' ∧ σ' = [some (.ref p), some (.int m), some (.int (Q4.twN i x.v).a), some (.int (Q4.twN i x.v).b), some (.int (Q4.twN i x.v).c), some (.int (Q4.twN i x.v).d), some (.int x.k), t], rfl, by omega, by omega, ⟨none, x1, rfl⟩, ?_, ?_⟩
    · rintro i σ' H' hi ⟨t, e2, rfl⟩
      refine G_name (i := 7) rfl ?_ nd
      refine Ss_one ?_
      refine S_asg ?_
      refine E_tup ?_
      refine As_cons ?_
      refine E_neg ?_
      refine E_var 5 rfl ?_
      refine ⟨_, rfl, ?_⟩
      refine As_cons ?_
      refine E_var 2 rfl ?_
      refine As_cons ?_
      refine E_var 3 rfl ?_
      refine As_cons ?_
      refine E_var 4 rfl ?_
      refine As_nil ?_
      refine ⟨by show 4 ≤ sizeLine; decide, fun p3 H3 z3 e3 h3 => ?_⟩
      refine G_tup rfl (SqT.of h3) rfl ?_
      refine Gs_cons ?_
      refine G_name (i := 2) rfl ?_ nd
      refine Gs_cons ?_
      refine G_name (i := 3) rfl ?_ nd
      refine Gs_cons ?_
      refine G_name (i := 4) rfl ?_ nd
      refine Gs_cons ?_
      refine G_name (i := 5) rfl ?_ nd
      refine Gs_nil ?_
      exact ⟨_, e2.trans e3, rfl⟩
    · rintro σ' H' ⟨t, e2, rfl⟩
      have em : ((m : Int) % 8).toNat = m % 8 := by omega
      rw [em]
      refine Ss_one ?_
      refine S_ret ?_
      refine E_tup ?_
      refine As_cons ?_
      refine E_var 2 rfl ?_
      refine As_cons ?_
      refine E_var 3 rfl ?_
      refine As_cons ?_
      refine E_var 4 rfl ?_
      refine As_cons ?_
      refine E_var 5 rfl ?_
      refine As_cons ?_
      refine E_var 6 rfl ?_
      refine As_nil ?_
      refine ⟨by show 5 ≤ sizeLine; decide, fun p3 H3 z3 e3 h3 => ?_⟩
      exact fin _ _ (e2.trans e3) (TI.new h3 rfl)
/-! ### over_root -/
def spOver (K : PySem.W.Frag) : Sp := fun vs H Q _ => ∃ (v : V) (x : Z8) (m : Nat), vs = [v, .int m] ∧ TI K H v x.ns ∧ ∀ r H', Ex H H' → TI K H' r (overRoot x m).ns → Q r H'
theorem sc_over : FnScope ["one", "many", "a", "b", "c", "d", "k"] ["one", "many"] (defScope s_over_root) := ⟨rfl, rfl, rfl, by decide +kernel, rfl, by decide +kernel, by decide +kernel⟩
theorem ok_over (T : Txt K mg) : Cal P w K mg base 2 "over_root" (spOver K) := by
  refine cal_ok T.d_over_root T.g_over_root sc_over (fun _ _ _ _ _ _ us hl => match us, hl with | [_, _], _ => rfl) (fun vs H Q E h => ?_) (fun cdv A outer s H vs Q E hr h => ?_)
  · obtain ⟨_, _, _, rfl, _⟩ := h
    rfl
  · obtain ⟨v, x, m, rfl, ⟨p, rfl, hp⟩, fin⟩ := h
    have nd := sc_over.nd
    refine Ss_cons (S_if (T_w (W_or (T_not (T_val (E_call (ok_is_whole T) hr (As_cons ?_)))))))
    refine E_var 1 rfl ?_
    refine As_nil ⟨_, rfl, fun H1 x1 => ⟨_, rfl, iteF (W_or1 (T_clt ?_))⟩⟩
    refine E_var 1 rfl ?_
    refine E_int ?_
    refine ⟨_, _, rfl, rfl, ?_⟩
    have e : decide ((m : Int) < 0) = false := decide_eq_false (by omega)
    rw [e]
    refine iteF (Ss_nil ?_)
    have hp1 := SqT.fz hp (Fz.of x1)
    refine Ss_cons (S_asg ?_)
    refine E_var 0 rfl ?_
    refine G_tup rfl hp1 rfl ?_
    refine Gs_cons (G_name (i := 2) rfl (Gs_cons (G_name (i := 3) rfl (Gs_cons (G_name (i := 4) rfl (Gs_cons (G_name (i := 5) rfl (Gs_cons (G_name (i := 6) rfl (Gs_nil ?_) nd)) nd)) nd)) nd)) nd)
    refine Ss_one (S_ret (E_call (ok_lowest T) hr ?_))
    refine As_cons ?_
    refine E_var 2 rfl ?_
    refine As_cons ?_
    refine E_var 3 rfl ?_
    refine As_cons ?_
    refine E_var 4 rfl ?_
    refine As_cons ?_
    refine E_var 5 rfl ?_
    refine As_cons ?_
    refine E_add ?_
    refine E_var 6 rfl ?_
    refine E_var 1 rfl ?_
    refine ⟨_, _, rfl, rfl, ?_⟩
    refine As_nil ?_
    have e2 : (x.k : Int) + (m : Int) = ((x.k + m : Nat) : Int) := by omega
    rw [e2]
    exact ⟨x.v, _, rfl, fun r H' e t => fin r H' (x1.trans e) t⟩
end
end BW

set_option Elab.async false
set_option linter.all false
set_option maxRecDepth 100000
set_option maxHeartbeats 4000000
namespace BW
open PySem PySem.Spec PyProof.Rows L2
section
variable {P : Program} {w : World} {K : PySem.W.Frag} {mg : Str → Option Value} {base : Heap}
/-! ### is_eighth -/
def spIsE (K : PySem.W.Frag) : Sp := fun vs H Q _ => ∃ (v : V) (e : Z8), vs = [v] ∧ TI K H v e.ns ∧ Canon e ∧ ∀ H', Ex H H' → Q (.bl true) H'
theorem sc_ise : FnScope ["thing", "one", "a", "b", "c", "d", "k"] ["thing"] (defScope s_is_eighth) := ⟨rfl, rfl, rfl, by decide +kernel, rfl, by decide +kernel, by decide +kernel⟩
theorem ok_ise (T : Txt K mg) : Cal P w K mg base 2 "is_eighth" (spIsE K) := by
  refine cal_ok T.d_is_eighth T.g_is_eighth sc_ise (fun _ _ _ _ _ _ us hl => match us, hl with | [_], _ => rfl) (fun vs H Q E h => ?_) (fun cdv A outer s H vs Q E hr h => ?_)
  · obtain ⟨_, _, rfl, _⟩ := h
    rfl
  · obtain ⟨v, x, rfl, ⟨p, rfl, hp⟩, hc, fin⟩ := h
    have nd := sc_ise.nd
    refine Ss_cons (S_if (T_w (W_or (T_not (T_val (E_isi (k := true) (u := .type "tuple") (cv := .ty "tuple") T.b_isinstance ?_))))))
    refine E_var 0 rfl ?_
    refine E_blt (v := .ty "tuple") (u := .type "tuple") T.b_tuple (by decide +kernel) rfl ⟨_, rfl, .ty _, sqt_ty hp, kit_ty (by decide +kernel), _, rfl, iteF ?_⟩
    refine W_or (T_cne (E_len T.b_len ?_))
    refine E_var 0 rfl ?_
    refine ⟨p, _, rfl, .inr hp, ?_⟩
    refine E_int ?_
    refine ⟨_, _, rfl, rfl, ?_⟩
    refine iteF ?_
    refine W_or1 (T_not (T_val (E_all rfl T.b_all (E_lcT 1 rfl nd rfl (by show blkC ["thing", "one", "a", "b", "c", "d", "k"] (defScope s_is_eighth) _ [(_, 1)] = true; decide +kernel) ?_))))
    refine E_var 0 rfl ?_
    refine ⟨p, _, AccR (fun j z _ => ∃ y, (x.ns.map fun _ => true)[j]? = some y ∧ z = V.bl y), rfl, hp, by show 5 < sizeLine; decide, fun H' _ => AccR.zero, AccR.fz (fun _ _ _ _ _ h => h), ?_, ?_⟩
    · intro j y acc H' hj e1 hl hA s0 H0 C cl fp
      rw [List.getElem?_map] at hj
      cases ej : x.ns[j]? with
      | none => rw [ej] at hj; cases hj
      | some n =>
        rw [ej] at hj
        cases hj
        refine E_call (ok_is_whole T) hr (As_cons ?_)
        refine E_var 1 rfl ?_
        refine As_nil ⟨n, rfl, fun H4 e4 => ⟨e4, AccR.snoc (fun _ _ _ _ _ h => h) hA e4 ⟨true, ?_, rfl⟩⟩⟩
        rw [List.getElem?_map, ej]
        rfl
    · intro Dl H' ys hD e1 hy hA
      have ey := hA.map (by rw [List.length_map, List.length_map])
      subst ey
      refine ⟨Dl, _, rfl, SqL.of hy, _, rfl, iteF (Ss_nil ?_)⟩
      have hp1 := SqT.fz hp (Fz.of e1)
      refine Ss_cons (S_asg ?_)
      refine E_var 0 rfl ?_
      refine G_tup rfl hp1 rfl ?_
      refine Gs_cons (G_name (i := 2) rfl (Gs_cons (G_name (i := 3) rfl (Gs_cons (G_name (i := 4) rfl (Gs_cons (G_name (i := 5) rfl (Gs_cons (G_name (i := 6) rfl (Gs_nil ?_) nd)) nd)) nd)) nd)) nd)
      refine Ss_one (S_ret (E_and (E_cge ?_)))
      refine E_var 6 rfl ?_
      refine E_int ?_
      refine ⟨_, _, rfl, rfl, _, rfl, ?_⟩
      have e0 : decide ((0 : Int) ≤ (x.k : Int)) = true := decide_eq_true (by omega)
      rw [e0]
      refine iteT (E_one (E_cmp (op_eqTI hr.units) (E_call (ok_lowest T) hr (As_cons ?_))))
      refine E_var 2 rfl ?_
      refine As_cons ?_
      refine E_var 3 rfl ?_
      refine As_cons ?_
      refine E_var 4 rfl ?_
      refine As_cons ?_
      refine E_var 5 rfl ?_
      refine As_cons ?_
      refine E_var 6 rfl ?_
      refine As_nil ⟨x.v, x.k, rfl, fun r H2 e2 t2 => ?_⟩
      refine E_var 0 rfl ?_
      refine ⟨_, _, t2, ⟨p, rfl, SqT.fz hp1 (Fz.of e2)⟩, ?_⟩
      have hc : lowest x.v x.k = x := hc
      rw [hc, decide_eq_true rfl]
      exact fin _ (e1.trans e2)
/-! ### lowest_length -/
theorem lowL_stop {p q : Int} {k : Nat} (h : ¬ (0 < k ∧ p % 2 = 0 ∧ q % 2 = 0)) : lowL p q k = ⟨p, q, k⟩ := by
  cases k with
  | zero => rfl
  | succ k =>
    show (if p % 2 = 0 ∧ q % 2 = 0 then lowL (p / 2) (q / 2) k else ⟨p, q, k + 1⟩ : L3) = _
    rw [if_neg fun z => h ⟨Nat.succ_pos k, z⟩]
theorem lowL_step {p q : Int} {k : Nat} (h0 : 0 < k) (h : p % 2 = 0 ∧ q % 2 = 0) : lowL p q k = lowL (p / 2) (q / 2) (k - 1) := by
  cases k with
  | zero => omega
  | succ k =>
    show (if p % 2 = 0 ∧ q % 2 = 0 then lowL (p / 2) (q / 2) k else ⟨p, q, k + 1⟩ : L3) = _
    rw [if_pos h]
    rfl
def spLowL (K : PySem.W.Frag) : Sp := fun vs H Q _ => ∃ (x y : Int) (k : Nat), vs = [.int x, .int y, .int k] ∧ ∀ r H', Ex H H' → TI K H' r (lowL x y k).ns → Q r H'
theorem sc_lowl : FnScope ["p", "q", "k"] ["p", "q", "k"] (defScope s_lowest_length) := ⟨rfl, rfl, rfl, by decide +kernel, rfl, by decide +kernel, by decide +kernel⟩
theorem ok_lowl (T : Txt K mg) : Cal P w K mg base 1 "lowest_length" (spLowL K) := by
  refine cal_ok T.d_lowest_length T.g_lowest_length sc_lowl (fun _ _ _ _ _ _ us hl => match us, hl with | [_, _, _], _ => rfl) (fun vs H Q E h => ?_) (fun cdv A outer s H vs Q E hr h => ?_)
  · obtain ⟨_, _, _, rfl, _⟩ := h
    rfl
  · obtain ⟨x, y, k, rfl, fin⟩ := h
    have nd := sc_lowl.nd
    refine Ss_cons ?_
    refine S_whileB PassesOwn.never (fun σ' H' => ∃ (u v : Int) (l : Nat), Ex H H' ∧ lowL x y k = lowL u v l ∧ σ' = [some (.int u), some (.int v), some (.int l)]) (fun σ' _ => slotN 2 σ') ⟨x, y, k, Evl.Ex.refl H, rfl, rfl⟩ ?_
    rintro σ' H' ⟨u, v, l, e0, el2, rfl⟩
    refine ⟨decide (0 < l ∧ u % 2 = 0 ∧ v % 2 = 0), TB_is (c1 := decide ((0 : Int) < l) && (decide (u % 2 = 0) && decide (v % 2 = 0))) ?tt1 ?ee1, fun hc => ?_, fun hc => ?_⟩
    case tt1 =>
      apply TB_w
      apply WB_and
      · apply TB_gt
        refine E_var 2 rfl ?_
        refine E_int ?_
        exact ⟨_, _, rfl, rfl, rfl, rfl⟩
      · intro _
        apply WB_and
        · apply TB_eq
          refine E_modc ?_
          refine E_var 0 rfl ?_
          refine ⟨_, rfl, ?_⟩
          refine E_int ?_
          exact ⟨_, _, rfl, rfl, rfl, rfl⟩
        · intro _
          apply WB_and1
          apply TB_eq
          refine E_modc ?_
          refine E_var 1 rfl ?_
          refine ⟨_, rfl, ?_⟩
          refine E_int ?_
          exact ⟨_, _, rfl, rfl, rfl, rfl⟩
    case ee1 =>
      rw [Bool.eq_iff_iff]
      simp only [Bool.and_eq_true, decide_eq_true_eq]
      exact ⟨fun h => ⟨by omega, h.2⟩, fun h => ⟨by omega, h.2⟩⟩
    · obtain ⟨h0, hev⟩ := of_decide_eq_true hc
      refine Ss_cons ?_
      refine S_set (i := 0) rfl ?_ nd
      refine E_fdivc ?_
      refine E_var 0 rfl ?_
      refine ⟨_, rfl, ?_⟩
      refine Ss_cons ?_
      refine S_set (i := 1) rfl ?_ nd
      refine E_fdivc ?_
      refine E_var 1 rfl ?_
      refine ⟨_, rfl, ?_⟩
      refine Ss_one ?_
      refine S_aug (i := 2) rfl rfl ip_sub ?_ nd
      refine E_int ?_
      refine ⟨_, _, rfl, rfl, ?_⟩
      refine ⟨⟨u / 2, v / 2, l - 1, e0, el2.trans (lowL_step h0 hev), ?_⟩, ?_⟩
      · show [some (V.int (u / 2)), some (.int (v / 2)), some (.int ((l : Int) - 1))] = _
        have e : (l : Int) - 1 = ((l - 1 : Nat) : Int) := by omega
        rw [e]
      · show ((l : Int) - 1).toNat < (l : Int).toNat
        omega
    · have hc := of_decide_eq_false hc
      rw [lowL_stop hc] at el2
      refine Ss_one ?_
      refine S_ret ?_
      refine E_tup ?_
      refine As_cons ?_
      refine E_var 0 rfl ?_
      refine As_cons ?_
      refine E_var 1 rfl ?_
      refine As_cons ?_
      refine E_var 2 rfl ?_
      refine As_nil ?_
      refine ⟨by show 3 ≤ sizeLine; decide, fun p1 H1 z1 e1 h1 => ?_⟩
      refine fin _ _ (e0.trans e1) (TI.new h1 ?_)
      rw [el2]
      rfl
/-! ### square -/
def Q4.bd (n : Nat) (x : Q4) : Prop := x.a.natAbs < 2 ^ n ∧ x.b.natAbs < 2 ^ n ∧ x.c.natAbs < 2 ^ n ∧ x.d.natAbs < 2 ^ n
theorem mul_bd {i j : Int} (h1 : i.natAbs < 2 ^ 4000) (h2 : j.natAbs < 2 ^ 4000) : CMulW i j := wide_mul h1 h2 (by decide) (by decide) (by decide)
def spSquare (K : PySem.W.Frag) : Sp := fun vs H Q _ => ∃ (v : V) (x : Z8), vs = [v] ∧ TI K H v x.ns ∧ x.v.bd 4000 ∧ ∀ r H', Ex H H' → TI K H' r (squ x).ns → Q r H'
theorem sc_square : FnScope ["one", "a", "b", "c", "d", "k"] ["one"] (defScope s_square) := ⟨rfl, rfl, rfl, by decide +kernel, rfl, by decide +kernel, by decide +kernel⟩
theorem ok_square (T : Txt K mg) : Cal P w K mg base 2 "square" (spSquare K) := by
  refine cal_ok T.d_square T.g_square sc_square (fun _ _ _ _ _ _ us hl => match us, hl with | [_], _ => rfl) (fun vs H Q E h => ?_) (fun cdv A outer s H vs Q E hr h => ?_)
  · obtain ⟨_, _, rfl, _⟩ := h
    rfl
  · obtain ⟨v, x, rfl, ⟨p, rfl, hp⟩, ⟨ba, bb, bc, bd⟩, fin⟩ := h
    have nd := sc_square.nd
    refine Ss_cons (S_asg ?_)
    refine E_var 0 rfl ?_
    refine G_tup rfl hp rfl ?_
    refine Gs_cons (G_name (i := 1) rfl (Gs_cons (G_name (i := 2) rfl (Gs_cons (G_name (i := 3) rfl (Gs_cons (G_name (i := 4) rfl (Gs_cons (G_name (i := 5) rfl (Gs_nil ?_) nd)) nd)) nd)) nd)) nd)
    refine Ss_one (S_ret (E_call (ok_lowl T) hr (As_cons (E_add (E_add (E_add (E_mulW ?_)))))))
    refine E_var 1 rfl ?_
    refine E_var 1 rfl ?_
    refine ⟨_, _, rfl, rfl, mul_bd ba ba, E_mulW ?_⟩
    refine E_var 2 rfl ?_
    refine E_var 2 rfl ?_
    refine ⟨_, _, rfl, rfl, mul_bd bb bb, _, _, rfl, rfl, E_mulW ?_⟩
    refine E_var 3 rfl ?_
    refine E_var 3 rfl ?_
    refine ⟨_, _, rfl, rfl, mul_bd bc bc, _, _, rfl, rfl, E_mulW ?_⟩
    refine E_var 4 rfl ?_
    refine E_var 4 rfl ?_
    refine ⟨_, _, rfl, rfl, mul_bd bd bd, _, _, rfl, rfl, As_cons (E_sub (E_add (E_add (E_mulW ?_))))⟩
    refine E_var 1 rfl ?_
    refine E_var 2 rfl ?_
    refine ⟨_, _, rfl, rfl, mul_bd ba bb, E_mulW ?_⟩
    refine E_var 2 rfl ?_
    refine E_var 3 rfl ?_
    refine ⟨_, _, rfl, rfl, mul_bd bb bc, _, _, rfl, rfl, E_mulW ?_⟩
    refine E_var 3 rfl ?_
    refine E_var 4 rfl ?_
    refine ⟨_, _, rfl, rfl, mul_bd bc bd, _, _, rfl, rfl, E_mulW ?_⟩
    refine E_var 4 rfl ?_
    refine E_var 1 rfl ?_
    refine ⟨_, _, rfl, rfl, mul_bd bd ba, _, _, rfl, rfl, As_cons ?_⟩
    refine E_var 5 rfl ?_
    refine As_nil ⟨_, _, _, rfl, fun r H' e t => fin r H' e t⟩
/-! ### length_sum -/
structure L3.bd (l : L3) : Prop where
  p : l.p.natAbs < 2 ^ 20000
  q : l.q.natAbs < 2 ^ 20000
  k : l.k < 10000
theorem maxK_is {ls : List L3} {m : Int} (h1 : m ∈ ls.map fun l => (l.k : Int)) (h2 : ∀ y ∈ ls.map fun l => (l.k : Int), y ≤ m) : m = (maxK ls : Int) := by
  obtain ⟨l, hl, rfl⟩ := List.mem_map.mp h1
  have a := le_maxK l hl
  have b := maxK_le (N := l.k) (ls := ls) fun x hx => by
    have := h2 _ (List.mem_map.mpr ⟨x, hx, rfl⟩)
    omega
  omega
def spLsum (K : PySem.W.Frag) : Sp := fun vs H Q _ => ∃ (p : Addr) (ls : List L3), vs = [.ref p] ∧ LTI K H p (ls.map L3.ns) ∧ (∀ l ∈ ls, l.bd) ∧ ls.length < 1000 ∧ ∀ r H', Ex H H' → TI K H' r (lsum ls).ns → Q r H'
theorem lti_get {K : PySem.W.Frag} {H : Hp} {α : Type} {f : α → List Int} {vs : List V} {ls : List α} (h : All2 (TI K H) vs (ls.map f)) {j : Nat} {y : V} (hj : vs[j]? = some y) : ∃ l, ls[j]? = some l ∧ TI K H y (f l) := by
  obtain ⟨ns, h1, h2⟩ := h.get hj
  rw [List.getElem?_map] at h1
  cases e : ls[j]? with
  | none => rw [e] at h1; cases h1
  | some l =>
    rw [e] at h1
    cases h1
    exact ⟨l, rfl, h2⟩
theorem sc_lsum : FnScope ["lengths", "one", "k", "p", "q"] ["lengths"] (defScope s_length_sum) := ⟨rfl, rfl, rfl, by decide +kernel, rfl, by decide +kernel, by decide +kernel⟩
theorem ok_lsum (T : Txt K mg) : Cal P w K mg base 2 "length_sum" (spLsum K) := by
  refine cal_ok T.d_length_sum T.g_length_sum sc_lsum (fun _ _ _ _ _ _ us hl => match us, hl with | [_], _ => rfl) (fun vs H Q E h => ?_) (fun cdv A outer s H vs Q E hr h => ?_)
  · obtain ⟨_, _, rfl, _⟩ := h
    rfl
  · obtain ⟨l, ls, rfl, ⟨vs, hv, h2⟩, hb, hlen, fin⟩ := h
    have nd := sc_lsum.nd
    have hlv : vs.length = ls.length := by have := h2.len; rw [List.length_map] at this; exact this
    refine Ss_cons (S_set (i := 2) rfl (E_maxV rfl T.b_max (E_lcL 1 rfl nd rfl (by show blkC ["lengths", "one", "k", "p", "q"] (defScope s_length_sum) _ [(_, 1)] = true; decide +kernel) ?_)) nd)
    refine E_var 0 rfl ?_
    refine ⟨l, vs, AccR (fun j z _ => ∃ y, (ls.map fun l => (l.k : Int))[j]? = some y ∧ z = V.int y), rfl, hv, by rw [hlv]; exact Nat.lt_trans hlen (by decide), fun H' _ => AccR.zero, AccR.fz (fun _ _ _ _ _ h => h), ?_, ?_⟩
    · intro j y acc H' hj e1 hl hA s0 H0 C cl fp
      obtain ⟨x, hx, t⟩ := lti_get h2 hj
      obtain ⟨t0, rfl, t1⟩ := t.ex e1
      refine E_ixT ?_
      refine E_var 1 rfl ?_
      refine E_int ?_
      refine ⟨_, _, _, _, rfl, rfl, t1, rfl, ?_⟩
      refine ⟨Evl.Ex.refl _, AccR.snoc (fun _ _ _ _ _ h => h) hA (Evl.Ex.refl _) ⟨_, ?_, rfl⟩⟩
      rw [List.getElem?_map, hx]
      rfl
    intro Dl H1 ys hD e1 hy hA
    have ey := hA.map (by rw [hlv, List.length_map])
    subst ey
    refine E_int ?_
    refine ⟨Dl, _, (maxK ls : Int), rfl, SqL.of hy, fun z => ?_, fun m h3 h4 => maxK_is h3 h4, ?_⟩
    · have : ls = [] := by simpa using z
      rw [this]
      rfl
    have hv1 := SqL.ex hv e1
    have h21 := h2.mp fun _ _ h => TI.ex h e1
    -- p
    refine Ss_cons (S_set (i := 3) rfl (E_sum rfl T.b_sum (E_lcL 1 rfl nd rfl (by show blkC ["lengths", "one", "k", "p", "q"] (defScope s_length_sum) _ [(_, 1)] = true; decide +kernel) ?_)) nd)
    refine E_var 0 rfl ?_
    refine ⟨l, vs, AccR (fun j z _ => ∃ y, (ls.map fun l => l.p * 2 ^ (maxK ls - l.k))[j]? = some y ∧ z = V.int y), rfl, hv1, by rw [hlv]; exact Nat.lt_trans hlen (by decide), fun H' _ => AccR.zero, AccR.fz (fun _ _ _ _ _ h => h), ?_, ?_⟩
    · intro j y acc H' hj e2 hl hA s0 H0 C cl fp
      obtain ⟨x, hx, t⟩ := lti_get h21 hj
      obtain ⟨t0, rfl, t1⟩ := t.ex e2
      have hxm := List.mem_of_getElem? hx
      have ek : ((maxK ls : Int) - (x.k : Int)) = ((maxK ls - x.k : Nat) : Int) := by have := le_maxK x hxm; omega
      refine E_shlW ?_
      refine E_ixT ?_
      refine E_var 1 rfl ?_
      refine E_int ?_
      refine ⟨_, _, _, _, rfl, rfl, t1, rfl, ?_⟩
      refine E_sub ?_
      refine E_var 2 rfl ?_
      refine E_ixT ?_
      refine E_var 1 rfl ?_
      refine E_int ?_
      refine ⟨_, _, _, _, rfl, rfl, t1, rfl, ?_⟩
      refine ⟨_, _, rfl, rfl, ?_⟩
      refine ⟨_, _, rfl, rfl, ?_, ?_⟩
      · rw [ek]
        refine shl_ok (hb x hxm).p ?_
        have := maxK_le (N := 10000) fun l h => Nat.le_of_lt (hb l h).k
        omega
      refine ⟨Evl.Ex.refl _, AccR.snoc (fun _ _ _ _ _ h => h) hA (Evl.Ex.refl _) ⟨_, ?_, rfl⟩⟩
      rw [List.getElem?_map, hx, ek]
      rfl
    intro D2 H2 ys hD2 e2 hy2 hA2
    have ey := hA2.map (by rw [hlv, List.length_map])
    subst ey
    refine ⟨D2, _, rfl, SqL.of hy2, ?_⟩
    have hv2 := SqL.ex hv1 e2
    have h22 := h21.mp fun _ _ h => TI.ex h e2
    -- q
    refine Ss_cons (S_set (i := 4) rfl (E_sum rfl T.b_sum (E_lcL 1 rfl nd rfl (by show blkC ["lengths", "one", "k", "p", "q"] (defScope s_length_sum) _ [(_, 1)] = true; decide +kernel) ?_)) nd)
    refine E_var 0 rfl ?_
    refine ⟨l, vs, AccR (fun j z _ => ∃ y, (ls.map fun l => l.q * 2 ^ (maxK ls - l.k))[j]? = some y ∧ z = V.int y), rfl, hv2, by rw [hlv]; exact Nat.lt_trans hlen (by decide), fun H' _ => AccR.zero, AccR.fz (fun _ _ _ _ _ h => h), ?_, ?_⟩
    · intro j y acc H' hj e3 hl hA s0 H0 C cl fp
      obtain ⟨x, hx, t⟩ := lti_get h22 hj
      obtain ⟨t0, rfl, t1⟩ := t.ex e3
      have hxm := List.mem_of_getElem? hx
      have ek : ((maxK ls : Int) - (x.k : Int)) = ((maxK ls - x.k : Nat) : Int) := by have := le_maxK x hxm; omega
      refine E_shlW ?_
      refine E_ixT ?_
      refine E_var 1 rfl ?_
      refine E_int ?_
      refine ⟨_, _, _, _, rfl, rfl, t1, rfl, ?_⟩
      refine E_sub ?_
      refine E_var 2 rfl ?_
      refine E_ixT ?_
      refine E_var 1 rfl ?_
      refine E_int ?_
      refine ⟨_, _, _, _, rfl, rfl, t1, rfl, ?_⟩
      refine ⟨_, _, rfl, rfl, ?_⟩
      refine ⟨_, _, rfl, rfl, ?_, ?_⟩
      · rw [ek]
        refine shl_ok (hb x hxm).q ?_
        have := maxK_le (N := 10000) fun l h => Nat.le_of_lt (hb l h).k
        omega
      refine ⟨Evl.Ex.refl _, AccR.snoc (fun _ _ _ _ _ h => h) hA (Evl.Ex.refl _) ⟨_, ?_, rfl⟩⟩
      rw [List.getElem?_map, hx, ek]
      rfl
    intro D3 H3 ys hD3 e3 hy3 hA3
    have ey := hA3.map (by rw [hlv, List.length_map])
    subst ey
    refine ⟨D3, _, rfl, SqL.of hy3, ?_⟩
    refine Ss_one (S_ret (E_call (ok_lowl T) hr (As_cons ?_)))
    refine E_var 3 rfl ?_
    refine As_cons ?_
    refine E_var 4 rfl ?_
    refine As_cons ?_
    refine E_var 2 rfl ?_
    exact As_nil ⟨_, _, _, rfl, fun r H' e t => fin r H' (e1.trans (e2.trans (e3.trans e))) t⟩
/-! ### is_above, is_less -/
def spAbove : Sp := fun vs H Q _ => ∃ x y : Int, vs = [.int x, .int y] ∧ Pst x y ∧ x.natAbs < 2 ^ 20000 ∧ y.natAbs < 2 ^ 20000 ∧ ∀ H', Ex H H' → Q (.bl true) H'
theorem mul_bd2 {i j : Int} (h1 : i.natAbs < 2 ^ 20000) (h2 : j.natAbs < 2 ^ 20002) : CMulW i j := wide_mul h1 h2 (by decide) (by decide) (by decide)
theorem sc_above : FnScope ["p", "q"] ["p", "q"] (defScope s_is_above) := ⟨rfl, rfl, rfl, by decide +kernel, rfl, by decide +kernel, by decide +kernel⟩
theorem ok_above (T : Txt K mg) : Cal P w K mg base 1 "is_above" spAbove := by
  refine cal_ok T.d_is_above T.g_is_above sc_above (fun _ _ _ _ _ _ us hl => match us, hl with | [_, _], _ => rfl) (fun vs H Q E h => ?_) (fun cdv A outer s H vs Q E hr h => ?_)
  · obtain ⟨_, _, rfl, _⟩ := h
    rfl
  · obtain ⟨x, y, rfl, ⟨hx, hxy⟩, bx, by_, fin⟩ := h
    have nd := sc_above.nd
    refine Ss_cons ?_
    apply S_ifB
    · apply TB_w
      apply WB_and
      · apply TB_ge
        refine E_var 0 rfl ?_
        refine E_int ?_
        exact ⟨_, _, rfl, rfl, rfl, rfl⟩
      · intro _
        apply WB_and1
        apply TB_ge
        refine E_var 1 rfl ?_
        refine E_int ?_
        exact ⟨_, _, rfl, rfl, rfl, rfl⟩
    · intro hc
      refine Ss_one (S_ret (E_or (E_cgt ?_)))
      refine E_var 0 rfl ?_
      refine E_int ?_
      refine ⟨_, _, rfl, rfl, _, rfl, ?_⟩
      rw [decide_eq_true hx]
      exact iteT (fin _ (Evl.Ex.refl _))
    · intro hc
      have hy : ¬ (0 ≤ y) := by
        intro z
        rw [decide_eq_true (show (0 : Int) ≤ x by omega), decide_eq_true z] at hc
        cases hc
      refine Ss_nil (Ss_cons ?_)
      apply S_ifB
      · apply TB_w
        apply WB_and
        · apply TB_le
          refine E_var 0 rfl ?_
          refine E_int ?_
          exact ⟨_, _, rfl, rfl, rfl, rfl⟩
        · intro _
          apply WB_and1
          apply TB_le
          refine E_var 1 rfl ?_
          refine E_int ?_
          exact ⟨_, _, rfl, rfl, rfl, rfl⟩
      · intro hc
        rw [decide_eq_false (show ¬ x ≤ 0 by omega)] at hc
        cases hc
      · intro _
        refine Ss_nil (Ss_cons ?_)
        apply S_ifB
        · apply TB_gt
          refine E_var 0 rfl ?_
          refine E_int ?_
          exact ⟨_, _, rfl, rfl, rfl, rfl⟩
        · intro _
          refine Ss_one (S_ret (E_cgt (E_mulW ?_)))
          refine E_var 0 rfl ?_
          refine E_var 0 rfl ?_
          refine ⟨_, _, rfl, rfl, mul_bd2 bx (Nat.lt_trans bx (by decide +kernel)), E_mulW (E_mul ?_)⟩
          refine E_int ?_
          refine E_var 1 rfl ?_
          refine ⟨_, _, rfl, rfl, .inl ⟨by decide, by decide⟩, ?_⟩
          refine E_var 1 rfl ?_
          refine ⟨_, _, rfl, rfl, wide_mul (a := 20002) (b := 20000) ?_ by_ (by decide) (by decide) (by decide), _, _, rfl, rfl, ?_⟩
          · rw [Int.natAbs_mul]
            have e : (2 : Nat) ^ 20002 = 4 * 2 ^ 20000 := by rw [Nat.pow_add 2 2 20000]
            rw [e]
            have := Nat.pos_of_lt_add_right (show 0 < 0 + 2 ^ 20000 from by omega)
            show 2 * y.natAbs < 4 * 2 ^ 20000
            omega
          · have e : 2 * y * y = 2 * (y * y) := by grind
            rw [e, decide_eq_true hxy]
            exact fin _ (Evl.Ex.refl _)
        · intro z
          rw [decide_eq_true hx] at z
          cases z
end
end BW

set_option Elab.async false
set_option linter.all false
set_option maxRecDepth 100000
set_option maxHeartbeats 4000000
namespace BW
open PySem PySem.Spec PyProof.Rows L2
section
variable {P : Program} {w : World} {K : PySem.W.Frag} {mg : Str → Option Value} {base : Heap}
/-! ### is_less -/
def spLess (K : PySem.W.Frag) : Sp := fun vs H Q _ => ∃ (v u : V) (l : L3), vs = [v, u] ∧ TI K H v [0, 0, 0] ∧ TI K H u l.ns ∧ Pst l.p l.q ∧ l.bd ∧ ∀ H', Ex H H' → Q (.bl true) H'
theorem less_num (i : Int) (k : Nat) : i * 2 ^ ((k : Int) - (k : Int)).toNat - 0 * 2 ^ ((k : Int) - 0).toNat = i := by
  have e : ((k : Int) - (k : Int)).toNat = 0 := by omega
  rw [e, Int.zero_mul]
  omega
theorem shl_zero (k : Nat) (h : k < 10000) : CShl 0 ((k : Int) - 0) := by
  have e : (k : Int) - 0 = ((k : Nat) : Int) := by omega
  rw [e]
  exact shl_ok (n := 1) (by decide) (by omega)
theorem shl_self {i : Int} (h : i.natAbs < 2 ^ 20000) (k : Nat) : CShl i ((k : Int) - (k : Int)) := by
  have e : (k : Int) - (k : Int) = ((0 : Nat) : Int) := by omega
  rw [e]
  exact shl_ok h (by decide)
theorem sc_less : FnScope ["one", "other", "k", "p", "q"] ["one", "other"] (defScope s_is_less) := ⟨rfl, rfl, rfl, by decide +kernel, rfl, by decide +kernel, by decide +kernel⟩
theorem ok_less (T : Txt K mg) : Cal P w K mg base 2 "is_less" (spLess K) := by
  refine cal_ok T.d_is_less T.g_is_less sc_less (fun _ _ _ _ _ _ us hl => match us, hl with | [_, _], _ => rfl) (fun vs H Q E h => ?_) (fun cdv A outer s H vs Q E hr h => ?_)
  · obtain ⟨_, _, _, rfl, _⟩ := h
    rfl
  · obtain ⟨v, u, l, rfl, ⟨a, rfl, ha⟩, ⟨b, rfl, hb⟩, hp, hbd, fin⟩ := h
    have nd := sc_less.nd
    refine Ss_cons (S_set (i := 2) rfl (E_max2 rfl T.b_max ?_) nd)
    refine E_ixT ?_
    refine E_var 0 rfl ?_
    refine E_int ?_
    refine ⟨_, _, _, _, rfl, rfl, ha, rfl, ?_⟩
    refine E_ixT ?_
    refine E_var 1 rfl ?_
    refine E_int ?_
    refine ⟨_, _, _, _, rfl, rfl, hb, rfl, ?_⟩
    refine ⟨_, _, rfl, rfl, ?_⟩
    have ek : (if (l.k : Int) > 0 then (l.k : Int) else 0) = (l.k : Int) := by split <;> omega
    rw [ek]
    refine Ss_cons (S_set (i := 3) rfl (E_sub (E_shlW ?_)) nd)
    refine E_ixT ?_
    refine E_var 1 rfl ?_
    refine E_int ?_
    refine ⟨_, _, _, _, rfl, rfl, hb, rfl, ?_⟩
    refine E_sub ?_
    refine E_var 2 rfl ?_
    refine E_ixT ?_
    refine E_var 1 rfl ?_
    refine E_int ?_
    refine ⟨_, _, _, _, rfl, rfl, hb, rfl, ?_⟩
    refine ⟨_, _, rfl, rfl, ?_⟩
    refine ⟨_, _, rfl, rfl, shl_self hbd.p _, E_shlW ?_⟩
    refine E_ixT ?_
    refine E_var 0 rfl ?_
    refine E_int ?_
    refine ⟨_, _, _, _, rfl, rfl, ha, rfl, ?_⟩
    refine E_sub ?_
    refine E_var 2 rfl ?_
    refine E_ixT ?_
    refine E_var 0 rfl ?_
    refine E_int ?_
    refine ⟨_, _, _, _, rfl, rfl, ha, rfl, ?_⟩
    refine ⟨_, _, rfl, rfl, ?_⟩
    refine ⟨_, _, rfl, rfl, shl_zero _ hbd.k, _, _, rfl, rfl, ?_⟩
    refine Ss_cons (S_set (i := 4) rfl (E_sub (E_shlW ?_)) nd)
    refine E_ixT ?_
    refine E_var 1 rfl ?_
    refine E_int ?_
    refine ⟨_, _, _, _, rfl, rfl, hb, rfl, ?_⟩
    refine E_sub ?_
    refine E_var 2 rfl ?_
    refine E_ixT ?_
    refine E_var 1 rfl ?_
    refine E_int ?_
    refine ⟨_, _, _, _, rfl, rfl, hb, rfl, ?_⟩
    refine ⟨_, _, rfl, rfl, ?_⟩
    refine ⟨_, _, rfl, rfl, shl_self hbd.q _, E_shlW ?_⟩
    refine E_ixT ?_
    refine E_var 0 rfl ?_
    refine E_int ?_
    refine ⟨_, _, _, _, rfl, rfl, ha, rfl, ?_⟩
    refine E_sub ?_
    refine E_var 2 rfl ?_
    refine E_ixT ?_
    refine E_var 0 rfl ?_
    refine E_int ?_
    refine ⟨_, _, _, _, rfl, rfl, ha, rfl, ?_⟩
    refine ⟨_, _, rfl, rfl, ?_⟩
    refine ⟨_, _, rfl, rfl, shl_zero _ hbd.k, _, _, rfl, rfl, ?_⟩
    rw [less_num, less_num]
    refine Ss_one (S_ret (E_call (ok_above T) hr (As_cons ?_)))
    refine E_var 3 rfl ?_
    refine As_cons ?_
    refine E_var 4 rfl ?_
    exact As_nil ⟨_, _, rfl, hp, hbd.p, hbd.q, fin⟩
/-! ### State -/
/-- a state of the eighths es -/
def StA (K : PySem.W.Frag) (H : Hp) (v : V) (es : List Z8) : Prop := ∃ p dx t vs, v = .ref p ∧ H p = some (.ins (He.ga K "State") dx [("kept", .ref t)]) ∧ SqT K H t vs ∧ All2 (TI K H) vs (es.map Z8.ns)
theorem all2_fz {K : PySem.W.Frag} {H H' : Hp} {vs : List V} {nss : List (List Int)} (h : All2 (TI K H) vs nss) (e : Fz H H') : All2 (TI K H') vs nss := h.mp fun _ _ t => t.fz e
theorem StA.fz {K : PySem.W.Frag} {H H' : Hp} {v : V} {es : List Z8} (h : StA K H v es) (e : Fz H H') : StA K H' v es := by
  obtain ⟨p, dx, t, vs, rfl, h1, h2, h3⟩ := h
  exact ⟨p, dx, t, vs, rfl, e _ _ h1 rfl, SqT.fz h2 e, all2_fz h3 e⟩
theorem StA.ex {K : PySem.W.Frag} {H H' : Hp} {v : V} {es : List Z8} (h : StA K H v es) (e : Ex H H') : StA K H' v es := h.fz (Fz.of e)
theorem ty_ins {K : PySem.W.Frag} {H : Hp} {p C dx : Addr} {fs : List (Str × V)} (h : H p = some (.ins C dx fs)) (c : Cls K C) (y : InstF K C) : TyX K H (.ref p) (.ref C) := .base (.ins h c y.ha y.hn y.ht y.hm)
/-- so many wires -/
structure Wd (n : Nat) : Prop where
  lo : 0 < n
  hi : n < 5
theorem in_sizes {n : Nat} (h : Wd n) : inV (.int (2 ^ n : Nat)) (([2, 4, 8, 16, 32] : List Int).map V.int) = true := by
  obtain ⟨h1, h2⟩ := h
  have : n = 1 ∨ n = 2 ∨ n = 3 ∨ n = 4 := by omega
  rcases this with rfl | rfl | rfl | rfl <;> decide
theorem ix_sizes {n : Nat} (h : Wd n) : ((2 ^ n : Nat) : Int) ∈ ([2, 4, 8, 16, 32] : List Int) ∧ (([2, 4, 8, 16, 32] : List Int).idxOf ((2 ^ n : Nat) : Int) : Int) + 1 = n := by
  obtain ⟨h1, h2⟩ := h
  have : n = 1 ∨ n = 2 ∨ n = 3 ∨ n = 4 := by omega
  rcases this with rfl | rfl | rfl | rfl <;> decide
theorem two_le {n : Nat} (h : Wd n) : 2 ^ n ≤ 16 := by
  obtain ⟨h1, h2⟩ := h
  have : n = 1 ∨ n = 2 ∨ n = 3 ∨ n = 4 := by omega
  rcases this with rfl | rfl | rfl | rfl <;> decide
def spState (K : PySem.W.Frag) : Sp := fun vs H Q _ => ∃ (y dx l : Addr) (ws : List V) (n : Nat) (es : List Z8), vs = [.ref y, .ref l] ∧ H y = some (.ins (He.ga K "State") dx []) ∧ H l = some (.lst ws) ∧ All2 (TI K H) ws (es.map Z8.ns) ∧ Wd n ∧ es.length = 2 ^ n ∧ (∀ e ∈ es, Canon e) ∧
  ∀ H', ExB y H H' → StA K H' (.ref y) es → Q .non H'
theorem sc_stinit : FnScope ["self", "eighths", "one"] ["self", "eighths"] (defScope s_State_init) := ⟨rfl, rfl, rfl, by decide +kernel, rfl, by decide +kernel, by decide +kernel⟩
theorem ok_State (T : Txt K mg) : KCal P w K mg base 3 "State" (He.ga K "State") (spState K) := by
  refine kcal_ok T.d_State_init T.g_State T.k_State sc_stinit (fun _ _ _ _ _ _ us hl => match us, hl with | [_, _], _ => rfl) (fun vs H Q E h => ?_) (fun cdv A outer s H vs Q E hr h => ?_)
  · obtain ⟨_, _, _, _, _, _, rfl, _⟩ := h
    rfl
  · obtain ⟨y, dx, l, ws, n, es, rfl, hy, hl, hw, wd, hlen, hc, fin⟩ := h
    have nd := sc_stinit.nd
    have hwl : ws.length = es.length := by have := hw.len; rw [List.length_map] at this; exact this
    refine Ss_cons (S_if (T_w (W_or (T_not (T_val (E_isi (k := true) (u := .type "list") (cv := .ty "list") T.b_isinstance ?_))))))
    refine E_var 1 rfl ?_
    refine E_blt (v := .ty "list") (u := .type "list") T.b_list (by decide +kernel) rfl ⟨_, rfl, .ty _, .base (.lst hl), kit_ty (by decide +kernel), _, rfl, iteF ?_⟩
    refine W_or (T_cmp op_notIn_seq (E_len T.b_len ?_))
    refine E_var 1 rfl ?_
    refine ⟨l, ws, rfl, .inl (SqL.of hl), E_glob (v := .ref (He.ga K "SIZES")) T.g_SIZES rfl ⟨_, _, rfl, .inr (T.x_SIZES _), rfl, rfl, _, rfl, ?_⟩⟩
    have ein : (!inV (.int (ws.length : Nat)) (([2, 4, 8, 16, 32] : List Int).map V.int)) = false := by rw [hwl, hlen, in_sizes wd]; rfl
    rw [if_pos rfl, ein]
    refine iteF ?_
    refine W_or1 (T_not (T_val (E_all rfl T.b_all (E_lcL 2 rfl nd rfl (by show blkC ["self", "eighths", "one"] (defScope s_State_init) _ [(_, 2)] = true; decide +kernel) ?_))))
    refine E_var 1 rfl ?_
    refine ⟨l, ws, AccR (fun j z _ => ∃ y, (es.map fun _ => true)[j]? = some y ∧ z = V.bl y), rfl, SqL.of hl, by rw [hwl, hlen]; exact Nat.lt_of_le_of_lt (two_le wd) (by decide), fun H' _ => AccR.zero, AccR.fz (fun _ _ _ _ _ h => h), ?_, ?_⟩
    · intro j y acc H' hj e1 hl' hA s0 H0 C cl fp
      obtain ⟨e, he, t⟩ := lti_get hw hj
      refine E_call (ok_ise T) hr (As_cons ?_)
      refine E_var 2 rfl ?_
      refine As_nil ⟨_, e, rfl, t.ex e1, hc e (List.mem_of_getElem? he), fun H4 e4 => ⟨e4, AccR.snoc (fun _ _ _ _ _ h => h) hA e4 ⟨true, ?_, rfl⟩⟩⟩
      rw [List.getElem?_map, he]
      rfl
    · intro Dl H1 ys hD e1 hy1 hA
      have ey := hA.map (by rw [List.length_map, hwl])
      subst ey
      refine ⟨Dl, _, rfl, SqL.of hy1, _, rfl, ?_⟩
      have ea : (!((es.map fun _ => true).all id)) = false := by simp
      rw [ea]
      refine iteF (Ss_nil ?_)
      refine Ss_one (S_fld (E_tuple T.b_tuple ?_))
      refine E_var 1 rfl ?_
      refine ⟨l, ws, rfl, SqL.of (e1 _ _ hl), fun t H2 ht e2 ht2 => ?_⟩
      refine E_var 0 rfl ?_
      refine ⟨y, _, dx, _, rfl, e2 _ _ (e1 _ _ hy), T.c_State, T.n_State_kept, by decide, ?_⟩
      have e12 := e1.trans e2
      have hb : ExB y H (upd H2 y (.ins (He.ga K "State") dx [("kept", .ref t)])) := (ExB.of e12).trans ExB.upd
      have hy2 := e12 _ _ hy
      have nt : t ≠ y := by
        rintro rfl
        obtain ⟨o, h, _⟩ := ht2
        rw [hy2] at h
        cases h
      have keep : ∀ {v : V} {ns : List Int}, TI K H v ns → TI K (upd H2 y (.ins (He.ga K "State") dx [("kept", .ref t)])) v ns := by
        rintro v ns ⟨p, rfl, hp⟩
        have hp := SqT.fz hp (Fz.of e12)
        refine ⟨p, rfl, ?_⟩
        rcases hp with (h | ⟨o, h⟩) | h
        · exact .inl (.inl (by rw [upd_ne (ne_of h hy2 (fun z => nomatch z))]; exact h))
        · exact .inl (.inr ⟨o, by rw [upd_ne (ne_of h hy2 (fun z => nomatch z))]; exact h⟩)
        · exact .inr h
      refine fin _ hb ⟨y, dx, t, ws, rfl, upd_same, ?_, hw.mp fun _ _ h => keep h⟩
      obtain ⟨o, h, _⟩ := ht2
      exact .inl (.inr ⟨o, by rw [upd_ne nt]; exact h⟩)
/-- State(..) by a caller: the state is new -/
theorem State_made {H H1 : Hp} {y : Addr} {dx : Addr} {l : Addr} {ws : List V} {n : Nat} {es : List Z8} {Q : VK} (hn : H y = none) (e : Ex H H1) (hy : H1 y = some (.ins (He.ga K "State") dx [])) (hl : H l = some (.lst ws)) (hw : All2 (TI K H) ws (es.map Z8.ns)) (wd : Wd n) (hlen : es.length = 2 ^ n) (hc : ∀ e ∈ es, Canon e)
    (q : ∀ v H', Ex H H' → StA K H' v es → Q v H') : spState K [.ref y, .ref l] H1 (fun v H3 => v = .non ∧ Q (.ref y) H3) ENo :=
  ⟨y, dx, l, ws, n, es, rfl, hy, e _ _ hl, all2_fz hw (Fz.of e), wd, hlen, hc, fun H' eb st => ⟨rfl, q _ _ (ExB.new e hn eb) st⟩⟩
def spMany (K : PySem.W.Frag) : Sp := fun vs H Q _ => ∃ (v : V) (n : Nat) (es : List Z8), vs = [v] ∧ StA K H v es ∧ Wd n ∧ es.length = 2 ^ n ∧ Q (.int n) H
theorem sc_stmany : FnScope ["self"] ["self"] (defScope s_State_many) := ⟨rfl, rfl, rfl, by decide +kernel, rfl, by decide +kernel, by decide +kernel⟩
theorem ok_many (T : Txt K mg) : MCal P w K mg base 1 (He.ga K "State") "many" (spMany K) := by
  refine mcal_ok T.d_State_many T.m_State_many sc_stmany (fun _ _ _ _ _ _ us hl => match us, hl with | [_], _ => rfl) (fun vs H Q E h => ?_) (fun cdv A outer s H vs Q E hr h => ?_)
  · obtain ⟨_, _, _, rfl, _⟩ := h
    rfl
  · obtain ⟨v, n, es, rfl, ⟨p, dx, t, vs, rfl, hp, ht, ha⟩, wd, hlen, fin⟩ := h
    have nd := sc_stmany.nd
    have hvl : vs.length = es.length := by have := ha.len; rw [List.length_map] at this; exact this
    refine Ss_one (S_ret (E_add (E_tindexI (E_glob (v := .ref (He.ga K "SIZES")) T.g_SIZES rfl ⟨⟨_, rfl, .inr T.n_SIZES⟩, E_len T.b_len (E_fld ?_)⟩))))
    refine E_var 0 rfl ?_
    refine ⟨p, _, dx, _, _, rfl, hp, T.c_State, T.n_State_kept, rfl, t, vs, rfl, .inr ht, _, _, _, rfl, rfl, T.x_SIZES _, ?_, ?_⟩
    · rw [hvl, hlen]
      exact (ix_sizes wd).1
    · refine E_int ?_
      refine ⟨_, _, rfl, rfl, ?_⟩
      rw [hvl, hlen, (ix_sizes wd).2]
      exact fin
def spEighths (K : PySem.W.Frag) : Sp := fun vs H Q _ => ∃ (v : V) (es : List Z8), vs = [v] ∧ StA K H v es ∧ ∀ l H' ws, H l = none → Ex H H' → H' l = some (.lst ws) → All2 (TI K H') ws (es.map Z8.ns) → Q (.ref l) H'
theorem sc_steig : FnScope ["self"] ["self"] (defScope s_State_eighths) := ⟨rfl, rfl, rfl, by decide +kernel, rfl, by decide +kernel, by decide +kernel⟩
theorem ok_eighths (T : Txt K mg) : MCal P w K mg base 1 (He.ga K "State") "eighths" (spEighths K) := by
  refine mcal_ok T.d_State_eighths T.m_State_eighths sc_steig (fun _ _ _ _ _ _ us hl => match us, hl with | [_], _ => rfl) (fun vs H Q E h => ?_) (fun cdv A outer s H vs Q E hr h => ?_)
  · obtain ⟨_, _, rfl, _⟩ := h
    rfl
  · obtain ⟨v, es, rfl, ⟨p, dx, t, vs, rfl, hp, ht, ha⟩, fin⟩ := h
    have nd := sc_steig.nd
    refine Ss_one (S_ret (E_list T.b_list (E_fld ?_)))
    refine E_var 0 rfl ?_
    exact ⟨p, _, dx, _, _, rfl, hp, T.c_State, T.n_State_kept, rfl, t, vs, rfl, .inr ht, fun l H2 hl e h2 => fin l H2 vs hl e h2 (all2_fz ha (Fz.of e))⟩
/-! ### lengths of states -/
structure Z8.bd (e : Z8) : Prop where
  v : e.v.bd 4000
  k : e.k < 5000
theorem lowL_bd : ∀ (k : Nat) (p q : Int), (lowL p q k).p.natAbs ≤ p.natAbs ∧ (lowL p q k).q.natAbs ≤ q.natAbs ∧ (lowL p q k).k ≤ k
  | 0, p, q => ⟨Nat.le_refl _, Nat.le_refl _, Nat.le_refl _⟩
  | k + 1, p, q => by
    show ((if p % 2 = 0 ∧ q % 2 = 0 then lowL (p / 2) (q / 2) k else ⟨p, q, k + 1⟩ : L3)).p.natAbs ≤ _ ∧ ((if p % 2 = 0 ∧ q % 2 = 0 then lowL (p / 2) (q / 2) k else ⟨p, q, k + 1⟩ : L3)).q.natAbs ≤ _ ∧ ((if p % 2 = 0 ∧ q % 2 = 0 then lowL (p / 2) (q / 2) k else ⟨p, q, k + 1⟩ : L3)).k ≤ _
    by_cases h : p % 2 = 0 ∧ q % 2 = 0
    · rw [if_pos h]
      obtain ⟨h1, h2, h3⟩ := lowL_bd k (p / 2) (q / 2)
      exact ⟨by omega, by omega, by omega⟩
    · rw [if_neg h]
      exact ⟨Nat.le_refl _, Nat.le_refl _, Nat.le_refl _⟩
theorem mul_lt {i j : Int} {n : Nat} (h1 : i.natAbs < 2 ^ n) (h2 : j.natAbs < 2 ^ n) : (i * j).natAbs < 2 ^ (n + n) := by
  rw [Int.natAbs_mul, Nat.pow_add]
  exact Nat.mul_lt_mul'' h1 h2
theorem big_le : 4 * 2 ^ (4000 + 4000) ≤ (2 : Nat) ^ 20000 := by
  have e : (4 : Nat) * 2 ^ (4000 + 4000) = 2 ^ (2 + (4000 + 4000)) := by rw [Nat.pow_add 2 2]
  rw [e]
  exact Nat.pow_le_pow_right (by decide) (by decide)
theorem squ_bd {e : Z8} (h : e.bd) : (squ e).bd := by
  obtain ⟨h1, h2, h3⟩ := lowL_bd e.k (np e.v) (nq e.v)
  obtain ⟨⟨ba, bb, bc, bd⟩, bk⟩ := h
  have hb := big_le
  generalize (2 : Nat) ^ 20000 = B at hb
  refine ⟨Nat.lt_of_le_of_lt h1 ?_, Nat.lt_of_le_of_lt h2 ?_, ?_⟩
  · refine Nat.lt_of_lt_of_le ?_ big_le
    have a1 := mul_lt ba ba
    have a2 := mul_lt bb bb
    have a3 := mul_lt bc bc
    have a4 := mul_lt bd bd
    generalize (2 : Nat) ^ (4000 + 4000) = B at *
    unfold np
    omega
  · refine Nat.lt_of_lt_of_le ?_ big_le
    have a1 := mul_lt ba bb
    have a2 := mul_lt bb bc
    have a3 := mul_lt bc bd
    have a4 := mul_lt bd ba
    generalize (2 : Nat) ^ (4000 + 4000) = B at *
    unfold nq
    omega
  · have : (squ e).k ≤ e.k := h3
    omega
def spLen (K : PySem.W.Frag) : Sp := fun vs H Q _ => ∃ (v : V) (es : List Z8), vs = [v] ∧ StA K H v es ∧ (∀ e ∈ es, e.bd) ∧ es.length < 1000 ∧ ∀ r H', Ex H H' → TI K H' r (stLen es).ns → Q r H'
theorem sc_stlen : FnScope ["self", "one"] ["self"] (defScope s_State_length) := ⟨rfl, rfl, rfl, by decide +kernel, rfl, by decide +kernel, by decide +kernel⟩
theorem ok_length (T : Txt K mg) : MCal P w K mg base 3 (He.ga K "State") "length" (spLen K) := by
  refine mcal_ok T.d_State_length T.m_State_length sc_stlen (fun _ _ _ _ _ _ us hl => match us, hl with | [_], _ => rfl) (fun vs H Q E h => ?_) (fun cdv A outer s H vs Q E hr h => ?_)
  · obtain ⟨_, _, rfl, _⟩ := h
    rfl
  · obtain ⟨v, es, rfl, ⟨p, dx, t, vs, rfl, hp, ht, ha⟩, hbd, hlen, fin⟩ := h
    have nd := sc_stlen.nd
    have hvl : vs.length = es.length := by have := ha.len; rw [List.length_map] at this; exact this
    refine Ss_one (S_ret (E_call (ok_lsum T) hr (As_cons (E_lcT 1 rfl nd rfl (by show blkC ["self", "one"] (defScope s_State_length) _ [(_, 1)] = true; decide +kernel) (E_fld ?_)))))
    refine E_var 0 rfl ?_
    refine ⟨p, _, dx, _, _, rfl, hp, T.c_State, T.n_State_kept, rfl, t, vs, AccR (fun j z H' => ∃ e, es[j]? = some e ∧ TI K H' z (squ e).ns), rfl, ht, by rw [hvl]; exact Nat.lt_trans hlen (by decide), fun H' _ => AccR.zero, AccR.fz (fun _ _ _ _ e ⟨x, h1, h2⟩ => ⟨x, h1, h2.fz e⟩), ?_, ?_⟩
    · intro j y acc H' hj e1 hl' hA s0 H0 C cl fp
      obtain ⟨e, he, te⟩ := lti_get ha hj
      refine E_call (ok_square T) hr (As_cons ?_)
      refine E_var 1 rfl ?_
      exact As_nil ⟨_, e, rfl, te.ex e1, (hbd e (List.mem_of_getElem? he)).v, fun r H4 e4 t4 => ⟨e4, AccR.snoc (fun _ _ _ _ e ⟨x, h1, h2⟩ => ⟨x, h1, h2.fz e⟩) hA e4 ⟨e, he, t4⟩⟩⟩
    · intro Dl H1 ys hD e1 hy hA
      refine As_nil ⟨Dl, es.map squ, rfl, ⟨ys, SqL.of hy, ?_⟩, ?_, by rw [List.length_map]; exact hlen, fun r H' e t => fin r H' (e1.trans e) t⟩
      · refine All2.of (by rw [hA.1, List.length_map, List.length_map, hvl]) fun i a b h1 h2 => ?_
        obtain ⟨e, h3, h4⟩ := hA.2 i a h1
        rw [List.getElem?_map, List.getElem?_map, h3] at h2
        cases h2
        exact h4
      · intro l hl
        obtain ⟨e, he, rfl⟩ := List.mem_map.mp hl
        exact squ_bd (hbd e he)
end
end BW

set_option Elab.async false
set_option linter.all false
set_option maxRecDepth 100000
set_option maxHeartbeats 4000000
namespace BW
open PySem PySem.Spec PyProof.Rows L2
section
variable {X : Cx} {σ : L2.St} {H : Hp} {e a b c o : Expr} {es : List Expr} {pos p apos : PySem.Pos} {Q : VK}
theorem T_leLe {R : Bool → Hp → Prop} (q : E X a σ H fun x H1 => E X b σ H1 fun y H2 => ∃ i j, x = .int i ∧ y = .int j ∧ i ≤ j ∧ E X c σ H2 fun z H3 => ∃ k, z = .int k ∧ R (decide (j ≤ k)) H3) (hm : lastMarks [CmpOp.LtE, .LtE] [b, c] = false := by with_unfolding_all rfl) : T X (.Compare a [.LtE, .LtE] [b, c] pos) σ H R :=
  T_chain op_le op_le (E.mono q fun x H1 h => E.mono h fun y H2 ⟨i, j, h1, h2, h3, h4⟩ => ⟨i, j, h1, h2, true, congrArg V.bl (decide_eq_true h3), (by
    rw [if_pos rfl]
    exact E.mono h4 fun z H3 ⟨k, h5, h6⟩ => ⟨j, k, h2, h5, _, rfl, h6⟩)⟩) hm
theorem T_leLt {R : Bool → Hp → Prop} (q : E X a σ H fun x H1 => E X b σ H1 fun y H2 => ∃ i j, x = .int i ∧ y = .int j ∧ i ≤ j ∧ E X c σ H2 fun z H3 => ∃ k, z = .int k ∧ R (decide (j < k)) H3) (hm : lastMarks [CmpOp.LtE, .Lt] [b, c] = false := by with_unfolding_all rfl) : T X (.Compare a [.LtE, .Lt] [b, c] pos) σ H R :=
  T_chain op_le op_lt (E.mono q fun x H1 h => E.mono h fun y H2 ⟨i, j, h1, h2, h3, h4⟩ => ⟨i, j, h1, h2, true, congrArg V.bl (decide_eq_true h3), (by
    rw [if_pos rfl]
    exact E.mono h4 fun z H3 ⟨k, h5, h6⟩ => ⟨j, k, h2, h5, _, rfl, h6⟩)⟩) hm
end
section
variable {P : Program} {w : World} {K : PySem.W.Frag} {mg : Str → Option Value} {base : Heap}
/-! ### the kinds -/
def Kd.nm : Kd → Str
  | .x => "X"
  | .y => "Y"
  | .z => "Z"
  | .s => "S"
  | .r => "R"
  | .t => "T"
  | .u => "U"
  | .h => "H"
  | .cx => "Cx"
  | .cz => "Cz"
  | .swap => "Swap"
  | .ccx => "Ccx"
theorem cls_k (T : Txt K mg) (k : Kd) : Cls K (He.ga K k.nm) := by
  cases k
  · exact T.c_X
  · exact T.c_Y
  · exact T.c_Z
  · exact T.c_S
  · exact T.c_R
  · exact T.c_T
  · exact T.c_U
  · exact T.c_H
  · exact T.c_Cx
  · exact T.c_Cz
  · exact T.c_Swap
  · exact T.c_Ccx
theorem noa_k (T : Txt K mg) (k : Kd) : NoAttr K (He.ga K k.nm) "on_wires" := by
  cases k
  · exact T.n_X_on_wires
  · exact T.n_Y_on_wires
  · exact T.n_Z_on_wires
  · exact T.n_S_on_wires
  · exact T.n_R_on_wires
  · exact T.n_T_on_wires
  · exact T.n_U_on_wires
  · exact T.n_H_on_wires
  · exact T.n_Cx_on_wires
  · exact T.n_Cz_on_wires
  · exact T.n_Swap_on_wires
  · exact T.n_Ccx_on_wires
theorem ins_k (T : Txt K mg) (k : Kd) : InstF K (He.ga K k.nm) := by
  cases k
  · exact T.y_X
  · exact T.y_Y
  · exact T.y_Z
  · exact T.y_S
  · exact T.y_R
  · exact T.y_T
  · exact T.y_U
  · exact T.y_H
  · exact T.y_Cx
  · exact T.y_Cz
  · exact T.y_Swap
  · exact T.y_Ccx
theorem me_wires (T : Txt K mg) (k : Kd) : Meth K (He.ga K k.nm) "wires" (He.ma K (He.ga K k.nm) "wires") := by
  cases k
  · exact T.m_X_wires
  · exact T.m_Y_wires
  · exact T.m_Z_wires
  · exact T.m_S_wires
  · exact T.m_R_wires
  · exact T.m_T_wires
  · exact T.m_U_wires
  · exact T.m_H_wires
  · exact T.m_Cx_wires
  · exact T.m_Cz_wires
  · exact T.m_Swap_wires
  · exact T.m_Ccx_wires
theorem me_back (T : Txt K mg) (k : Kd) : Meth K (He.ga K k.nm) "back" (He.ma K (He.ga K k.nm) "back") := by
  cases k
  · exact T.m_X_back
  · exact T.m_Y_back
  · exact T.m_Z_back
  · exact T.m_S_back
  · exact T.m_R_back
  · exact T.m_T_back
  · exact T.m_U_back
  · exact T.m_H_back
  · exact T.m_Cx_back
  · exact T.m_Cz_back
  · exact T.m_Swap_back
  · exact T.m_Ccx_back
theorem me_goes (T : Txt K mg) (k : Kd) : Meth K (He.ga K k.nm) "goes" (He.ma K (He.ga K k.nm) "goes") := by
  cases k
  · exact T.m_X_goes
  · exact T.m_Y_goes
  · exact T.m_Z_goes
  · exact T.m_S_goes
  · exact T.m_R_goes
  · exact T.m_T_goes
  · exact T.m_U_goes
  · exact T.m_H_goes
  · exact T.m_Cx_goes
  · exact T.m_Cz_goes
  · exact T.m_Swap_goes
  · exact T.m_Ccx_goes
theorem me_on (T : Txt K mg) (k : Kd) : Meth K (He.ga K k.nm) "on" (He.ma K (He.ga K k.nm) "on") := by
  cases k
  · exact T.m_X_on
  · exact T.m_Y_on
  · exact T.m_Z_on
  · exact T.m_S_on
  · exact T.m_R_on
  · exact T.m_T_on
  · exact T.m_U_on
  · exact T.m_H_on
  · exact T.m_Cx_on
  · exact T.m_Cz_on
  · exact T.m_Swap_on
  · exact T.m_Ccx_on
theorem eq_wires (T : Txt K mg) (k : Kd) : He.ma K (He.ga K k.nm) "wires" = He.ma K (He.ga K "Gate") "wires" := by
  cases k
  · exact T.e_wires_X
  · exact T.e_wires_Y
  · exact T.e_wires_Z
  · exact T.e_wires_S
  · exact T.e_wires_R
  · exact T.e_wires_T
  · exact T.e_wires_U
  · exact T.e_wires_H
  · exact T.e_wires_Cx
  · exact T.e_wires_Cz
  · exact T.e_wires_Swap
  · exact T.e_wires_Ccx
theorem eq_on (T : Txt K mg) (k : Kd) : He.ma K (He.ga K k.nm) "on" = He.ma K (He.ga K "Gate") "on" := by
  cases k
  · exact T.e_on_X
  · exact T.e_on_Y
  · exact T.e_on_Z
  · exact T.e_on_S
  · exact T.e_on_R
  · exact T.e_on_T
  · exact T.e_on_U
  · exact T.e_on_H
  · exact T.e_on_Cx
  · exact T.e_on_Cz
  · exact T.e_on_Swap
  · exact T.e_on_Ccx
theorem is_Gate (T : Txt K mg) (k : Kd) : PySem.W.kitOne K (.ref (He.ga K k.nm)) (.ref (He.ga K "Gate")) = some true := by
  cases k
  · exact T.t_X_Gate
  · exact T.t_Y_Gate
  · exact T.t_Z_Gate
  · exact T.t_S_Gate
  · exact T.t_R_Gate
  · exact T.t_T_Gate
  · exact T.t_U_Gate
  · exact T.t_H_Gate
  · exact T.t_Cx_Gate
  · exact T.t_Cz_Gate
  · exact T.t_Swap_Gate
  · exact T.t_Ccx_Gate
theorem is_Reading (T : Txt K mg) (k : Kd) : PySem.W.kitOne K (.ref (He.ga K k.nm)) (.ref (He.ga K "Reading")) = some false := by
  cases k
  · exact T.t_X_Reading
  · exact T.t_Y_Reading
  · exact T.t_Z_Reading
  · exact T.t_S_Reading
  · exact T.t_R_Reading
  · exact T.t_T_Reading
  · exact T.t_U_Reading
  · exact T.t_H_Reading
  · exact T.t_Cx_Reading
  · exact T.t_Cz_Reading
  · exact T.t_Swap_Reading
  · exact T.t_Ccx_Reading
theorem is_Asking (T : Txt K mg) (k : Kd) : PySem.W.kitOne K (.ref (He.ga K k.nm)) (.ref (He.ga K "Asking")) = some false := by
  cases k
  · exact T.t_X_Asking
  · exact T.t_Y_Asking
  · exact T.t_Z_Asking
  · exact T.t_S_Asking
  · exact T.t_R_Asking
  · exact T.t_T_Asking
  · exact T.t_U_Asking
  · exact T.t_H_Asking
  · exact T.t_Cx_Asking
  · exact T.t_Cz_Asking
  · exact T.t_Swap_Asking
  · exact T.t_Ccx_Asking
/-- a gate -/
def wsV (ws : List Nat) : List V := ws.map fun w => V.int (w : Nat)
def GtA (K : PySem.W.Frag) (H : Hp) (v : V) (g : Gt) : Prop := ∃ p dx t, v = .ref p ∧ H p = some (.ins (He.ga K g.kd.nm) dx [("on_wires", .ref t)]) ∧ SqN H t (wsV g.ws)
theorem GtA.fz {H H' : Hp} {v : V} {g : Gt} (h : GtA K H v g) (e : Fz H H') : GtA K H' v g := by
  obtain ⟨p, dx, t, rfl, h1, h2⟩ := h
  exact ⟨p, dx, t, rfl, e _ _ h1 rfl, h2.fz e⟩
theorem GtA.ex {H H' : Hp} {v : V} {g : Gt} (h : GtA K H v g) (e : Ex H H') : GtA K H' v g := h.fz (Fz.of e)
theorem wsV_int (ws : List Nat) : wsV ws = (ws.map fun w => ((w : Nat) : Int)).map V.int := by
  unfold wsV
  rw [List.map_map]
  rfl
theorem count_one {ws : List Nat} (hn : ws.Nodup) {w : Nat} (hw : w ∈ ws) : (ws.map fun w => ((w : Nat) : Int)).count ((w : Nat) : Int) = 1 := by
  have hn' : (ws.map fun w => ((w : Nat) : Int)).Nodup := List.Pairwise.map _ (fun a b h z => h (by omega)) hn
  have key : ∀ {l : List Int} {x : Int}, l.Nodup → x ∈ l → l.count x = 1 := by
    intro l x hl hx
    have h1 : 0 < l.count x := List.count_pos_iff.mpr hx
    have h2 : l.count x ≤ 1 := List.nodup_iff_count.mp hl x
    omega
  exact key hn' (List.mem_map.mpr ⟨w, hw, rfl⟩)
/-- Gate.__init__(self, wires) -/
def spGInit : Sp := fun vs H Q _ => ∃ (y C dx t : Addr) (ws : List Nat), vs = [.ref y, .ref t] ∧ H y = some (.ins C dx []) ∧ Cls K C ∧ NoAttr K C "on_wires" ∧ SqN H t (wsV ws) ∧ ws.Nodup ∧ (∀ w ∈ ws, w < 5) ∧ ws.length < 1000 ∧
  ∀ H', ExB y H H' → H' y = some (.ins C dx [("on_wires", .ref t)]) → Q .non H'
theorem sc_ginit : FnScope ["self", "wires", "wire"] ["self", "wires"] (defScope s_Gate_init) := ⟨rfl, rfl, rfl, by decide +kernel, rfl, by decide +kernel, by decide +kernel⟩
theorem in_Gate (T : Txt K mg) {f : Addr} {fd : FuncData} (F : FnF K "__init__" "Gate.__init__" s_Gate_init f fd) : FnOk P w K mg base CX0 2 f fd ["self", "wires"] (spGInit (K := K)) := by
  refine fn_ok F sc_ginit (fun vs H Q E h => ?_) (fun cdv A outer s H vs Q E hr h => ?_)
  · obtain ⟨_, _, _, _, _, rfl, _⟩ := h
    rfl
  · obtain ⟨y, C, dx, t, ws, rfl, hy, hC, hN, ht, hnd, hlt, hlen, fin⟩ := h
    have nd := sc_ginit.nd
    obtain ⟨tk, hmw⟩ := T.i_MOST_WIRE
    refine Ss_cons ?_
    refine S_forT PassesOwn.never rfl ?_
    refine E_var 1 rfl ?_
    refine ⟨t, wsV ws, fun i σ' H' => ∃ z : Option V, Ex H H' ∧ σ' = [some (.ref y), some (.ref t), z], rfl, ht.t, ⟨none, Evl.Ex.refl H, rfl⟩, ?_, ?_, ?_⟩
    · rintro i σ' H' _ ⟨z, e, rfl⟩
      exact (ht.fz (Fz.of e)).t
    · rintro i x σ' H' hi ⟨z, e, rfl⟩
      unfold wsV at hi
      rw [List.getElem?_map] at hi
      cases ew : ws[i]? with
      | none => rw [ew] at hi; cases hi
      | some wv =>
        rw [ew] at hi
        cases hi
        have hwm := List.mem_of_getElem? ew
        refine G_name (i := 2) rfl ?_ nd
        refine Ss_one (S_if (T_w (W_or (T_not (T_val (E_call (ok_is_whole T) hr (As_cons ?_)))))))
        refine E_var 2 rfl ?_
        refine As_nil ⟨_, rfl, fun H1 e1 => ⟨_, rfl, iteF (W_or (T_not (T_leLe ?_)))⟩⟩
        refine E_int ?_
        refine E_var 2 rfl ?_
        have h4 := hlt _ hwm
        refine ⟨_, _, rfl, rfl, by omega, E_glob (v := .int 4) hmw ⟨_, rfl⟩ ⟨_, rfl, ?_⟩⟩
        have ed : decide (((wv : Nat) : Int) ≤ 4) = true := decide_eq_true (by omega)
        rw [ed]
        refine iteF (W_or1 (T_cne (E_tcount ?_)))
        refine E_var 1 rfl ?_
        have e2 := e.trans e1
        refine ⟨⟨t, rfl, .inl ⟨_, ht.fz (Fz.of e2)⟩⟩, ?_⟩
        refine E_var 2 rfl ?_
        refine ⟨t, _, _, rfl, rfl, by rw [← wsV_int]; exact (ht.fz (Fz.of e2)).t, ?_⟩
        refine E_int ?_
        refine ⟨_, _, rfl, rfl, ?_⟩
        rw [count_one hnd hwm]
        exact iteF (Ss_nil ⟨_, e2, rfl⟩)
    · rintro σ' H' ⟨z, e, rfl⟩
      refine Ss_one (S_fld ?_)
      refine E_var 1 rfl ?_
      refine E_var 0 rfl ?_
      refine ⟨y, C, dx, [], rfl, e _ _ hy, hC, hN, by decide, ?_⟩
      exact fin _ ((ExB.of e).trans ExB.upd) upd_same
structure BCal (P : Program) (w : World) (K : PySem.W.Frag) (mg : Str → Option Value) (base : Heap) (k : Nat) (C : Addr) (m : Str) (sp : Sp) : Prop where
  ex : ∃ f fd ps, Base K C m f ∧ FnOk P w K mg base CX0 k f fd ps sp ∧ Binds K fd ps []
theorem ok_ginit (T : Txt K mg) : BCal P w K mg base 2 (He.ga K "Gate") "__init__" (spGInit (K := K)) := by
  obtain ⟨fd, F⟩ := T.d_Gate_init
  exact ⟨_, fd, _, T.x_Gate_init F.kp, in_Gate T F, F.bindsN (fun _ _ _ _ _ _ us hl => match us, hl with | [_, _], _ => rfl)⟩
theorem E_bcal {X : Cx} {σ : L2.St} {H : Hp} {e o : Expr} {es : List Expr} {pos apos : PySem.Pos} {Q : VK} {pl : Sem Bool} {C : Addr} {m : Str} {k : Nat} {sp : Sp} (B : BCal X.prog X.w X.K X.mg X.base k C m sp) (hr : Room k X.A) (q : E X o σ H fun v H1 => v = .ref C ∧ As X (e :: es) σ H1 fun vs H2 => sp vs H2 Q ENo)
    (hst : starEach (e :: es) X.env = (false, eval e X.env) :: starEach es X.env := by rfl) (hpl : (backTo pos (starEach es X.env)).any (·.1) = false := by rfl)
    (ht : eval (.Call (.Attribute o m apos) (e :: es) [] pos) X.env = (do
        let w1 ← eval o X.env
        standAt apos.atName
        let (g1, g2) ← holding [w1] (getMethod w1 m pl)
        callWith pos g1 g2 (backTo pos (starEach (e :: es) X.env)) (backToKw pos (keywordEach [] X.env))) := by rfl) :
    E X (.Call (.Attribute o m apos) (e :: es) [] pos) σ H Q := by
  obtain ⟨f, fd, ps, B, F, hb⟩ := B
  exact E_base B F hb hr q hst hpl ht
/-! ### the kinds' __init__ -/
/-- a gate's __init__, told by its wires -/
def spGMk (K : PySem.W.Frag) (k : Kd) : Sp := fun vs H Q _ => ∃ (y dx : Addr) (ws : List Nat), vs = .ref y :: wsV ws ∧ ws.length = k.arity ∧ H y = some (.ins (He.ga K k.nm) dx []) ∧ ws.Nodup ∧ (∀ w ∈ ws, w < 5) ∧ ∀ H', ExB y H H' → GtA K H' (.ref y) ⟨k, ws⟩ → Q .non H'
theorem ws1 {ws : List Nat} (h : ws.length = 1) : ∃ a, ws = [a] := by
  match ws, h with
  | [a], _ => exact ⟨a, rfl⟩
theorem ws2 {ws : List Nat} (h : ws.length = 2) : ∃ a b, ws = [a, b] := by
  match ws, h with
  | [a, b], _ => exact ⟨a, b, rfl⟩
theorem ws3 {ws : List Nat} (h : ws.length = 3) : ∃ a b c, ws = [a, b, c] := by
  match ws, h with
  | [a, b, c], _ => exact ⟨a, b, c, rfl⟩
theorem sc_inX : FnScope ["self", "a"] ["self", "a"] (defScope s_X_init) := ⟨rfl, rfl, rfl, by decide +kernel, rfl, by decide +kernel, by decide +kernel⟩
theorem in_X (T : Txt K mg) (k : Kd) (hk : k.arity = 1) {f : Addr} {fd : FuncData} (F : FnF K "__init__" "X.__init__" s_X_init f fd) : FnOk P w K mg base CX0 3 f fd ["self", "a"] (spGMk K k) := by
  refine fn_ok F sc_inX (fun vs H Q E h => ?_) (fun cdv A outer s H vs Q E hr h => ?_)
  · obtain ⟨y, dx, ws, rfl, hl, _⟩ := h
    rw [hk] at hl
    show (wsV ws).length + 1 = 2
    unfold wsV
    rw [List.length_map, hl]
  · obtain ⟨y, dx, ws, rfl, hl, hy, hn, hb, fin⟩ := h
    rw [hk] at hl
    obtain ⟨w0, rfl⟩ := ws1 hl
    have nd := sc_inX.nd
    refine Ss_one (S_expr (E_bcal (ok_ginit T) hr (E_glob (v := .ref (He.ga K "Gate")) T.g_Gate rfl ⟨rfl, As_cons ?_⟩)))
    refine E_var 0 rfl ?_
    refine As_cons (E_tupN ?_)
    refine As_cons ?_
    refine E_var 1 rfl ?_
    refine As_nil ⟨by show 1 ≤ sizeLine; decide, fun t H1 ht e1 h1 => As_nil ?_⟩
    refine ⟨y, _, dx, t, [w0], rfl, e1 _ _ hy, cls_k T k, noa_k T k, h1, hn, hb, by show 1 < 1000; decide, fun H2 e2 h2 => ?_⟩
    obtain ⟨ob, h3, h4⟩ := h1
    exact fin _ ((ExB.of e1).trans e2) ⟨y, dx, t, rfl, h2, ob, e2 _ _ (ne_of h3 (e1 _ _ hy) (fun z => nomatch z)) h3, h4⟩
theorem sc_inY : FnScope ["self", "a"] ["self", "a"] (defScope s_Y_init) := ⟨rfl, rfl, rfl, by decide +kernel, rfl, by decide +kernel, by decide +kernel⟩
theorem in_Y (T : Txt K mg) (k : Kd) (hk : k.arity = 1) {f : Addr} {fd : FuncData} (F : FnF K "__init__" "Y.__init__" s_Y_init f fd) : FnOk P w K mg base CX0 3 f fd ["self", "a"] (spGMk K k) := by
  refine fn_ok F sc_inY (fun vs H Q E h => ?_) (fun cdv A outer s H vs Q E hr h => ?_)
  · obtain ⟨y, dx, ws, rfl, hl, _⟩ := h
    rw [hk] at hl
    show (wsV ws).length + 1 = 2
    unfold wsV
    rw [List.length_map, hl]
  · obtain ⟨y, dx, ws, rfl, hl, hy, hn, hb, fin⟩ := h
    rw [hk] at hl
    obtain ⟨w0, rfl⟩ := ws1 hl
    have nd := sc_inY.nd
    refine Ss_one (S_expr (E_bcal (ok_ginit T) hr (E_glob (v := .ref (He.ga K "Gate")) T.g_Gate rfl ⟨rfl, As_cons ?_⟩)))
    refine E_var 0 rfl ?_
    refine As_cons (E_tupN ?_)
    refine As_cons ?_
    refine E_var 1 rfl ?_
    refine As_nil ⟨by show 1 ≤ sizeLine; decide, fun t H1 ht e1 h1 => As_nil ?_⟩
    refine ⟨y, _, dx, t, [w0], rfl, e1 _ _ hy, cls_k T k, noa_k T k, h1, hn, hb, by show 1 < 1000; decide, fun H2 e2 h2 => ?_⟩
    obtain ⟨ob, h3, h4⟩ := h1
    exact fin _ ((ExB.of e1).trans e2) ⟨y, dx, t, rfl, h2, ob, e2 _ _ (ne_of h3 (e1 _ _ hy) (fun z => nomatch z)) h3, h4⟩
theorem sc_inTurner : FnScope ["self", "a"] ["self", "a"] (defScope s_Turner_init) := ⟨rfl, rfl, rfl, by decide +kernel, rfl, by decide +kernel, by decide +kernel⟩
theorem in_Turner (T : Txt K mg) (k : Kd) (hk : k.arity = 1) {f : Addr} {fd : FuncData} (F : FnF K "__init__" "Turner.__init__" s_Turner_init f fd) : FnOk P w K mg base CX0 3 f fd ["self", "a"] (spGMk K k) := by
  refine fn_ok F sc_inTurner (fun vs H Q E h => ?_) (fun cdv A outer s H vs Q E hr h => ?_)
  · obtain ⟨y, dx, ws, rfl, hl, _⟩ := h
    rw [hk] at hl
    show (wsV ws).length + 1 = 2
    unfold wsV
    rw [List.length_map, hl]
  · obtain ⟨y, dx, ws, rfl, hl, hy, hn, hb, fin⟩ := h
    rw [hk] at hl
    obtain ⟨w0, rfl⟩ := ws1 hl
    have nd := sc_inTurner.nd
    refine Ss_one (S_expr (E_bcal (ok_ginit T) hr (E_glob (v := .ref (He.ga K "Gate")) T.g_Gate rfl ⟨rfl, As_cons ?_⟩)))
    refine E_var 0 rfl ?_
    refine As_cons (E_tupN ?_)
    refine As_cons ?_
    refine E_var 1 rfl ?_
    refine As_nil ⟨by show 1 ≤ sizeLine; decide, fun t H1 ht e1 h1 => As_nil ?_⟩
    refine ⟨y, _, dx, t, [w0], rfl, e1 _ _ hy, cls_k T k, noa_k T k, h1, hn, hb, by show 1 < 1000; decide, fun H2 e2 h2 => ?_⟩
    obtain ⟨ob, h3, h4⟩ := h1
    exact fin _ ((ExB.of e1).trans e2) ⟨y, dx, t, rfl, h2, ob, e2 _ _ (ne_of h3 (e1 _ _ hy) (fun z => nomatch z)) h3, h4⟩
theorem sc_inH : FnScope ["self", "a"] ["self", "a"] (defScope s_H_init) := ⟨rfl, rfl, rfl, by decide +kernel, rfl, by decide +kernel, by decide +kernel⟩
theorem in_H (T : Txt K mg) (k : Kd) (hk : k.arity = 1) {f : Addr} {fd : FuncData} (F : FnF K "__init__" "H.__init__" s_H_init f fd) : FnOk P w K mg base CX0 3 f fd ["self", "a"] (spGMk K k) := by
  refine fn_ok F sc_inH (fun vs H Q E h => ?_) (fun cdv A outer s H vs Q E hr h => ?_)
  · obtain ⟨y, dx, ws, rfl, hl, _⟩ := h
    rw [hk] at hl
    show (wsV ws).length + 1 = 2
    unfold wsV
    rw [List.length_map, hl]
  · obtain ⟨y, dx, ws, rfl, hl, hy, hn, hb, fin⟩ := h
    rw [hk] at hl
    obtain ⟨w0, rfl⟩ := ws1 hl
    have nd := sc_inH.nd
    refine Ss_one (S_expr (E_bcal (ok_ginit T) hr (E_glob (v := .ref (He.ga K "Gate")) T.g_Gate rfl ⟨rfl, As_cons ?_⟩)))
    refine E_var 0 rfl ?_
    refine As_cons (E_tupN ?_)
    refine As_cons ?_
    refine E_var 1 rfl ?_
    refine As_nil ⟨by show 1 ≤ sizeLine; decide, fun t H1 ht e1 h1 => As_nil ?_⟩
    refine ⟨y, _, dx, t, [w0], rfl, e1 _ _ hy, cls_k T k, noa_k T k, h1, hn, hb, by show 1 < 1000; decide, fun H2 e2 h2 => ?_⟩
    obtain ⟨ob, h3, h4⟩ := h1
    exact fin _ ((ExB.of e1).trans e2) ⟨y, dx, t, rfl, h2, ob, e2 _ _ (ne_of h3 (e1 _ _ hy) (fun z => nomatch z)) h3, h4⟩
theorem sc_inCx : FnScope ["self", "a", "b"] ["self", "a", "b"] (defScope s_Cx_init) := ⟨rfl, rfl, rfl, by decide +kernel, rfl, by decide +kernel, by decide +kernel⟩
theorem in_Cx (T : Txt K mg) (k : Kd) (hk : k.arity = 2) {f : Addr} {fd : FuncData} (F : FnF K "__init__" "Cx.__init__" s_Cx_init f fd) : FnOk P w K mg base CX0 3 f fd ["self", "a", "b"] (spGMk K k) := by
  refine fn_ok F sc_inCx (fun vs H Q E h => ?_) (fun cdv A outer s H vs Q E hr h => ?_)
  · obtain ⟨y, dx, ws, rfl, hl, _⟩ := h
    rw [hk] at hl
    show (wsV ws).length + 1 = 3
    unfold wsV
    rw [List.length_map, hl]
  · obtain ⟨y, dx, ws, rfl, hl, hy, hn, hb, fin⟩ := h
    rw [hk] at hl
    obtain ⟨w0, w1, rfl⟩ := ws2 hl
    have nd := sc_inCx.nd
    refine Ss_one (S_expr (E_bcal (ok_ginit T) hr (E_glob (v := .ref (He.ga K "Gate")) T.g_Gate rfl ⟨rfl, As_cons ?_⟩)))
    refine E_var 0 rfl ?_
    refine As_cons (E_tupN ?_)
    refine As_cons ?_
    refine E_var 1 rfl ?_
    refine As_cons ?_
    refine E_var 2 rfl ?_
    refine As_nil ⟨by show 2 ≤ sizeLine; decide, fun t H1 ht e1 h1 => As_nil ?_⟩
    refine ⟨y, _, dx, t, [w0, w1], rfl, e1 _ _ hy, cls_k T k, noa_k T k, h1, hn, hb, by show 2 < 1000; decide, fun H2 e2 h2 => ?_⟩
    obtain ⟨ob, h3, h4⟩ := h1
    exact fin _ ((ExB.of e1).trans e2) ⟨y, dx, t, rfl, h2, ob, e2 _ _ (ne_of h3 (e1 _ _ hy) (fun z => nomatch z)) h3, h4⟩
theorem sc_inCz : FnScope ["self", "a", "b"] ["self", "a", "b"] (defScope s_Cz_init) := ⟨rfl, rfl, rfl, by decide +kernel, rfl, by decide +kernel, by decide +kernel⟩
theorem in_Cz (T : Txt K mg) (k : Kd) (hk : k.arity = 2) {f : Addr} {fd : FuncData} (F : FnF K "__init__" "Cz.__init__" s_Cz_init f fd) : FnOk P w K mg base CX0 3 f fd ["self", "a", "b"] (spGMk K k) := by
  refine fn_ok F sc_inCz (fun vs H Q E h => ?_) (fun cdv A outer s H vs Q E hr h => ?_)
  · obtain ⟨y, dx, ws, rfl, hl, _⟩ := h
    rw [hk] at hl
    show (wsV ws).length + 1 = 3
    unfold wsV
    rw [List.length_map, hl]
  · obtain ⟨y, dx, ws, rfl, hl, hy, hn, hb, fin⟩ := h
    rw [hk] at hl
    obtain ⟨w0, w1, rfl⟩ := ws2 hl
    have nd := sc_inCz.nd
    refine Ss_one (S_expr (E_bcal (ok_ginit T) hr (E_glob (v := .ref (He.ga K "Gate")) T.g_Gate rfl ⟨rfl, As_cons ?_⟩)))
    refine E_var 0 rfl ?_
    refine As_cons (E_tupN ?_)
    refine As_cons ?_
    refine E_var 1 rfl ?_
    refine As_cons ?_
    refine E_var 2 rfl ?_
    refine As_nil ⟨by show 2 ≤ sizeLine; decide, fun t H1 ht e1 h1 => As_nil ?_⟩
    refine ⟨y, _, dx, t, [w0, w1], rfl, e1 _ _ hy, cls_k T k, noa_k T k, h1, hn, hb, by show 2 < 1000; decide, fun H2 e2 h2 => ?_⟩
    obtain ⟨ob, h3, h4⟩ := h1
    exact fin _ ((ExB.of e1).trans e2) ⟨y, dx, t, rfl, h2, ob, e2 _ _ (ne_of h3 (e1 _ _ hy) (fun z => nomatch z)) h3, h4⟩
theorem sc_inSwap : FnScope ["self", "a", "b"] ["self", "a", "b"] (defScope s_Swap_init) := ⟨rfl, rfl, rfl, by decide +kernel, rfl, by decide +kernel, by decide +kernel⟩
theorem in_Swap (T : Txt K mg) (k : Kd) (hk : k.arity = 2) {f : Addr} {fd : FuncData} (F : FnF K "__init__" "Swap.__init__" s_Swap_init f fd) : FnOk P w K mg base CX0 3 f fd ["self", "a", "b"] (spGMk K k) := by
  refine fn_ok F sc_inSwap (fun vs H Q E h => ?_) (fun cdv A outer s H vs Q E hr h => ?_)
  · obtain ⟨y, dx, ws, rfl, hl, _⟩ := h
    rw [hk] at hl
    show (wsV ws).length + 1 = 3
    unfold wsV
    rw [List.length_map, hl]
  · obtain ⟨y, dx, ws, rfl, hl, hy, hn, hb, fin⟩ := h
    rw [hk] at hl
    obtain ⟨w0, w1, rfl⟩ := ws2 hl
    have nd := sc_inSwap.nd
    refine Ss_one (S_expr (E_bcal (ok_ginit T) hr (E_glob (v := .ref (He.ga K "Gate")) T.g_Gate rfl ⟨rfl, As_cons ?_⟩)))
    refine E_var 0 rfl ?_
    refine As_cons (E_tupN ?_)
    refine As_cons ?_
    refine E_var 1 rfl ?_
    refine As_cons ?_
    refine E_var 2 rfl ?_
    refine As_nil ⟨by show 2 ≤ sizeLine; decide, fun t H1 ht e1 h1 => As_nil ?_⟩
    refine ⟨y, _, dx, t, [w0, w1], rfl, e1 _ _ hy, cls_k T k, noa_k T k, h1, hn, hb, by show 2 < 1000; decide, fun H2 e2 h2 => ?_⟩
    obtain ⟨ob, h3, h4⟩ := h1
    exact fin _ ((ExB.of e1).trans e2) ⟨y, dx, t, rfl, h2, ob, e2 _ _ (ne_of h3 (e1 _ _ hy) (fun z => nomatch z)) h3, h4⟩
theorem sc_inCcx : FnScope ["self", "a", "b", "c"] ["self", "a", "b", "c"] (defScope s_Ccx_init) := ⟨rfl, rfl, rfl, by decide +kernel, rfl, by decide +kernel, by decide +kernel⟩
theorem in_Ccx (T : Txt K mg) (k : Kd) (hk : k.arity = 3) {f : Addr} {fd : FuncData} (F : FnF K "__init__" "Ccx.__init__" s_Ccx_init f fd) : FnOk P w K mg base CX0 3 f fd ["self", "a", "b", "c"] (spGMk K k) := by
  refine fn_ok F sc_inCcx (fun vs H Q E h => ?_) (fun cdv A outer s H vs Q E hr h => ?_)
  · obtain ⟨y, dx, ws, rfl, hl, _⟩ := h
    rw [hk] at hl
    show (wsV ws).length + 1 = 4
    unfold wsV
    rw [List.length_map, hl]
  · obtain ⟨y, dx, ws, rfl, hl, hy, hn, hb, fin⟩ := h
    rw [hk] at hl
    obtain ⟨w0, w1, w2, rfl⟩ := ws3 hl
    have nd := sc_inCcx.nd
    refine Ss_one (S_expr (E_bcal (ok_ginit T) hr (E_glob (v := .ref (He.ga K "Gate")) T.g_Gate rfl ⟨rfl, As_cons ?_⟩)))
    refine E_var 0 rfl ?_
    refine As_cons (E_tupN ?_)
    refine As_cons ?_
    refine E_var 1 rfl ?_
    refine As_cons ?_
    refine E_var 2 rfl ?_
    refine As_cons ?_
    refine E_var 3 rfl ?_
    refine As_nil ⟨by show 3 ≤ sizeLine; decide, fun t H1 ht e1 h1 => As_nil ?_⟩
    refine ⟨y, _, dx, t, [w0, w1, w2], rfl, e1 _ _ hy, cls_k T k, noa_k T k, h1, hn, hb, by show 3 < 1000; decide, fun H2 e2 h2 => ?_⟩
    obtain ⟨ob, h3, h4⟩ := h1
    exact fin _ ((ExB.of e1).trans e2) ⟨y, dx, t, rfl, h2, ob, e2 _ _ (ne_of h3 (e1 _ _ hy) (fun z => nomatch z)) h3, h4⟩
theorem mk_X (T : Txt K mg) : KCal P w K mg base 3 "X" (He.ga K "X") (spGMk K .x) := by
  obtain ⟨fd, F⟩ := T.d_X_init
  exact ⟨_, fd, _, T.g_X, T.k_X, in_X T .x rfl F, F.bindsN (fun _ _ _ _ _ _ us hl => match us, hl with | [_, _], _ => rfl)⟩
theorem mk_Y (T : Txt K mg) : KCal P w K mg base 3 "Y" (He.ga K "Y") (spGMk K .y) := by
  obtain ⟨fd, F⟩ := T.d_Y_init
  exact ⟨_, fd, _, T.g_Y, T.k_Y, in_Y T .y rfl F, F.bindsN (fun _ _ _ _ _ _ us hl => match us, hl with | [_, _], _ => rfl)⟩
theorem mk_Z (T : Txt K mg) : KCal P w K mg base 3 "Z" (He.ga K "Z") (spGMk K .z) := by
  obtain ⟨fd, F⟩ := T.d_Turner_init
  exact ⟨_, fd, _, T.g_Z, T.e_init_Z ▸ T.k_Z, in_Turner T .z rfl F, F.bindsN (fun _ _ _ _ _ _ us hl => match us, hl with | [_, _], _ => rfl)⟩
theorem mk_S (T : Txt K mg) : KCal P w K mg base 3 "S" (He.ga K "S") (spGMk K .s) := by
  obtain ⟨fd, F⟩ := T.d_Turner_init
  exact ⟨_, fd, _, T.g_S, T.e_init_S ▸ T.k_S, in_Turner T .s rfl F, F.bindsN (fun _ _ _ _ _ _ us hl => match us, hl with | [_, _], _ => rfl)⟩
theorem mk_R (T : Txt K mg) : KCal P w K mg base 3 "R" (He.ga K "R") (spGMk K .r) := by
  obtain ⟨fd, F⟩ := T.d_Turner_init
  exact ⟨_, fd, _, T.g_R, T.e_init_R ▸ T.k_R, in_Turner T .r rfl F, F.bindsN (fun _ _ _ _ _ _ us hl => match us, hl with | [_, _], _ => rfl)⟩
theorem mk_T (T : Txt K mg) : KCal P w K mg base 3 "T" (He.ga K "T") (spGMk K .t) := by
  obtain ⟨fd, F⟩ := T.d_Turner_init
  exact ⟨_, fd, _, T.g_T, T.e_init_T ▸ T.k_T, in_Turner T .t rfl F, F.bindsN (fun _ _ _ _ _ _ us hl => match us, hl with | [_, _], _ => rfl)⟩
theorem mk_U (T : Txt K mg) : KCal P w K mg base 3 "U" (He.ga K "U") (spGMk K .u) := by
  obtain ⟨fd, F⟩ := T.d_Turner_init
  exact ⟨_, fd, _, T.g_U, T.e_init_U ▸ T.k_U, in_Turner T .u rfl F, F.bindsN (fun _ _ _ _ _ _ us hl => match us, hl with | [_, _], _ => rfl)⟩
theorem mk_H (T : Txt K mg) : KCal P w K mg base 3 "H" (He.ga K "H") (spGMk K .h) := by
  obtain ⟨fd, F⟩ := T.d_H_init
  exact ⟨_, fd, _, T.g_H, T.k_H, in_H T .h rfl F, F.bindsN (fun _ _ _ _ _ _ us hl => match us, hl with | [_, _], _ => rfl)⟩
theorem mk_Cx (T : Txt K mg) : KCal P w K mg base 3 "Cx" (He.ga K "Cx") (spGMk K .cx) := by
  obtain ⟨fd, F⟩ := T.d_Cx_init
  exact ⟨_, fd, _, T.g_Cx, T.k_Cx, in_Cx T .cx rfl F, F.bindsN (fun _ _ _ _ _ _ us hl => match us, hl with | [_, _, _], _ => rfl)⟩
theorem mk_Cz (T : Txt K mg) : KCal P w K mg base 3 "Cz" (He.ga K "Cz") (spGMk K .cz) := by
  obtain ⟨fd, F⟩ := T.d_Cz_init
  exact ⟨_, fd, _, T.g_Cz, T.k_Cz, in_Cz T .cz rfl F, F.bindsN (fun _ _ _ _ _ _ us hl => match us, hl with | [_, _, _], _ => rfl)⟩
theorem mk_Swap (T : Txt K mg) : KCal P w K mg base 3 "Swap" (He.ga K "Swap") (spGMk K .swap) := by
  obtain ⟨fd, F⟩ := T.d_Swap_init
  exact ⟨_, fd, _, T.g_Swap, T.k_Swap, in_Swap T .swap rfl F, F.bindsN (fun _ _ _ _ _ _ us hl => match us, hl with | [_, _, _], _ => rfl)⟩
theorem mk_Ccx (T : Txt K mg) : KCal P w K mg base 3 "Ccx" (He.ga K "Ccx") (spGMk K .ccx) := by
  obtain ⟨fd, F⟩ := T.d_Ccx_init
  exact ⟨_, fd, _, T.g_Ccx, T.k_Ccx, in_Ccx T .ccx rfl F, F.bindsN (fun _ _ _ _ _ _ us hl => match us, hl with | [_, _, _, _], _ => rfl)⟩
/-- a gate made by a caller: it is new -/
theorem Gate_made {H H1 : Hp} {y dx : Addr} {k : Kd} {ws : List Nat} {Q : VK} (hn : H y = none) (e : Ex H H1) (hy : H1 y = some (.ins (He.ga K k.nm) dx [])) (hl : ws.length = k.arity) (hd : ws.Nodup) (hb : ∀ w ∈ ws, w < 5)
    (q : ∀ v H', Ex H H' → GtA K H' v ⟨k, ws⟩ → Q v H') : spGMk K k (.ref y :: wsV ws) H1 (fun v H3 => v = .non ∧ Q (.ref y) H3) ENo :=
  ⟨y, dx, ws, rfl, hl, hy, hd, hb, fun H' eb st => ⟨rfl, q _ _ (ExB.new e hn eb) st⟩⟩
/-! ### wires, back -/
def spWires (K : PySem.W.Frag) : Sp := fun vs H Q _ => ∃ (v : V) (g : Gt), vs = [v] ∧ GtA K H v g ∧ ∀ t, SqN H t (wsV g.ws) → Q (.ref t) H
theorem sc_gwires : FnScope ["self"] ["self"] (defScope s_Gate_wires) := ⟨rfl, rfl, rfl, by decide +kernel, rfl, by decide +kernel, by decide +kernel⟩
theorem ok_wires (T : Txt K mg) (k : Kd) : MCal P w K mg base 1 (He.ga K k.nm) "wires" (fun vs H Q E => ∃ (v : V) (ws : List Nat), vs = [v] ∧ GtA K H v ⟨k, ws⟩ ∧ ∀ t, SqN H t (wsV ws) → Q (.ref t) H) := by
  refine mcal_ok T.d_Gate_wires (eq_wires T k ▸ me_wires T k) sc_gwires (fun _ _ _ _ _ _ us hl => match us, hl with | [_], _ => rfl) (fun vs H Q E h => ?_) (fun cdv A outer s H vs Q E hr h => ?_)
  · obtain ⟨_, _, rfl, _⟩ := h
    rfl
  · obtain ⟨v, ws, rfl, ⟨p, dx, t, rfl, hp, ht⟩, fin⟩ := h
    have nd := sc_gwires.nd
    refine Ss_one (S_ret (E_fld ?_))
    refine E_var 0 rfl ?_
    exact ⟨p, _, dx, _, _, rfl, hp, cls_k T k, noa_k T k, rfl, fin t ht⟩
def spBack (K : PySem.W.Frag) (k : Kd) : Sp := fun vs H Q _ => ∃ (v : V) (ws : List Nat), vs = [v] ∧ GtA K H v ⟨k, ws⟩ ∧ ws.length = k.arity ∧ ws.Nodup ∧ (∀ w ∈ ws, w < 5) ∧ ∀ v' H', Ex H H' → GtA K H' v' ⟨k.back, ws⟩ → Q v' H'
theorem sc_gback : FnScope ["self"] ["self"] (defScope s_Gate_back) := ⟨rfl, rfl, rfl, by decide +kernel, rfl, by decide +kernel, by decide +kernel⟩
theorem in_back (k : Kd) (hk : k.back = k) {f : Addr} {fd : FuncData} (F : FnF K "back" "Gate.back" s_Gate_back f fd) : FnOk P w K mg base CX0 5 f fd ["self"] (spBack K k) := by
  refine fn_ok F sc_gback (fun vs H Q E h => ?_) (fun cdv A outer s H vs Q E hr h => ?_)
  · obtain ⟨_, _, rfl, _⟩ := h
    rfl
  · obtain ⟨v, ws, rfl, hv, _, _, _, fin⟩ := h
    have nd := sc_gback.nd
    refine Ss_one (S_ret ?_)
    refine E_var 0 rfl ?_
    exact fin _ _ (Evl.Ex.refl _) (by rw [hk]; exact hv)
theorem sc_baS : FnScope ["self"] ["self"] (defScope s_S_back) := ⟨rfl, rfl, rfl, by decide +kernel, rfl, by decide +kernel, by decide +kernel⟩
theorem ba_S (T : Txt K mg) : MCal P w K mg base 5 (He.ga K "S") "back" (spBack K .s) := by
  refine mcal_ok T.d_S_back T.m_S_back sc_baS (fun _ _ _ _ _ _ us hl => match us, hl with | [_], _ => rfl) (fun vs H Q E h => ?_) (fun cdv A outer s H vs Q E hr h => ?_)
  · obtain ⟨_, _, rfl, _⟩ := h
    rfl
  · obtain ⟨v, ws, rfl, ⟨p, dx, t, rfl, hp, ht⟩, hl, hn, hb, fin⟩ := h
    have nd := sc_baS.nd
    obtain ⟨a, rfl⟩ := ws1 hl
    refine Ss_one (S_ret (E_make (mk_R T) hr (As_cons (E_ixT (E_fld ?_)))))
    refine E_var 0 rfl ?_
    refine ⟨p, _, dx, _, _, rfl, hp, cls_k T .s, noa_k T .s, rfl, ?_⟩
    refine E_int ?_
    refine ⟨t, _, _, _, rfl, rfl, ht.t, rfl, As_nil fun y dx2 H2 hy e2 h2 => ?_⟩
    exact Gate_made (k := .r) (ws := [a]) hy e2 h2 rfl hn hb fun v H3 e3 g3 => fin _ _ e3 g3
theorem sc_baR : FnScope ["self"] ["self"] (defScope s_R_back) := ⟨rfl, rfl, rfl, by decide +kernel, rfl, by decide +kernel, by decide +kernel⟩
theorem ba_R (T : Txt K mg) : MCal P w K mg base 5 (He.ga K "R") "back" (spBack K .r) := by
  refine mcal_ok T.d_R_back T.m_R_back sc_baR (fun _ _ _ _ _ _ us hl => match us, hl with | [_], _ => rfl) (fun vs H Q E h => ?_) (fun cdv A outer s H vs Q E hr h => ?_)
  · obtain ⟨_, _, rfl, _⟩ := h
    rfl
  · obtain ⟨v, ws, rfl, ⟨p, dx, t, rfl, hp, ht⟩, hl, hn, hb, fin⟩ := h
    have nd := sc_baR.nd
    obtain ⟨a, rfl⟩ := ws1 hl
    refine Ss_one (S_ret (E_make (mk_S T) hr (As_cons (E_ixT (E_fld ?_)))))
    refine E_var 0 rfl ?_
    refine ⟨p, _, dx, _, _, rfl, hp, cls_k T .r, noa_k T .r, rfl, ?_⟩
    refine E_int ?_
    refine ⟨t, _, _, _, rfl, rfl, ht.t, rfl, As_nil fun y dx2 H2 hy e2 h2 => ?_⟩
    exact Gate_made (k := .s) (ws := [a]) hy e2 h2 rfl hn hb fun v H3 e3 g3 => fin _ _ e3 g3
theorem sc_baT : FnScope ["self"] ["self"] (defScope s_T_back) := ⟨rfl, rfl, rfl, by decide +kernel, rfl, by decide +kernel, by decide +kernel⟩
theorem ba_T (T : Txt K mg) : MCal P w K mg base 5 (He.ga K "T") "back" (spBack K .t) := by
  refine mcal_ok T.d_T_back T.m_T_back sc_baT (fun _ _ _ _ _ _ us hl => match us, hl with | [_], _ => rfl) (fun vs H Q E h => ?_) (fun cdv A outer s H vs Q E hr h => ?_)
  · obtain ⟨_, _, rfl, _⟩ := h
    rfl
  · obtain ⟨v, ws, rfl, ⟨p, dx, t, rfl, hp, ht⟩, hl, hn, hb, fin⟩ := h
    have nd := sc_baT.nd
    obtain ⟨a, rfl⟩ := ws1 hl
    refine Ss_one (S_ret (E_make (mk_U T) hr (As_cons (E_ixT (E_fld ?_)))))
    refine E_var 0 rfl ?_
    refine ⟨p, _, dx, _, _, rfl, hp, cls_k T .t, noa_k T .t, rfl, ?_⟩
    refine E_int ?_
    refine ⟨t, _, _, _, rfl, rfl, ht.t, rfl, As_nil fun y dx2 H2 hy e2 h2 => ?_⟩
    exact Gate_made (k := .u) (ws := [a]) hy e2 h2 rfl hn hb fun v H3 e3 g3 => fin _ _ e3 g3
theorem sc_baU : FnScope ["self"] ["self"] (defScope s_U_back) := ⟨rfl, rfl, rfl, by decide +kernel, rfl, by decide +kernel, by decide +kernel⟩
theorem ba_U (T : Txt K mg) : MCal P w K mg base 5 (He.ga K "U") "back" (spBack K .u) := by
  refine mcal_ok T.d_U_back T.m_U_back sc_baU (fun _ _ _ _ _ _ us hl => match us, hl with | [_], _ => rfl) (fun vs H Q E h => ?_) (fun cdv A outer s H vs Q E hr h => ?_)
  · obtain ⟨_, _, rfl, _⟩ := h
    rfl
  · obtain ⟨v, ws, rfl, ⟨p, dx, t, rfl, hp, ht⟩, hl, hn, hb, fin⟩ := h
    have nd := sc_baU.nd
    obtain ⟨a, rfl⟩ := ws1 hl
    refine Ss_one (S_ret (E_make (mk_T T) hr (As_cons (E_ixT (E_fld ?_)))))
    refine E_var 0 rfl ?_
    refine ⟨p, _, dx, _, _, rfl, hp, cls_k T .u, noa_k T .u, rfl, ?_⟩
    refine E_int ?_
    refine ⟨t, _, _, _, rfl, rfl, ht.t, rfl, As_nil fun y dx2 H2 hy e2 h2 => ?_⟩
    exact Gate_made (k := .t) (ws := [a]) hy e2 h2 rfl hn hb fun v H3 e3 g3 => fin _ _ e3 g3
theorem ok_back (T : Txt K mg) (k : Kd) : MCal P w K mg base 5 (He.ga K k.nm) "back" (spBack K k) := by
  obtain ⟨fd, F⟩ := T.d_Gate_back
  cases k
  · exact ⟨_, fd, _, T.e_back_X ▸ T.m_X_back, in_back .x rfl F, F.bindsN (fun _ _ _ _ _ _ us hl => match us, hl with | [_], _ => rfl)⟩
  · exact ⟨_, fd, _, T.e_back_Y ▸ T.m_Y_back, in_back .y rfl F, F.bindsN (fun _ _ _ _ _ _ us hl => match us, hl with | [_], _ => rfl)⟩
  · exact ⟨_, fd, _, T.e_back_Z ▸ T.m_Z_back, in_back .z rfl F, F.bindsN (fun _ _ _ _ _ _ us hl => match us, hl with | [_], _ => rfl)⟩
  · exact ba_S T
  · exact ba_R T
  · exact ba_T T
  · exact ba_U T
  · exact ⟨_, fd, _, T.e_back_H ▸ T.m_H_back, in_back .h rfl F, F.bindsN (fun _ _ _ _ _ _ us hl => match us, hl with | [_], _ => rfl)⟩
  · exact ⟨_, fd, _, T.e_back_Cx ▸ T.m_Cx_back, in_back .cx rfl F, F.bindsN (fun _ _ _ _ _ _ us hl => match us, hl with | [_], _ => rfl)⟩
  · exact ⟨_, fd, _, T.e_back_Cz ▸ T.m_Cz_back, in_back .cz rfl F, F.bindsN (fun _ _ _ _ _ _ us hl => match us, hl with | [_], _ => rfl)⟩
  · exact ⟨_, fd, _, T.e_back_Swap ▸ T.m_Swap_back, in_back .swap rfl F, F.bindsN (fun _ _ _ _ _ _ us hl => match us, hl with | [_], _ => rfl)⟩
  · exact ⟨_, fd, _, T.e_back_Ccx ▸ T.m_Ccx_back, in_back .ccx rfl F, F.bindsN (fun _ _ _ _ _ _ us hl => match us, hl with | [_], _ => rfl)⟩
end
end BW

set_option Elab.async false
set_option linter.all false
set_option maxRecDepth 100000
set_option maxHeartbeats 4000000
namespace BW
open PySem PySem.Spec PyProof.Rows L2
section
variable {P : Program} {w : World} {K : PySem.W.Frag} {mg : Str → Option Value} {base : Heap}
/-! ### where a row's bits go -/
def bitsV (bs : List Bool) : List V := bs.map fun b => V.int (b.toNat : Nat)
/-- one of the triples: its list is not the one at f -/
def OutA (K : PySem.W.Frag) (f : Addr) (H : Hp) (v : V) (u : List Bool × Nat × Nat) : Prop := ∃ p l, v = .ref p ∧ SqT K H p [.ref l, .int (u.2.1 : Nat), .int (u.2.2 : Nat)] ∧ H l = some (.lst (bitsV u.1)) ∧ l ≠ f
def GoA (K : PySem.W.Frag) (f : Addr) (H : Hp) (v : V) (os : List (List Bool × Nat × Nat)) : Prop := ∃ l vs, v = .ref l ∧ H l = some (.lst vs) ∧ l ≠ f ∧ All2 (OutA K f H) vs os
theorem OutA.exb {f : Addr} {H H' : Hp} {xs : List V} {v : V} {u : List Bool × Nat × Nat} (h : OutA K f H v u) (e : ExB f H H') (hf : H f = some (.lst xs)) : OutA K f H' v u := by
  obtain ⟨p, l, rfl, h1, h2, h3⟩ := h
  exact ⟨p, l, rfl, SqT.fz h1 (ExB.fz e hf), e _ _ h3 h2, h3⟩
theorem OutA.ex {f : Addr} {H H' : Hp} {v : V} {u : List Bool × Nat × Nat} (h : OutA K f H v u) (e : Ex H H') : OutA K f H' v u := by
  obtain ⟨p, l, rfl, h1, h2, h3⟩ := h
  exact ⟨p, l, rfl, SqT.fz h1 (Fz.of e), e _ _ h2, h3⟩
theorem new_ne {f p : Addr} {H : Hp} (hf : H f ≠ none) (hp : H p = none) : p ≠ f := fun z => hf (by rw [← z]; exact hp)
theorem ex_some {f : Addr} {H H' : Hp} (e : Ex H H') (hf : H f ≠ none) : H' f ≠ none := by
  cases h : H f with
  | none => exact (hf h).elim
  | some o => rw [e _ _ h]; exact fun z => nomatch z
theorem out_new {f l t : Addr} {H1 H2 H3 : Hp} {u : List Bool × Nat × Nat} (h1 : H1 l = some (.lst (bitsV u.1))) (n1 : l ≠ f) (e2 : Ex H1 H2) (h2 : H2 t = some (.tup [.ref l, .int (u.2.1 : Nat), .int (u.2.2 : Nat)])) (e3 : Ex H2 H3) : OutA K f H3 (.ref t) u :=
  ⟨t, l, rfl, SqT.of (e3 _ _ h2), e3 _ _ (e2 _ _ h1), n1⟩
theorem go_one {f l t g : Addr} {H1 H2 H3 : Hp} {u : List Bool × Nat × Nat} (hf : H1 f ≠ none) (h1 : H1 l = some (.lst (bitsV u.1))) (n1 : l ≠ f) (e2 : Ex H1 H2) (h2 : H2 t = some (.tup [.ref l, .int (u.2.1 : Nat), .int (u.2.2 : Nat)])) (z3 : H2 g = none) (e3 : Ex H2 H3) (h3 : H3 g = some (.lst [.ref t])) : GoA K f H3 (.ref g) [u] :=
  ⟨g, _, rfl, h3, new_ne (ex_some e2 hf) z3, .cons (out_new h1 n1 e2 h2 e3) .nil⟩
theorem go_two {f l t l' t' g : Addr} {H1 H2 H3 H4 H5 : Hp} {u u' : List Bool × Nat × Nat} (hf : H1 f ≠ none) (h1 : H1 l = some (.lst (bitsV u.1))) (n1 : l ≠ f) (e2 : Ex H1 H2) (h2 : H2 t = some (.tup [.ref l, .int (u.2.1 : Nat), .int (u.2.2 : Nat)]))
    (e3 : Ex H2 H3) (h3 : H3 l' = some (.lst (bitsV u'.1))) (n3 : l' ≠ f) (e4 : Ex H3 H4) (h4 : H4 t' = some (.tup [.ref l', .int (u'.2.1 : Nat), .int (u'.2.2 : Nat)])) (z5 : H4 g = none) (e5 : Ex H4 H5) (h5 : H5 g = some (.lst [.ref t, .ref t'])) : GoA K f H5 (.ref g) [u, u'] :=
  ⟨g, _, rfl, h5, new_ne (ex_some (e2.trans (e3.trans e4)) hf) z5, .cons (out_new h1 n1 e2 h2 (e3.trans (e4.trans e5))) (.cons (out_new h3 n3 e4 h4 e5) .nil)⟩
def spGoes (K : PySem.W.Frag) (k : Kd) : Sp := fun vs H Q _ => ∃ (v : V) (ws : List Nat) (l f : Addr) (bs : List Bool), vs = [v, .ref l] ∧ GtA K H v ⟨k, ws⟩ ∧ H l = some (.lst (bitsV bs)) ∧ bs.length = k.arity ∧ H f ≠ none ∧ l ≠ f ∧ ∀ r H', Ex H H' → GoA K f H' r (goes k bs) → Q r H'
theorem bs1 {bs : List Bool} (h : bs.length = 1) : ∃ a, bs = [a] := by
  match bs, h with
  | [a], _ => exact ⟨a, rfl⟩
theorem bs2 {bs : List Bool} (h : bs.length = 2) : ∃ a b, bs = [a, b] := by
  match bs, h with
  | [a, b], _ => exact ⟨a, b, rfl⟩
theorem bs3 {bs : List Bool} (h : bs.length = 3) : ∃ a b c, bs = [a, b, c] := by
  match bs, h with
  | [a, b, c], _ => exact ⟨a, b, c, rfl⟩
theorem sm4 : ∀ j : Int, CMul 4 j := fun j => .inl ⟨by decide, by decide⟩
theorem sm_bit (i : Int) (b : Bool) : CMul i ((b.toNat : Nat) : Int) := .inr (by cases b <;> exact ⟨by decide, by decide⟩)
theorem sc_goX : FnScope ["self", "bits"] ["self", "bits"] (defScope s_X_goes) := ⟨rfl, rfl, rfl, by decide +kernel, rfl, by decide +kernel, by decide +kernel⟩
theorem go_X (T : Txt K mg) : MCal P w K mg base 2 (He.ga K "X") "goes" (spGoes K .x) := by
  refine mcal_ok T.d_X_goes T.m_X_goes sc_goX (fun _ _ _ _ _ _ us hl => match us, hl with | [_, _], _ => rfl) (fun vs H Q E h => ?_) (fun cdv A outer s H vs Q E hr h => ?_)
  · obtain ⟨_, _, _, _, _, rfl, _⟩ := h
    rfl
  · obtain ⟨v, ws, l, f, bs, rfl, hv, hl, hn, hf, nf, fin⟩ := h
    obtain ⟨a, rfl⟩ := bs1 hn
    have nd := sc_goX.nd
    have hb : SqL K H l (bitsV [a]) := SqL.of hl
    refine Ss_one ?_
    refine S_ret ?_
    refine E_lst ?_
    refine As_cons ?_
    refine E_tup ?_
    refine As_cons ?_
    refine E_lst ?_
    refine As_cons ?_
    refine E_sub ?_
    refine E_int ?_
    refine E_ixL ?_
    refine E_var 1 rfl ?_
    refine E_int ?_
    refine ⟨_, _, _, _, rfl, rfl, hb, rfl, ?_⟩
    refine ⟨_, _, rfl, rfl, ?_⟩
    refine As_nil ?_
    refine ⟨by show 1 ≤ sizeLine; decide, fun p1 H1 z1 e1 h1 => ?_⟩
    refine As_cons ?_
    refine E_int ?_
    refine As_cons ?_
    refine E_int ?_
    refine As_nil ?_
    refine ⟨by show 3 ≤ sizeLine; decide, fun p2 H2 z2 e2 h2 => ?_⟩
    refine As_nil ?_
    refine ⟨by show 1 ≤ sizeLine; decide, fun p3 H3 z3 e3 h3 => ?_⟩
    have e : ([V.int (1 - ((a.toNat : Nat) : Int))] : List V) = bitsV [!a] := by cases a <;> rfl
    rw [e] at h1
    exact fin _ _ (e1.trans (e2.trans e3)) (go_one (u := ([!a], 0, 0)) (ex_some e1 hf) h1 (new_ne hf z1) e2 h2 z3 e3 h3)
theorem sc_goY : FnScope ["self", "bits"] ["self", "bits"] (defScope s_Y_goes) := ⟨rfl, rfl, rfl, by decide +kernel, rfl, by decide +kernel, by decide +kernel⟩
theorem go_Y (T : Txt K mg) : MCal P w K mg base 2 (He.ga K "Y") "goes" (spGoes K .y) := by
  refine mcal_ok T.d_Y_goes T.m_Y_goes sc_goY (fun _ _ _ _ _ _ us hl => match us, hl with | [_, _], _ => rfl) (fun vs H Q E h => ?_) (fun cdv A outer s H vs Q E hr h => ?_)
  · obtain ⟨_, _, _, _, _, rfl, _⟩ := h
    rfl
  · obtain ⟨v, ws, l, f, bs, rfl, hv, hl, hn, hf, nf, fin⟩ := h
    obtain ⟨a, rfl⟩ := bs1 hn
    have nd := sc_goY.nd
    have hb : SqL K H l (bitsV [a]) := SqL.of hl
    refine Ss_one (S_ret (E_lst (As_cons (E_tup (As_cons (E_lst (As_cons ?_)))))))
    refine E_sub ?_
    refine E_int ?_
    refine E_ixL ?_
    refine E_var 1 rfl ?_
    refine E_int ?_
    refine ⟨_, _, _, _, rfl, rfl, hb, rfl, ?_⟩
    refine ⟨_, _, rfl, rfl, ?_⟩
    refine As_nil ⟨by show 1 ≤ sizeLine; decide, fun p1 H1 z1 e1 h1 => ?_⟩
    refine As_cons (E_add ?_)
    have hb1 := SqL.ex hb e1
    refine E_int ?_
    refine E_mul ?_
    refine E_int ?_
    refine E_ixL ?_
    refine E_var 1 rfl ?_
    refine E_int ?_
    refine ⟨_, _, _, _, rfl, rfl, hb1, rfl, ?_⟩
    refine ⟨_, _, rfl, rfl, sm4 _, _, _, rfl, rfl, As_cons ?_⟩
    refine E_int ?_
    refine As_nil ⟨by show 3 ≤ sizeLine; decide, fun p2 H2 z2 e2 h2 => ?_⟩
    refine As_nil ⟨by show 1 ≤ sizeLine; decide, fun p3 H3 z3 e3 h3 => ?_⟩
    have e : ([V.int (1 - ((a.toNat : Nat) : Int))] : List V) = bitsV [!a] := by cases a <;> rfl
    rw [e] at h1
    have et : (2 : Int) + 4 * ((a.toNat : Nat) : Int) = ((2 + 4 * a.toNat : Nat) : Int) := by cases a <;> rfl
    rw [et] at h2
    exact fin _ _ (e1.trans (e2.trans e3)) (go_one (u := ([!a], 2 + 4 * a.toNat, 0)) (ex_some e1 hf) h1 (new_ne hf z1) e2 h2 z3 e3 h3)
theorem sc_goH : FnScope ["self", "bits"] ["self", "bits"] (defScope s_H_goes) := ⟨rfl, rfl, rfl, by decide +kernel, rfl, by decide +kernel, by decide +kernel⟩
theorem go_H (T : Txt K mg) : MCal P w K mg base 2 (He.ga K "H") "goes" (spGoes K .h) := by
  refine mcal_ok T.d_H_goes T.m_H_goes sc_goH (fun _ _ _ _ _ _ us hl => match us, hl with | [_, _], _ => rfl) (fun vs H Q E h => ?_) (fun cdv A outer s H vs Q E hr h => ?_)
  · obtain ⟨_, _, _, _, _, rfl, _⟩ := h
    rfl
  · obtain ⟨v, ws, l, f, bs, rfl, hv, hl, hn, hf, nf, fin⟩ := h
    obtain ⟨a, rfl⟩ := bs1 hn
    have nd := sc_goH.nd
    have hb : SqL K H l (bitsV [a]) := SqL.of hl
    refine Ss_one (S_ret (E_lst (As_cons ?_)))
    refine E_tup ?_
    refine As_cons ?_
    refine E_lst ?_
    refine As_cons ?_
    refine E_int ?_
    refine As_nil ?_
    refine ⟨by show 1 ≤ sizeLine; decide, fun p1 H1 z1 e1 h1 => ?_⟩
    refine As_cons ?_
    refine E_int ?_
    refine As_cons ?_
    refine E_int ?_
    refine As_nil ?_
    refine ⟨by show 3 ≤ sizeLine; decide, fun p2 H2 z2 e2 h2 => ?_⟩
    refine As_cons (E_tup ?_)
    refine As_cons ?_
    refine E_lst ?_
    refine As_cons ?_
    refine E_int ?_
    refine As_nil ?_
    refine ⟨by show 1 ≤ sizeLine; decide, fun p3 H3 z3 e3 h3 => ?_⟩
    refine As_cons (E_mul ?_)
    have hb1 := SqL.ex hb (e1.trans (e2.trans e3))
    refine E_int ?_
    refine E_ixL ?_
    refine E_var 1 rfl ?_
    refine E_int ?_
    refine ⟨_, _, _, _, rfl, rfl, hb1, rfl, ?_⟩
    refine ⟨_, _, rfl, rfl, sm4 _, As_cons ?_⟩
    refine E_int ?_
    refine As_nil ⟨by show 3 ≤ sizeLine; decide, fun p4 H4 z4 e4 h4 => ?_⟩
    refine As_nil ⟨by show 2 ≤ sizeLine; decide, fun p5 H5 z5 e5 h5 => ?_⟩
    have et : (4 : Int) * ((a.toNat : Nat) : Int) = ((4 * a.toNat : Nat) : Int) := by cases a <;> rfl
    rw [et] at h4
    have e12 := e1.trans e2
    exact fin _ _ (e12.trans (e3.trans (e4.trans e5))) (go_two (u := ([false], 0, 1)) (u' := ([true], 4 * a.toNat, 1)) (ex_some e1 hf) h1 (new_ne hf z1) e2 h2 e3 h3 (new_ne (ex_some e12 hf) z3) e4 h4 z5 e5 h5)
theorem sc_goCx : FnScope ["self", "bits"] ["self", "bits"] (defScope s_Cx_goes) := ⟨rfl, rfl, rfl, by decide +kernel, rfl, by decide +kernel, by decide +kernel⟩
theorem go_Cx (T : Txt K mg) : MCal P w K mg base 2 (He.ga K "Cx") "goes" (spGoes K .cx) := by
  refine mcal_ok T.d_Cx_goes T.m_Cx_goes sc_goCx (fun _ _ _ _ _ _ us hl => match us, hl with | [_, _], _ => rfl) (fun vs H Q E h => ?_) (fun cdv A outer s H vs Q E hr h => ?_)
  · obtain ⟨_, _, _, _, _, rfl, _⟩ := h
    rfl
  · obtain ⟨v, ws, l, f, bs, rfl, hv, hl, hn, hf, nf, fin⟩ := h
    obtain ⟨a, b, rfl⟩ := bs2 hn
    have nd := sc_goCx.nd
    have hb : SqL K H l (bitsV [a, b]) := SqL.of hl
    refine Ss_one ?_
    refine S_ret ?_
    refine E_lst ?_
    refine As_cons ?_
    refine E_tup ?_
    refine As_cons ?_
    refine E_lst ?_
    refine As_cons ?_
    refine E_ixL ?_
    refine E_var 1 rfl ?_
    refine E_int ?_
    refine ⟨_, _, _, _, rfl, rfl, hb, rfl, ?_⟩
    refine As_cons ?_
    refine E_bxor ?_
    refine E_ixL ?_
    refine E_var 1 rfl ?_
    refine E_int ?_
    refine ⟨_, _, _, _, rfl, rfl, hb, rfl, ?_⟩
    refine E_ixL ?_
    refine E_var 1 rfl ?_
    refine E_int ?_
    refine ⟨_, _, _, _, rfl, rfl, hb, rfl, ?_⟩
    refine ⟨_, _, rfl, rfl, ?_⟩
    refine As_nil ?_
    refine ⟨by show 2 ≤ sizeLine; decide, fun p1 H1 z1 e1 h1 => ?_⟩
    refine As_cons ?_
    refine E_int ?_
    refine As_cons ?_
    refine E_int ?_
    refine As_nil ?_
    refine ⟨by show 3 ≤ sizeLine; decide, fun p2 H2 z2 e2 h2 => ?_⟩
    refine As_nil ?_
    refine ⟨by show 1 ≤ sizeLine; decide, fun p3 H3 z3 e3 h3 => ?_⟩
    have e : ([V.int ((a.toNat : Nat) : Int), V.int (Builtin.bitXor ((a.toNat : Nat) : Int) ((b.toNat : Nat) : Int))] : List V) = bitsV [a, xor a b] := by cases a <;> cases b <;> rfl
    rw [e] at h1
    exact fin _ _ (e1.trans (e2.trans e3)) (go_one (u := ([a, xor a b], 0, 0)) (ex_some e1 hf) h1 (new_ne hf z1) e2 h2 z3 e3 h3)
theorem sc_goCz : FnScope ["self", "bits"] ["self", "bits"] (defScope s_Cz_goes) := ⟨rfl, rfl, rfl, by decide +kernel, rfl, by decide +kernel, by decide +kernel⟩
theorem go_Cz (T : Txt K mg) : MCal P w K mg base 2 (He.ga K "Cz") "goes" (spGoes K .cz) := by
  refine mcal_ok T.d_Cz_goes T.m_Cz_goes sc_goCz (fun _ _ _ _ _ _ us hl => match us, hl with | [_, _], _ => rfl) (fun vs H Q E h => ?_) (fun cdv A outer s H vs Q E hr h => ?_)
  · obtain ⟨_, _, _, _, _, rfl, _⟩ := h
    rfl
  · obtain ⟨v, ws, l, f, bs, rfl, hv, hl, hn, hf, nf, fin⟩ := h
    obtain ⟨a, b, rfl⟩ := bs2 hn
    have nd := sc_goCz.nd
    have hb : SqL K H l (bitsV [a, b]) := SqL.of hl
    refine Ss_one (S_ret (E_lst (As_cons (E_tup (As_cons ?_)))))
    refine E_var 1 rfl ?_
    refine As_cons (E_mul (E_mul ?_))
    refine E_int ?_
    refine E_ixL ?_
    refine E_var 1 rfl ?_
    refine E_int ?_
    refine ⟨_, _, _, _, rfl, rfl, hb, rfl, ?_⟩
    refine ⟨_, _, rfl, rfl, sm4 _, ?_⟩
    refine E_ixL ?_
    refine E_var 1 rfl ?_
    refine E_int ?_
    refine ⟨_, _, _, _, rfl, rfl, hb, rfl, ?_⟩
    refine ⟨_, _, rfl, rfl, sm_bit _ _, As_cons ?_⟩
    refine E_int ?_
    refine As_nil ⟨by show 3 ≤ sizeLine; decide, fun p1 H1 z1 e1 h1 => ?_⟩
    refine As_nil ⟨by show 1 ≤ sizeLine; decide, fun p2 H2 z2 e2 h2 => ?_⟩
    have et : (4 : Int) * ((a.toNat : Nat) : Int) * ((b.toNat : Nat) : Int) = ((4 * a.toNat * b.toNat : Nat) : Int) := by cases a <;> cases b <;> rfl
    rw [et] at h1
    exact fin _ _ (e1.trans e2) (go_one (u := ([a, b], 4 * a.toNat * b.toNat, 0)) hf hl nf e1 h1 z2 e2 h2)
theorem sc_goSwap : FnScope ["self", "bits"] ["self", "bits"] (defScope s_Swap_goes) := ⟨rfl, rfl, rfl, by decide +kernel, rfl, by decide +kernel, by decide +kernel⟩
theorem go_Swap (T : Txt K mg) : MCal P w K mg base 2 (He.ga K "Swap") "goes" (spGoes K .swap) := by
  refine mcal_ok T.d_Swap_goes T.m_Swap_goes sc_goSwap (fun _ _ _ _ _ _ us hl => match us, hl with | [_, _], _ => rfl) (fun vs H Q E h => ?_) (fun cdv A outer s H vs Q E hr h => ?_)
  · obtain ⟨_, _, _, _, _, rfl, _⟩ := h
    rfl
  · obtain ⟨v, ws, l, f, bs, rfl, hv, hl, hn, hf, nf, fin⟩ := h
    obtain ⟨a, b, rfl⟩ := bs2 hn
    have nd := sc_goSwap.nd
    have hb : SqL K H l (bitsV [a, b]) := SqL.of hl
    refine Ss_one ?_
    refine S_ret ?_
    refine E_lst ?_
    refine As_cons ?_
    refine E_tup ?_
    refine As_cons ?_
    refine E_lst ?_
    refine As_cons ?_
    refine E_ixL ?_
    refine E_var 1 rfl ?_
    refine E_int ?_
    refine ⟨_, _, _, _, rfl, rfl, hb, rfl, ?_⟩
    refine As_cons ?_
    refine E_ixL ?_
    refine E_var 1 rfl ?_
    refine E_int ?_
    refine ⟨_, _, _, _, rfl, rfl, hb, rfl, ?_⟩
    refine As_nil ?_
    refine ⟨by show 2 ≤ sizeLine; decide, fun p1 H1 z1 e1 h1 => ?_⟩
    refine As_cons ?_
    refine E_int ?_
    refine As_cons ?_
    refine E_int ?_
    refine As_nil ?_
    refine ⟨by show 3 ≤ sizeLine; decide, fun p2 H2 z2 e2 h2 => ?_⟩
    refine As_nil ?_
    refine ⟨by show 1 ≤ sizeLine; decide, fun p3 H3 z3 e3 h3 => ?_⟩
    exact fin _ _ (e1.trans (e2.trans e3)) (go_one (u := ([b, a], 0, 0)) (ex_some e1 hf) h1 (new_ne hf z1) e2 h2 z3 e3 h3)
theorem sc_goCcx : FnScope ["self", "bits"] ["self", "bits"] (defScope s_Ccx_goes) := ⟨rfl, rfl, rfl, by decide +kernel, rfl, by decide +kernel, by decide +kernel⟩
theorem go_Ccx (T : Txt K mg) : MCal P w K mg base 2 (He.ga K "Ccx") "goes" (spGoes K .ccx) := by
  refine mcal_ok T.d_Ccx_goes T.m_Ccx_goes sc_goCcx (fun _ _ _ _ _ _ us hl => match us, hl with | [_, _], _ => rfl) (fun vs H Q E h => ?_) (fun cdv A outer s H vs Q E hr h => ?_)
  · obtain ⟨_, _, _, _, _, rfl, _⟩ := h
    rfl
  · obtain ⟨v, ws, l, f, bs, rfl, hv, hl, hn, hf, nf, fin⟩ := h
    obtain ⟨a, b, c, rfl⟩ := bs3 hn
    have nd := sc_goCcx.nd
    have hb : SqL K H l (bitsV [a, b, c]) := SqL.of hl
    refine Ss_one ?_
    refine S_ret ?_
    refine E_lst ?_
    refine As_cons ?_
    refine E_tup ?_
    refine As_cons ?_
    refine E_lst ?_
    refine As_cons ?_
    refine E_ixL ?_
    refine E_var 1 rfl ?_
    refine E_int ?_
    refine ⟨_, _, _, _, rfl, rfl, hb, rfl, ?_⟩
    refine As_cons ?_
    refine E_ixL ?_
    refine E_var 1 rfl ?_
    refine E_int ?_
    refine ⟨_, _, _, _, rfl, rfl, hb, rfl, ?_⟩
    refine As_cons ?_
    refine E_bxor ?_
    refine E_ixL ?_
    refine E_var 1 rfl ?_
    refine E_int ?_
    refine ⟨_, _, _, _, rfl, rfl, hb, rfl, ?_⟩
    refine E_band ?_
    refine E_ixL ?_
    refine E_var 1 rfl ?_
    refine E_int ?_
    refine ⟨_, _, _, _, rfl, rfl, hb, rfl, ?_⟩
    refine E_ixL ?_
    refine E_var 1 rfl ?_
    refine E_int ?_
    refine ⟨_, _, _, _, rfl, rfl, hb, rfl, ?_⟩
    refine ⟨_, _, rfl, rfl, ?_⟩
    refine ⟨_, _, rfl, rfl, ?_⟩
    refine As_nil ?_
    refine ⟨by show 3 ≤ sizeLine; decide, fun p1 H1 z1 e1 h1 => ?_⟩
    refine As_cons ?_
    refine E_int ?_
    refine As_cons ?_
    refine E_int ?_
    refine As_nil ?_
    refine ⟨by show 3 ≤ sizeLine; decide, fun p2 H2 z2 e2 h2 => ?_⟩
    refine As_nil ?_
    refine ⟨by show 1 ≤ sizeLine; decide, fun p3 H3 z3 e3 h3 => ?_⟩
    have e : ([V.int ((a.toNat : Nat) : Int), V.int ((b.toNat : Nat) : Int), V.int (Builtin.bitXor ((c.toNat : Nat) : Int) (Builtin.bitAnd ((a.toNat : Nat) : Int) ((b.toNat : Nat) : Int)))] : List V) = bitsV [a, b, xor c (a && b)] := by cases a <;> cases b <;> cases c <;> rfl
    rw [e] at h1
    exact fin _ _ (e1.trans (e2.trans e3)) (go_one (u := ([a, b, xor c (a && b)], 0, 0)) (ex_some e1 hf) h1 (new_ne hf z1) e2 h2 z3 e3 h3)
theorem sc_tuZ : FnScope ["self"] ["self"] (defScope s_Z_turns) := ⟨rfl, rfl, rfl, by decide +kernel, rfl, by decide +kernel, by decide +kernel⟩
theorem tu_Z (T : Txt K mg) : MCal P w K mg base 1 (He.ga K "Z") "turns" (fun vs H Q E => ∃ v, vs = [v] ∧ Q (.int 4) H) := by
  refine mcal_ok T.d_Z_turns T.m_Z_turns sc_tuZ (fun _ _ _ _ _ _ us hl => match us, hl with | [_], _ => rfl) (fun vs H Q E h => ?_) (fun cdv A outer s H vs Q E hr h => ?_)
  · obtain ⟨_, rfl, _⟩ := h
    rfl
  · obtain ⟨v, rfl, fin⟩ := h
    exact Ss_one (S_ret (E_int fin))
theorem sc_tuS : FnScope ["self"] ["self"] (defScope s_S_turns) := ⟨rfl, rfl, rfl, by decide +kernel, rfl, by decide +kernel, by decide +kernel⟩
theorem tu_S (T : Txt K mg) : MCal P w K mg base 1 (He.ga K "S") "turns" (fun vs H Q E => ∃ v, vs = [v] ∧ Q (.int 2) H) := by
  refine mcal_ok T.d_S_turns T.m_S_turns sc_tuS (fun _ _ _ _ _ _ us hl => match us, hl with | [_], _ => rfl) (fun vs H Q E h => ?_) (fun cdv A outer s H vs Q E hr h => ?_)
  · obtain ⟨_, rfl, _⟩ := h
    rfl
  · obtain ⟨v, rfl, fin⟩ := h
    exact Ss_one (S_ret (E_int fin))
theorem sc_tuR : FnScope ["self"] ["self"] (defScope s_R_turns) := ⟨rfl, rfl, rfl, by decide +kernel, rfl, by decide +kernel, by decide +kernel⟩
theorem tu_R (T : Txt K mg) : MCal P w K mg base 1 (He.ga K "R") "turns" (fun vs H Q E => ∃ v, vs = [v] ∧ Q (.int 6) H) := by
  refine mcal_ok T.d_R_turns T.m_R_turns sc_tuR (fun _ _ _ _ _ _ us hl => match us, hl with | [_], _ => rfl) (fun vs H Q E h => ?_) (fun cdv A outer s H vs Q E hr h => ?_)
  · obtain ⟨_, rfl, _⟩ := h
    rfl
  · obtain ⟨v, rfl, fin⟩ := h
    exact Ss_one (S_ret (E_int fin))
theorem sc_tuT : FnScope ["self"] ["self"] (defScope s_T_turns) := ⟨rfl, rfl, rfl, by decide +kernel, rfl, by decide +kernel, by decide +kernel⟩
theorem tu_T (T : Txt K mg) : MCal P w K mg base 1 (He.ga K "T") "turns" (fun vs H Q E => ∃ v, vs = [v] ∧ Q (.int 1) H) := by
  refine mcal_ok T.d_T_turns T.m_T_turns sc_tuT (fun _ _ _ _ _ _ us hl => match us, hl with | [_], _ => rfl) (fun vs H Q E h => ?_) (fun cdv A outer s H vs Q E hr h => ?_)
  · obtain ⟨_, rfl, _⟩ := h
    rfl
  · obtain ⟨v, rfl, fin⟩ := h
    exact Ss_one (S_ret (E_int fin))
theorem sc_tuU : FnScope ["self"] ["self"] (defScope s_U_turns) := ⟨rfl, rfl, rfl, by decide +kernel, rfl, by decide +kernel, by decide +kernel⟩
theorem tu_U (T : Txt K mg) : MCal P w K mg base 1 (He.ga K "U") "turns" (fun vs H Q E => ∃ v, vs = [v] ∧ Q (.int 7) H) := by
  refine mcal_ok T.d_U_turns T.m_U_turns sc_tuU (fun _ _ _ _ _ _ us hl => match us, hl with | [_], _ => rfl) (fun vs H Q E h => ?_) (fun cdv A outer s H vs Q E hr h => ?_)
  · obtain ⟨_, rfl, _⟩ := h
    rfl
  · obtain ⟨v, rfl, fin⟩ := h
    exact Ss_one (S_ret (E_int fin))
def Kd.isT : Kd → Bool
  | .z | .s | .r | .t | .u => true
  | _ => false
theorem ok_turns (T : Txt K mg) (k : Kd) (hk : k.isT = true) : MCal P w K mg base 1 (He.ga K k.nm) "turns" (fun vs H Q E => ∃ v, vs = [v] ∧ Q (.int (k.trn : Nat)) H) := by
  cases k
  · cases hk
  · cases hk
  · exact tu_Z T
  · exact tu_S T
  · exact tu_R T
  · exact tu_T T
  · exact tu_U T
  · cases hk
  · cases hk
  · cases hk
  · cases hk
  · cases hk
theorem sc_goT : FnScope ["self", "bits"] ["self", "bits"] (defScope s_Turner_goes) := ⟨rfl, rfl, rfl, by decide +kernel, rfl, by decide +kernel, by decide +kernel⟩
theorem in_goT (T : Txt K mg) (k : Kd) (hk : k.isT = true) {ff : Addr} {fd : FuncData} (F : FnF K "goes" "Turner.goes" s_Turner_goes ff fd) : FnOk P w K mg base CX0 2 ff fd ["self", "bits"] (spGoes K k) := by
  have ha : k.arity = 1 := by cases k <;> first | rfl | cases hk
  have hg : ∀ b, goes k [b] = [([b], k.trn * b.toNat, 0)] := by cases k <;> first | (intro b; rfl) | cases hk
  have hs : CMul ((k.trn : Nat) : Int) 0 ∧ ∀ j, CMul ((k.trn : Nat) : Int) j := by cases k <;> exact ⟨.inl ⟨by decide, by decide⟩, fun _ => .inl ⟨by decide, by decide⟩⟩
  refine fn_ok F sc_goT (fun vs H Q E h => ?_) (fun cdv A outer s H vs Q E hr h => ?_)
  · obtain ⟨_, _, _, _, _, rfl, _⟩ := h
    rfl
  · obtain ⟨v, ws, l, f, bs, rfl, ⟨pv, dx, t, rfl, hv, _⟩, hl, hn, hf, nf, fin⟩ := h
    rw [ha] at hn
    obtain ⟨a, rfl⟩ := bs1 hn
    have nd := sc_goT.nd
    have hb : SqL K H l (bitsV [a]) := SqL.of hl
    refine Ss_one (S_ret (E_lst (As_cons (E_tup (As_cons ?_)))))
    refine E_var 1 rfl ?_
    refine As_cons (E_mul (E_meth0 (ok_turns T k hk) (cls_k T k) hr ?_))
    refine E_var 0 rfl ?_
    refine ⟨pv, dx, _, rfl, hv, rfl, _, rfl, ?_⟩
    refine E_ixL ?_
    refine E_var 1 rfl ?_
    refine E_int ?_
    refine ⟨_, _, _, _, rfl, rfl, hb, rfl, ?_⟩
    refine ⟨_, _, rfl, rfl, hs.2 _, As_cons ?_⟩
    refine E_int ?_
    refine As_nil ⟨by show 3 ≤ sizeLine; decide, fun p1 H1 z1 e1 h1 => ?_⟩
    refine As_nil ⟨by show 1 ≤ sizeLine; decide, fun p2 H2 z2 e2 h2 => ?_⟩
    have et : ((k.trn : Nat) : Int) * ((a.toNat : Nat) : Int) = ((k.trn * a.toNat : Nat) : Int) := by rw [Int.natCast_mul]
    rw [et] at h1
    refine fin _ _ (e1.trans e2) ?_
    rw [hg]
    exact go_one (u := ([a], k.trn * a.toNat, 0)) hf hl nf e1 h1 z2 e2 h2
theorem ok_goes (T : Txt K mg) (k : Kd) : MCal P w K mg base 2 (He.ga K k.nm) "goes" (spGoes K k) := by
  obtain ⟨fd, F⟩ := T.d_Turner_goes
  cases k
  · exact go_X T
  · exact go_Y T
  · exact ⟨_, fd, _, T.e_goes_Z ▸ T.m_Z_goes, in_goT T .z rfl F, F.bindsN (fun _ _ _ _ _ _ us hl => match us, hl with | [_, _], _ => rfl)⟩
  · exact ⟨_, fd, _, T.e_goes_S ▸ T.m_S_goes, in_goT T .s rfl F, F.bindsN (fun _ _ _ _ _ _ us hl => match us, hl with | [_, _], _ => rfl)⟩
  · exact ⟨_, fd, _, T.e_goes_R ▸ T.m_R_goes, in_goT T .r rfl F, F.bindsN (fun _ _ _ _ _ _ us hl => match us, hl with | [_, _], _ => rfl)⟩
  · exact ⟨_, fd, _, T.e_goes_T ▸ T.m_T_goes, in_goT T .t rfl F, F.bindsN (fun _ _ _ _ _ _ us hl => match us, hl with | [_, _], _ => rfl)⟩
  · exact ⟨_, fd, _, T.e_goes_U ▸ T.m_U_goes, in_goT T .u rfl F, F.bindsN (fun _ _ _ _ _ _ us hl => match us, hl with | [_, _], _ => rfl)⟩
  · exact go_H T
  · exact go_Cx T
  · exact go_Cz T
  · exact go_Swap T
  · exact go_Ccx T
/-! ### put_bits -/
theorem put_int : ∀ r, r < 32 → ∀ q, q < 5 → (Builtin.bitOr (Builtin.bitAnd (r : Nat) (Builtin.bitNot (1 * 2 ^ q))) (((true.toNat : Nat) : Int) * 2 ^ q) = (put1 r q true : Nat) ∧ Builtin.bitOr (Builtin.bitAnd (r : Nat) (Builtin.bitNot (1 * 2 ^ q))) (((false.toNat : Nat) : Int) * 2 ^ q) = (put1 r q false : Nat)) ∧ put1 r q true < 32 ∧ put1 r q false < 32 := by decide +kernel
theorem put_is {r q : Nat} (hr : r < 32) (hq : q < 5) (b : Bool) : Builtin.bitOr (Builtin.bitAnd (r : Nat) (Builtin.bitNot (1 * 2 ^ q))) (((b.toNat : Nat) : Int) * 2 ^ q) = (put1 r q b : Nat) ∧ put1 r q b < 32 := by
  obtain ⟨⟨h1, h2⟩, h3, h4⟩ := put_int r hr q hq
  cases b
  · exact ⟨h2, h4⟩
  · exact ⟨h1, h3⟩
/-- put_bits, i places done -/
def putN (r : Nat) (pl : List Nat) (bs : List Bool) (i : Nat) : Nat := ((pl.zip bs).take i).foldl (fun r pb => put1 r pb.1 pb.2) r
theorem putN_step {r : Nat} {pl : List Nat} {bs : List Bool} {i q : Nat} {b : Bool} (h1 : pl[i]? = some q) (h2 : bs[i]? = some b) : putN r pl bs (i + 1) = put1 (putN r pl bs i) q b := by
  have hz : (pl.zip bs)[i]? = some (q, b) := by rw [List.getElem?_zip_eq_some]; exact ⟨h1, h2⟩
  unfold putN
  rw [List.take_add_one, hz, List.foldl_append]
  rfl
theorem putN_lt {r : Nat} {pl : List Nat} {bs : List Bool} (hr : r < 32) (hp : ∀ q ∈ pl, q < 5) (hl : pl.length = bs.length) : ∀ i, i ≤ pl.length → putN r pl bs i < 32
  | 0, _ => hr
  | i + 1, h => by
    have h1 : i < pl.length := h
    have h2 : i < bs.length := by omega
    rw [putN_step (List.getElem?_eq_getElem h1) (List.getElem?_eq_getElem h2)]
    exact (put_is (putN_lt hr hp hl i (by omega)) (hp _ (List.getElem_mem h1)) _).2
def natV (ns : List Nat) : List V := ns.map fun n => V.int (n : Nat)
def spPut : Sp := fun vs H Q _ => ∃ (r : Nat) (lp lb : Addr) (pl : List Nat) (bs : List Bool), vs = [.int (r : Nat), .ref lp, .ref lb] ∧ H lp = some (.lst (natV pl)) ∧ H lb = some (.lst (bitsV bs)) ∧ pl.length = bs.length ∧ r < 32 ∧ (∀ q ∈ pl, q < 5) ∧
  ∀ H', Ex H H' → Q (.int (putB r pl bs : Nat)) H'
theorem pow_ok {i : Int} {q : Nat} (h : i.natAbs < 2 ^ 64) (hq : q < 5) : CPow i (q : Nat) := ⟨by omega, by omega, h⟩
theorem sc_put : FnScope ["row", "places", "bits", "place", "bit"] ["row", "places", "bits"] (defScope s_put_bits) := ⟨rfl, rfl, rfl, by decide +kernel, rfl, by decide +kernel, by decide +kernel⟩
theorem ok_put (T : Txt K mg) : Cal P w K mg base 1 "put_bits" spPut := by
  refine cal_ok T.d_put_bits T.g_put_bits sc_put (fun _ _ _ _ _ _ us hl => match us, hl with | [_, _, _], _ => rfl) (fun vs H Q E h => ?_) (fun cdv A outer s H vs Q E hr h => ?_)
  · obtain ⟨_, _, _, _, _, rfl, _⟩ := h
    rfl
  · obtain ⟨r, lp, lb, pl, bs, rfl, hp, hb, hlen, hr32, hq, fin⟩ := h
    have nd := sc_put.nd
    refine Ss_cons ?_
    refine S_forZ PassesOwn.never rfl T.b_zip ?_
    refine E_var 1 rfl ?_
    refine E_var 2 rfl ?_
    refine ⟨lp, lb, natV pl, bitsV bs, fun i σ' H' => ∃ z1 z2 : Option V, Ex H H' ∧ σ' = [some (.int (putN r pl bs i : Nat)), some (.ref lp), some (.ref lb), z1, z2], rfl, rfl, SqL.of hp, SqL.of hb, by unfold natV bitsV; rw [List.length_map, List.length_map]; exact hlen, ⟨none, none, Evl.Ex.refl H, rfl⟩, ?_, ?_, ?_⟩
    · rintro i σ' H' _ ⟨_, _, e, rfl⟩
      exact ⟨SqL.of (e _ _ hp), SqL.of (e _ _ hb)⟩
    · rintro i x y σ' H' H'' hx hy ⟨_, _, e, rfl⟩ e2
      unfold natV at hx
      unfold bitsV at hy
      rw [List.getElem?_map] at hx hy
      cases ex : pl[i]? with
      | none => rw [ex] at hx; cases hx
      | some q =>
        cases ey : bs[i]? with
        | none => rw [ey] at hy; cases hy
        | some b =>
          rw [ex] at hx
          rw [ey] at hy
          cases hx
          cases hy
          have hi : i ≤ pl.length := Nat.le_of_lt (List.getElem?_eq_some_iff.mp ex).1
          obtain ⟨k1, k2⟩ := put_is (putN_lt hr32 hq hlen i hi) (hq q (List.mem_of_getElem? ex)) b
          have hq5 := hq q (List.mem_of_getElem? ex)
          refine Gs_cons (G_name (i := 3) rfl (Gs_cons (G_name (i := 4) rfl (Gs_nil ?_) nd)) nd)
          refine Ss_one (S_set (i := 0) rfl (E_bor (E_band ?_)) nd)
          refine E_var 0 rfl ?_
          refine E_inv (E_shl ?_)
          refine E_int ?_
          refine E_var 3 rfl ?_
          refine ⟨_, _, rfl, rfl, pow_ok (by decide) hq5, _, rfl, _, _, rfl, rfl, E_shl ?_⟩
          refine E_var 4 rfl ?_
          refine E_var 3 rfl ?_
          refine ⟨_, _, rfl, rfl, pow_ok (by cases b <;> decide) hq5, _, _, rfl, rfl, ?_⟩
          refine ⟨some (.int (q : Nat)), some (.int (b.toNat : Nat)), e.trans e2, ?_⟩
          rw [putN_step ex ey, ← k1]
          rfl
    · rintro σ' H' ⟨_, _, e, rfl⟩
      have ee : putN r pl bs (natV pl).length = putB r pl bs := by
        unfold putN putB natV
        rw [List.length_map, List.take_of_length_le (by rw [List.length_zip]; omega)]
      rw [ee]
      refine Ss_one (S_ret ?_)
      refine E_var 0 rfl ?_
      exact fin _ e
end
end BW

set_option Elab.async false
set_option linter.all false
set_option maxRecDepth 100000
set_option maxHeartbeats 4000000
namespace BW
open PySem PySem.Spec PyProof.Rows L2
/-! ### the plain side of Gate.on -/
def onN (n : Nat) (g : Gt) (es : List Z8) (i : Nat) : List Z8 := (es.zipIdx.take i).foldl (rowO n g) (List.replicate (2 ^ n) Z8.nought)
theorem onN_step {n : Nat} {g : Gt} {es : List Z8} {i : Nat} {e : Z8} (h : es[i]? = some e) : onN n g es (i + 1) = rowO n g (onN n g es i) (e, i) := by
  have hz : es.zipIdx[i]? = some (e, i) := by rw [List.getElem?_zipIdx, h]; simp
  unfold onN
  rw [List.take_add_one, hz, List.foldl_append]
  rfl
theorem onN_all (n : Nat) (g : Gt) (es : List Z8) : onN n g es es.length = onM n g es := by
  unfold onN onM
  rw [List.take_of_length_le (by rw [List.length_zipIdx]; exact Nat.le_refl _)]
structure FdOk (n B : Nat) (fd : List Z8) : Prop where
  len : fd.length = 2 ^ n
  can : ∀ e ∈ fd, Canon e
  kk : ∀ e ∈ fd, e.k ≤ B
theorem fd_get {n B : Nat} {fd : List Z8} (h : FdOk n B fd) {j : Nat} (hj : j < 2 ^ n) : fd[j]? = some (fd.getD j Z8.nought) ∧ Canon (fd.getD j Z8.nought) ∧ (fd.getD j Z8.nought).k ≤ B := by
  have hl : j < fd.length := by rw [h.len]; exact hj
  have e : fd.getD j Z8.nought = fd[j] := by simp [List.getD, hl]
  rw [e]
  exact ⟨List.getElem?_eq_getElem hl, h.can _ (List.getElem_mem hl), h.kk _ (List.getElem_mem hl)⟩
theorem fd_step {n B : Nat} {fd : List Z8} {e : Z8} {pl : List Nat} {r : Nat} {o : List Bool × Nat × Nat} (h : FdOk n B fd) (he : e.k + 1 ≤ B) (hr : o.2.2 ≤ 1) : FdOk n B (stepO e pl r fd o) := by
  have hk : (plus (fd.getD (putB r pl o.1) Z8.nought) (overRoot (turned e o.2.1) o.2.2)).k ≤ B := by
    have h1 := plus_k (fd.getD (putB r pl o.1) Z8.nought) (overRoot (turned e o.2.1) o.2.2)
    have h2 := overRoot_k (turned e o.2.1) o.2.2
    have h3 : (turned e o.2.1).k = e.k := rfl
    have h4 : (fd.getD (putB r pl o.1) Z8.nought).k ≤ B := by
      by_cases z : putB r pl o.1 < fd.length
      · have e : fd.getD (putB r pl o.1) Z8.nought = fd[putB r pl o.1] := by simp [List.getD, z]
        rw [e]
        exact h.kk _ (List.getElem_mem z)
      · have e : fd.getD (putB r pl o.1) Z8.nought = Z8.nought := by simp [List.getD, Nat.not_lt.mp z]
        rw [e]
        exact Nat.zero_le _
    omega
  unfold stepO
  refine ⟨by rw [List.length_set]; exact h.len, fun x hx => ?_, fun x hx => ?_⟩
  · rcases List.mem_or_eq_of_mem_set hx with hx | rfl
    · exact h.can x hx
    · exact plus_canon _ _
  · rcases List.mem_or_eq_of_mem_set hx with hx | rfl
    · exact h.kk x hx
    · exact hk
theorem goes_out (k : Kd) (bs : List Bool) (h : bs.length = k.arity) : ∀ o ∈ goes k bs, o.2.2 ≤ 1 ∧ o.1.length = k.arity := by
  have h' := h
  cases k
  case ccx =>
    obtain ⟨a, b, c, rfl⟩ := bs3 h'
    intro o ho
    simp [goes] at ho
    subst ho
    exact ⟨by first | exact Nat.le_refl _ | exact Nat.zero_le _, rfl⟩
  case cx =>
    obtain ⟨a, b, rfl⟩ := bs2 h'
    intro o ho
    simp [goes] at ho
    subst ho
    exact ⟨by first | exact Nat.le_refl _ | exact Nat.zero_le _, rfl⟩
  case cz =>
    obtain ⟨a, b, rfl⟩ := bs2 h'
    intro o ho
    simp [goes] at ho
    subst ho
    exact ⟨by first | exact Nat.le_refl _ | exact Nat.zero_le _, rfl⟩
  case swap =>
    obtain ⟨a, b, rfl⟩ := bs2 h'
    intro o ho
    simp [goes] at ho
    subst ho
    exact ⟨by first | exact Nat.le_refl _ | exact Nat.zero_le _, rfl⟩
  case h =>
    obtain ⟨a, rfl⟩ := bs1 h'
    intro o ho
    simp [goes] at ho
    rcases ho with rfl | rfl <;> exact ⟨by first | exact Nat.le_refl _ | exact Nat.zero_le _, rfl⟩
  all_goals
    obtain ⟨a, rfl⟩ := bs1 h'
    intro o ho
    simp [goes] at ho
    subst ho
    exact ⟨by first | exact Nat.le_refl _ | exact Nat.zero_le _, rfl⟩
theorem fd_steps {n B : Nat} {e : Z8} {pl : List Nat} {r : Nat} (he : e.k + 1 ≤ B) : ∀ (os : List (List Bool × Nat × Nat)) {fd : List Z8}, FdOk n B fd → (∀ o ∈ os, o.2.2 ≤ 1) → FdOk n B (os.foldl (stepO e pl r) fd)
  | [], _, h, _ => h
  | o :: os, _, h, ho => fd_steps he os (fd_step h he (ho o (by simp))) fun x hx => ho x (by simp [hx])
theorem pls_len (n : Nat) (ws : List Nat) : (places n ws).length = ws.length := by unfold places; rw [List.length_map]
theorem bits_len (r : Nat) (pl : List Nat) : (bitsAt r pl).length = pl.length := by unfold bitsAt; rw [List.length_map]
theorem fd_row {n B : Nat} {g : Gt} {fd : List Z8} {er : Z8 × Nat} (hg : g.Ok n) (h : FdOk n B fd) (he : er.1.k + 1 ≤ B) : FdOk n B (rowO n g fd er) := by
  unfold rowO
  split
  · exact h
  · exact fd_steps he _ h fun o ho => (goes_out _ _ (by rw [bits_len, pls_len]; exact hg.1) o ho).1
theorem fd_rows {n B : Nat} {g : Gt} (hg : g.Ok n) : ∀ (l : List (Z8 × Nat)) {fd : List Z8}, FdOk n B fd → (∀ er ∈ l, er.1.k + 1 ≤ B) → FdOk n B (l.foldl (rowO n g) fd)
  | [], _, h, _ => h
  | er :: l, _, h, he => fd_rows hg l (fd_row hg h (he er (by simp))) fun x hx => he x (by simp [hx])
theorem fd_nought (n B : Nat) : FdOk n B (List.replicate (2 ^ n) Z8.nought) := ⟨List.length_replicate, fun e he => by rw [List.eq_of_mem_replicate he]; exact nought_canon, fun e he => by rw [List.eq_of_mem_replicate he]; exact Nat.zero_le _⟩
theorem onN_ok {n B : Nat} {g : Gt} {es : List Z8} (hg : g.Ok n) (he : ∀ e ∈ es, e.k + 1 ≤ B) (i : Nat) : FdOk n B (onN n g es i) := by
  refine fd_rows hg _ (fd_nought n B) fun er her => ?_
  have h1 := List.mem_of_mem_take her
  obtain ⟨h2, h3, h4⟩ := List.mem_zipIdx h1
  rw [h4]
  exact he _ (List.getElem_mem _)
theorem put_lt_ : ∀ n, n < 5 → ∀ r, r < 2 ^ n → ∀ q, q < n → put1 r q true < 2 ^ n ∧ put1 r q false < 2 ^ n := by decide +kernel
theorem putB_lt {n : Nat} (hn : n < 5) : ∀ (l : List (Nat × Bool)) {r : Nat}, r < 2 ^ n → (∀ q ∈ l, q.1 < n) → l.foldl (fun r pb => put1 r pb.1 pb.2) r < 2 ^ n
  | [], _, h, _ => h
  | (q, b) :: l, r, h, hq => by
    refine putB_lt hn l (r := put1 r q b) ?_ fun x hx => hq x (by simp [hx])
    obtain ⟨h1, h2⟩ := put_lt_ n hn r h q (hq (q, b) (by simp))
    cases b
    · exact h2
    · exact h1
theorem there_lt {n r : Nat} {ws : List Nat} {bs : List Bool} (hn : n < 5) (hr : r < 2 ^ n) (hw : ∀ w ∈ ws, w < n) : putB r (places n ws) bs < 2 ^ n := by
  refine putB_lt hn _ hr fun q hq => ?_
  have h1 := (List.of_mem_zip hq).1
  unfold places at h1
  obtain ⟨x, hx, e⟩ := List.mem_map.mp h1
  have := hw x hx
  omega
section
variable {P : Program} {w : World} {K : PySem.W.Frag} {mg : Str → Option Value} {base : Heap}
/-! ### Gate.on -/
def spOn (K : PySem.W.Frag) (k : Kd) : Sp := fun vs H Q _ => ∃ (v st : V) (ws : List Nat) (n : Nat) (es : List Z8), vs = [v, st] ∧ GtA K H v ⟨k, ws⟩ ∧ Gt.Ok n ⟨k, ws⟩ ∧ StA K H st es ∧ Wd n ∧ es.length = 2 ^ n ∧ (∀ e ∈ es, e.k < 2 ^ 40) ∧ ∀ r H', Ex H H' → StA K H' r (onM n ⟨k, ws⟩ es) → Q r H'
theorem two_int (n : Nat) : (1 : Int) * 2 ^ ((n : Nat) : Int).toNat = ((2 ^ n : Nat) : Int) := by
  rw [Int.one_mul, Int.toNat_natCast, Int.natCast_pow]
  rfl
theorem nat_map {α : Type} {l : List α} {f : α → V} {ys : List V} {H : Hp} {m : Nat} (h : AccR (fun j z _ => ∃ y, l[j]? = some y ∧ z = f y) m ys H) (hm : m = l.length) : ys = l.map f := h.map hm
theorem bit_shift {r q : Nat} (hr : r < 32) (hq : q < 5) : Builtin.bitAnd ((r : Nat) / 2 ^ ((q : Nat) : Int).toNat) 1 = ((r.testBit q).toNat : Nat) := by
  rw [Int.toNat_natCast]
  exact bit_at r hr q hq
theorem sc_on : FnScope ["self", "state", "places", "found", "row", "one", "bits", "turns", "roots", "there", "wire", "place"] ["self", "state"] (defScope s_Gate_on) := ⟨rfl, rfl, rfl, by decide +kernel, rfl, by decide +kernel, by decide +kernel⟩
theorem in_on (T : Txt K mg) (k : Kd) {ff : Addr} {fd : FuncData} (F : FnF K "on" "Gate.on" s_Gate_on ff fd) : FnOk P w K mg base CX0 5 ff fd ["self", "state"] (spOn K k) := by
  refine fn_ok F sc_on (fun vs H Q E h => ?_) (fun cdv A outer s H vs Q E hr h => ?_)
  · obtain ⟨_, _, _, _, _, rfl, _⟩ := h
    rfl
  · obtain ⟨v, st, ws, n, es, rfl, ⟨pv, dx, t, rfl, hpv, ht⟩, hg, hst, wd, hlen, hk, fin⟩ := h
    obtain ⟨ps, dxs, ts, vsS, rfl, hps, hts, haS⟩ := id hst
    have nd := sc_on.nd
    obtain ⟨g1, g2, g3⟩ := id hg
    have h16 := two_le wd
    have hn5 := wd.hi
    have h3 : ws.length ≤ 3 := by
      have : ws.length = k.arity := g1
      rw [this]
      cases k <;> decide
    have hw0 : 0 < ws.length := by
      have : ws.length = k.arity := g1
      rw [this]
      cases k <;> decide
    have hmany : ∀ {H1 : Hp}, Ex H H1 → ∃ v n' es', [V.ref ps] = [v] ∧ StA K H1 v es' ∧ Wd n' ∧ es'.length = 2 ^ n' ∧ n' = n := fun e => ⟨_, n, es, rfl, hst.ex e, wd, hlen, rfl⟩
    refine Ss_cons (S_if (T_not (T_val (E_isi (k := true) (u := .ref (He.ga K "State")) (cv := .ref (He.ga K "State")) T.b_isinstance ?_))))
    refine E_var 1 rfl ?_
    refine E_glob (v := .ref (He.ga K "State")) T.g_State rfl ⟨_, rfl, .own _, ty_ins hps T.c_State T.y_State, T.t_State_State, _, rfl, iteF (Ss_nil ?_)⟩
    refine Ss_cons (S_if (T_cge (E_maxT rfl T.b_max (E_fld ?_))))
    refine E_var 0 rfl ?_
    refine ⟨pv, _, dx, _, _, rfl, hpv, cls_k T k, noa_k T k, rfl, t, _, rfl, by rw [← wsV_int]; exact ht.t, by rw [List.length_map]; exact hw0, fun m hm1 _ => E_meth0 (ok_many T) T.c_State (hr.mono (by decide)) ?_⟩
    refine E_var 1 rfl ?_
    refine ⟨ps, dxs, _, rfl, hps, rfl, _, n, es, rfl, hst, wd, hlen, _, _, rfl, rfl, ?_⟩
    have hmn : decide ((n : Int) ≤ m) = false := by
      obtain ⟨x, hx, rfl⟩ := List.mem_map.mp hm1
      have := g3 x hx
      exact decide_eq_false (by omega)
    rw [hmn]
    refine iteF (Ss_nil ?_)
    -- places
    refine Ss_cons (S_lcT (k := 2) 10 rfl nd rfl (by show blkC ["self", "state", "places", "found", "row", "one", "bits", "turns", "roots", "there", "wire", "place"] (defScope s_Gate_on) _ [(_, 10)] = true; decide +kernel) rfl (E_fld ?_))
    refine E_var 0 rfl ?_
    refine ⟨pv, _, dx, _, _, rfl, hpv, cls_k T k, noa_k T k, rfl, t, wsV ws, AccR (fun j z _ => ∃ y, (places n ws)[j]? = some y ∧ z = V.int (y : Nat)), rfl, ht.t, by unfold wsV; rw [List.length_map]; exact Nat.lt_of_le_of_lt h3 (by decide), fun H' _ => AccR.zero, AccR.fz (fun _ _ _ _ _ h => h), ?_, ?_⟩
    · intro j y acc H' hj e1 hl hA s0 H0 C cl fp
      unfold wsV at hj
      rw [List.getElem?_map] at hj
      cases ew : ws[j]? with
      | none => rw [ew] at hj; cases hj
      | some wv =>
        rw [ew] at hj
        cases hj
        refine E_sub (E_sub (E_meth0 (ok_many T) T.c_State (hr.mono (by decide)) ?_))
        refine E_var 1 rfl ?_
        refine ⟨ps, dxs, _, rfl, e1 _ _ hps, rfl, _, n, es, rfl, hst.ex e1, wd, hlen, ?_⟩
        refine E_int ?_
        refine ⟨_, _, rfl, rfl, ?_⟩
        refine E_var 10 rfl ?_
        refine ⟨_, _, rfl, rfl, ?_⟩
        have hwn : wv < n := g3 wv (List.mem_of_getElem? ew)
        have e : (n : Int) - 1 - ((wv : Nat) : Int) = ((n - 1 - wv : Nat) : Int) := by omega
        rw [e]
        refine ⟨Evl.Ex.refl _, AccR.snoc (fun _ _ _ _ _ h => h) hA (Evl.Ex.refl _) ⟨n - 1 - wv, ?_, rfl⟩⟩
        unfold places
        rw [List.getElem?_map, ew]
        rfl
    intro lp H1 ys hD e1 hlp hA
    have ey := nat_map hA (by rw [pls_len]; unfold wsV; rw [List.length_map])
    subst ey
    have hlp : H1 lp = some (.lst (natV (places n ws))) := hlp
    have hpl : ∀ q ∈ places n ws, q < 5 := by
      intro q hq
      unfold places at hq
      obtain ⟨x, _, rfl⟩ := List.mem_map.mp hq
      omega
    -- found
    refine Ss_cons (S_set (i := 3) rfl (E_rep (E_lst (As_cons (E_glob (v := .ref (He.ga K "NOUGHT")) T.g_NOUGHT rfl (As_nil ⟨by show 1 ≤ sizeLine; decide, fun pn H2 zn en hn => E_shl ?_⟩))))) nd)
    refine E_int ?_
    have e12 := e1.trans en
    refine E_meth0 (ok_many T) T.c_State (hr.mono (by decide)) ?_
    refine E_var 1 rfl ?_
    refine ⟨ps, dxs, _, rfl, e12 _ _ hps, rfl, _, n, es, rfl, hst.ex e12, wd, hlen, _, _, rfl, rfl, pow_ok (by decide) hn5, ?_⟩
    rw [two_int]
    refine ⟨pn, _, _, rfl, rfl, hn, by omega, by omega, by rw [Int.toNat_natCast]; exact Nat.le_trans h16 (by decide), fun fo H3 zf ef hf => ?_⟩
    rw [Int.toNat_natCast] at hf
    have e13 := e12.trans ef
    -- the rows
    refine Ss_cons ?_
    refine S_forE PassesOwn.never rfl T.b_enumerate (E_meth0 (ok_eighths T) T.c_State (hr.mono (by decide)) ?_)
    refine E_var 1 rfl ?_
    refine ⟨ps, dxs, _, rfl, e13 _ _ hps, rfl, _, es, rfl, hst.ex e13, fun le H4 we zl el hle hwe => ?_⟩
    have e14 := e13.trans el
    have hf4 := el _ _ hf
    have nle : le ≠ fo := new_ne (by rw [hf]; exact fun z => nomatch z) zl
    have nlp : lp ≠ fo := ne_of_none (en _ _ hlp) zf
    have hwl : we.length = es.length := by have := hwe.len; rw [List.length_map] at this; exact this
    refine ⟨le, we, fun i σ' H' => ∃ (z4 z5 z6 z7 z8 z9 : Option V) (vs' : List V), ExB fo H4 H' ∧ H' fo = some (.lst vs') ∧ All2 (TI K H') vs' ((onN n ⟨k, ws⟩ es i).map Z8.ns) ∧ σ' = [some (.ref pv), some (.ref ps), some (.ref lp), some (.ref fo), z4, z5, z6, z7, z8, z9, none, none], rfl, SqL.of hle, ⟨none, none, none, none, none, none, _, ExB.refl _ _, hf4, ?_, rfl⟩, ?_, ?_, ?_⟩
    · have r0 : TI K H4 (.ref (He.ga K "NOUGHT")) Z8.nought.ns := ⟨_, rfl, T.x_NOUGHT _⟩
      have := All2.rep r0 (2 ^ n)
      show All2 (TI K H4) _ ((List.replicate (2 ^ n) Z8.nought).map Z8.ns)
      rw [List.map_replicate]
      exact this
    · rintro i σ' H' _ ⟨_, _, _, _, _, _, _, eb, _, _, _⟩
      exact SqL.of (eb _ _ nle hle)
    · rintro i x σ' H' H'' hi ⟨z4, z5, z6, z7, z8, z9, vs', eb, hfo, ha, rfl⟩ e5
      obtain ⟨e, he, te⟩ := lti_get hwe hi
      have hil : i < 2 ^ n := by rw [← hlen]; exact (List.getElem?_eq_some_iff.mp he).1
      have hem := List.mem_of_getElem? he
      have hke := hk e hem
      have fz4 : Fz H4 H'' := (ExB.fz eb hf4).trans (Fz.of e5)
      have te2 := te.fz fz4
      refine Gs_cons (G_name (i := 4) rfl (Gs_cons (G_name (i := 5) rfl (Gs_nil ?_) nd)) nd)
      refine Ss_one (S_if (T_cmp (op_neTI hr.units) ?_))
      refine E_var 5 rfl ?_
      refine E_glob (v := .ref (He.ga K "NOUGHT")) T.g_NOUGHT rfl ⟨e.ns, Z8.nought.ns, te2, ⟨_, rfl, T.x_NOUGHT _⟩, _, rfl, ?_⟩
      have ha2 : All2 (TI K H'') vs' ((onN n ⟨k, ws⟩ es i).map Z8.ns) := all2_fz ha (Fz.of e5)
      have hst1 := onN_step (n := n) (g := ⟨k, ws⟩) he
      have eb2 : ExB fo H4 H'' := eb.trans (ExB.of e5)
      have hfo2 := e5 _ _ hfo
      by_cases hz : e = Z8.nought
      · have ed : (!decide (e.ns = Z8.nought.ns)) = false := by rw [hz, decide_eq_true rfl]; rfl
        rw [ed]
        refine iteF (Ss_nil ⟨_, _, z6, z7, z8, z9, vs', eb2, hfo2, ?_, rfl⟩)
        rw [hst1]
        have er : rowO n ⟨k, ws⟩ (onN n ⟨k, ws⟩ es i) (e, i) = onN n ⟨k, ws⟩ es i := by unfold rowO; rw [if_pos hz]
        rw [er]
        exact ha2
      · have ed : (!decide (e.ns = Z8.nought.ns)) = true := by rw [decide_eq_false (fun z => hz (Z8.ns_inj z))]; rfl
        rw [ed]
        refine iteT (Ss_one ?_)
        have er : rowO n ⟨k, ws⟩ (onN n ⟨k, ws⟩ es i) (e, i) = (goes k (bitsAt i (places n ws))).foldl (stepO e (places n ws) i) (onN n ⟨k, ws⟩ es i) := by unfold rowO; rw [if_neg hz]
        have hba : (bitsAt i (places n ws)).length = k.arity := by rw [bits_len, pls_len]; exact g1
        have hi32 : i < 32 := by omega
        refine S_forL PassesOwn.never rfl (E_meth (ok_goes T k) (cls_k T k) (hr.mono (by decide)) ?_)
        refine E_var 0 rfl ?_
        have hlp2 : H'' lp = some (.lst (natV (places n ws))) := eb2 _ _ nlp (el _ _ (ef _ _ (en _ _ hlp)))
        have hpv2 := fz4 _ _ (e14 _ _ hpv) rfl
        have ht2 : SqN H'' t (wsV ws) := ht.fz ((Fz.of e14).trans fz4)
        refine ⟨pv, dx, _, rfl, hpv2, rfl, As_cons (E_lcL 11 rfl nd rfl (by show blkC ["self", "state", "places", "found", "row", "one", "bits", "turns", "roots", "there", "wire", "place"] (defScope s_Gate_on) _ [(_, 11)] = true; decide +kernel) ?_)⟩
        refine E_var 2 rfl ?_
        refine ⟨lp, natV (places n ws), AccR (fun j z _ => ∃ y, (bitsAt i (places n ws))[j]? = some y ∧ z = V.int ((y : Bool).toNat : Nat)), rfl, SqL.of hlp2, by unfold natV; rw [List.length_map, pls_len]; exact Nat.lt_of_le_of_lt h3 (by decide), fun H' _ => AccR.zero, AccR.fz (fun _ _ _ _ _ h => h), ?_, ?_⟩
        · intro j y acc H6 hj e6 hl hA s0 H0 C cl fp
          unfold natV at hj
          rw [List.getElem?_map] at hj
          cases eq : (places n ws)[j]? with
          | none => rw [eq] at hj; cases hj
          | some q =>
            rw [eq] at hj
            cases hj
            refine E_band (E_shr ?_)
            refine E_var 4 rfl ?_
            refine E_var 11 rfl ?_
            refine ⟨_, _, rfl, rfl, by omega, ?_⟩
            refine E_int ?_
            refine ⟨_, _, rfl, rfl, ?_⟩
            rw [bit_shift hi32 (hpl q (List.mem_of_getElem? eq))]
            refine ⟨Evl.Ex.refl _, AccR.snoc (fun _ _ _ _ _ h => h) hA (Evl.Ex.refl _) ⟨i.testBit q, ?_, rfl⟩⟩
            unfold bitsAt
            rw [List.getElem?_map, eq]
            rfl
        intro lb H6 ys hD6 e6 hlb hA6
        have ey := nat_map hA6 (by rw [bits_len]; unfold natV; rw [List.length_map])
        subst ey
        have hlb : H6 lb = some (.lst (bitsV (bitsAt i (places n ws)))) := hlb
        have hfo6 := e6 _ _ hfo2
        have nlb : lb ≠ fo := new_ne (by rw [hfo2]; exact fun z => nomatch z) hD6
        refine As_nil ⟨_, ws, lb, fo, _, rfl, ⟨pv, dx, t, rfl, e6 _ _ hpv2, ht2.fz (Fz.of e6)⟩, hlb, hba, (by rw [hfo6]; exact fun z => nomatch z), nlb, fun r H7 e7 hgo => ?_⟩
        obtain ⟨lo, vo, rfl, hlo, nlo, hall⟩ := hgo
        have hfo7 := e7 _ _ hfo6
        have e57 := e6.trans e7
        have hvl : vo.length = (goes k (bitsAt i (places n ws))).length := hall.len
        refine ⟨lo, vo, fun j σ' H' => ∃ (z6 z7 z8 z9 : Option V) (vs' : List V), ExB fo H7 H' ∧ H' fo = some (.lst vs') ∧ All2 (TI K H') vs' ((((goes k (bitsAt i (places n ws))).take j).foldl (stepO e (places n ws) i) (onN n ⟨k, ws⟩ es i)).map Z8.ns) ∧ σ' = [some (.ref pv), some (.ref ps), some (.ref lp), some (.ref fo), some (.int (i : Nat)), some x, z6, z7, z8, z9, none, none], rfl, SqL.of hlo, ⟨z6, z7, z8, z9, vs', ExB.refl _ _, hfo7, all2_fz ha2 (Fz.of e57), rfl⟩, ?_, ?_, ?_⟩
        · rintro j σ' H' _ ⟨_, _, _, _, _, eb7, _, _, _⟩
          exact SqL.of (eb7 _ _ nlo hlo)
        · rintro j y σ' H8 hj ⟨z6, z7, z8, z9, vs8, eb7, hfo8, ha8, rfl⟩
          obtain ⟨o, ho, ⟨tp, lq, rfl, htp, hlq, nlq⟩⟩ := hall.get hj
          have ⟨o1, o2⟩ := goes_out k _ hba o (List.mem_of_getElem? ho)
          have htp8 := SqT.fz htp (ExB.fz eb7 hfo7)
          refine G_tup rfl htp8 rfl ?_
          refine Gs_cons (G_name (i := 6) rfl (Gs_cons (G_name (i := 7) rfl (Gs_cons (G_name (i := 8) rfl (Gs_nil ?_) nd)) nd)) nd)
          refine Ss_cons (S_set (i := 9) rfl (E_call (ok_put T) (hr.mono (by decide)) (As_cons ?_)) nd)
          refine E_var 4 rfl ?_
          refine As_cons ?_
          refine E_var 2 rfl ?_
          refine As_cons ?_
          refine E_var 6 rfl ?_
          have hlp8 : H8 lp = some (.lst (natV (places n ws))) := eb7 _ _ nlp (e57 _ _ hlp2)
          have hlq8 := eb7 _ _ nlq hlq
          refine As_nil ⟨i, lp, lq, _, o.1, rfl, hlp8, hlq8, by rw [pls_len, o2]; exact g1, hi32, hpl, fun H9 e9 => ?_⟩
          have hfo9 := e9 _ _ hfo8
          have fdk : FdOk n (2 ^ 41) (((goes k (bitsAt i (places n ws))).take j).foldl (stepO e (places n ws) i) (onN n ⟨k, ws⟩ es i)) := by
            refine fd_steps (by omega) _ (onN_ok hg (fun x hx => by have := hk x hx; omega) i) fun o ho => ?_
            exact (goes_out k _ hba o (List.mem_of_mem_take ho)).1
          have hth : putB i (places n ws) o.1 < 2 ^ n := there_lt hn5 hil g3
          obtain ⟨k1, k2, k3⟩ := fd_get fdk hth
          generalize hfd : (((goes k (bitsAt i (places n ws))).take j).foldl (stepO e (places n ws) i) (onN n ⟨k, ws⟩ es i)) = fdv at fdk k1 k2 k3 ha8
          have hl8 : vs8.length = 2 ^ n := by rw [ha8.len, List.length_map]; exact fdk.len
          obtain ⟨u, hu, tu⟩ := ha8.get' (i := putB i (places n ws) o.1) (b := (fdv.getD (putB i (places n ws) o.1) Z8.nought).ns) (by rw [List.getElem?_map, k1]; rfl)
          have te9 : TI K H9 x e.ns := te2.fz ((Fz.of e57).trans ((ExB.fz eb7 hfo7).trans (Fz.of e9)))
          refine Ss_one (S_asg (E_call (ok_plus T) (hr.mono (by decide)) (As_cons (E_ixL ?_))))
          refine E_var 3 rfl ?_
          refine E_var 9 rfl ?_
          refine ⟨fo, vs8, _, u, rfl, rfl, SqL.of hfo9, atI_nat hu, As_cons (E_call (ok_over T) (hr.mono (by decide)) (As_cons (E_call (ok_turned T) (hr.mono (by decide)) (As_cons ?_))))⟩
          refine E_var 5 rfl ?_
          refine As_cons ?_
          refine E_var 7 rfl ?_
          refine As_nil ⟨x, e, o.2.1, rfl, te9, fun r1 H10 e10 t10 => As_cons ?_⟩
          refine E_var 8 rfl ?_
          refine As_nil ⟨_, _, o.2.2, rfl, t10, fun r2 H11 e11 t11 => As_nil ?_⟩
          have e911 := e10.trans e11
          have hok : (overRoot (turned e o.2.1) o.2.2).k ≤ e.k + 1 := by
            have h2 := overRoot_k (turned e o.2.1) o.2.2
            have h3 : (turned e o.2.1).k = e.k := rfl
            omega
          refine ⟨u, r2, _, _, rfl, (tu.ex e9).ex e911, t11, by omega, by omega, fun r3 H12 e12 t12 => ?_⟩
          have e912 := e911.trans e12
          refine G_ix ?_
          refine E_var 3 rfl ?_
          refine E_var 9 rfl ?_
          refine ⟨fo, vs8, _, _, rfl, rfl, e912 _ _ hfo9, Evl.ixN_nat (by rw [hl8]; exact hth), ?_⟩
          have hup : ExB fo H7 (upd H12 fo (.lst (vs8.set (putB i (places n ws) o.1) r3))) := ((eb7.trans (ExB.of e9)).trans (ExB.of e912)).trans ExB.upd
          refine ⟨_, _, _, _, _, hup, upd_same, ?_, rfl⟩
          rw [List.take_add_one, ho, List.foldl_append, hfd]
          show All2 _ _ ((stepO e (places n ws) i fdv o).map Z8.ns)
          unfold stepO
          rw [List.map_set]
          have fz12 : Fz H12 (upd H12 fo (.lst (vs8.set (putB i (places n ws) o.1) r3))) := Fz.upd (e912 _ _ hfo9)
          exact (all2_fz ha8 ((Fz.of (e9.trans e912)).trans fz12)).set (t12.fz fz12) _
        · rintro σ' H8 ⟨z6, z7, z8, z9, vs8, eb7, hfo8, ha8, rfl⟩
          refine ⟨_, _, z6, z7, z8, z9, vs8, (eb2.trans (ExB.of e57)).trans eb7, hfo8, ?_, rfl⟩
          rw [hst1, er]
          rw [List.take_of_length_le (by rw [hvl]; exact Nat.le_refl _)] at ha8
          exact ha8
    · rintro σ' H' ⟨z4, z5, z6, z7, z8, z9, vs', eb, hfo, ha, rfl⟩
      rw [hwl, onN_all] at ha
      have fdk : FdOk n (2 ^ 41) (onM n ⟨k, ws⟩ es) := by rw [← onN_all]; exact onN_ok hg (fun x hx => by have := hk x hx; omega) _
      refine Ss_one (S_ret (E_make (ok_State T) hr (As_cons ?_)))
      refine E_var 3 rfl ?_
      refine As_nil fun y dx2 H5 hy e5 hy5 => ?_
      refine State_made hy e5 hy5 hfo ha wd fdk.len fdk.can fun v H6 e6 hv => ?_
      have ex4 : Ex H H' := fun b ob eb' => eb b ob (fun z => by
        have h1 := e13 b ob eb'
        have h2 := e12 b ob eb'
        rw [z] at h2
        rw [zf] at h2
        cases h2) (e14 b ob eb')
      exact fin _ _ (ex4.trans e6) hv
theorem ok_on (T : Txt K mg) (k : Kd) : MCal P w K mg base 5 (He.ga K k.nm) "on" (spOn K k) := by
  obtain ⟨fd, F⟩ := T.d_Gate_on
  exact ⟨_, fd, _, eq_on T k ▸ me_on T k, in_on T k F, F.bindsN (fun _ _ _ _ _ _ us hl => match us, hl with | [_, _], _ => rfl)⟩
end
end BW

set_option Elab.async false
set_option linter.all false
set_option maxRecDepth 100000
set_option maxHeartbeats 4000000
namespace BW
open PySem PySem.Spec PyProof.Rows L2
section
variable {X : Cx} {σ : L2.St} {H : Hp} {e a b c o : Expr} {es : List Expr} {pos p apos : PySem.Pos} {Q : VK} {c1 : Bool}
theorem TB_eqS (q : E X a σ H fun x H1 => E X b σ H1 fun y H2 => ∃ i j, x = .str i ∧ y = .str j ∧ decide (i = j) = c1 ∧ H2 = H) : TB X (.Compare a [.Eq] [b] pos) σ H c1 :=
  TB_cmp op_eqS (E.mono q fun x H1 h => E.mono h fun y H2 ⟨i, j, h1, h2, h3, h4⟩ => ⟨i, j, h1, h2, _, rfl, h3, h4⟩)
theorem TB_len {pf p2 : PySem.Pos} {n k : Int} {i : Nat} (hm : X.mg "len" = none) (q : E X a σ H fun x H1 => ∃ p ys, x = .ref p ∧ (SqL X.K H1 p ys ∨ SqT X.K H1 p ys) ∧ decide ((ys.length : Int) = k) = c1 ∧ H1 = H)
    (hg : Gl X "len" := by rfl) (hs1 : starEach [a] X.env = (false, eval a X.env) :: starEach [] X.env := by rfl) (hpl : (backTo p (starEach [] X.env)).any (·.1) = false := by rfl) : TB X (.Compare (.Call (.Name "len" pf) [a] [] p) [.Eq] [.Constant (.int k) i p2] pos) σ H c1 :=
  TB_eq (E_len hm (E.mono q fun x H1 ⟨l, ys, h1, h2, h3, h4⟩ => ⟨l, ys, h1, h2, E_int ⟨_, _, rfl, rfl, h3, h4⟩⟩) hg hs1 hpl)
end
section
variable {P : Program} {w : World} {K : PySem.W.Frag} {mg : Str → Option Value} {base : Heap}
/-! ### single, gate_of -/
def Kd.wd : Kd → Str
  | .x => "x" | .y => "y" | .z => "z" | .s => "s" | .r => "r" | .t => "t" | .u => "u" | .h => "h" | .cx => "cx" | .cz => "cz" | .swap => "swap" | .ccx => "ccx"
theorem wd_inj {k k' : Kd} (h : k.wd = k'.wd) : k = k' := by
  revert h
  cases k <;> cases k' <;> decide +kernel
def spSingle (K : PySem.W.Frag) : Sp := fun vs H Q _ => ∃ (k : Kd) (a : Nat), vs = [.str k.wd, .int (a : Nat)] ∧ k.arity = 1 ∧ a < 5 ∧ ∀ v H', Ex H H' → GtA K H' v ⟨k, [a]⟩ → Q v H'
theorem sc_single : FnScope ["word", "wire"] ["word", "wire"] (defScope s_single) := ⟨rfl, rfl, rfl, by decide +kernel, rfl, by decide +kernel, by decide +kernel⟩
theorem ok_single (T : Txt K mg) : Cal P w K mg base 5 "single" (spSingle K) := by
  refine cal_ok T.d_single T.g_single sc_single (fun _ _ _ _ _ _ us hl => match us, hl with | [_, _], _ => rfl) (fun vs H Q E h => ?_) (fun cdv A outer s H vs Q E hr h => ?_)
  · obtain ⟨_, _, rfl, _⟩ := h
    rfl
  · obtain ⟨k, a, rfl, hk, ha, fin⟩ := h
    have nd := sc_single.nd
    have hws : ∀ w ∈ [a], w < 5 := fun w hw => by rw [List.mem_singleton.mp hw]; exact ha
    have hnd : [a].Nodup := by simp
    refine Ss_cons ?_
    apply S_ifB (c1 := decide (k.wd = Kd.x.wd))
    · apply TB_eqS
      refine E_var 0 rfl ?_
      refine E_str ?_
      exact ⟨_, _, rfl, rfl, rfl, rfl⟩
    · intro hc
      have hh : k = .x := wd_inj (of_decide_eq_true hc)
      subst hh
      refine Ss_one (S_ret (E_make (mk_X T) hr (As_cons ?_)))
      refine E_var 1 rfl ?_
      exact As_nil fun y dx H1 hy e1 h1 => Gate_made (k := .x) (ws := [a]) hy e1 h1 rfl hnd hws fun v H2 e2 g => fin v H2 e2 g
    intro hc
    have n_x : k ≠ .x := fun z => of_decide_eq_false hc (congrArg Kd.wd z)
    clear hc
    refine Ss_nil ?_
    refine Ss_cons ?_
    apply S_ifB (c1 := decide (k.wd = Kd.y.wd))
    · apply TB_eqS
      refine E_var 0 rfl ?_
      refine E_str ?_
      exact ⟨_, _, rfl, rfl, rfl, rfl⟩
    · intro hc
      have hh : k = .y := wd_inj (of_decide_eq_true hc)
      subst hh
      refine Ss_one (S_ret (E_make (mk_Y T) hr (As_cons ?_)))
      refine E_var 1 rfl ?_
      exact As_nil fun y dx H1 hy e1 h1 => Gate_made (k := .y) (ws := [a]) hy e1 h1 rfl hnd hws fun v H2 e2 g => fin v H2 e2 g
    intro hc
    have n_y : k ≠ .y := fun z => of_decide_eq_false hc (congrArg Kd.wd z)
    clear hc
    refine Ss_nil ?_
    refine Ss_cons ?_
    apply S_ifB (c1 := decide (k.wd = Kd.z.wd))
    · apply TB_eqS
      refine E_var 0 rfl ?_
      refine E_str ?_
      exact ⟨_, _, rfl, rfl, rfl, rfl⟩
    · intro hc
      have hh : k = .z := wd_inj (of_decide_eq_true hc)
      subst hh
      refine Ss_one (S_ret (E_make (mk_Z T) hr (As_cons ?_)))
      refine E_var 1 rfl ?_
      exact As_nil fun y dx H1 hy e1 h1 => Gate_made (k := .z) (ws := [a]) hy e1 h1 rfl hnd hws fun v H2 e2 g => fin v H2 e2 g
    intro hc
    have n_z : k ≠ .z := fun z => of_decide_eq_false hc (congrArg Kd.wd z)
    clear hc
    refine Ss_nil ?_
    refine Ss_cons ?_
    apply S_ifB (c1 := decide (k.wd = Kd.s.wd))
    · apply TB_eqS
      refine E_var 0 rfl ?_
      refine E_str ?_
      exact ⟨_, _, rfl, rfl, rfl, rfl⟩
    · intro hc
      have hh : k = .s := wd_inj (of_decide_eq_true hc)
      subst hh
      refine Ss_one (S_ret (E_make (mk_S T) hr (As_cons ?_)))
      refine E_var 1 rfl ?_
      exact As_nil fun y dx H1 hy e1 h1 => Gate_made (k := .s) (ws := [a]) hy e1 h1 rfl hnd hws fun v H2 e2 g => fin v H2 e2 g
    intro hc
    have n_s : k ≠ .s := fun z => of_decide_eq_false hc (congrArg Kd.wd z)
    clear hc
    refine Ss_nil ?_
    refine Ss_cons ?_
    apply S_ifB (c1 := decide (k.wd = Kd.r.wd))
    · apply TB_eqS
      refine E_var 0 rfl ?_
      refine E_str ?_
      exact ⟨_, _, rfl, rfl, rfl, rfl⟩
    · intro hc
      have hh : k = .r := wd_inj (of_decide_eq_true hc)
      subst hh
      refine Ss_one (S_ret (E_make (mk_R T) hr (As_cons ?_)))
      refine E_var 1 rfl ?_
      exact As_nil fun y dx H1 hy e1 h1 => Gate_made (k := .r) (ws := [a]) hy e1 h1 rfl hnd hws fun v H2 e2 g => fin v H2 e2 g
    intro hc
    have n_r : k ≠ .r := fun z => of_decide_eq_false hc (congrArg Kd.wd z)
    clear hc
    refine Ss_nil ?_
    refine Ss_cons ?_
    apply S_ifB (c1 := decide (k.wd = Kd.t.wd))
    · apply TB_eqS
      refine E_var 0 rfl ?_
      refine E_str ?_
      exact ⟨_, _, rfl, rfl, rfl, rfl⟩
    · intro hc
      have hh : k = .t := wd_inj (of_decide_eq_true hc)
      subst hh
      refine Ss_one (S_ret (E_make (mk_T T) hr (As_cons ?_)))
      refine E_var 1 rfl ?_
      exact As_nil fun y dx H1 hy e1 h1 => Gate_made (k := .t) (ws := [a]) hy e1 h1 rfl hnd hws fun v H2 e2 g => fin v H2 e2 g
    intro hc
    have n_t : k ≠ .t := fun z => of_decide_eq_false hc (congrArg Kd.wd z)
    clear hc
    refine Ss_nil ?_
    refine Ss_cons ?_
    apply S_ifB (c1 := decide (k.wd = Kd.u.wd))
    · apply TB_eqS
      refine E_var 0 rfl ?_
      refine E_str ?_
      exact ⟨_, _, rfl, rfl, rfl, rfl⟩
    · intro hc
      have hh : k = .u := wd_inj (of_decide_eq_true hc)
      subst hh
      refine Ss_one (S_ret (E_make (mk_U T) hr (As_cons ?_)))
      refine E_var 1 rfl ?_
      exact As_nil fun y dx H1 hy e1 h1 => Gate_made (k := .u) (ws := [a]) hy e1 h1 rfl hnd hws fun v H2 e2 g => fin v H2 e2 g
    intro hc
    have n_u : k ≠ .u := fun z => of_decide_eq_false hc (congrArg Kd.wd z)
    clear hc
    refine Ss_nil ?_
    have hh : k = .h := by cases k <;> first | rfl | exact absurd rfl (by assumption) | cases hk
    subst hh
    refine Ss_one (S_ret (E_make (mk_H T) hr (As_cons ?_)))
    refine E_var 1 rfl ?_
    exact As_nil fun y dx H1 hy e1 h1 => Gate_made (k := .h) (ws := [a]) hy e1 h1 rfl hnd hws fun v H2 e2 g => fin v H2 e2 g
def spGateOf (K : PySem.W.Frag) : Sp := fun vs H Q _ => ∃ (g : Gt) (t : Addr), vs = [.str g.kd.wd, .ref t] ∧ SqT K H t (wsV g.ws) ∧ g.ws.length = g.kd.arity ∧ g.ws.Nodup ∧ (∀ w ∈ g.ws, w < 5) ∧ ∀ v H', Ex H H' → GtA K H' v g → Q v H'
theorem in_singles (k : Kd) : inV (.str k.wd) [.str "x", .str "y", .str "z", .str "s", .str "r", .str "t", .str "u", .str "h"] = decide (k.arity = 1) := by cases k <;> decide +kernel
theorem sc_gateof : FnScope ["word", "wires", "singles"] ["word", "wires"] (defScope s_gate_of) := ⟨rfl, rfl, rfl, by decide +kernel, rfl, by decide +kernel, by decide +kernel⟩
theorem ok_gate_of (T : Txt K mg) : Cal P w K mg base 6 "gate_of" (spGateOf K) := by
  refine cal_ok T.d_gate_of T.g_gate_of sc_gateof (fun _ _ _ _ _ _ us hl => match us, hl with | [_, _], _ => rfl) (fun vs H Q E h => ?_) (fun cdv A outer s H vs Q E hr h => ?_)
  · obtain ⟨_, _, rfl, _⟩ := h
    rfl
  · obtain ⟨⟨k, ws⟩, t, rfl, ht, hl, hnd, hws, fin⟩ := h
    have ht : SqT K H t (wsV ws) := ht
    have hl : ws.length = k.arity := hl
    have hwl : (wsV ws).length = ws.length := by unfold wsV; rw [List.length_map]
    have nd := sc_gateof.nd
    refine Ss_cons ?_
    refine S_set (i := 2) rfl ?_ nd
    refine E_tup ?_
    refine As_cons ?_
    refine E_str ?_
    refine As_cons ?_
    refine E_str ?_
    refine As_cons ?_
    refine E_str ?_
    refine As_cons ?_
    refine E_str ?_
    refine As_cons ?_
    refine E_str ?_
    refine As_cons ?_
    refine E_str ?_
    refine As_cons ?_
    refine E_str ?_
    refine As_cons ?_
    refine E_str ?_
    refine As_nil ?_
    refine ⟨by show 8 ≤ sizeLine; decide, fun p1 H1 z1 e1 h1 => ?_⟩
    have ht1 := SqT.fz ht (Fz.of e1)
    refine Ss_cons (S_if (T_w (W_or (T_not (T_val (E_isi (k := true) (u := .type "tuple") (cv := .ty "tuple") T.b_isinstance ?_))))))
    refine E_var 1 rfl ?_
    refine E_blt (v := .ty "tuple") (u := .type "tuple") T.b_tuple (by decide +kernel) rfl ⟨_, rfl, .ty _, sqt_ty ht1, kit_ty (by decide +kernel), _, rfl, iteF (W_or1 (T_not (T_val (E_isi (k := true) (u := .type "str") (cv := .ty "str") T.b_isinstance ?_))))⟩
    refine E_var 0 rfl ?_
    refine E_blt (v := .ty "str") (u := .type "str") T.b_str (by decide +kernel) rfl ⟨_, rfl, .ty _, .base (.str _), kit_ty (by decide +kernel), _, rfl, iteF (Ss_nil ?_)⟩
    refine Ss_cons ?_
    apply S_ifB (c1 := decide (k.arity = 1) && decide (((wsV ws).length : Int) = 1))
    · apply TB_w
      apply WB_and
      · apply TB_cmp op_in_seq
        refine E_var 0 rfl ?_
        refine E_var 2 rfl ?_
        exact ⟨p1, _, rfl, .inr (SqT.of h1), rfl, rfl, _, rfl, in_singles k, rfl⟩
      · intro _
        apply WB_and1
        apply TB_len (n := 0) T.b_len
        refine E_var 1 rfl ?_
        exact ⟨t, _, rfl, .inr ht1, rfl, rfl⟩
    · intro hc
      simp only [Bool.and_eq_true, decide_eq_true_eq] at hc
      rw [hc.1] at hl
      obtain ⟨a, rfl⟩ := ws1 hl
      refine Ss_one (S_ret (E_call (ok_single T) hr (As_cons ?_)))
      refine E_var 0 rfl ?_
      refine As_cons (E_ixT ?_)
      refine E_var 1 rfl ?_
      refine E_int ?_
      exact ⟨t, _, _, _, rfl, rfl, ht1, rfl, As_nil ⟨k, a, rfl, hc.1, hws a (by simp), fun v H2 e2 g2 => fin v H2 (e1.trans e2) g2⟩⟩
    · intro hc
      have hk1 : ¬ k.arity = 1 := by
        intro z
        have z2 : ((wsV ws).length : Int) = 1 := by rw [hwl, hl, z]; rfl
        rw [decide_eq_true z, decide_eq_true z2] at hc
        cases hc
      refine Ss_nil ?_
      refine Ss_cons ?_
      apply S_ifB (c1 := decide (k.wd = Kd.cx.wd) && decide (((wsV ws).length : Int) = 2))
      · apply TB_w
        apply WB_and
        · apply TB_eqS
          refine E_var 0 rfl ?_
          refine E_str ?_
          exact ⟨_, _, rfl, rfl, rfl, rfl⟩
        · intro _
          apply WB_and1
          apply TB_len (n := 0) T.b_len
          refine E_var 1 rfl ?_
          exact ⟨t, _, rfl, .inr ht1, rfl, rfl⟩
      · intro hc
        simp only [Bool.and_eq_true, decide_eq_true_eq] at hc
        have hh : k = .cx := wd_inj hc.1
        subst hh
        obtain ⟨a, b, rfl⟩ := ws2 hl
        refine Ss_one (S_ret (E_make (mk_Cx T) (hr.mono (by decide)) ?_))
        refine As_cons (E_ixT ?_)
        refine E_var 1 rfl ?_
        refine E_int ?_
        refine ⟨t, _, _, _, rfl, rfl, ht1, rfl, ?_⟩
        refine As_cons (E_ixT ?_)
        refine E_var 1 rfl ?_
        refine E_int ?_
        refine ⟨t, _, _, _, rfl, rfl, ht1, rfl, ?_⟩
        exact As_nil fun y dx H2 hy e2 h2 => Gate_made (k := .cx) (ws := [a, b]) hy e2 h2 rfl hnd hws fun v H3 e3 g => fin v H3 (e1.trans (e3)) g
      intro hc
      have n_cx : k ≠ .cx := by
        rintro rfl
        have z2 : ((wsV ws).length : Int) = 2 := by rw [hwl, hl]; rfl
        rw [decide_eq_true rfl, decide_eq_true z2] at hc
        cases hc
      clear hc
      refine Ss_nil ?_
      refine Ss_cons ?_
      apply S_ifB (c1 := decide (k.wd = Kd.cz.wd) && decide (((wsV ws).length : Int) = 2))
      · apply TB_w
        apply WB_and
        · apply TB_eqS
          refine E_var 0 rfl ?_
          refine E_str ?_
          exact ⟨_, _, rfl, rfl, rfl, rfl⟩
        · intro _
          apply WB_and1
          apply TB_len (n := 0) T.b_len
          refine E_var 1 rfl ?_
          exact ⟨t, _, rfl, .inr ht1, rfl, rfl⟩
      · intro hc
        simp only [Bool.and_eq_true, decide_eq_true_eq] at hc
        have hh : k = .cz := wd_inj hc.1
        subst hh
        obtain ⟨a, b, rfl⟩ := ws2 hl
        refine Ss_one (S_ret (E_make (mk_Cz T) (hr.mono (by decide)) ?_))
        refine As_cons (E_ixT ?_)
        refine E_var 1 rfl ?_
        refine E_int ?_
        refine ⟨t, _, _, _, rfl, rfl, ht1, rfl, ?_⟩
        refine As_cons (E_ixT ?_)
        refine E_var 1 rfl ?_
        refine E_int ?_
        refine ⟨t, _, _, _, rfl, rfl, ht1, rfl, ?_⟩
        exact As_nil fun y dx H2 hy e2 h2 => Gate_made (k := .cz) (ws := [a, b]) hy e2 h2 rfl hnd hws fun v H3 e3 g => fin v H3 (e1.trans (e3)) g
      intro hc
      have n_cz : k ≠ .cz := by
        rintro rfl
        have z2 : ((wsV ws).length : Int) = 2 := by rw [hwl, hl]; rfl
        rw [decide_eq_true rfl, decide_eq_true z2] at hc
        cases hc
      clear hc
      refine Ss_nil ?_
      refine Ss_cons ?_
      apply S_ifB (c1 := decide (k.wd = Kd.swap.wd) && decide (((wsV ws).length : Int) = 2))
      · apply TB_w
        apply WB_and
        · apply TB_eqS
          refine E_var 0 rfl ?_
          refine E_str ?_
          exact ⟨_, _, rfl, rfl, rfl, rfl⟩
        · intro _
          apply WB_and1
          apply TB_len (n := 0) T.b_len
          refine E_var 1 rfl ?_
          exact ⟨t, _, rfl, .inr ht1, rfl, rfl⟩
      · intro hc
        simp only [Bool.and_eq_true, decide_eq_true_eq] at hc
        have hh : k = .swap := wd_inj hc.1
        subst hh
        obtain ⟨a, b, rfl⟩ := ws2 hl
        refine Ss_one (S_ret (E_make (mk_Swap T) (hr.mono (by decide)) ?_))
        refine As_cons (E_ixT ?_)
        refine E_var 1 rfl ?_
        refine E_int ?_
        refine ⟨t, _, _, _, rfl, rfl, ht1, rfl, ?_⟩
        refine As_cons (E_ixT ?_)
        refine E_var 1 rfl ?_
        refine E_int ?_
        refine ⟨t, _, _, _, rfl, rfl, ht1, rfl, ?_⟩
        exact As_nil fun y dx H2 hy e2 h2 => Gate_made (k := .swap) (ws := [a, b]) hy e2 h2 rfl hnd hws fun v H3 e3 g => fin v H3 (e1.trans (e3)) g
      intro hc
      have n_swap : k ≠ .swap := by
        rintro rfl
        have z2 : ((wsV ws).length : Int) = 2 := by rw [hwl, hl]; rfl
        rw [decide_eq_true rfl, decide_eq_true z2] at hc
        cases hc
      clear hc
      refine Ss_nil ?_
      refine Ss_cons ?_
      apply S_ifB (c1 := decide (k.wd = Kd.ccx.wd) && decide (((wsV ws).length : Int) = 3))
      · apply TB_w
        apply WB_and
        · apply TB_eqS
          refine E_var 0 rfl ?_
          refine E_str ?_
          exact ⟨_, _, rfl, rfl, rfl, rfl⟩
        · intro _
          apply WB_and1
          apply TB_len (n := 0) T.b_len
          refine E_var 1 rfl ?_
          exact ⟨t, _, rfl, .inr ht1, rfl, rfl⟩
      · intro hc
        simp only [Bool.and_eq_true, decide_eq_true_eq] at hc
        have hh : k = .ccx := wd_inj hc.1
        subst hh
        obtain ⟨a, b, c, rfl⟩ := ws3 hl
        refine Ss_one (S_ret (E_make (mk_Ccx T) (hr.mono (by decide)) ?_))
        refine As_cons (E_ixT ?_)
        refine E_var 1 rfl ?_
        refine E_int ?_
        refine ⟨t, _, _, _, rfl, rfl, ht1, rfl, ?_⟩
        refine As_cons (E_ixT ?_)
        refine E_var 1 rfl ?_
        refine E_int ?_
        refine ⟨t, _, _, _, rfl, rfl, ht1, rfl, ?_⟩
        refine As_cons (E_ixT ?_)
        refine E_var 1 rfl ?_
        refine E_int ?_
        refine ⟨t, _, _, _, rfl, rfl, ht1, rfl, ?_⟩
        exact As_nil fun y dx H2 hy e2 h2 => Gate_made (k := .ccx) (ws := [a, b, c]) hy e2 h2 rfl hnd hws fun v H3 e3 g => fin v H3 (e1.trans (e3)) g
      intro hc
      have n_ccx : k ≠ .ccx := by
        rintro rfl
        have z2 : ((wsV ws).length : Int) = 3 := by rw [hwl, hl]; rfl
        rw [decide_eq_true rfl, decide_eq_true z2] at hc
        cases hc
      clear hc
      refine Ss_nil ?_
      exfalso
      cases k <;> first | exact hk1 rfl | exact n_cx rfl | exact n_cz rfl | exact n_swap rfl | exact n_ccx rfl
/-! ### rows of circuits -/
def bnames : List Str := ["m", "n", "abcdefgh", "read", "if"]
def bn (j : Nat) : Str := bnames.getD j "m"
def RwA (K : PySem.W.Frag) (H : Hp) (v : V) : Rw → Prop
  | .gate g => GtA K H v g
  | .read wi j => ∃ p dx, v = .ref p ∧ H p = some (.ins (He.ga K "Reading") dx [("wire", .int (wi : Nat)), ("bit", .str (bn j))])
  | .ask j b g => ∃ p dx gv, v = .ref p ∧ H p = some (.ins (He.ga K "Asking") dx [("bit", .str (bn j)), ("value", .int (b.toNat : Nat)), ("gate", gv)]) ∧ GtA K H gv g
theorem RwA.fz {H H' : Hp} {v : V} {r : Rw} (h : RwA K H v r) (e : Fz H H') : RwA K H' v r := by
  cases r with
  | gate g => exact GtA.fz h e
  | read wi j =>
    obtain ⟨p, dx, rfl, h1⟩ := h
    exact ⟨p, dx, rfl, e _ _ h1 rfl⟩
  | ask j b g =>
    obtain ⟨p, dx, gv, rfl, h1, h2⟩ := h
    exact ⟨p, dx, gv, rfl, e _ _ h1 rfl, h2.fz e⟩
theorem rows_fz {H H' : Hp} {vs : List V} {rs : List Rw} (h : All2 (RwA K H) vs rs) (e : Fz H H') : All2 (RwA K H') vs rs := h.mp fun _ _ t => t.fz e
/-- Reading(wire, bit), Asking(bit, value, gate) -/
def spRead (K : PySem.W.Frag) : Sp := fun vs H Q _ => ∃ (y dx : Addr) (v u : V), vs = [.ref y, v, u] ∧ H y = some (.ins (He.ga K "Reading") dx []) ∧ ∀ H', ExB y H H' → H' y = some (.ins (He.ga K "Reading") dx [("wire", v), ("bit", u)]) → Q .non H'
theorem sc_rdinit : FnScope ["self", "wire", "bit"] ["self", "wire", "bit"] (defScope s_Reading_init) := ⟨rfl, rfl, rfl, by decide +kernel, rfl, by decide +kernel, by decide +kernel⟩
theorem mk_Reading (T : Txt K mg) : KCal P w K mg base 1 "Reading" (He.ga K "Reading") (spRead K) := by
  refine kcal_ok T.d_Reading_init T.g_Reading T.k_Reading sc_rdinit (fun _ _ _ _ _ _ us hl => match us, hl with | [_, _, _], _ => rfl) (fun vs H Q E h => ?_) (fun cdv A outer s H vs Q E hr h => ?_)
  · obtain ⟨_, _, _, _, rfl, _⟩ := h
    rfl
  · obtain ⟨y, dx, v, u, rfl, hy, fin⟩ := h
    have nd := sc_rdinit.nd
    refine Ss_cons (S_fld ?_)
    refine E_var 1 rfl ?_
    refine E_var 0 rfl ?_
    refine ⟨y, _, dx, _, rfl, hy, T.c_Reading, T.n_Reading_wire, by decide, ?_⟩
    refine Ss_one (S_fld ?_)
    refine E_var 2 rfl ?_
    refine E_var 0 rfl ?_
    refine ⟨y, _, dx, _, rfl, upd_same, T.c_Reading, T.n_Reading_bit, by show 1 < 1000; decide, ?_⟩
    exact fin _ (ExB.upd.trans ExB.upd) upd_same
def spAsk (K : PySem.W.Frag) : Sp := fun vs H Q _ => ∃ (y dx : Addr) (v u g : V), vs = [.ref y, v, u, g] ∧ H y = some (.ins (He.ga K "Asking") dx []) ∧ ∀ H', ExB y H H' → H' y = some (.ins (He.ga K "Asking") dx [("bit", v), ("value", u), ("gate", g)]) → Q .non H'
theorem sc_askinit : FnScope ["self", "bit", "value", "gate"] ["self", "bit", "value", "gate"] (defScope s_Asking_init) := ⟨rfl, rfl, rfl, by decide +kernel, rfl, by decide +kernel, by decide +kernel⟩
theorem mk_Asking (T : Txt K mg) : KCal P w K mg base 1 "Asking" (He.ga K "Asking") (spAsk K) := by
  refine kcal_ok T.d_Asking_init T.g_Asking T.k_Asking sc_askinit (fun _ _ _ _ _ _ us hl => match us, hl with | [_, _, _, _], _ => rfl) (fun vs H Q E h => ?_) (fun cdv A outer s H vs Q E hr h => ?_)
  · obtain ⟨_, _, _, _, _, rfl, _⟩ := h
    rfl
  · obtain ⟨y, dx, v, u, g, rfl, hy, fin⟩ := h
    have nd := sc_askinit.nd
    refine Ss_cons (S_fld ?_)
    refine E_var 1 rfl ?_
    refine E_var 0 rfl ?_
    refine ⟨y, _, dx, _, rfl, hy, T.c_Asking, T.n_Asking_bit, by decide, ?_⟩
    refine Ss_cons (S_fld ?_)
    refine E_var 2 rfl ?_
    refine E_var 0 rfl ?_
    refine ⟨y, _, dx, _, rfl, upd_same, T.c_Asking, T.n_Asking_value, by show 1 < 1000; decide, ?_⟩
    refine Ss_one (S_fld ?_)
    refine E_var 3 rfl ?_
    refine E_var 0 rfl ?_
    refine ⟨y, _, dx, _, rfl, upd_same, T.c_Asking, T.n_Asking_gate, by show 2 < 1000; decide, ?_⟩
    exact fin _ ((ExB.upd.trans ExB.upd).trans ExB.upd) upd_same
/-! ### is_name -/
theorem names_ok : ∀ z ∈ bnames, 1 ≤ z.cps.size ∧ z.cps.size ≤ 8 ∧ z.length = z.cps.size ∧ ∀ (j : Nat) (c : Nat), z.cps[j]? = some c → c ∈ (Str.ofString "abcdefghijklmnopqrstuvwxyz").cps.toList := by
  have h : (bnames.all fun z => decide (1 ≤ z.cps.size) && (decide (z.cps.size ≤ 8) && (decide (z.length = z.cps.size) && z.cps.toList.all fun c => decide (c ∈ (Str.ofString "abcdefghijklmnopqrstuvwxyz").cps.toList)))) = true := by decide +kernel
  intro z hz
  have h1 := List.all_eq_true.mp h z hz
  simp only [Bool.and_eq_true, decide_eq_true_eq, List.all_eq_true] at h1
  refine ⟨h1.1, h1.2.1, h1.2.2.1, fun j c hc => h1.2.2.2 c ?_⟩
  exact Array.mem_toList_iff.mpr (Array.mem_of_getElem? hc)
def spName : Sp := fun vs H Q _ => ∃ z : Str, vs = [.str z] ∧ z ∈ bnames ∧ ∀ H', Ex H H' → Q (.bl true) H'
theorem sc_isname : FnScope ["thing", "sign"] ["thing"] (defScope s_is_name) := ⟨rfl, rfl, rfl, by decide +kernel, rfl, by decide +kernel, by decide +kernel⟩
theorem ok_is_name (T : Txt K mg) : Cal P w K mg base 1 "is_name" spName := by
  refine cal_ok T.d_is_name T.g_is_name sc_isname (fun _ _ _ _ _ _ us hl => match us, hl with | [_], _ => rfl) (fun vs H Q E h => ?_) (fun cdv A outer s H vs Q E hr h => ?_)
  · obtain ⟨_, rfl, _⟩ := h
    rfl
  · obtain ⟨z, rfl, hz, fin⟩ := h
    obtain ⟨n1, n2, n3, n4⟩ := names_ok z hz
    obtain ⟨t1, hml⟩ := T.i_MOST_LETTERS
    obtain ⟨t2, hle⟩ := T.s_LETTERS
    have nd := sc_isname.nd
    refine Ss_cons (S_if (T_w (W_or (T_not (T_val (E_isi (k := true) (u := .type "str") (cv := .ty "str") T.b_isinstance ?_))))))
    refine E_var 0 rfl ?_
    refine E_blt (v := .ty "str") (u := .type "str") T.b_str (by decide +kernel) rfl ⟨_, rfl, .ty _, .base (.str _), kit_ty (by decide +kernel), _, rfl, iteF (W_or1 (T_not (T_leLe ?_)))⟩
    refine E_int ?_
    refine E_callB call_len_str T.b_len PySem.boot_len (As_cons ?_)
    refine E_var 0 rfl ?_
    refine As_nil ⟨z, rfl, by rw [n3]; exact Nat.le_trans n2 (by decide), ?_⟩
    refine ⟨_, _, rfl, rfl, by rw [n3]; omega, E_glob (v := .int 8) hml ⟨_, rfl⟩ ⟨_, rfl, ?_⟩⟩
    have ed : decide (((z.length : Nat) : Int) ≤ 8) = true := decide_eq_true (by rw [n3]; omega)
    rw [ed]
    refine iteF (Ss_nil ?_)
    refine Ss_one (S_ret (E_all rfl T.b_all (E_lcS 1 rfl nd rfl (by show blkC ["thing", "sign"] (defScope s_is_name) _ [(_, 1)] = true; decide +kernel) ?_)))
    refine E_var 0 rfl ?_
    refine ⟨z, AccR (fun j v _ => ∃ y, (List.replicate z.cps.size true)[j]? = some y ∧ v = V.bl y), rfl, Nat.lt_of_le_of_lt n2 (by decide), fun H' _ => AccR.zero, AccR.fz (fun _ _ _ _ _ h => h), ?_, ?_⟩
    · intro j c acc H' hj e1 hl hA s0 H0 C cl fp
      refine E_cmp op_in_sign ?_
      refine E_var 1 rfl ?_
      refine E_glob (v := .str "abcdefghijklmnopqrstuvwxyz") hle ⟨_, rfl⟩ ⟨c, _, rfl, rfl, ?_⟩
      rw [decide_eq_true (n4 j c hj)]
      refine ⟨Evl.Ex.refl _, AccR.snoc (fun _ _ _ _ _ h => h) hA (Evl.Ex.refl _) ⟨true, ?_, rfl⟩⟩
      have : j < z.cps.size := (Array.getElem?_eq_some_iff.mp hj).1
      rw [List.getElem?_replicate, if_pos this]
    · intro Dl H1 ys hD e1 hy hA
      have ey := hA.map (by rw [List.length_replicate])
      subst ey
      refine ⟨Dl, _, rfl, SqL.of hy, ?_⟩
      have ea : (List.replicate z.cps.size true).all id = true := by simp
      rw [ea]
      exact fin _ e1
end
end BW

set_option Elab.async false
set_option linter.all false
set_option maxRecDepth 100000
set_option maxHeartbeats 4000000
namespace BW
open PySem PySem.Spec PyProof.Rows L2
/-! ### rows, plainly -/
theorem rows_at {n : Nat} : ∀ {rs : List Rw} {m i : Nat} {r : Rw}, RowsOk n m rs → rs[i]? = some r → r.Ok n (m + reads (rs.take i)) ∧ reads (rs.take (i + 1)) = reads (rs.take i) + r.reads
  | [], _, _, _, _, h => by simp at h
  | x :: rs, m, 0, r, ⟨h1, _⟩, h => by
    simp at h
    subst h
    refine ⟨h1, ?_⟩
    show reads [x] = _
    unfold reads
    simp
  | x :: rs, m, i + 1, r, ⟨h1, h2⟩, h => by
    obtain ⟨h3, h4⟩ := rows_at h2 (i := i) (r := r) (by simpa using h)
    have e : ∀ k, reads ((x :: rs).take (k + 1)) = x.reads + reads (rs.take k) := by
      intro k
      unfold reads
      simp
    rw [e, e, h4]
    refine ⟨?_, by omega⟩
    have e2 : m + (x.reads + reads (rs.take i)) = m + x.reads + reads (rs.take i) := by omega
    rw [e2]
    exact h3
theorem rows_five {n : Nat} : ∀ {rs : List Rw} {m : Nat}, RowsOk n m rs → m ≤ 5 → m + reads rs ≤ 5
  | [], m, _, h => by show m + 0 ≤ 5; omega
  | x :: rs, m, ⟨h1, h2⟩, h => by
    have hx : m + x.reads ≤ 5 := by
      cases x with
      | gate g => show m + 0 ≤ 5; omega
      | ask j b g => show m + 0 ≤ 5; omega
      | read w j =>
        have : m < 5 := h1.2.2
        show m + 1 ≤ 5
        omega
    have := rows_five h2 hx
    have e : reads (x :: rs) = x.reads + reads rs := by unfold reads; simp
    rw [e]
    omega
theorem rows_take {n : Nat} : ∀ {rs : List Rw} {m : Nat} (i : Nat), RowsOk n m rs → RowsOk n m (rs.take i)
  | _, _, 0, _ => trivial
  | [], _, _ + 1, _ => trivial
  | _ :: _, _, i + 1, ⟨h1, h2⟩ => ⟨h1, rows_take i h2⟩
theorem rows_gates {n : Nat} : ∀ {gs : List Gt} {m : Nat}, (∀ g ∈ gs, g.Ok n) → RowsOk n m (gs.map Rw.gate)
  | [], _, _ => trivial
  | g :: gs, m, h => ⟨h g (by simp), rows_gates fun x hx => h x (by simp [hx])⟩
def nmV (m : Nat) : List V := (bnames.take m).map V.str
theorem nmV_new : ∀ m, m < 5 → inV (.str (bn m)) (nmV m) = false := by decide +kernel
theorem nmV_old : ∀ m, m < 6 → ∀ j, j < m → inV (.str (bn j)) (nmV m) = true := by decide +kernel
theorem nmV_snoc : ∀ m, m < 5 → nmV (m + 1) = nmV m ++ [V.str (bn m)] := by decide +kernel
theorem nmV_flat (m : Nat) : (nmV m).all flatV = true := by unfold nmV; rw [List.all_map]; exact List.all_eq_true.mpr fun _ _ => rfl
theorem nmV_len (m : Nat) : (nmV m).length ≤ 5 := by unfold nmV; rw [List.length_map, List.length_take]; show min m 5 ≤ 5; omega
theorem bn_mem : ∀ j, j < 5 → bn j ∈ bnames := by decide +kernel
section
variable {P : Program} {w : World} {K : PySem.W.Frag} {mg : Str → Option Value} {base : Heap}
/-! ### is_gate, is_reading, is_asking -/
def spIsG (K : PySem.W.Frag) : Sp := fun vs H Q _ => ∃ (v : V) (n m : Nat) (r : Rw), vs = [v, .int (n : Nat)] ∧ RwA K H v r ∧ r.Ok n m ∧ (∀ wi j, r ≠ .read wi j) ∧ ∀ H', Ex H H' → Q (.bl r.isGate) H'
theorem sc_isg : FnScope ["thing", "many"] ["thing", "many"] (defScope s_is_gate) := ⟨rfl, rfl, rfl, by decide +kernel, rfl, by decide +kernel, by decide +kernel⟩
theorem ok_is_gate (T : Txt K mg) : Cal P w K mg base 2 "is_gate" (spIsG K) := by
  refine cal_ok T.d_is_gate T.g_is_gate sc_isg (fun _ _ _ _ _ _ us hl => match us, hl with | [_, _], _ => rfl) (fun vs H Q E h => ?_) (fun cdv A outer s H vs Q E hr h => ?_)
  · obtain ⟨_, _, _, _, rfl, _⟩ := h
    rfl
  · obtain ⟨v, n, m, r, rfl, hv, hok, hnr, fin⟩ := h
    have nd := sc_isg.nd
    cases r with
    | read wi j => exact absurd rfl (hnr wi j)
    | ask j b g =>
      obtain ⟨p, dx, gv, rfl, hp, _⟩ := hv
      refine Ss_one (S_ret (E_and (E_isi (k := false) (u := .ref (He.ga K "Gate")) (cv := .ref (He.ga K "Gate")) T.b_isinstance ?_)))
      refine E_var 0 rfl ?_
      exact E_glob (v := .ref (He.ga K "Gate")) T.g_Gate rfl ⟨_, rfl, .own _, ty_ins hp T.c_Asking T.y_Asking, T.t_Asking_Gate, _, rfl, iteF (fin _ (Evl.Ex.refl _))⟩
    | gate g =>
      obtain ⟨p, dx, t, rfl, hp, ht⟩ := id hv
      have hw0 : 0 < g.ws.length := by rw [hok.1]; cases g.kd <;> decide
      refine Ss_one (S_ret (E_and (E_isi (k := true) (u := .ref (He.ga K "Gate")) (cv := .ref (He.ga K "Gate")) T.b_isinstance ?_)))
      refine E_var 0 rfl ?_
      refine E_glob (v := .ref (He.ga K "Gate")) T.g_Gate rfl ⟨_, rfl, .own _, ty_ins hp (cls_k T g.kd) (ins_k T g.kd), is_Gate T g.kd, _, rfl, iteT (E_one (E_clt (E_maxT rfl T.b_max (E_meth0 (ok_wires T g.kd) (cls_k T g.kd) hr ?_))))⟩
      refine E_var 0 rfl ?_
      refine ⟨p, dx, _, rfl, hp, rfl, _, g.ws, rfl, hv, fun t' ht' => ⟨t', _, rfl, by rw [← wsV_int]; exact ht'.t, by rw [List.length_map]; exact hw0, fun mm hm1 _ => ?_⟩⟩
      refine E_var 1 rfl ?_
      refine ⟨_, _, rfl, rfl, ?_⟩
      have ed : decide (mm < (n : Int)) = true := by
        obtain ⟨x, hx, rfl⟩ := List.mem_map.mp hm1
        have := hok.2.2 x hx
        exact decide_eq_true (by omega)
      rw [ed]
      exact fin _ (Evl.Ex.refl _)
def isRead : Rw → Bool
  | .read _ _ => true
  | _ => false
def spIsR (K : PySem.W.Frag) : Sp := fun vs H Q _ => ∃ (v : V) (n m : Nat) (r : Rw) (lb : Addr), vs = [v, .int (n : Nat), .ref lb] ∧ RwA K H v r ∧ r.Ok n m ∧ H lb = some (.lst (nmV m)) ∧ ∀ H', Ex H H' → Q (.bl (isRead r)) H'
theorem sc_isr : FnScope ["thing", "many", "bits"] ["thing", "many", "bits"] (defScope s_is_reading) := ⟨rfl, rfl, rfl, by decide +kernel, rfl, by decide +kernel, by decide +kernel⟩
theorem ok_is_reading (T : Txt K mg) : Cal P w K mg base 2 "is_reading" (spIsR K) := by
  refine cal_ok T.d_is_reading T.g_is_reading sc_isr (fun _ _ _ _ _ _ us hl => match us, hl with | [_, _, _], _ => rfl) (fun vs H Q E h => ?_) (fun cdv A outer s H vs Q E hr h => ?_)
  · obtain ⟨_, _, _, _, _, rfl, _⟩ := h
    rfl
  · obtain ⟨v, n, m, r, lb, rfl, hv, hok, hlb, fin⟩ := h
    have nd := sc_isr.nd
    cases r with
    | gate g =>
      obtain ⟨p, dx, t, rfl, hp, _⟩ := id hv
      refine Ss_cons (S_if (T_w (W_or (T_not (T_val (E_isi (k := false) (u := .ref (He.ga K "Reading")) (cv := .ref (He.ga K "Reading")) T.b_isinstance ?_))))))
      refine E_var 0 rfl ?_
      exact E_glob (v := .ref (He.ga K "Reading")) T.g_Reading rfl ⟨_, rfl, .own _, ty_ins hp (cls_k T g.kd) (ins_k T g.kd), is_Reading T g.kd, _, rfl, iteT (iteT (Ss_one (S_ret (E_bl (fin _ (Evl.Ex.refl _))))))⟩
    | ask j b g =>
      obtain ⟨p, dx, gv, rfl, hp, _⟩ := hv
      refine Ss_cons (S_if (T_w (W_or (T_not (T_val (E_isi (k := false) (u := .ref (He.ga K "Reading")) (cv := .ref (He.ga K "Reading")) T.b_isinstance ?_))))))
      refine E_var 0 rfl ?_
      exact E_glob (v := .ref (He.ga K "Reading")) T.g_Reading rfl ⟨_, rfl, .own _, ty_ins hp T.c_Asking T.y_Asking, T.t_Asking_Reading, _, rfl, iteT (iteT (Ss_one (S_ret (E_bl (fin _ (Evl.Ex.refl _))))))⟩
    | read wi j =>
      obtain ⟨p, dx, rfl, hp⟩ := hv
      obtain ⟨hw, rfl, hj⟩ := hok
      refine Ss_cons (S_if (T_w (W_or (T_not (T_val (E_isi (k := true) (u := .ref (He.ga K "Reading")) (cv := .ref (He.ga K "Reading")) T.b_isinstance ?_))))))
      refine E_var 0 rfl ?_
      refine E_glob (v := .ref (He.ga K "Reading")) T.g_Reading rfl ⟨_, rfl, .own _, ty_ins hp T.c_Reading T.y_Reading, T.t_Reading_Reading, _, rfl, iteF (W_or (T_not (T_val (E_call (ok_is_whole T) (hr.mono (by decide)) (As_cons (E_fld ?_))))))⟩
      refine E_var 0 rfl ?_
      refine ⟨p, _, dx, _, _, rfl, hp, T.c_Reading, T.n_Reading_wire, rfl, As_nil ⟨_, rfl, fun H1 e1 => ⟨_, rfl, iteF (W_or1 (T_not (T_leLt ?_)))⟩⟩⟩
      refine E_int ?_
      refine E_fld ?_
      refine E_var 0 rfl ?_
      refine ⟨p, _, dx, _, _, rfl, e1 _ _ hp, T.c_Reading, T.n_Reading_wire, rfl, _, _, rfl, rfl, by omega, ?_⟩
      refine E_var 1 rfl ?_
      refine ⟨_, rfl, ?_⟩
      have ed : decide (((wi : Nat) : Int) < (n : Int)) = true := decide_eq_true (by omega)
      rw [ed]
      refine iteF (Ss_nil ?_)
      refine Ss_one (S_ret (E_and (E_call (ok_is_name T) (hr.mono (by decide)) (As_cons (E_fld ?_)))))
      refine E_var 0 rfl ?_
      refine ⟨p, _, dx, _, _, rfl, e1 _ _ hp, T.c_Reading, T.n_Reading_bit, rfl, As_nil ⟨_, rfl, bn_mem j hj, fun H2 e2 => ⟨_, rfl, iteT (E_one (E_cmp op_notIn_seq (E_fld ?_)))⟩⟩⟩
      refine E_var 0 rfl ?_
      refine ⟨p, _, dx, _, _, rfl, e2 _ _ (e1 _ _ hp), T.c_Reading, T.n_Reading_bit, rfl, ?_⟩
      refine E_var 2 rfl ?_
      refine ⟨lb, _, rfl, .inl (SqL.of (e2 _ _ (e1 _ _ hlb))), rfl, nmV_flat _, ?_⟩
      rw [if_pos rfl, nmV_new j hj]
      exact fin _ (e1.trans e2)
def spIsA (K : PySem.W.Frag) : Sp := fun vs H Q _ => ∃ (v : V) (n m j : Nat) (b : Bool) (g : Gt) (lb : Addr), vs = [v, .int (n : Nat), .ref lb] ∧ RwA K H v (.ask j b g) ∧ (Rw.ask j b g).Ok n m ∧ m ≤ 5 ∧ H lb = some (.lst (nmV m)) ∧ ∀ H', Ex H H' → Q (.bl true) H'
theorem sc_isa : FnScope ["thing", "many", "bits"] ["thing", "many", "bits"] (defScope s_is_asking) := ⟨rfl, rfl, rfl, by decide +kernel, rfl, by decide +kernel, by decide +kernel⟩
theorem ok_is_asking (T : Txt K mg) : Cal P w K mg base 3 "is_asking" (spIsA K) := by
  refine cal_ok T.d_is_asking T.g_is_asking sc_isa (fun _ _ _ _ _ _ us hl => match us, hl with | [_, _, _], _ => rfl) (fun vs H Q E h => ?_) (fun cdv A outer s H vs Q E hr h => ?_)
  · obtain ⟨_, _, _, _, _, _, _, rfl, _⟩ := h
    rfl
  · obtain ⟨v, n, m, j, b, g, lb, rfl, ⟨p, dx, gv, rfl, hp, hg⟩, ⟨hj, hgo⟩, hm, hlb, fin⟩ := h
    have nd := sc_isa.nd
    refine Ss_cons (S_if (T_w (W_or (T_not (T_val (E_isi (k := true) (u := .ref (He.ga K "Asking")) (cv := .ref (He.ga K "Asking")) T.b_isinstance ?_))))))
    refine E_var 0 rfl ?_
    refine E_glob (v := .ref (He.ga K "Asking")) T.g_Asking rfl ⟨_, rfl, .own _, ty_ins hp T.c_Asking T.y_Asking, T.t_Asking_Asking, _, rfl, iteF (W_or (T_not (T_val (E_call (ok_is_name T) (hr.mono (by decide)) (As_cons (E_fld ?_))))))⟩
    refine E_var 0 rfl ?_
    refine ⟨p, _, dx, _, _, rfl, hp, T.c_Asking, T.n_Asking_bit, rfl, As_nil ⟨_, rfl, bn_mem j (by omega), fun H1 e1 => ⟨_, rfl, iteF (W_or1 (T_cmp op_notIn_seq (E_fld ?_)))⟩⟩⟩
    refine E_var 0 rfl ?_
    refine ⟨p, _, dx, _, _, rfl, e1 _ _ hp, T.c_Asking, T.n_Asking_bit, rfl, ?_⟩
    refine E_var 2 rfl ?_
    refine ⟨lb, _, rfl, .inl (SqL.of (e1 _ _ hlb)), rfl, nmV_flat _, _, rfl, ?_⟩
    rw [if_pos rfl, nmV_old m (by omega) j hj]
    refine iteF (Ss_nil ?_)
    refine Ss_one (S_ret (E_and (E_call (ok_is_whole T) (hr.mono (by decide)) (As_cons (E_fld ?_)))))
    refine E_var 0 rfl ?_
    refine ⟨p, _, dx, _, _, rfl, e1 _ _ hp, T.c_Asking, T.n_Asking_value, rfl, As_nil ⟨_, rfl, fun H2 e2 => ⟨_, rfl, iteT (E_and (E_cmp op_in_seq (E_fld ?_)))⟩⟩⟩
    have e12 := e1.trans e2
    refine E_var 0 rfl ?_
    refine ⟨p, _, dx, _, _, rfl, e12 _ _ hp, T.c_Asking, T.n_Asking_value, rfl, ?_⟩
    refine E_tup ?_
    refine As_cons ?_
    refine E_int ?_
    refine As_cons ?_
    refine E_int ?_
    refine As_nil ?_
    refine ⟨by show 2 ≤ sizeLine; decide, fun p1 H1 z1 e1 h1 => ?_⟩
    refine ⟨p1, _, rfl, .inr (SqT.of h1), rfl, rfl, ?_⟩
    have e0 : inV (.int (b.toNat : Nat)) [V.int 0, V.int 1] = true := by cases b <;> decide
    have e0' : (if false = true then !inV (.int (b.toNat : Nat)) [V.int 0, V.int 1] else inV (.int (b.toNat : Nat)) [V.int 0, V.int 1]) = true := by rw [if_neg Bool.false_ne_true, e0]
    have e13 := e12.trans (by assumption : Ex _ _)
    refine ⟨_, congrArg V.bl e0', iteT (E_one (E_call (ok_is_gate T) (hr.mono (by decide)) (As_cons (E_fld ?_))))⟩
    refine E_var 0 rfl ?_
    refine ⟨p, _, dx, _, _, rfl, e13 _ _ hp, T.c_Asking, T.n_Asking_gate, rfl, As_cons ?_⟩
    refine E_var 1 rfl ?_
    exact As_nil ⟨_, n, 0, .gate g, rfl, hg.ex e13, hgo, (fun _ _ z => nomatch z), fun H4 e4 => fin _ (e13.trans e4)⟩
/-! ### looked -/
def spLooked (K : PySem.W.Frag) : Sp := fun vs H Q _ => ∃ (n : Nat) (lr : Addr) (ws : List V) (rows : List Rw), vs = [.int (n : Nat), .ref lr] ∧ Wd n ∧ H lr = some (.lst ws) ∧ All2 (RwA K H) ws rows ∧ RowsOk n 0 rows ∧ rows.length ≤ 60 ∧
  ∀ tb H', Ex H H' → SqN H' tb (nmV (reads rows)) → Q (.ref tb) H'
theorem sc_looked : FnScope ["many", "rows", "bits", "row"] ["many", "rows"] (defScope s_looked) := ⟨rfl, rfl, rfl, by decide +kernel, rfl, by decide +kernel, by decide +kernel⟩
theorem ok_looked (T : Txt K mg) : Cal P w K mg base 4 "looked" (spLooked K) := by
  refine cal_ok T.d_looked T.g_looked sc_looked (fun _ _ _ _ _ _ us hl => match us, hl with | [_, _], _ => rfl) (fun vs H Q E h => ?_) (fun cdv A outer s H vs Q E hr h => ?_)
  · obtain ⟨_, _, _, _, rfl, _⟩ := h
    rfl
  · obtain ⟨n, lr, ws, rows, rfl, wd, hlr, hall, hok, hlen, fin⟩ := h
    have nd := sc_looked.nd
    have hwl : ws.length = rows.length := hall.len
    have h5 : reads rows ≤ 5 := by have := rows_five hok (by omega); omega
    have h5' : ∀ i, reads (rows.take i) ≤ 5 := fun i => by have := rows_five (rows_take i hok) (by omega); omega
    obtain ⟨t1, hmw⟩ := T.i_MOST_WIRES
    obtain ⟨t2, hmr⟩ := T.i_MOST_ROWS
    obtain ⟨t3, hmd⟩ := T.i_MOST_READINGS
    refine Ss_cons (S_if (T_w (W_or (T_not (T_val (E_call (ok_is_whole T) (hr.mono (by decide)) (As_cons ?_)))))))
    refine E_var 0 rfl ?_
    refine As_nil ⟨_, rfl, fun H1 e1 => ⟨_, rfl, iteF (W_or (T_not (T_leLe ?_)))⟩⟩
    refine E_int ?_
    refine E_var 0 rfl ?_
    have w1 := wd.lo
    have w2 := wd.hi
    refine ⟨_, _, rfl, rfl, by omega, E_glob (v := .int 5) hmw ⟨_, rfl⟩ ⟨_, rfl, ?_⟩⟩
    have ed : decide (((n : Nat) : Int) ≤ 5) = true := decide_eq_true (by omega)
    rw [ed]
    refine iteF (W_or1 (T_not (T_val (E_isi (k := true) (u := .type "list") (cv := .ty "list") T.b_isinstance ?_))))
    refine E_var 1 rfl ?_
    refine E_blt (v := .ty "list") (u := .type "list") T.b_list (by decide +kernel) rfl ⟨_, rfl, .ty _, .base (.lst (e1 _ _ hlr)), kit_ty (by decide +kernel), _, rfl, iteF (Ss_nil ?_)⟩
    refine Ss_cons (S_set (i := 2) rfl (E_lst (As_nil ⟨by show 0 ≤ sizeLine; decide, fun lb H2 zb e2 hb => ?_⟩)) nd)
    have e12 := e1.trans e2
    have hlr2 := e12 _ _ hlr
    have nrb : lr ≠ lb := ne_of_none (e1 _ _ hlr) zb
    refine Ss_cons ?_
    refine S_forL PassesOwn.never rfl ?_
    refine E_var 1 rfl ?_
    refine ⟨lr, ws, fun i σ' H' => ∃ z : Option V, ExB lb H2 H' ∧ H' lb = some (.lst (nmV (reads (rows.take i)))) ∧ σ' = [some (.int (n : Nat)), some (.ref lr), some (.ref lb), z], rfl, SqL.of hlr2, ⟨none, ExB.refl _ _, hb, rfl⟩, ?_, ?_, ?_⟩
    · rintro i σ' H' _ ⟨_, eb, _, _⟩
      exact SqL.of (eb _ _ nrb hlr2)
    · rintro i x σ' H' hi ⟨z, eb, hlb, rfl⟩
      obtain ⟨r, hr1, hrA⟩ := hall.get hi
      have hrA' : RwA K H' x r := hrA.fz ((Fz.of e12).trans (ExB.fz eb hb))
      obtain ⟨hrk, hrd⟩ := rows_at hok hr1
      rw [Nat.zero_add] at hrk
      refine G_name (i := 3) rfl ?_ nd
      refine Ss_one (S_if (T_val (E_call (ok_is_reading T) (hr.mono (by decide)) (As_cons ?_))))
      refine E_var 3 rfl ?_
      refine As_cons ?_
      refine E_var 0 rfl ?_
      refine As_cons ?_
      refine E_var 2 rfl ?_
      refine As_nil ⟨x, n, _, r, lb, rfl, hrA', hrk, hlb, fun H3 e3 => ⟨_, rfl, ?_⟩⟩
      have hlb3 := e3 _ _ hlb
      have eb3 := eb.trans (ExB.of e3)
      cases r with
      | read wi j =>
        obtain ⟨p, dx, rfl, hp⟩ := hrA'
        have hj5 : j < 5 := by have h7 := hrk.2.2; have h8 := hrk.2.1; omega
        refine iteT (Ss_one (S_expr (E_append ?_)))
        refine E_var 2 rfl ?_
        refine ⟨lb, _, rfl, hlb3, E_fld ?_⟩
        refine E_var 3 rfl ?_
        refine ⟨p, _, dx, _, _, rfl, e3 _ _ hp, T.c_Reading, T.n_Reading_bit, rfl, _, hlb3, Nat.lt_of_le_of_lt (nmV_len _) (by decide), ?_⟩
        refine ⟨_, eb3.trans ExB.upd, ?_, rfl⟩
        rw [upd_same, hrd]
        have hjm : j = reads (rows.take i) := hrk.2.1
        show some (HO.lst (nmV (reads (rows.take i)) ++ [V.str (bn j)])) = some (HO.lst (nmV (reads (rows.take i) + 1)))
        rw [nmV_snoc _ (by omega), ← hjm]
      | gate g =>
        refine iteF (Ss_one (S_if (T_w (W_and (T_not (T_val (E_call (ok_is_gate T) (hr.mono (by decide)) (As_cons ?_))))))))
        refine E_var 3 rfl ?_
        refine As_cons ?_
        refine E_var 0 rfl ?_
        refine As_nil ⟨x, n, _, .gate g, rfl, hrA'.fz (Fz.of e3), hrk, (fun _ _ z => nomatch z), fun H4 e4 => ⟨_, rfl, iteF (Ss_nil ⟨_, eb3.trans (ExB.of e4), ?_, rfl⟩)⟩⟩
        rw [hrd]
        exact e4 _ _ hlb3
      | ask j b g =>
        refine iteF (Ss_one (S_if (T_w (W_and (T_not (T_val (E_call (ok_is_gate T) (hr.mono (by decide)) (As_cons ?_))))))))
        refine E_var 3 rfl ?_
        refine As_cons ?_
        refine E_var 0 rfl ?_
        refine As_nil ⟨x, n, _, .ask j b g, rfl, hrA'.fz (Fz.of e3), hrk, (fun _ _ z => nomatch z), fun H4 e4 => ⟨_, rfl, iteT (W_and1 (T_not (T_val (E_call (ok_is_asking T) (hr.mono (by decide)) (As_cons ?_)))))⟩⟩
        refine E_var 3 rfl ?_
        refine As_cons ?_
        refine E_var 0 rfl ?_
        refine As_cons ?_
        refine E_var 2 rfl ?_
        refine As_nil ⟨x, n, _, j, b, g, lb, rfl, hrA'.fz (Fz.of (e3.trans e4)), hrk, h5' i, e4 _ _ hlb3, fun H5 e5 => ⟨_, rfl, iteF (Ss_nil ⟨_, (eb3.trans (ExB.of e4)).trans (ExB.of e5), ?_, rfl⟩)⟩⟩
        rw [hrd]
        exact e5 _ _ (e4 _ _ hlb3)
    · rintro σ' H' ⟨z, eb, hlb, rfl⟩
      have hlr' := eb _ _ nrb hlr2
      rw [hwl, List.take_of_length_le (Nat.le_refl _)] at hlb
      refine Ss_cons (S_if (T_w (W_or (T_cgt (E_len T.b_len ?_)))))
      refine E_var 1 rfl ?_
      refine ⟨lr, ws, rfl, .inl (SqL.of hlr'), E_glob (v := .int 60) hmr ⟨_, rfl⟩ ⟨_, _, rfl, rfl, ?_⟩⟩
      have ed1 : decide ((60 : Int) < (ws.length : Nat)) = false := decide_eq_false (by omega)
      rw [ed1]
      refine iteF (W_or1 (T_cgt (E_len T.b_len ?_)))
      refine E_var 2 rfl ?_
      refine ⟨lb, _, rfl, .inl (SqL.of hlb), E_glob (v := .int 5) hmd ⟨_, rfl⟩ ⟨_, _, rfl, rfl, ?_⟩⟩
      have h6 := nmV_len (reads rows)
      have ed2 : decide ((5 : Int) < ((nmV (reads rows)).length : Nat)) = false := decide_eq_false (by omega)
      rw [ed2]
      refine iteF (Ss_nil ?_)
      refine Ss_one (S_ret (E_tuple T.b_tuple ?_))
      refine E_var 2 rfl ?_
      refine ⟨lb, _, rfl, SqL.of hlb, fun tb H3 zt e3 ht => fin tb H3 ?_ ht⟩
      have ex : Ex H H' := fun b ob h0 => eb b ob (fun z => by
        have h1 := e1 b ob h0
        rw [z, zb] at h1
        cases h1) (e12 b ob h0)
      exact ex.trans e3
end
end BW

set_option Elab.async false
set_option linter.all false
set_option maxRecDepth 100000
set_option maxHeartbeats 4000000
namespace BW
open PySem PySem.Spec PyProof.Rows L2
section
variable {P : Program} {w : World} {K : PySem.W.Frag} {mg : Str → Option Value} {base : Heap}
/-! ### Circuit -/
def CirA (K : PySem.W.Frag) (H : Hp) (v : V) (n : Nat) (rows : List Rw) : Prop := ∃ p dx t tb vs, v = .ref p ∧ H p = some (.ins (He.ga K "Circuit") dx [("bits_read", .ref tb), ("size", .int (n : Nat)), ("kept", .ref t)]) ∧ SqN H tb (nmV (reads rows)) ∧ SqT K H t vs ∧ All2 (RwA K H) vs rows
theorem CirA.fz {H H' : Hp} {v : V} {n : Nat} {rows : List Rw} (h : CirA K H v n rows) (e : Fz H H') : CirA K H' v n rows := by
  obtain ⟨p, dx, t, tb, vs, rfl, h1, h2, h3, h4⟩ := h
  exact ⟨p, dx, t, tb, vs, rfl, e _ _ h1 rfl, h2.fz e, SqT.fz h3 e, rows_fz h4 e⟩
theorem CirA.ex {H H' : Hp} {v : V} {n : Nat} {rows : List Rw} (h : CirA K H v n rows) (e : Ex H H') : CirA K H' v n rows := h.fz (Fz.of e)
def spCir (K : PySem.W.Frag) : Sp := fun vs H Q _ => ∃ (H0 : Hp) (y dx lr : Addr) (ws : List V) (n : Nat) (rows : List Rw), vs = [.ref y, .int (n : Nat), .ref lr] ∧ H0 y = none ∧ Ex H0 H ∧ H y = some (.ins (He.ga K "Circuit") dx []) ∧ H0 lr = some (.lst ws) ∧ All2 (RwA K H0) ws rows ∧ Wd n ∧ RowsOk n 0 rows ∧ rows.length ≤ 60 ∧
  ∀ H', Ex H0 H' → CirA K H' (.ref y) n rows → Q .non H'
theorem sc_cinit : FnScope ["self", "many", "rows"] ["self", "many", "rows"] (defScope s_Circuit_init) := ⟨rfl, rfl, rfl, by decide +kernel, rfl, by decide +kernel, by decide +kernel⟩
theorem mk_Circuit (T : Txt K mg) : KCal P w K mg base 5 "Circuit" (He.ga K "Circuit") (spCir K) := by
  refine kcal_ok T.d_Circuit_init T.g_Circuit T.k_Circuit sc_cinit (fun _ _ _ _ _ _ us hl => match us, hl with | [_, _, _], _ => rfl) (fun vs H Q E h => ?_) (fun cdv A outer s H vs Q E hr h => ?_)
  · obtain ⟨_, _, _, _, _, _, _, rfl, _⟩ := h
    rfl
  · obtain ⟨H0, y, dx, lr, ws, n, rows, rfl, hy0, e0, hy, hlr, hall, wd, hok, hlen, fin⟩ := h
    have nd := sc_cinit.nd
    refine Ss_cons (S_fld (E_call (ok_looked T) hr (As_cons ?_)))
    refine E_var 1 rfl ?_
    refine As_cons ?_
    refine E_var 2 rfl ?_
    refine As_nil ⟨n, lr, ws, rows, rfl, wd, e0 _ _ hlr, rows_fz hall (Fz.of e0), hok, hlen, fun tb H1 e1 htb => ?_⟩
    refine E_var 0 rfl ?_
    have hy1 := e1 _ _ hy
    refine ⟨y, _, dx, _, rfl, hy1, T.c_Circuit, T.n_Circuit_bits_read, by show 0 < 1000; decide, ?_⟩
    have b1 : ExB y H1 (upd H1 y (.ins (He.ga K "Circuit") dx [("bits_read", .ref tb)])) := ExB.upd
    refine Ss_cons (S_fld ?_)
    refine E_var 1 rfl ?_
    refine E_var 0 rfl ?_
    refine ⟨y, _, dx, _, rfl, upd_same, T.c_Circuit, T.n_Circuit_size, by show 1 < 1000; decide, ?_⟩
    have b2 := b1.trans (ExB.upd (l := y) (H := upd H1 y (.ins (He.ga K "Circuit") dx [("bits_read", .ref tb)])) (o := .ins (He.ga K "Circuit") dx [("bits_read", .ref tb), ("size", .int (n : Nat))]))
    have x2 := ExB.new (e0.trans e1) hy0 b2
    refine Ss_one (S_fld (E_tuple T.b_tuple ?_))
    refine E_var 2 rfl ?_
    refine ⟨lr, ws, rfl, SqL.of (x2 _ _ hlr), fun t H3 zt e3 ht => ?_⟩
    refine E_var 0 rfl ?_
    refine ⟨y, _, dx, _, rfl, e3 _ _ upd_same, T.c_Circuit, T.n_Circuit_kept, by show 2 < 1000; decide, ?_⟩
    have x3 := x2.trans e3
    have b3 : ExB y H3 (upd H3 y (.ins (He.ga K "Circuit") dx [("bits_read", .ref tb), ("size", .int (n : Nat)), ("kept", .ref t)])) := ExB.upd
    have x4 := ExB.new x3 hy0 b3
    have nt : t ≠ y := fun z => by rw [z] at zt; rw [upd_same] at zt; cases zt
    have ntb : tb ≠ y := by
      rintro rfl
      obtain ⟨o, h, _⟩ := htb
      rw [hy1] at h
      cases h
    refine fin _ x4 ⟨y, dx, t, tb, ws, rfl, upd_same, ?_, ?_, rows_fz hall (Fz.of x4)⟩
    · obtain ⟨o, h, h'⟩ := htb
      exact ⟨o, b3 _ _ ntb (e3 _ _ (b2 _ _ ntb h)), h'⟩
    · obtain ⟨o, h, h'⟩ := ht
      exact SqN.t ⟨o, b3 _ _ nt h, h'⟩
def cirF (n tb t : Nat) : Prop := True
theorem sc_cmany : FnScope ["self"] ["self"] (defScope s_Circuit_many) := ⟨rfl, rfl, rfl, by decide +kernel, rfl, by decide +kernel, by decide +kernel⟩
theorem ok_cmany (T : Txt K mg) : MCal P w K mg base 1 (He.ga K "Circuit") "many" (fun vs H Q E => ∃ (v : V) (n : Nat) (rows : List Rw), vs = [v] ∧ CirA K H v n rows ∧ Q (.int (n : Nat)) H) := by
  refine mcal_ok T.d_Circuit_many T.m_Circuit_many sc_cmany (fun _ _ _ _ _ _ us hl => match us, hl with | [_], _ => rfl) (fun vs H Q E h => ?_) (fun cdv A outer s H vs Q E hr h => ?_)
  · obtain ⟨_, _, _, rfl, _⟩ := h
    rfl
  · obtain ⟨v, n, rows, rfl, ⟨p, dx, t, tb, vs, rfl, hp, htb, ht, ha⟩, fin⟩ := h
    refine Ss_one (S_ret (E_fld ?_))
    refine E_var 0 rfl ?_
    exact ⟨p, _, dx, _, _, rfl, hp, T.c_Circuit, T.n_Circuit_size, rfl, fin⟩
theorem sc_crows : FnScope ["self"] ["self"] (defScope s_Circuit_rows) := ⟨rfl, rfl, rfl, by decide +kernel, rfl, by decide +kernel, by decide +kernel⟩
theorem ok_crows (T : Txt K mg) : MCal P w K mg base 1 (He.ga K "Circuit") "rows" (fun vs H Q E => ∃ (v : V) (n : Nat) (rows : List Rw), vs = [v] ∧ CirA K H v n rows ∧ ∀ l H' ws, H l = none → Ex H H' → H' l = some (.lst ws) → All2 (RwA K H') ws rows → Q (.ref l) H') := by
  refine mcal_ok T.d_Circuit_rows T.m_Circuit_rows sc_crows (fun _ _ _ _ _ _ us hl => match us, hl with | [_], _ => rfl) (fun vs H Q E h => ?_) (fun cdv A outer s H vs Q E hr h => ?_)
  · obtain ⟨_, _, _, rfl, _⟩ := h
    rfl
  · obtain ⟨v, n, rows, rfl, ⟨p, dx, t, tb, vs, rfl, hp, htb, ht, ha⟩, fin⟩ := h
    refine Ss_one (S_ret (E_list T.b_list (E_fld ?_)))
    refine E_var 0 rfl ?_
    exact ⟨p, _, dx, _, _, rfl, hp, T.c_Circuit, T.n_Circuit_kept, rfl, t, vs, rfl, .inr ht, fun l H2 hl e h2 => fin l H2 vs hl e h2 (rows_fz ha (Fz.of e))⟩
theorem sc_cbits : FnScope ["self"] ["self"] (defScope s_Circuit_bits) := ⟨rfl, rfl, rfl, by decide +kernel, rfl, by decide +kernel, by decide +kernel⟩
theorem ok_cbits (T : Txt K mg) : MCal P w K mg base 1 (He.ga K "Circuit") "bits" (fun vs H Q E => ∃ (v : V) (n : Nat) (rows : List Rw), vs = [v] ∧ CirA K H v n rows ∧ ∀ tb, SqN H tb (nmV (reads rows)) → Q (.ref tb) H) := by
  refine mcal_ok T.d_Circuit_bits T.m_Circuit_bits sc_cbits (fun _ _ _ _ _ _ us hl => match us, hl with | [_], _ => rfl) (fun vs H Q E h => ?_) (fun cdv A outer s H vs Q E hr h => ?_)
  · obtain ⟨_, _, _, rfl, _⟩ := h
    rfl
  · obtain ⟨v, n, rows, rfl, ⟨p, dx, t, tb, vs, rfl, hp, htb, ht, ha⟩, fin⟩ := h
    refine Ss_one (S_ret (E_fld ?_))
    refine E_var 0 rfl ?_
    exact ⟨p, _, dx, _, _, rfl, hp, T.c_Circuit, T.n_Circuit_bits_read, rfl, fin tb htb⟩
theorem rw_get {H : Hp} {vs : List V} {rows : List Rw} (h : All2 (RwA K H) vs rows) {j : Nat} {y : V} (hj : vs[j]? = some y) : ∃ r, rows[j]? = some r ∧ RwA K H y r := h.get hj
theorem sc_cplain : FnScope ["self", "row"] ["self"] (defScope s_Circuit_is_plain) := ⟨rfl, rfl, rfl, by decide +kernel, rfl, by decide +kernel, by decide +kernel⟩
theorem ok_plain (T : Txt K mg) : MCal P w K mg base 1 (He.ga K "Circuit") "is_plain" (fun vs H Q E => ∃ (v : V) (n : Nat) (rows : List Rw), vs = [v] ∧ CirA K H v n rows ∧ rows.length ≤ 60 ∧ ∀ H', Ex H H' → Q (.bl (rows.all Rw.isGate)) H') := by
  refine mcal_ok T.d_Circuit_is_plain T.m_Circuit_is_plain sc_cplain (fun _ _ _ _ _ _ us hl => match us, hl with | [_], _ => rfl) (fun vs H Q E h => ?_) (fun cdv A outer s H vs Q E hr h => ?_)
  · obtain ⟨_, _, _, rfl, _⟩ := h
    rfl
  · obtain ⟨v, n, rows, rfl, ⟨p, dx, t, tb, vs, rfl, hp, htb, ht, ha⟩, hlen, fin⟩ := h
    have nd := sc_cplain.nd
    have hvl : vs.length = rows.length := ha.len
    refine Ss_one (S_ret (E_all rfl T.b_all (E_lcT 1 rfl nd rfl (by show blkC ["self", "row"] (defScope s_Circuit_is_plain) _ [(_, 1)] = true; decide +kernel) (E_fld ?_))))
    refine E_var 0 rfl ?_
    refine ⟨p, _, dx, _, _, rfl, hp, T.c_Circuit, T.n_Circuit_kept, rfl, t, vs, AccR (fun j z _ => ∃ y, (rows.map Rw.isGate)[j]? = some y ∧ z = V.bl y), rfl, ht, by rw [hvl]; exact Nat.lt_of_le_of_lt hlen (by decide), fun H' _ => AccR.zero, AccR.fz (fun _ _ _ _ _ h => h), ?_, ?_⟩
    · intro j y acc H' hj e1 hl hA s0 H0 C cl fp
      obtain ⟨r, hr1, hrA⟩ := rw_get ha hj
      have hrA := hrA.fz (Fz.of e1)
      have go : Ex H' H' ∧ AccR (fun j z _ => ∃ y, (rows.map Rw.isGate)[j]? = some y ∧ z = V.bl y) (j + 1) (acc ++ [V.bl r.isGate]) H' :=
        ⟨Evl.Ex.refl _, AccR.snoc (fun _ _ _ _ _ h => h) hA (Evl.Ex.refl _) ⟨_, by rw [List.getElem?_map, hr1]; rfl, rfl⟩⟩
      cases r with
      | gate g =>
        obtain ⟨p', dx', t', rfl, hp', _⟩ := hrA
        refine E_isi (k := true) (u := .ref (He.ga K "Gate")) (cv := .ref (He.ga K "Gate")) T.b_isinstance ?_
        refine E_var 1 rfl ?_
        exact E_glob (v := .ref (He.ga K "Gate")) T.g_Gate rfl ⟨_, rfl, .own _, ty_ins hp' (cls_k T g.kd) (ins_k T g.kd), is_Gate T g.kd, go⟩
      | read wi jj =>
        obtain ⟨p', dx', rfl, hp'⟩ := hrA
        refine E_isi (k := false) (u := .ref (He.ga K "Gate")) (cv := .ref (He.ga K "Gate")) T.b_isinstance ?_
        refine E_var 1 rfl ?_
        exact E_glob (v := .ref (He.ga K "Gate")) T.g_Gate rfl ⟨_, rfl, .own _, ty_ins hp' T.c_Reading T.y_Reading, T.t_Reading_Gate, go⟩
      | ask jj b g =>
        obtain ⟨p', dx', gv, rfl, hp', _⟩ := hrA
        refine E_isi (k := false) (u := .ref (He.ga K "Gate")) (cv := .ref (He.ga K "Gate")) T.b_isinstance ?_
        refine E_var 1 rfl ?_
        exact E_glob (v := .ref (He.ga K "Gate")) T.g_Gate rfl ⟨_, rfl, .own _, ty_ins hp' T.c_Asking T.y_Asking, T.t_Asking_Gate, go⟩
    · intro Dl H1 ys hD e1 hy hA
      have ey := hA.map (by rw [List.length_map, hvl])
      subst ey
      refine ⟨Dl, _, rfl, SqL.of hy, ?_⟩
      have ea : (rows.map Rw.isGate).all id = rows.all Rw.isGate := by rw [List.all_map]; rfl
      rw [ea]
      exact fin _ e1
def spCBack (K : PySem.W.Frag) : Sp := fun vs H Q _ => ∃ (v : V) (n : Nat) (gs : List Gt), vs = [v] ∧ CirA K H v n (gs.map Rw.gate) ∧ Wd n ∧ (∀ g ∈ gs, g.Ok n) ∧ gs.length ≤ 60 ∧ ∀ v' H', Ex H H' → CirA K H' v' n ((gs.reverse.map Gt.back).map Rw.gate) → Q v' H'
theorem sc_cback : FnScope ["self", "row"] ["self"] (defScope s_Circuit_back) := ⟨rfl, rfl, rfl, by decide +kernel, rfl, by decide +kernel, by decide +kernel⟩
theorem ok_cback (T : Txt K mg) : MCal P w K mg base 7 (He.ga K "Circuit") "back" (spCBack K) := by
  refine mcal_ok T.d_Circuit_back T.m_Circuit_back sc_cback (fun _ _ _ _ _ _ us hl => match us, hl with | [_], _ => rfl) (fun vs H Q E h => ?_) (fun cdv A outer s H vs Q E hr h => ?_)
  · obtain ⟨_, _, _, rfl, _⟩ := h
    rfl
  · obtain ⟨v, n, gs, rfl, hv, wd, hok, hlen, fin⟩ := h
    obtain ⟨p, dx, t, tb, vs, rfl, hp, htb, ht, ha⟩ := id hv
    have nd := sc_cback.nd
    have hn5 := wd.hi
    have hvl : vs.length = gs.length := by have := ha.len; rw [List.length_map] at this; exact this
    refine Ss_cons (S_if (T_not (T_val (E_meth0 (ok_plain T) T.c_Circuit (hr.mono (by decide)) ?_))))
    refine E_var 0 rfl ?_
    refine ⟨p, dx, _, rfl, hp, rfl, _, n, _, rfl, hv, by rw [List.length_map]; exact hlen, fun H1 e1 => ⟨_, rfl, ?_⟩⟩
    have ep : (gs.map Rw.gate).all Rw.isGate = true := by rw [List.all_map]; exact List.all_eq_true.mpr fun _ _ => rfl
    rw [ep]
    refine iteF (Ss_nil ?_)
    refine Ss_one (S_ret (E_make (mk_Circuit T) hr (As_cons (E_fld ?_))))
    refine E_var 0 rfl ?_
    have ht1 := SqT.fz ht (Fz.of e1)
    refine ⟨p, _, dx, _, _, rfl, e1 _ _ hp, T.c_Circuit, T.n_Circuit_size, rfl, As_cons (E_lcRT 1 rfl nd rfl (by show blkC ["self", "row"] (defScope s_Circuit_back) _ [(_, 1)] = true; decide +kernel) T.b_reversed (E_fld ?_))⟩
    refine E_var 0 rfl ?_
    refine ⟨p, _, dx, _, _, rfl, e1 _ _ hp, T.c_Circuit, T.n_Circuit_kept, rfl, t, vs, AccR (fun j z H' => ∃ g, (gs.reverse.map Gt.back)[j]? = some g ∧ GtA K H' z g), rfl, ht1, by rw [hvl]; exact Nat.lt_of_le_of_lt hlen (by decide), fun H' _ => AccR.zero, AccR.fz (fun _ _ _ _ e ⟨x, h1, h2⟩ => ⟨x, h1, h2.fz e⟩), ?_, ?_⟩
    · intro j y acc H' hj hjl e2 hl hA s0 H0 C cl fp
      obtain ⟨r, hr1, hrA⟩ := rw_get ha hj
      rw [List.getElem?_map] at hr1
      cases eg : gs[vs.length - 1 - j]? with
      | none => rw [eg] at hr1; cases hr1
      | some g =>
        rw [eg] at hr1
        cases hr1
        have hgk := hok g (List.mem_of_getElem? eg)
        have hrA : GtA K H' y g := GtA.ex (show GtA K H y g from hrA) (e1.trans e2)
        obtain ⟨p', dx', t', rfl, hp', _⟩ := id hrA
        refine E_meth0 (ok_back T g.kd) (cls_k T g.kd) (hr.mono (by decide)) ?_
        refine E_var 1 rfl ?_
        refine ⟨p', dx', _, rfl, hp', rfl, _, g.ws, rfl, hrA, hgk.1, hgk.2.1, fun x hx => by have := hgk.2.2 x hx; omega, fun v' H4 e4 g4 => ⟨e4, AccR.snoc (fun _ _ _ _ e ⟨x, h1, h2⟩ => ⟨x, h1, h2.fz e⟩) hA e4 ⟨g.back, ?_, g4⟩⟩⟩
        rw [List.getElem?_map, List.getElem?_reverse (by omega), ← hvl, eg]
        rfl
    · intro Dl H2 ys hD e2 hy hA
      refine As_nil fun yy dxx H3 hyy e3 h3 => ?_
      have hl2 : (gs.reverse.map Gt.back).length = gs.length := by rw [List.length_map, List.length_reverse]
      refine ⟨H2, yy, dxx, Dl, ys, n, _, rfl, hyy, e3, h3, hy, ?_, wd, rows_gates (gs := gs.reverse.map Gt.back) ?_, by rw [List.length_map, hl2]; exact hlen, fun H4 e4 hc => ⟨rfl, fin _ _ (e1.trans (e2.trans e4)) hc⟩⟩
      · refine All2.of (by rw [hA.1, List.length_map, hl2, hvl]) fun i a b h1 h2 => ?_
        obtain ⟨g, h3, h4⟩ := hA.2 i a h1
        rw [List.getElem?_map, h3] at h2
        cases h2
        exact h4
      · intro g hg
        obtain ⟨x, hx, rfl⟩ := List.mem_map.mp hg
        exact back_ok (hok x (List.mem_reverse.mp hx))
end
end BW

set_option Elab.async false
set_option linter.all false
set_option maxRecDepth 100000
set_option maxHeartbeats 4000000
namespace BW
open PySem PySem.Spec PyProof.Rows L2
section
variable {P : Program} {w : World} {K : PySem.W.Frag} {mg : Str → Option Value} {base : Heap}
/-! ### branches -/
def BrA (K : PySem.W.Frag) (H : Hp) (v : V) (br : Br) : Prop := ∃ p tb sv, v = .ref p ∧ SqT K H p [.ref tb, sv] ∧ SqT K H tb (bitsV br.1) ∧ StA K H sv br.2
theorem BrA.fz {H H' : Hp} {v : V} {br : Br} (h : BrA K H v br) (e : Fz H H') : BrA K H' v br := by
  obtain ⟨p, tb, sv, rfl, h1, h2, h3⟩ := h
  exact ⟨p, tb, sv, rfl, SqT.fz h1 e, SqT.fz h2 e, h3.fz e⟩
theorem brs_fz {H H' : Hp} {vs : List V} {brs : List Br} (h : All2 (BrA K H) vs brs) (e : Fz H H') : All2 (BrA K H') vs brs := h.mp fun _ _ t => t.fz e
/-! ### half_of -/
theorem half_at {n wi : Nat} {b : Bool} {es : List Z8} {m : Nat} {e : Z8} (h : es[m]? = some e) : (halfM n wi b es)[m]? = some (if m.testBit (n - 1 - wi) = b then e else Z8.nought) := by
  unfold halfM
  rw [List.getElem?_map, List.getElem?_zipIdx, h]
  simp
theorem half_len (n wi : Nat) (b : Bool) (es : List Z8) : (halfM n wi b es).length = es.length := by unfold halfM; rw [List.length_map, List.length_zipIdx]
theorem half_can {n wi : Nat} {b : Bool} {es : List Z8} (h : ∀ e ∈ es, Canon e) : ∀ e ∈ halfM n wi b es, Canon e := by
  intro e he
  unfold halfM at he
  obtain ⟨x, hx, rfl⟩ := List.mem_map.mp he
  split
  · obtain ⟨_, _, h3⟩ := List.mem_zipIdx hx
    rw [h3]
    exact h _ (List.getElem_mem _)
  · exact nought_canon
theorem ns_list_inj : ∀ {l m : List Z8}, l.map Z8.ns = m.map Z8.ns → l = m
  | [], [], _ => rfl
  | [], _ :: _, h => by simp at h
  | _ :: _, [], h => by simp at h
  | a :: l, b :: m, h => by
    rw [List.map_cons, List.map_cons] at h
    injection h with h1 h2
    rw [Z8.ns_inj h1, ns_list_inj h2]
theorem bit_eq (b c : Bool) : decide (((b.toNat : Nat) : Int) = ((c.toNat : Nat) : Int)) = decide (b = c) := by cases b <;> cases c <;> decide
def spHalf (K : PySem.W.Frag) : Sp := fun vs H Q _ => ∃ (st : V) (n wi : Nat) (b : Bool) (es : List Z8), vs = [st, .int (wi : Nat), .int (b.toNat : Nat)] ∧ StA K H st es ∧ Wd n ∧ es.length = 2 ^ n ∧ (∀ e ∈ es, Canon e) ∧ wi < n ∧
  ((allN (halfM n wi b es) → ∀ H', Ex H H' → Q .non H') ∧ (¬ allN (halfM n wi b es) → ∀ v H', Ex H H' → StA K H' v (halfM n wi b es) → Q v H'))
theorem sc_half : FnScope ["state", "wire", "bit", "place", "kept", "row", "one"] ["state", "wire", "bit"] (defScope s_half_of) := ⟨rfl, rfl, rfl, by decide +kernel, rfl, by decide +kernel, by decide +kernel⟩
theorem ok_half (T : Txt K mg) : Cal P w K mg base 5 "half_of" (spHalf K) := by
  refine cal_ok T.d_half_of T.g_half_of sc_half (fun _ _ _ _ _ _ us hl => match us, hl with | [_, _, _], _ => rfl) (fun vs H Q E h => ?_) (fun cdv A outer s H vs Q E hr h => ?_)
  · obtain ⟨_, _, _, _, _, rfl, _⟩ := h
    rfl
  · obtain ⟨st, n, wi, b, es, rfl, hst, wd, hlen, hcan, hwn, fin0, fin1⟩ := h
    obtain ⟨ps, dxs, ts, vsS, rfl, hps, hts, haS⟩ := id hst
    have nd := sc_half.nd
    have h16 := two_le wd
    have hn5 := wd.hi
    refine Ss_cons (S_set (i := 3) rfl (E_sub (E_sub (E_meth0 (ok_many T) T.c_State (hr.mono (by decide)) ?_))) nd)
    refine E_var 0 rfl ?_
    refine ⟨ps, dxs, _, rfl, hps, rfl, _, n, es, rfl, hst, wd, hlen, ?_⟩
    refine E_int ?_
    refine ⟨_, _, rfl, rfl, ?_⟩
    refine E_var 1 rfl ?_
    refine ⟨_, _, rfl, rfl, ?_⟩
    have ep : (n : Int) - 1 - ((wi : Nat) : Int) = ((n - 1 - wi : Nat) : Int) := by omega
    rw [ep]
    refine Ss_cons (S_lcE (k := 4) 5 6 (by decide) rfl nd rfl rfl (by show blkC ["state", "wire", "bit", "place", "kept", "row", "one"] (defScope s_half_of) _ [(_, 5), (_, 6)] = true; decide +kernel) rfl T.b_enumerate (E_meth0 (ok_eighths T) T.c_State (hr.mono (by decide)) ?_))
    refine E_var 0 rfl ?_
    refine ⟨ps, dxs, _, rfl, hps, rfl, _, es, rfl, hst, fun le H1 we zl e1 hle hwe => ?_⟩
    have hwl : we.length = es.length := by have := hwe.len; rw [List.length_map] at this; exact this
    refine ⟨le, we, AccR (fun j z H' => ∃ e, (halfM n wi b es)[j]? = some e ∧ TI K H' z e.ns), rfl, SqL.of hle, by rw [hwl, hlen]; exact Nat.lt_of_le_of_lt h16 (by decide), fun H' _ => AccR.zero, AccR.fz (fun _ _ _ _ e ⟨x, h1, h2⟩ => ⟨x, h1, h2.fz e⟩), ?_, ?_⟩
    · intro m y acc H' H'' hj e2 e3 hl hA s0 H0 C cl fp
      obtain ⟨e, he, te⟩ := lti_get hwe hj
      have hm32 : m < 32 := by have := (List.getElem?_eq_some_iff.mp he).1; omega
      refine E_ifx (T_ceq (E_band (E_shr ?_)))
      refine E_var 5 rfl ?_
      refine E_var 3 rfl ?_
      refine ⟨_, _, rfl, rfl, by omega, ?_⟩
      refine E_int ?_
      refine ⟨_, _, rfl, rfl, ?_⟩
      rw [bit_shift hm32 (by omega)]
      refine E_var 2 rfl ?_
      refine ⟨_, _, rfl, rfl, ?_⟩
      rw [bit_eq]
      have hA2 := AccR.fz (R := fun j z H' => ∃ e, (halfM n wi b es)[j]? = some e ∧ TI K H' z e.ns) (fun _ _ _ _ e ⟨x, h1, h2⟩ => ⟨x, h1, h2.fz e⟩) _ _ _ _ (Fz.of e3) hA
      have hat := half_at (n := n) (wi := wi) (b := b) he
      by_cases z : m.testBit (n - 1 - wi) = b
      · rw [decide_eq_true z]
        refine iteT ?_
        refine E_var 6 rfl ?_
        rw [if_pos z] at hat
        exact ⟨e3, AccR.snoc (fun _ _ _ _ e ⟨x, h1, h2⟩ => ⟨x, h1, h2.fz e⟩) hA2 (Evl.Ex.refl _) ⟨e, hat, te.ex (e2.trans e3)⟩⟩
      · rw [decide_eq_false z]
        rw [if_neg z] at hat
        exact iteF (E_glob (v := .ref (He.ga K "NOUGHT")) T.g_NOUGHT rfl ⟨e3, AccR.snoc (fun _ _ _ _ e ⟨x, h1, h2⟩ => ⟨x, h1, h2.fz e⟩) hA2 (Evl.Ex.refl _) ⟨Z8.nought, hat, _, rfl, T.x_NOUGHT _⟩⟩)
    intro lk H2 ys zk e2 hk hA
    have hyl : ys.length = es.length := by rw [hA.1, hwl]
    have hall : All2 (TI K H2) ys ((halfM n wi b es).map Z8.ns) := by
      refine All2.of (by rw [hyl, List.length_map, half_len]) fun i a c h1 h2 => ?_
      obtain ⟨e, h3, h4⟩ := hA.2 i a h1
      rw [List.getElem?_map, h3] at h2
      cases h2
      exact h4
    have e12 := e1.trans e2
    refine Ss_cons (S_if (T_cmp (op_eqLT hr.units) ?_))
    refine E_var 4 rfl ?_
    refine E_rep (E_lst (As_cons (E_glob (v := .ref (He.ga K "NOUGHT")) T.g_NOUGHT rfl (As_nil ⟨by show 1 ≤ sizeLine; decide, fun pn H3 zn e3 hn => E_len T.b_len ?_⟩))))
    refine E_var 4 rfl ?_
    refine ⟨lk, ys, rfl, .inl (SqL.of (e3 _ _ hk)), pn, _, _, rfl, rfl, hn, by omega, by omega, by rw [Int.toNat_natCast, hyl, hlen]; exact Nat.le_trans h16 (by decide), fun pr H4 zr e4 hr4 => ?_⟩
    rw [Int.toNat_natCast] at hr4
    have e24 := e3.trans e4
    have r0 : TI K H4 (.ref (He.ga K "NOUGHT")) Z8.nought.ns := ⟨_, rfl, T.x_NOUGHT _⟩
    refine ⟨lk, pr, (halfM n wi b es).map Z8.ns, List.replicate ys.length Z8.nought.ns, rfl, rfl, ⟨ys, SqL.of (e24 _ _ hk), all2_fz hall (Fz.of e24)⟩, ⟨_, SqL.of hr4, All2.rep r0 _⟩, _, rfl, ?_⟩
    have eqv : (halfM n wi b es).map Z8.ns = List.replicate ys.length Z8.nought.ns ↔ allN (halfM n wi b es) := by
      have er : List.replicate ys.length Z8.nought.ns = (List.replicate (halfM n wi b es).length Z8.nought).map Z8.ns := by rw [List.map_replicate, half_len, hyl]
      rw [er]
      exact ⟨fun z => ns_list_inj z, fun z => congrArg (List.map Z8.ns) z⟩
    have e14 := e12.trans e24
    by_cases z : allN (halfM n wi b es)
    · rw [decide_eq_true (eqv.mpr z)]
      exact iteT (Ss_one (S_ret (E_non (fin0 z _ e14))))
    · rw [decide_eq_false (fun zz => z (eqv.mp zz))]
      refine iteF (Ss_nil (Ss_one (S_ret (E_make (ok_State T) hr (As_cons ?_)))))
      refine E_var 4 rfl ?_
      refine As_nil fun y dx H5 hy e5 h5 => ?_
      exact State_made hy e5 h5 (e24 _ _ hk) (all2_fz hall (Fz.of e24)) wd (by rw [half_len, hlen]) (half_can hcan) fun v H6 e6 hv => fin1 z v H6 (e14.trans e6) hv
/-! ### read_out -/
/-- what one branch gives in j turns -/
def partsN (n wi : Nat) (br : Br) : Nat → List Br
  | 0 => []
  | 1 => part1 n wi br false
  | _ => partsM n wi br
theorem read_step {n wi : Nat} {brs : List Br} {i : Nat} {br : Br} (h : brs[i]? = some br) : readM n wi (brs.take (i + 1)) = readM n wi (brs.take i) ++ partsM n wi br := by
  unfold readM
  rw [List.take_add_one, h, List.flatMap_append]
  simp
theorem part_len (n wi : Nat) (br : Br) (b : Bool) : (part1 n wi br b).length ≤ 1 := by
  unfold part1
  split <;> simp
theorem parts_len (n wi : Nat) (br : Br) : (partsM n wi br).length ≤ 2 := by
  unfold partsM
  have h1 := part_len n wi br false
  have h2 := part_len n wi br true
  rw [List.length_append]
  omega
theorem partsN_len (n wi : Nat) (br : Br) (j : Nat) : (partsN n wi br j).length ≤ 2 := by
  match j with
  | 0 => exact Nat.zero_le _
  | 1 => exact Nat.le_succ_of_le (part_len n wi br false)
  | _ + 2 => exact parts_len n wi br
theorem readM_len (n wi : Nat) : ∀ brs : List Br, (readM n wi brs).length ≤ 2 * brs.length
  | [] => Nat.zero_le _
  | br :: brs => by
    have h1 := parts_len n wi br
    have h2 := readM_len n wi brs
    show (partsM n wi br ++ readM n wi brs).length ≤ 2 * (brs.length + 1)
    rw [List.length_append]
    omega
def spReadOut (K : PySem.W.Frag) : Sp := fun vs H Q _ => ∃ (lb : Addr) (bv : List V) (n wi : Nat) (brs : List Br), vs = [.ref lb, .int (wi : Nat)] ∧ H lb = some (.lst bv) ∧ All2 (BrA K H) bv brs ∧ Wd n ∧ wi < n ∧ (∀ br ∈ brs, br.2.length = 2 ^ n ∧ (∀ e ∈ br.2, Canon e) ∧ br.1.length < 100) ∧ brs.length ≤ 1000 ∧
  ∀ l H' vs', Ex H H' → H' l = some (.lst vs') → All2 (BrA K H') vs' (readM n wi brs) → Q (.ref l) H'
theorem bitsV_snoc (bs : List Bool) (b : Bool) : bitsV bs ++ [V.int (b.toNat : Nat)] = bitsV (bs ++ [b]) := by
  unfold bitsV
  rw [List.map_append]
  rfl
theorem sc_readout : FnScope ["branches", "wire", "found", "bits", "state", "bit", "part"] ["branches", "wire"] (defScope s_read_out) := ⟨rfl, rfl, rfl, by decide +kernel, rfl, by decide +kernel, by decide +kernel⟩
theorem ok_read_out (T : Txt K mg) : Cal P w K mg base 6 "read_out" (spReadOut K) := by
  refine cal_ok T.d_read_out T.g_read_out sc_readout (fun _ _ _ _ _ _ us hl => match us, hl with | [_, _], _ => rfl) (fun vs H Q E h => ?_) (fun cdv A outer s H vs Q E hr h => ?_)
  · obtain ⟨_, _, _, _, _, rfl, _⟩ := h
    rfl
  · obtain ⟨lb, bv, n, wi, brs, rfl, hlb, hall, wd, hwn, hbr, hlen, fin⟩ := h
    have nd := sc_readout.nd
    have hbl : bv.length = brs.length := hall.len
    refine Ss_cons (S_set (i := 2) rfl (E_lst (As_nil ⟨by show 0 ≤ sizeLine; decide, fun fo H1 zf e1 hf => ?_⟩)) nd)
    have nbf : lb ≠ fo := ne_of_none hlb zf
    refine Ss_cons ?_
    refine S_forL PassesOwn.never rfl ?_
    refine E_var 0 rfl ?_
    refine ⟨lb, bv, fun i σ' H' => ∃ (z3 z4 z5 z6 : Option V) (vs' : List V), ExB fo H1 H' ∧ H' fo = some (.lst vs') ∧ All2 (BrA K H') vs' (readM n wi (brs.take i)) ∧ σ' = [some (.ref lb), some (.int (wi : Nat)), some (.ref fo), z3, z4, z5, z6], rfl, SqL.of (e1 _ _ hlb), ⟨none, none, none, none, [], ExB.refl _ _, hf, .nil, rfl⟩, ?_, ?_, ?_⟩
    · rintro i σ' H' _ ⟨_, _, _, _, _, eb, _, _, _⟩
      exact SqL.of (eb _ _ nbf (e1 _ _ hlb))
    · rintro i x σ' H' hi ⟨z3, z4, z5, z6, vs', eb, hfo, ha, rfl⟩
      obtain ⟨br, hbr1, hbrA⟩ := hall.get hi
      have hbm := hbr br (List.mem_of_getElem? hbr1)
      obtain ⟨px, tb, sv, rfl, hpx, htb, hsv⟩ := hbrA.fz ((Fz.of e1).trans (ExB.fz eb hf))
      have hil : i < brs.length := (List.getElem?_eq_some_iff.mp hbr1).1
      refine G_tup rfl hpx rfl (Gs_cons (G_name (i := 3) rfl (Gs_cons (G_name (i := 4) rfl (Gs_nil ?_) nd)) nd))
      refine Ss_one (S_forT PassesOwn.never rfl ?_)
      refine E_tup ?_
      refine As_cons ?_
      refine E_int ?_
      refine As_cons ?_
      refine E_int ?_
      refine As_nil ?_
      refine ⟨by show 2 ≤ sizeLine; decide, fun p7 H7 z7 e7 h7 => ?_⟩
      have hfo7 := e7 _ _ hfo
      have htake : (brs.take i).length ≤ 1000 := by rw [List.length_take]; omega
      refine ⟨p7, _, fun j σ'' H'' => ∃ (z5 z6 : Option V) (vs2 : List V), ExB fo H7 H'' ∧ H'' fo = some (.lst vs2) ∧ All2 (BrA K H'') vs2 (readM n wi (brs.take i) ++ partsN n wi br j) ∧ σ'' = [some (.ref lb), some (.int (wi : Nat)), some (.ref fo), some (.ref tb), some sv, z5, z6], rfl, SqT.of h7, ⟨z5, z6, vs', ExB.refl _ _, hfo7, ?_, rfl⟩, ?_, ?_, ?_⟩
      · show All2 (BrA K H7) vs' (readM n wi (brs.take i) ++ [])
        rw [List.append_nil]
        exact brs_fz ha (Fz.of e7)
      · rintro j σ'' H'' _ ⟨_, _, _, eb7, _, _, _⟩
        exact SqT.fz (SqT.of h7) (ExB.fz eb7 hfo7)
      · rintro j x σ'' H8 hj ⟨z5', z6', vs2, eb7, hfo8, ha8, rfl⟩
        obtain ⟨b, rfl, hparts⟩ : ∃ b : Bool, x = V.int (b.toNat : Nat) ∧ partsN n wi br (j + 1) = partsN n wi br j ++ part1 n wi br b := by
          match j, hj with
          | 0, hj =>
            cases hj
            exact ⟨false, rfl, rfl⟩
          | 1, hj =>
            cases hj
            exact ⟨true, rfl, rfl⟩
        have fz8 : Fz H' H8 := (Fz.of e7).trans (ExB.fz eb7 hfo7)
        refine G_name (i := 5) rfl ?_ nd
        refine Ss_cons (S_set (i := 6) rfl (E_call (ok_half T) hr (As_cons ?_)) nd)
        refine E_var 4 rfl ?_
        refine As_cons ?_
        refine E_var 1 rfl ?_
        refine As_cons ?_
        refine E_var 5 rfl ?_
        refine As_nil ⟨sv, n, wi, b, br.2, rfl, hsv.fz fz8, wd, hbm.1, hbm.2.1, hwn, fun z H9 e9 => ?_, fun z v H9 e9 hv => ?_⟩
        · refine Ss_one (S_if (T_cmp op_notN ?_))
          refine E_var 6 rfl ?_
          refine E_non ⟨rfl, _, rfl, ?_⟩
          have en : (!decide (V.non = V.non)) = false := by decide
          rw [en]
          refine iteF (Ss_nil ⟨_, _, vs2, eb7.trans (ExB.of e9), e9 _ _ hfo8, ?_, rfl⟩)
          have ep : part1 n wi br b = [] := if_pos z
          rw [hparts, ep, List.append_nil]
          exact brs_fz ha8 (Fz.of e9)
        · obtain ⟨pv, hv1⟩ : ∃ pv, v = .ref pv := by
            obtain ⟨p, _, _, _, rfl, _⟩ := hv
            exact ⟨p, rfl⟩
          subst hv1
          refine Ss_one (S_if (T_cmp op_notN ?_))
          refine E_var 6 rfl ?_
          refine E_non ⟨rfl, _, rfl, ?_⟩
          have en : (!decide (V.ref pv = V.non)) = true := by simp
          rw [en]
          refine iteT (Ss_one (S_expr (E_append ?_)))
          refine E_var 2 rfl ?_
          have hfo9 := e9 _ _ hfo8
          refine ⟨fo, _, rfl, hfo9, E_tup (As_cons (E_catT ?_))⟩
          refine E_var 3 rfl ?_
          refine E_tup ?_
          refine As_cons ?_
          refine E_var 5 rfl ?_
          refine As_nil ?_
          refine ⟨by show 1 ≤ sizeLine; decide, fun p10 H10 z10 e10 h10 => ?_⟩
          have htb10 : SqT K H10 tb (bitsV br.1) := SqT.fz htb (fz8.trans (Fz.of (e9.trans e10)))
          refine ⟨tb, p10, _, _, rfl, rfl, htb10, SqT.of h10, ?_, by simp, fun p11 H11 e11 h11 => As_cons ?_⟩
          · unfold bitsV
            rw [List.length_map]
            have := hbm.2.2
            show br.1.length + 1 ≤ sizeLine
            exact Nat.le_trans (show br.1.length + 1 ≤ 1000 by omega) (by decide)
          refine E_var 6 rfl ?_
          refine As_nil ⟨by show 2 ≤ sizeLine; decide, fun p12 H12 z12 e12 h12 => ?_⟩
          have e912 := e10.trans (e11.trans e12)
          have hl2 : vs2.length ≤ 2002 := by
            rw [ha8.len, List.length_append]
            have q1 := readM_len n wi (brs.take i)
            have q2 := partsN_len n wi br j
            omega
          refine ⟨vs2, e912 _ _ hfo9, Nat.lt_of_le_of_lt hl2 (by decide), ?_⟩
          have fzu : Fz H12 (upd H12 fo (.lst (vs2 ++ [.ref p12]))) := Fz.upd (e912 _ _ hfo9)
          refine ⟨_, _, _, ((eb7.trans (ExB.of e9)).trans (ExB.of e912)).trans ExB.upd, upd_same, ?_, rfl⟩
          have ep : part1 n wi br b = [(br.1 ++ [b], halfM n wi b br.2)] := if_neg z
          rw [hparts, ep, ← List.append_assoc]
          refine (brs_fz ha8 ((Fz.of (e9.trans e912)).trans fzu)).snoc ?_
          rw [bitsV_snoc] at h11
          exact ⟨p12, p11, _, rfl, SqT.fz (SqT.of h12) fzu, SqT.fz h11 ((Fz.of e12).trans fzu), (hv.ex e912).fz fzu⟩
      · rintro σ'' H'' ⟨z5', z6', vs2, eb7, hfo8, ha8, rfl⟩
        refine ⟨_, _, z5', z6', vs2, (eb.trans (ExB.of e7)).trans eb7, hfo8, ?_, rfl⟩
        rw [read_step hbr1]
        exact ha8
    · rintro σ' H' ⟨z3, z4, z5, z6, vs', eb, hfo, ha, rfl⟩
      rw [hbl, List.take_of_length_le (Nat.le_refl _)] at ha
      refine Ss_one (S_ret ?_)
      refine E_var 2 rfl ?_
      refine fin fo H' vs' (fun b ob h0 => eb b ob (fun z => ?_) (e1 b ob h0)) hfo ha
      rw [z, zf] at h0
      cases h0
/-! ### asked -/
def ask1 (n j : Nat) (v : Bool) (g : Gt) (br : Br) : Br := if br.1.getD j false = v then (br.1, onM n g br.2) else br
theorem ask_step {n j : Nat} {v : Bool} {g : Gt} {brs : List Br} {i : Nat} {br : Br} (h : brs[i]? = some br) : askM n j v g (brs.take (i + 1)) = askM n j v g (brs.take i) ++ [ask1 n j v g br] := by
  unfold askM
  rw [List.take_add_one, h, List.map_append]
  rfl
def spAsked (K : PySem.W.Frag) : Sp := fun vs H Q _ => ∃ (lb : Addr) (bv : List V) (rv : V) (n j : Nat) (b : Bool) (g : Gt) (brs : List Br), vs = [.ref lb, .int (j : Nat), rv] ∧ H lb = some (.lst bv) ∧ All2 (BrA K H) bv brs ∧ RwA K H rv (.ask j b g) ∧ g.Ok n ∧ Wd n ∧
  (∀ br ∈ brs, br.2.length = 2 ^ n ∧ (∀ e ∈ br.2, e.k < 2 ^ 40) ∧ j < br.1.length) ∧ brs.length ≤ 1000 ∧
  ∀ l H' vs', Ex H H' → H' l = some (.lst vs') → All2 (BrA K H') vs' (askM n j b g brs) → Q (.ref l) H'
theorem bit_get {bs : List Bool} {j : Nat} (h : j < bs.length) : atI (bitsV bs) (j : Int) = some (V.int ((bs.getD j false).toNat : Nat)) := by
  refine atI_nat ?_
  unfold bitsV
  rw [List.getElem?_map, List.getElem?_eq_getElem h]
  simp [List.getD, h]
theorem sc_asked : FnScope ["branches", "place", "row", "found", "bits", "state"] ["branches", "place", "row"] (defScope s_asked) := ⟨rfl, rfl, rfl, by decide +kernel, rfl, by decide +kernel, by decide +kernel⟩
theorem ok_asked (T : Txt K mg) : Cal P w K mg base 6 "asked" (spAsked K) := by
  refine cal_ok T.d_asked T.g_asked sc_asked (fun _ _ _ _ _ _ us hl => match us, hl with | [_, _, _], _ => rfl) (fun vs H Q E h => ?_) (fun cdv A outer s H vs Q E hr h => ?_)
  · obtain ⟨_, _, _, _, _, _, _, _, rfl, _⟩ := h
    rfl
  · obtain ⟨lb, bv, rv, n, j, b, g, brs, rfl, hlb, hall, ⟨pr, dr, gv, rfl, hpr, hgv⟩, hg, wd, hbr, hlen, fin⟩ := h
    have nd := sc_asked.nd
    have hbl : bv.length = brs.length := hall.len
    refine Ss_cons (S_set (i := 3) rfl (E_lst (As_nil ⟨by show 0 ≤ sizeLine; decide, fun fo H1 zf e1 hf => ?_⟩)) nd)
    have nbf : lb ≠ fo := ne_of_none hlb zf
    refine Ss_cons ?_
    refine S_forL PassesOwn.never rfl ?_
    refine E_var 0 rfl ?_
    refine ⟨lb, bv, fun i σ' H' => ∃ (z4 z5 : Option V) (vs' : List V), ExB fo H1 H' ∧ H' fo = some (.lst vs') ∧ All2 (BrA K H') vs' (askM n j b g (brs.take i)) ∧ σ' = [some (.ref lb), some (.int (j : Nat)), some (.ref pr), some (.ref fo), z4, z5], rfl, SqL.of (e1 _ _ hlb), ⟨none, none, [], ExB.refl _ _, hf, .nil, rfl⟩, ?_, ?_, ?_⟩
    · rintro i σ' H' _ ⟨_, _, _, eb, _, _, _⟩
      exact SqL.of (eb _ _ nbf (e1 _ _ hlb))
    · rintro i x σ' H' hi ⟨z4, z5, vs', eb, hfo, ha, rfl⟩
      obtain ⟨br, hbr1, hbrA⟩ := hall.get hi
      have hbm := hbr br (List.mem_of_getElem? hbr1)
      have fz0 := (Fz.of e1).trans (ExB.fz eb hf)
      obtain ⟨px, tb, sv, rfl, hpx, htb, hsv⟩ := hbrA.fz fz0
      have hpr' := fz0 _ _ hpr rfl
      have hgv' : GtA K H' gv g := hgv.fz fz0
      have hl2 : vs'.length ≤ 1000 := by
        rw [ha.len]
        unfold askM
        rw [List.length_map, List.length_take]
        omega
      refine G_tup rfl hpx rfl (Gs_cons (G_name (i := 4) rfl (Gs_cons (G_name (i := 5) rfl (Gs_nil ?_) nd)) nd))
      have tail : ∀ (H8 : Hp) (sv' : V), Ex H' H8 → StA K H8 sv' (ask1 n j b g br).2 → (ask1 n j b g br).1 = br.1 → ∀ (D : Ends), (∀ σ' H'', (∃ (z4 z5 : Option V) (vs' : List V), ExB fo H1 H'' ∧ H'' fo = some (.lst vs') ∧ All2 (BrA K H'') vs' (askM n j b g (brs.take (i + 1))) ∧ σ' = [some (.ref lb), some (.int (j : Nat)), some (.ref pr), some (.ref fo), z4, z5]) → D.nx σ' H'') →
          Ss (cxB P w K mg base ["branches", "place", "row", "found", "bits", "state"] "asked" s_asked (He.ga K "asked") cdv A outer s H E) ((fun st : Stmt => match st with | .For _ _ body _ _ => body.drop 1 | _ => []) ((defBody s_asked).getD 1 (.Pass ⟨0, 0, 0, 0⟩))) D [some (.ref lb), some (.int (j : Nat)), some (.ref pr), some (.ref fo), some (.ref tb), some sv'] H8 := by
        intro H8 sv' e8 hs8 hb1 D hD
        refine Ss_one (S_expr (E_append ?_))
        refine E_var 3 rfl ?_
        have hfo8 := e8 _ _ hfo
        refine ⟨fo, _, rfl, hfo8, ?_⟩
        refine E_tup ?_
        refine As_cons ?_
        refine E_var 4 rfl ?_
        refine As_cons ?_
        refine E_var 5 rfl ?_
        refine As_nil ?_
        refine ⟨by show 2 ≤ sizeLine; decide, fun p12 H12 z12 e12 h12 => ?_⟩
        refine ⟨vs', e12 _ _ hfo8, Nat.lt_of_le_of_lt hl2 (by decide), ?_⟩
        have fzu : Fz H12 (upd H12 fo (.lst (vs' ++ [.ref p12]))) := Fz.upd (e12 _ _ hfo8)
        refine hD _ _ ⟨_, _, _, ((eb.trans (ExB.of e8)).trans (ExB.of e12)).trans ExB.upd, upd_same, ?_, rfl⟩
        rw [ask_step hbr1]
        refine (brs_fz ha ((Fz.of (e8.trans e12)).trans fzu)).snoc ?_
        refine ⟨p12, tb, _, rfl, SqT.fz (SqT.of h12) fzu, ?_, (hs8.ex e12).fz fzu⟩
        rw [hb1]
        exact SqT.fz htb ((Fz.of (e8.trans e12)).trans fzu)
      refine Ss_cons (S_if (T_ceq (E_ixT ?_)))
      refine E_var 4 rfl ?_
      refine E_var 1 rfl ?_
      refine ⟨tb, _, _, _, rfl, rfl, htb, bit_get hbm.2.2, E_fld ?_⟩
      refine E_var 2 rfl ?_
      refine ⟨pr, _, dr, _, _, rfl, hpr', T.c_Asking, T.n_Asking_value, rfl, _, _, rfl, rfl, ?_⟩
      rw [bit_eq]
      by_cases z : br.1.getD j false = b
      · rw [decide_eq_true z]
        have ea : ask1 n j b g br = (br.1, onM n g br.2) := if_pos z
        obtain ⟨pg, dg, tg, rfl, hpg, htg⟩ := id hgv'
        refine iteT (Ss_one (S_set (i := 5) rfl (E_meth (ok_on T g.kd) (cls_k T g.kd) hr (E_fld ?_)) nd))
        refine E_var 2 rfl ?_
        refine ⟨pr, _, dr, _, _, rfl, hpr', T.c_Asking, T.n_Asking_gate, rfl, pg, dg, _, rfl, hpg, rfl, As_cons ?_⟩
        refine E_var 5 rfl ?_
        refine As_nil ⟨_, sv, g.ws, n, br.2, rfl, hgv', hg, hsv, wd, hbm.1, hbm.2.1, fun r H8 e8 hr8 => ?_⟩
        refine tail H8 r e8 ?_ ?_ _ (fun _ _ h => h)
        · rw [ea]; exact hr8
        · rw [ea]
      · rw [decide_eq_false z]
        have ea : ask1 n j b g br = br := if_neg z
        refine iteF (Ss_nil ?_)
        refine tail H' sv (Evl.Ex.refl _) ?_ ?_ _ (fun _ _ h => h)
        · rw [ea]; exact hsv
        · rw [ea]
    · rintro σ' H' ⟨z4, z5, vs', eb, hfo, ha, rfl⟩
      rw [hbl, List.take_of_length_le (Nat.le_refl _)] at ha
      refine Ss_one (S_ret ?_)
      refine E_var 3 rfl ?_
      refine fin fo H' vs' (fun b ob h0 => eb b ob (fun z => ?_) (e1 b ob h0)) hfo ha
      rw [z, zf] at h0
      cases h0
end
end BW

set_option Elab.async false
set_option linter.all false
set_option maxRecDepth 100000
set_option maxHeartbeats 4000000
namespace BW
open PySem PySem.Spec PyProof.Rows L2
/-! ### runs, plainly -/
theorem run_step {n : Nat} {rows : List Rw} {es : List Z8} {i : Nat} {r : Rw} (h : rows[i]? = some r) : runM n (rows.take (i + 1)) es = rowM n (runM n (rows.take i) es) r := by
  unfold runM
  rw [List.take_add_one, h, List.foldl_append]
  rfl
theorem row_len (n : Nat) (brs : List Br) (r : Rw) : (rowM n brs r).length ≤ 2 ^ r.reads * brs.length := by
  cases r with
  | gate g =>
    show (gateM n g brs).length ≤ 1 * brs.length
    unfold gateM
    rw [List.length_map, Nat.one_mul]
    exact Nat.le_refl _
  | ask j v g =>
    show (askM n j v g brs).length ≤ 1 * brs.length
    unfold askM
    rw [List.length_map, Nat.one_mul]
    exact Nat.le_refl _
  | read wi j => exact readM_len n wi brs
theorem reads_cons (r : Rw) (rs : List Rw) : reads (r :: rs) = r.reads + reads rs := by unfold reads; simp
theorem rowsM_len (n : Nat) : ∀ (rs : List Rw) (brs : List Br), (rs.foldl (rowM n) brs).length ≤ 2 ^ reads rs * brs.length
  | [], brs => by show brs.length ≤ 2 ^ 0 * brs.length; omega
  | r :: rs, brs => by
    have h1 := rowsM_len n rs (rowM n brs r)
    have h2 := row_len n brs r
    rw [List.foldl_cons, reads_cons, Nat.pow_add]
    refine Nat.le_trans h1 ?_
    calc 2 ^ reads rs * (rowM n brs r).length ≤ 2 ^ reads rs * (2 ^ r.reads * brs.length) := Nat.mul_le_mul_left _ h2
      _ = 2 ^ r.reads * 2 ^ reads rs * brs.length := by rw [← Nat.mul_assoc, Nat.mul_comm (2 ^ reads rs)]
theorem run_short {n : Nat} {rows : List Rw} (h : RowsOk n 0 rows) (es : List Z8) (i : Nat) : (runM n (rows.take i) es).length ≤ 32 := by
  have h1 := rowsM_len n (rows.take i) [([], es)]
  have h2 := rows_five (rows_take i h) (by omega)
  have h3 : 2 ^ reads (rows.take i) ≤ 2 ^ 5 := Nat.pow_le_pow_right (by decide) (by omega)
  unfold runM
  simp only [List.length_singleton, Nat.mul_one] at h1
  exact Nat.le_trans h1 h3
theorem reads_take_le (rs : List Rw) (i : Nat) : reads (rs.take i) ≤ reads rs := by
  have e : reads rs = reads (rs.take i) + reads (rs.drop i) := by
    unfold reads
    rw [← List.sum_append, ← List.map_append, List.take_append_drop]
  omega
theorem bn_at : ∀ m, m < 6 → ∀ j, j < m → (bnames.take m)[j]? = some (bn j) ∧ ∀ i, i < j → (bnames.take m)[i]? ≠ some (bn j) := by decide +kernel
section
variable {P : Program} {w : World} {K : PySem.W.Frag} {mg : Str → Option Value} {base : Heap}
def spRun (K : PySem.W.Frag) : Sp := fun vs H Q _ => ∃ (cv st : V) (n Kb : Nat) (rows : List Rw) (es : List Z8), vs = [cv, st] ∧ CirA K H cv n rows ∧ StA K H st es ∧ Wd n ∧ RowsOk n 0 rows ∧ rows.length ≤ 60 ∧ EsOk n Kb es ∧ Kb < 2 ^ 39 ∧
  ∀ l H' vs', Ex H H' → H' l = some (.lst vs') → All2 (BrA K H') vs' (runM n rows es) → Q (.ref l) H'
theorem sc_run : FnScope ["circuit", "state", "branches", "row", "bits", "here"] ["circuit", "state"] (defScope s_run) := ⟨rfl, rfl, rfl, by decide +kernel, rfl, by decide +kernel, by decide +kernel⟩
theorem ok_run (T : Txt K mg) : Cal P w K mg base 7 "run" (spRun K) := by
  refine cal_ok T.d_run T.g_run sc_run (fun _ _ _ _ _ _ us hl => match us, hl with | [_, _], _ => rfl) (fun vs H Q E h => ?_) (fun cdv A outer s H vs Q E hr h => ?_)
  · obtain ⟨_, _, _, _, _, _, rfl, _⟩ := h
    rfl
  · obtain ⟨cv, st, n, Kb, rows, es, rfl, hcv, hst, wd, hok, hlen, hes, hKb, fin⟩ := h
    obtain ⟨pc, dc, tk, tb, vsC, rfl, hpc, htb, htk, haC⟩ := id hcv
    obtain ⟨ps, dxs, ts, vsS, rfl, hps, hts, haS⟩ := id hst
    have nd := sc_run.nd
    have hn5 := wd.hi
    refine Ss_cons (S_if (T_not (T_val (E_isi (k := true) (u := .ref (He.ga K "Circuit")) (cv := .ref (He.ga K "Circuit")) T.b_isinstance ?_))))
    refine E_var 0 rfl ?_
    refine E_glob (v := .ref (He.ga K "Circuit")) T.g_Circuit rfl ⟨_, rfl, .own _, ty_ins hpc T.c_Circuit T.y_Circuit, T.t_Circuit_Circuit, _, rfl, iteF (Ss_nil ?_)⟩
    refine Ss_cons (S_if (T_w (W_or (T_not (T_val (E_isi (k := true) (u := .ref (He.ga K "State")) (cv := .ref (He.ga K "State")) T.b_isinstance ?_))))))
    refine E_var 1 rfl ?_
    refine E_glob (v := .ref (He.ga K "State")) T.g_State rfl ⟨_, rfl, .own _, ty_ins hps T.c_State T.y_State, T.t_State_State, _, rfl, iteF (W_or1 (T_cne (E_meth0 (ok_many T) T.c_State (hr.mono (by decide)) ?_)))⟩
    refine E_var 1 rfl ?_
    refine ⟨ps, dxs, _, rfl, hps, rfl, _, n, es, rfl, hst, wd, hes.len, E_meth0 (ok_cmany T) T.c_Circuit (hr.mono (by decide)) ?_⟩
    refine E_var 0 rfl ?_
    refine ⟨pc, dc, _, rfl, hpc, rfl, _, n, rows, rfl, hcv, _, _, rfl, rfl, ?_⟩
    have ee : (!decide (((n : Nat) : Int) = ((n : Nat) : Int))) = false := by rw [decide_eq_true rfl]; rfl
    rw [ee]
    refine iteF (Ss_nil ?_)
    refine Ss_cons (S_set (i := 2) rfl (E_lst (As_cons (E_tup (As_cons (E_tup (As_nil ⟨by show 0 ≤ sizeLine; decide, fun p1 H1 z1 e1 h1 => As_cons ?_⟩)))))) nd)
    refine E_var 1 rfl ?_
    refine As_nil ⟨by show 2 ≤ sizeLine; decide, fun p2 H2 z2 e2 h2 => As_nil ⟨by show 1 ≤ sizeLine; decide, fun p3 H3 z3 e3 h3 => ?_⟩⟩
    have e13 := e1.trans (e2.trans e3)
    refine Ss_cons ?_
    refine S_forL PassesOwn.never rfl (E_meth0 (ok_crows T) T.c_Circuit (hr.mono (by decide)) ?_)
    refine E_var 0 rfl ?_
    refine ⟨pc, dc, _, rfl, e13 _ _ hpc, rfl, _, n, rows, rfl, hcv.ex e13, fun le H4 we zl e4 hle hwe => ?_⟩
    have e14 := e13.trans e4
    have hwl : we.length = rows.length := hwe.len
    refine ⟨le, we, fun i σ' H' => ∃ (z : Option V) (lb : Addr) (bv : List V), Ex H4 H' ∧ H' lb = some (.lst bv) ∧ All2 (BrA K H') bv (runM n (rows.take i) es) ∧ σ' = [some (.ref pc), some (.ref ps), some (.ref lb), z, none, none], rfl, SqL.of hle, ⟨none, p3, _, Evl.Ex.refl _, e4 _ _ h3, ?_, rfl⟩, ?_, ?_, ?_⟩
    · refine .cons ⟨p2, p1, _, rfl, SqT.of (e4 _ _ (e3 _ _ h2)), SqT.of (e4 _ _ (e3 _ _ (e2 _ _ h1))), hst.ex e14⟩ .nil
    · rintro i σ' H' _ ⟨_, _, _, e, _, _, _⟩
      exact SqL.of (e _ _ hle)
    · rintro i x σ' H' hi ⟨z, lb, bv, e5, hlb, ha, rfl⟩
      obtain ⟨r, hr1, hrA0⟩ := rw_get hwe hi
      have hrA := hrA0.fz (Fz.of e5)
      obtain ⟨hrk, hrd⟩ := rows_at hok hr1
      rw [Nat.zero_add] at hrk
      have hil : i < rows.length := (List.getElem?_eq_some_iff.mp hr1).1
      obtain ⟨bok, _, _⟩ := run_ok (N := Kb + (rows.take i).length) hn5 (rows_take i hok) hes (Nat.le_refl _)
      have htl : (rows.take i).length ≤ 60 := by rw [List.length_take]; omega
      have hsh := run_short hok es i
      have hstp := run_step (n := n) (es := es) hr1
      have h5 : reads (rows.take i) ≤ 5 := by have := rows_five (rows_take i hok) (by omega); omega
      have hbl : bv.length = (runM n (rows.take i) es).length := ha.len
      have hkk : ∀ br ∈ runM n (rows.take i) es, ∀ e ∈ br.2, e.k < 2 ^ 40 := fun br hb e he => by
        have := (bok.es br hb).kk e he
        omega
      refine G_name (i := 3) rfl ?_ nd
      cases r with
      | read wi j =>
        obtain ⟨pr, dr, rfl, hpr⟩ := hrA
        refine Ss_one (S_if (T_val (E_isi (k := true) (u := .ref (He.ga K "Reading")) (cv := .ref (He.ga K "Reading")) T.b_isinstance ?_)))
        refine E_var 3 rfl ?_
        refine E_glob (v := .ref (He.ga K "Reading")) T.g_Reading rfl ⟨_, rfl, .own _, ty_ins hpr T.c_Reading T.y_Reading, T.t_Reading_Reading, _, rfl, iteT (Ss_one (S_set (i := 2) rfl (E_call (ok_read_out T) hr (As_cons ?_)) nd))⟩
        refine E_var 2 rfl ?_
        refine As_cons (E_fld ?_)
        refine E_var 3 rfl ?_
        refine ⟨pr, _, dr, _, _, rfl, hpr, T.c_Reading, T.n_Reading_wire, rfl, As_nil ⟨lb, bv, n, wi, _, rfl, hlb, ha, wd, hrk.1, fun br hb => ⟨(bok.es br hb).len, (bok.es br hb).can, by rw [bok.len br hb]; omega⟩, by omega, fun l H6 vs6 e6 hl6 ha6 => ?_⟩⟩
        refine ⟨_, l, vs6, e5.trans e6, hl6, ?_, rfl⟩
        rw [hstp]
        exact ha6
      | ask j b g =>
        have hrA1 : RwA K H' x (.ask j b g) := hrA
        obtain ⟨pr, dr, gv, rfl, hpr, hgv⟩ := hrA
        obtain ⟨hj, hgo⟩ := hrk
        refine Ss_one (S_if (T_val (E_isi (k := false) (u := .ref (He.ga K "Reading")) (cv := .ref (He.ga K "Reading")) T.b_isinstance ?_)))
        refine E_var 3 rfl ?_
        refine E_glob (v := .ref (He.ga K "Reading")) T.g_Reading rfl ⟨_, rfl, .own _, ty_ins hpr T.c_Asking T.y_Asking, T.t_Asking_Reading, _, rfl, iteF (Ss_one (S_if (T_val (E_isi (k := true) (u := .ref (He.ga K "Asking")) (cv := .ref (He.ga K "Asking")) T.b_isinstance ?_))))⟩
        refine E_var 3 rfl ?_
        refine E_glob (v := .ref (He.ga K "Asking")) T.g_Asking rfl ⟨_, rfl, .own _, ty_ins hpr T.c_Asking T.y_Asking, T.t_Asking_Asking, _, rfl, iteT (Ss_one (S_set (i := 2) rfl (E_call (ok_asked T) hr (As_cons ?_)) nd))⟩
        refine E_var 2 rfl ?_
        refine As_cons (E_tindexS (E_meth0 (ok_cbits T) T.c_Circuit (hr.mono (by decide)) ?_))
        refine E_var 0 rfl ?_
        have e45 := e14.trans e5
        refine ⟨pc, dc, _, rfl, e45 _ _ hpc, rfl, _, n, rows, rfl, hcv.ex e45, fun tb' htb' => ⟨⟨tb', rfl, .inl ⟨_, htb'⟩⟩, E_fld ?_⟩⟩
        refine E_var 3 rfl ?_
        have hjr : j < reads rows := Nat.lt_of_lt_of_le hj (reads_take_le rows i)
        have hr5 : reads rows ≤ 5 := by have := rows_five hok (by omega); omega
        obtain ⟨b1, b2⟩ := bn_at (reads rows) (by omega) j hjr
        refine ⟨pr, _, dr, _, _, rfl, hpr, T.c_Asking, T.n_Asking_bit, rfl, tb', bnames.take (reads rows), bn j, j, rfl, rfl, htb'.t, b1, b2, As_cons ?_⟩
        refine E_var 3 rfl ?_
        refine As_nil ⟨lb, bv, _, n, j, b, g, _, rfl, hlb, ha, hrA1, hgo, wd, fun br hb => ⟨(bok.es br hb).len, hkk br hb, by rw [bok.len br hb]; exact hj⟩, by omega, fun l H6 vs6 e6 hl6 ha6 => ?_⟩
        refine ⟨_, l, vs6, e5.trans e6, hl6, ?_, rfl⟩
        rw [hstp]
        exact ha6
      | gate g =>
        have hrA1 : GtA K H' x g := hrA
        obtain ⟨pr, dr, tr, rfl, hpr, htr⟩ := hrA
        refine Ss_one (S_if (T_val (E_isi (k := false) (u := .ref (He.ga K "Reading")) (cv := .ref (He.ga K "Reading")) T.b_isinstance ?_)))
        refine E_var 3 rfl ?_
        refine E_glob (v := .ref (He.ga K "Reading")) T.g_Reading rfl ⟨_, rfl, .own _, ty_ins hpr (cls_k T g.kd) (ins_k T g.kd), is_Reading T g.kd, _, rfl, iteF (Ss_one (S_if (T_val (E_isi (k := false) (u := .ref (He.ga K "Asking")) (cv := .ref (He.ga K "Asking")) T.b_isinstance ?_))))⟩
        refine E_var 3 rfl ?_
        refine E_glob (v := .ref (He.ga K "Asking")) T.g_Asking rfl ⟨_, rfl, .own _, ty_ins hpr (cls_k T g.kd) (ins_k T g.kd), is_Asking T g.kd, _, rfl, iteF (Ss_one (S_lcP (k := 2) 4 5 (by decide) rfl nd rfl rfl (by show blkC ["circuit", "state", "branches", "row", "bits", "here"] (defScope s_run) _ [(_, 4), (_, 5)] = true; decide +kernel) rfl ?_))⟩
        refine E_var 2 rfl ?_
        refine ⟨lb, bv, AccR (fun j z H'' => ∃ br, (gateM n g (runM n (rows.take i) es))[j]? = some br ∧ BrA K H'' z br), rfl, SqL.of hlb, by rw [hbl]; exact Nat.lt_of_le_of_lt hsh (by decide), fun H'' _ => AccR.zero, AccR.fz (fun _ _ _ _ e ⟨x, h1, h2⟩ => ⟨x, h1, h2.fz e⟩), ?_, ?_⟩
        · intro m y acc H6 hm e6 hl hA
          obtain ⟨br, hb1, hbA⟩ := ha.get hm
          have hbm := List.mem_of_getElem? hb1
          obtain ⟨px, tbx, sv, rfl, hpx, htbx, hsv⟩ := hbA.fz (Fz.of e6)
          refine ⟨px, .ref tbx, sv, rfl, hpx, fun s0 H0 C cl fp => ?_⟩
          refine E_tup (As_cons ?_)
          refine E_var 4 rfl ?_
          refine As_cons (E_meth (ok_on T g.kd) (cls_k T g.kd) (hr.mono (by decide)) ?_)
          refine E_var 3 rfl ?_
          refine ⟨pr, dr, _, rfl, e6 _ _ hpr, rfl, As_cons ?_⟩
          refine E_var 5 rfl ?_
          refine As_nil ⟨_, sv, g.ws, n, br.2, rfl, hrA1.ex e6, hrk, hsv, wd, (bok.es br hbm).len, hkk br hbm, fun r7 H7 e7 hr7 => As_nil ?_⟩
          refine ⟨by show 2 ≤ sizeLine; decide, fun p8 H8 z8 e8 h8 => ⟨e7.trans e8, AccR.snoc (fun _ _ _ _ e ⟨x, h1, h2⟩ => ⟨x, h1, h2.fz e⟩) hA (e7.trans e8) ⟨(br.1, onM n g br.2), ?_, p8, tbx, _, rfl, SqT.of h8, SqT.fz htbx (Fz.of (e7.trans e8)), hr7.ex e8⟩⟩⟩
          unfold gateM
          rw [List.getElem?_map, hb1]
          rfl
        · intro Dl H6 ys hD e6 hy hA
          refine ⟨_, Dl, ys, e5.trans e6, hy, ?_, rfl⟩
          rw [hstp]
          show All2 (BrA K H6) ys (gateM n g (runM n (rows.take i) es))
          refine All2.of (by rw [hA.1, hbl]; unfold gateM; rw [List.length_map]) fun i a b h1 h2 => ?_
          obtain ⟨br, h3, h4⟩ := hA.2 i a h1
          rw [h3] at h2
          cases h2
          exact h4
    · rintro σ' H' ⟨z, lb, bv, e5, hlb, ha, rfl⟩
      rw [hwl, List.take_of_length_le (Nat.le_refl _)] at ha
      refine Ss_one (S_ret ?_)
      refine E_var 2 rfl ?_
      exact fin lb H' bv (e14.trans e5) hlb ha
end
end BW

set_option Elab.async false
set_option linter.all false
set_option maxRecDepth 100000
set_option maxHeartbeats 4000000
namespace BW
open PySem PySem.Spec PyProof.Rows L2
section
variable {P : Program} {w : World} {K : PySem.W.Frag} {mg : Str → Option Value} {base : Heap}
/-! ### the law's draws -/
def Seed (H : Hp) (l : Addr) : Prop := ∃ s : Nat, s < 2 ^ 32 ∧ H l = some (.lst [.int (s : Nat)])
theorem Seed.ex {H H' : Hp} {l : Addr} (h : Seed H l) (e : Ex H H') : Seed H' l := by
  obtain ⟨s, h1, h2⟩ := h
  exact ⟨s, h1, e _ _ h2⟩
theorem Seed.fz {H H' : Hp} {l : Addr} (h : Seed H l) (e : ExB l H H') : Fz H H' := by
  obtain ⟨s, _, h⟩ := h
  exact ExB.fz e h
def spNext : Sp := fun vs H Q _ => ∃ (l : Addr) (m : Nat), vs = [.ref l, .int (m : Nat)] ∧ 0 < m ∧ Seed H l ∧ ∀ (r : Nat) H', r < m → ExB l H H' → Seed H' l → Q (.int (r : Nat)) H'
theorem sc_lnext : FnScope ["_law_state_here", "_law_many"] ["_law_state_here", "_law_many"] (defScope s_l_next) := ⟨rfl, rfl, rfl, by decide +kernel, rfl, by decide +kernel, by decide +kernel⟩
theorem ok_lnext (T : Txt K mg) : Cal P w K mg base 1 "_law_next" spNext := by
  refine cal_ok T.d_l_next T.g_l_next sc_lnext (fun _ _ _ _ _ _ us hl => match us, hl with | [_, _], _ => rfl) (fun vs H Q E h => ?_) (fun cdv A outer s H vs Q E hr h => ?_)
  · obtain ⟨_, _, rfl, _⟩ := h
    rfl
  · obtain ⟨l, m, rfl, hm, ⟨sd, hs, hl⟩, fin⟩ := h
    have nd := sc_lnext.nd
    have hsl : SqL K H l [V.int (sd : Nat)] := SqL.of hl
    refine Ss_cons (S_asg ?_)
    refine E_modc ?_
    refine E_add ?_
    refine E_mul ?_
    refine E_ixL ?_
    refine E_var 0 rfl ?_
    refine E_int ?_
    refine ⟨_, _, _, _, rfl, rfl, hsl, rfl, ?_⟩
    refine E_int ?_
    refine ⟨_, _, rfl, rfl, .inr ⟨by decide, by decide⟩, ?_⟩
    refine E_int ?_
    refine ⟨_, _, rfl, rfl, _, rfl, ?_⟩
    have es : (((sd : Nat) : Int) * 48271 + 11) % 2147483647 = (((sd * 48271 + 11) % 2147483647 : Nat) : Int) := by omega
    rw [es]
    refine G_ix ?_
    refine E_var 0 rfl ?_
    refine E_int ?_
    refine ⟨l, _, 0, 0, rfl, rfl, hl, rfl, ?_⟩
    generalize hs2 : (sd * 48271 + 11) % 2147483647 = s2
    have hs3 : s2 < 2 ^ 32 := by omega
    have hl2 : (upd H l (.lst ([V.int (sd : Nat)].set 0 (V.int (s2 : Nat))))) l = some (.lst [V.int (s2 : Nat)]) := upd_same
    have hsl2 : SqL K (upd H l (.lst ([V.int (sd : Nat)].set 0 (V.int (s2 : Nat))))) l [V.int (s2 : Nat)] := SqL.of hl2
    refine Ss_one (S_ret ?_)
    refine E_modI ?_
    refine E_fdivc ?_
    refine E_ixL ?_
    refine E_var 0 rfl ?_
    refine E_int ?_
    refine ⟨_, _, _, _, rfl, rfl, hsl2, rfl, ?_⟩
    refine ⟨_, rfl, ?_⟩
    refine E_var 1 rfl ?_
    refine ⟨_, _, rfl, rfl, by omega, ?_⟩
    have er : ((s2 : Nat) : Int) / 7 % ((m : Nat) : Int) = ((s2 / 7 % m : Nat) : Int) := by
      rw [Int.natCast_emod, Int.natCast_ediv]
      rfl
    rw [er]
    exact fin _ _ (Nat.mod_lt _ hm) ExB.upd ⟨s2, hs3, hl2⟩
def spCell (K : PySem.W.Frag) : Sp := fun vs H Q _ => ∃ (l : Addr) (k : Nat) (ns : List Int), vs = [.ref l, .int (k : Nat)] ∧ SqL K H l (ns.map V.int) ∧ ∀ i, Q (.int i) H
theorem sc_lcell : FnScope ["_law_script", "_law_k"] ["_law_script", "_law_k"] (defScope s_l_cell) := ⟨rfl, rfl, rfl, by decide +kernel, rfl, by decide +kernel, by decide +kernel⟩
theorem ok_lcell (T : Txt K mg) : Cal P w K mg base 1 "_law_cell" (spCell K) := by
  refine cal_ok T.d_l_cell T.g_l_cell sc_lcell (fun _ _ _ _ _ _ us hl => match us, hl with | [_, _], _ => rfl) (fun vs H Q E h => ?_) (fun cdv A outer s H vs Q E hr h => ?_)
  · obtain ⟨_, _, _, rfl, _⟩ := h
    rfl
  · obtain ⟨l, k, ns, rfl, hl, fin⟩ := h
    have nd := sc_lcell.nd
    refine Ss_cons (S_if (T_clt ?_))
    refine E_var 1 rfl ?_
    refine E_len T.b_len ?_
    refine E_var 0 rfl ?_
    refine ⟨l, _, rfl, .inl hl, _, _, rfl, rfl, ?_⟩
    by_cases z : k < ns.length
    · have ez : decide (((k : Nat) : Int) < (((ns.map V.int).length : Nat) : Int)) = true := decide_eq_true (by rw [List.length_map]; omega)
      rw [ez]
      refine iteT (Ss_one (S_ret (E_ixL ?_)))
      refine E_var 0 rfl ?_
      refine E_var 1 rfl ?_
      exact ⟨l, _, _, V.int ns[k], rfl, rfl, hl, atI_nat (by rw [List.getElem?_map, List.getElem?_eq_getElem z]; rfl), fin _⟩
    · have ez : decide (((k : Nat) : Int) < (((ns.map V.int).length : Nat) : Int)) = false := decide_eq_false (by rw [List.length_map]; omega)
      rw [ez]
      refine iteF (Ss_nil (Ss_one (S_ret ?_)))
      refine E_int ?_
      exact fin _
def spLState : Sp := fun vs H Q _ => ∃ (i : Int) (k : Nat), vs = [.int i, .int (k : Nat)] ∧ k < 1000 ∧ ∀ l H', H l = none → Ex H H' → Seed H' l → Q (.ref l) H'
theorem sc_lstate : FnScope ["_law_cell_here", "_law_k", "_law_mixed"] ["_law_cell_here", "_law_k"] (defScope s_l_state) := ⟨rfl, rfl, rfl, by decide +kernel, rfl, by decide +kernel, by decide +kernel⟩
theorem ok_lstate (T : Txt K mg) : Cal P w K mg base 1 "_law_state" spLState := by
  refine cal_ok T.d_l_state T.g_l_state sc_lstate (fun _ _ _ _ _ _ us hl => match us, hl with | [_, _], _ => rfl) (fun vs H Q E h => ?_) (fun cdv A outer s H vs Q E hr h => ?_)
  · obtain ⟨_, _, rfl, _⟩ := h
    rfl
  · obtain ⟨i, k, rfl, hk, fin⟩ := h
    have nd := sc_lstate.nd
    refine Ss_cons (S_set (i := 2) rfl ?_ nd)
    refine E_modc ?_
    refine E_add ?_
    refine E_add ?_
    refine E_mul ?_
    refine E_var 0 rfl ?_
    refine E_int ?_
    refine ⟨_, _, rfl, rfl, .inr ⟨by decide, by decide⟩, E_mul ?_⟩
    refine E_var 1 rfl ?_
    refine E_int ?_
    refine ⟨_, _, rfl, rfl, .inr ⟨by decide, by decide⟩, _, _, rfl, rfl, ?_⟩
    refine E_int ?_
    refine ⟨_, _, rfl, rfl, _, rfl, ?_⟩
    generalize hm : (i * 48271 + ((k : Nat) : Int) * 104729 + 7919) % 2147483647 = m
    have m0 : 0 ≤ m := by omega
    have m1 : m < 2147483647 := by omega
    refine Ss_one (S_ret (E_lst (As_cons (E_add ?_))))
    refine E_int ?_
    refine E_modc ?_
    refine E_add ?_
    refine E_mul ?_
    refine E_var 2 rfl ?_
    refine E_var 2 rfl ?_
    refine ⟨_, _, rfl, rfl, .inl ⟨by omega, by omega⟩, E_mul ?_⟩
    refine E_int ?_
    refine E_var 1 rfl ?_
    refine ⟨_, _, rfl, rfl, .inl ⟨by decide, by decide⟩, _, _, rfl, rfl, _, rfl, _, _, rfl, rfl, As_nil ⟨by show 1 ≤ sizeLine; decide, fun p H1 z e1 h1 => ?_⟩⟩
    refine fin p H1 z e1 ⟨(1 + (m * m + 69621 * ((k : Nat) : Int)) % 2147483629).toNat, ?_, ?_⟩
    · generalize m * m + 69621 * ((k : Nat) : Int) = q
      omega
    · rw [h1]
      have e : (((1 + (m * m + 69621 * ((k : Nat) : Int)) % 2147483629).toNat : Nat) : Int) = 1 + (m * m + 69621 * ((k : Nat) : Int)) % 2147483629 := by
        generalize m * m + 69621 * ((k : Nat) : Int) = q
        omega
      rw [e]
/-! ### the law's own numbers -/
def spLRooted (K : PySem.W.Frag) : Sp := fun vs H Q _ => ∃ (v : V) (x : Q4), vs = [v] ∧ TI K H v x.ns ∧ ∀ r H', Ex H H' → TI K H' r x.rt.ns → Q r H'
theorem sc_lrooted : FnScope ["_law_numbers", "_law_a", "_law_b", "_law_c", "_law_d"] ["_law_numbers"] (defScope s_l_rooted) := ⟨rfl, rfl, rfl, by decide +kernel, rfl, by decide +kernel, by decide +kernel⟩
theorem ok_lrooted (T : Txt K mg) : Cal P w K mg base 1 "_law_rooted" (spLRooted K) := by
  refine cal_ok T.d_l_rooted T.g_l_rooted sc_lrooted (fun _ _ _ _ _ _ us hl => match us, hl with | [_], _ => rfl) (fun vs H Q E h => ?_) (fun cdv A outer s H vs Q E hr h => ?_)
  · obtain ⟨_, _, rfl, _⟩ := h
    rfl
  · obtain ⟨v, x, rfl, ⟨p, rfl, hp⟩, fin⟩ := h
    have nd := sc_lrooted.nd
    refine Ss_cons (S_asg ?_)
    refine E_var 0 rfl ?_
    refine G_tup rfl hp rfl ?_
    refine Gs_cons (G_name (i := 1) rfl (Gs_cons (G_name (i := 2) rfl (Gs_cons (G_name (i := 3) rfl (Gs_cons (G_name (i := 4) rfl (Gs_nil ?_) nd)) nd)) nd)) nd)
    refine Ss_one ?_
    refine S_ret ?_
    refine E_tup ?_
    refine As_cons ?_
    refine E_sub ?_
    refine E_var 2 rfl ?_
    refine E_var 4 rfl ?_
    refine ⟨_, _, rfl, rfl, ?_⟩
    refine As_cons ?_
    refine E_add ?_
    refine E_var 1 rfl ?_
    refine E_var 3 rfl ?_
    refine ⟨_, _, rfl, rfl, ?_⟩
    refine As_cons ?_
    refine E_add ?_
    refine E_var 2 rfl ?_
    refine E_var 4 rfl ?_
    refine ⟨_, _, rfl, rfl, ?_⟩
    refine As_cons ?_
    refine E_sub ?_
    refine E_var 3 rfl ?_
    refine E_var 1 rfl ?_
    refine ⟨_, _, rfl, rfl, ?_⟩
    refine As_nil ?_
    refine ⟨by show 4 ≤ sizeLine; decide, fun p1 H1 z1 e1 h1 => ?_⟩
    exact fin _ _ e1 (TI.new h1 rfl)
theorem ns4_inj {x y : Q4} (h : x.ns = y.ns) : x = y := by
  simp only [Q4.ns, List.cons.injEq, and_true] at h
  exact Q4.ext' h.1 h.2.1 h.2.2.1 h.2.2.2
theorem rt_ev (y : Q4) : (∀ n ∈ y.rt.ns, n % 2 ≠ 1) ↔ y.ev := by
  unfold Q4.ev
  simp only [Q4.rt, Q4.ns, List.mem_cons, List.not_mem_nil, or_false, forall_eq_or_imp, forall_eq]
  omega
theorem rt_hf2 (y : Q4) : y.rt.ns.map (· / 2) = y.hf.ns := rfl
def spLLowest (K : PySem.W.Frag) : Sp := fun vs H Q _ => ∃ (v : V) (x : Q4) (k : Nat), vs = [v, .int (k : Nat)] ∧ TI K H v x.ns ∧ ∀ r H', Ex H H' → TI K H' r (lowest x k).ns → Q r H'
theorem sc_llowest : FnScope ["_law_numbers", "_law_k", "_law_number_here"] ["_law_numbers", "_law_k"] (defScope s_l_lowest) := ⟨rfl, rfl, rfl, by decide +kernel, rfl, by decide +kernel, by decide +kernel⟩
theorem ok_llowest (T : Txt K mg) : Cal P w K mg base 2 "_law_lowest" (spLLowest K) := by
  refine cal_ok T.d_l_lowest T.g_l_lowest sc_llowest (fun _ _ _ _ _ _ us hl => match us, hl with | [_, _], _ => rfl) (fun vs H Q E h => ?_) (fun cdv A outer s H vs Q E hr h => ?_)
  · obtain ⟨_, _, _, rfl, _⟩ := h
    rfl
  · obtain ⟨v, x, k, rfl, hv, fin⟩ := h
    have nd := sc_llowest.nd
    refine Ss_cons (S_if (T_cmp (op_eqTI hr.units) ?_))
    refine E_var 0 rfl ?_
    refine E_tup ?_
    refine As_cons ?_
    refine E_int ?_
    refine As_cons ?_
    refine E_int ?_
    refine As_cons ?_
    refine E_int ?_
    refine As_cons ?_
    refine E_int ?_
    refine As_nil ?_
    refine ⟨by show 4 ≤ sizeLine; decide, fun p1 H1 z1 e1 h1 => ?_⟩
    refine ⟨x.ns, Q4.zero.ns, hv.ex e1, TI.new h1 rfl, _, rfl, ?_⟩
    by_cases hz : x = Q4.zero
    · rw [decide_eq_true (congrArg Q4.ns hz)]
      refine iteT ?_
      refine Ss_one ?_
      refine S_ret ?_
      refine E_tup ?_
      refine As_cons ?_
      refine E_int ?_
      refine As_cons ?_
      refine E_int ?_
      refine As_cons ?_
      refine E_int ?_
      refine As_cons ?_
      refine E_int ?_
      refine As_cons ?_
      refine E_int ?_
      refine As_nil ?_
      refine ⟨by show 5 ≤ sizeLine; decide, fun p2 H2 z2 e2 h2 => ?_⟩
      refine fin _ _ (e1.trans e2) (TI.new h2 ?_)
      rw [hz]
      rfl
    · rw [decide_eq_false (fun z => hz (ns4_inj z))]
      have el : lowest x k = low x k := if_neg hz
      rw [el] at fin
      refine iteF (Ss_nil ?_)
      refine Ss_cons ?_
      refine S_while PassesOwn.never (fun σ' H' => ∃ (y : Q4) (l : Nat) (v' : V), Ex H H' ∧ low x k = low y l ∧ TI K H' v' y.ns ∧ σ' = [some v', some (.int (l : Nat)), none]) (fun σ' _ => slotN 1 σ') ⟨x, k, v, e1, rfl, hv.ex e1, rfl⟩ ?_
      rintro σ' H' ⟨y, l, v', e2, el2, hv', rfl⟩
      refine T_w (W_and (T_cgt ?_))
      refine E_var 1 rfl ?_
      refine E_int ?_
      refine ⟨_, _, rfl, rfl, ?_⟩
      have stop : ∀ H'', Ex H' H'' → ¬ (0 < l ∧ y.ev) → Ss (cxB P w K mg base ["_law_numbers", "_law_k", "_law_number_here"] "_law_lowest" s_l_lowest (He.ga K "_law_lowest") cdv A outer s H E) ((defBody s_l_lowest).drop 2) { nx := fun _ H' => Q .non H', rt := Q } [some v', some (.int (l : Nat)), none] H'' := by
        intro H'' e3 hn
        rw [low_stop hn] at el2
        obtain ⟨pv, rfl, hpv⟩ := hv'
        refine Ss_one (S_ret (E_catT ?_))
        refine E_var 0 rfl ?_
        refine E_tup ?_
        refine As_cons ?_
        refine E_var 1 rfl ?_
        refine As_nil ?_
        refine ⟨by show 1 ≤ sizeLine; decide, fun p4 H4 z4 e4 h4 => ?_⟩
        refine ⟨pv, p4, _, _, rfl, rfl, SqT.fz hpv (Fz.of (e3.trans e4)), SqT.of h4, by show 5 ≤ sizeLine; decide, by simp, fun p5 H5 e5 h5 => ?_⟩
        refine fin _ _ (e2.trans (e3.trans (e4.trans e5))) ?_
        rw [el2]
        exact ⟨p5, rfl, h5⟩
      by_cases hl0 : 0 < l
      · have ez : decide ((0 : Int) < ((l : Nat) : Int)) = true := decide_eq_true (by omega)
        rw [ez]
        refine iteT (W_and1 (T_cmp (op_eqNil hr.units) (E_lcTif 2 rfl nd rfl (by show blkC ["_law_numbers", "_law_k", "_law_number_here"] (defScope s_l_lowest) _ [(_, 2)] = true; decide +kernel) (E_call (ok_lrooted T) hr (As_cons ?_)))))
        refine E_var 0 rfl ?_
        refine As_nil ⟨v', y, rfl, hv', fun r H3 e3 hr3 => ?_⟩
        obtain ⟨pr, rfl, hpr⟩ := hr3
        refine ⟨pr, _, fun j acc _ => (acc = [] ↔ ∀ m, m < j → ∀ n, y.rt.ns[m]? = some n → n % 2 ≠ 1), rfl, hpr, by show 4 < sizeLine; decide, fun _ _ => ⟨fun _ m hm => absurd hm (Nat.not_lt_zero m), fun _ => rfl⟩, fun _ _ _ _ _ h => h, ?_, ?_⟩
        · intro j u acc H4 hj e4 hl hA s0 H0 C cl fp
          rw [List.getElem?_map] at hj
          cases en : y.rt.ns[j]? with
          | none => rw [en] at hj; cases hj
          | some n =>
            rw [en] at hj
            cases hj
            refine T_ceq (E_modc ?_)
            refine E_var 2 rfl ?_
            refine ⟨_, rfl, ?_⟩
            refine E_int ?_
            refine ⟨_, _, rfl, rfl, ?_⟩
            by_cases hn1 : n % 2 = 1
            · rw [decide_eq_true hn1]
              refine iteT (fun s0 H0 C cl fp => E_int ⟨Evl.Ex.refl _, ?_⟩)
              exact ⟨fun z => absurd z (by simp), fun z => absurd hn1 (z j (Nat.lt_succ_self j) n en)⟩
            · rw [decide_eq_false hn1]
              refine iteF ⟨Evl.Ex.refl _, ?_⟩
              refine Iff.trans (show acc = [] ↔ ∀ m, m < j → ∀ n, y.rt.ns[m]? = some n → n % 2 ≠ 1 from hA) ?_
              constructor
              · intro z m hm n' hn'
                by_cases hmj : m < j
                · exact z m hmj n' hn'
                · have : m = j := by omega
                  rw [this, en] at hn'
                  cases hn'
                  exact hn1
              · intro z m hm
                exact z m (by omega)
        intro Dl H4 ys hD e4 hy hA
        refine E_lst (As_nil ⟨by show 0 ≤ sizeLine; decide, fun p5 H5 z5 e5 h5 => ?_⟩)
        refine ⟨Dl, p5, ys, rfl, rfl, SqL.of (e5 _ _ hy), SqL.of h5, _, rfl, ?_⟩
        have hev : ys = [] ↔ y.ev := by
          rw [hA, ← rt_ev]
          constructor
          · intro z n hn
            obtain ⟨m, hm, rfl⟩ := List.getElem_of_mem hn
            exact z m (by simpa using hm) _ (List.getElem?_eq_getElem hm)
          · intro z m _ n hn
            exact z n (List.mem_of_getElem? hn)
        have e35 := e3.trans (e4.trans e5)
        by_cases hye : y.ev
        · rw [decide_eq_true (hev.mpr hye)]
          refine iteT ?_
          have hv5 := hv'.ex e35
          refine Ss_cons (S_set (i := 0) rfl (E_tuple T.b_tuple (E_lcT 2 rfl nd rfl (by show blkC ["_law_numbers", "_law_k", "_law_number_here"] (defScope s_l_lowest) _ [(_, 2)] = true; decide +kernel) (E_call (ok_lrooted T) hr (As_cons ?_)))) nd)
          refine E_var 0 rfl ?_
          refine As_nil ⟨v', y, rfl, hv5, fun r H6 e6 hr6 => ?_⟩
          obtain ⟨pq, rfl, hpq⟩ := hr6
          refine ⟨pq, _, AccR (fun j z _ => ∃ n, y.hf.ns[j]? = some n ∧ z = V.int n), rfl, hpq, by show 4 < sizeLine; decide, fun _ _ => AccR.zero, AccR.fz (fun _ _ _ _ _ h => h), ?_, ?_⟩
          · intro j u acc H7 hj e7 hl hA7 s0 H0 C cl fp
            rw [List.getElem?_map] at hj
            cases en : y.rt.ns[j]? with
            | none => rw [en] at hj; cases hj
            | some n =>
              rw [en] at hj
              cases hj
              refine E_fdivc ?_
              refine E_var 2 rfl ?_
              refine ⟨_, rfl, Evl.Ex.refl _, AccR.snoc (fun _ _ _ _ _ h => h) hA7 (Evl.Ex.refl _) ⟨n / 2, ?_, rfl⟩⟩
              rw [← rt_hf2, List.getElem?_map, en]
              rfl
          intro Dm H7 zs hD7 e7 hy7 hA7
          have ezs := hA7.map (by show 4 = 4; rfl)
          subst ezs
          refine ⟨Dm, _, rfl, SqL.of hy7, fun lt H8 zt e8 ht => ?_⟩
          refine Ss_one (S_set (i := 1) rfl ?_ nd)
          refine E_sub ?_
          refine E_var 1 rfl ?_
          refine E_int ?_
          refine ⟨_, _, rfl, rfl, ?_⟩
          have e58 := e6.trans (e7.trans e8)
          refine ⟨⟨y.hf, l - 1, .ref lt, e2.trans (e35.trans e58), el2.trans (low_step hl0 hye), ⟨lt, rfl, ht.t⟩, ?_⟩, ?_⟩
          · show [some (V.ref lt), some (.int (((l : Nat) : Int) - 1)), none] = _
            have e : ((l : Nat) : Int) - 1 = ((l - 1 : Nat) : Int) := by omega
            rw [e]
          · show (((l : Nat) : Int) - 1).toNat < ((l : Nat) : Int).toNat
            omega
        · rw [decide_eq_false (fun z => hye (hev.mp z))]
          exact iteF (stop _ e35 fun z => hye z.2)
      · have ez : decide ((0 : Int) < ((l : Nat) : Int)) = false := decide_eq_false (by omega)
        rw [ez]
        exact iteF (iteF (stop _ (Evl.Ex.refl _) fun z => hl0 z.1))
end
end BW

set_option Elab.async false
set_option linter.all false
set_option maxRecDepth 100000
set_option maxHeartbeats 4000000
namespace BW
open PySem PySem.Spec PyProof.Rows L2
/-! ### sizes of drawn eighths -/
def Q4.le (B : Nat) (x : Q4) : Prop := x.a.natAbs ≤ B ∧ x.b.natAbs ≤ B ∧ x.c.natAbs ≤ B ∧ x.d.natAbs ≤ B
theorem low_le : ∀ (k : Nat) {B : Nat} {x : Q4}, x.le B → (low x k).v.le B
  | 0, _, _, h => h
  | k + 1, B, x, h => by
    show ((if x.ev then low x.hf k else ⟨x, k + 1⟩ : Z8)).v.le B
    split
    · refine low_le k ?_
      obtain ⟨h1, h2, h3, h4⟩ := h
      refine ⟨?_, ?_, ?_, ?_⟩ <;> simp only [Q4.hf] <;> omega
    · exact h
theorem lowest_le {k B : Nat} {x : Q4} (h : x.le B) : (lowest x k).v.le B := by
  unfold lowest
  split
  · exact ⟨Nat.zero_le _, Nat.zero_le _, Nat.zero_le _, Nat.zero_le _⟩
  · exact low_le k h
/-- a drawn eighth -/
structure Drw (e : Z8) : Prop where
  can : Canon e
  kk : e.k ≤ 6
  sz : e.v.le (2 ^ 200)
theorem drw_nought : Drw Z8.nought := ⟨nought_canon, Nat.zero_le _, ⟨Nat.zero_le _, Nat.zero_le _, Nat.zero_le _, Nat.zero_le _⟩⟩
def units8 : List Q4 := [⟨1, 0, 0, 0⟩, ⟨0, 1, 0, 0⟩, ⟨0, 0, 1, 0⟩, ⟨0, 0, 0, 1⟩, ⟨-1, 0, 0, 0⟩, ⟨0, -1, 0, 0⟩, ⟨0, 0, -1, 0⟩, ⟨0, 0, 0, -1⟩]
theorem unit_can : ∀ k, k < 4 → ∀ x ∈ units8, Canon ⟨x, k⟩ ∧ x.a.natAbs ≤ 1 ∧ x.b.natAbs ≤ 1 ∧ x.c.natAbs ≤ 1 ∧ x.d.natAbs ≤ 1 := by
  have h : ((List.range 4).all fun k => units8.all fun x => decide (Canon ⟨x, k⟩ ∧ x.a.natAbs ≤ 1 ∧ x.b.natAbs ≤ 1 ∧ x.c.natAbs ≤ 1 ∧ x.d.natAbs ≤ 1)) = true := by decide +kernel
  intro k hk x hx
  have h1 := List.all_eq_true.mp h k (List.mem_range.mpr hk)
  exact of_decide_eq_true (List.all_eq_true.mp h1 x hx)
theorem one_le_big : 1 ≤ 2 ^ 200 := Nat.one_le_two_pow
section
variable {P : Program} {w : World} {K : PySem.W.Frag} {mg : Str → Option Value} {base : Heap}
def spLTurned (K : PySem.W.Frag) : Sp := fun vs H Q _ => ∃ m : Nat, vs = [.int (m : Nat)] ∧ m < 8 ∧ ∀ r x H', Ex H H' → TI K H' r (Q4.ns x) → x ∈ units8 → Q r H'
theorem sc_lturned : FnScope ["_law_many"] ["_law_many"] (defScope s_l_turned) := ⟨rfl, rfl, rfl, by decide +kernel, rfl, by decide +kernel, by decide +kernel⟩
theorem ok_lturned (T : Txt K mg) : Cal P w K mg base 1 "_law_turned" (spLTurned K) := by
  refine cal_ok T.d_l_turned T.g_l_turned sc_lturned (fun _ _ _ _ _ _ us hl => match us, hl with | [_], _ => rfl) (fun vs H Q E h => ?_) (fun cdv A outer s H vs Q E hr h => ?_)
  · obtain ⟨_, rfl, _⟩ := h
    rfl
  · obtain ⟨m, rfl, hm, fin⟩ := h
    have nd := sc_lturned.nd
    refine Ss_one (S_ret (E_ixL ?_))
    refine E_lst ?_
    refine As_cons ?_
    refine E_tup ?_
    refine As_cons ?_
    refine E_int ?_
    refine As_cons ?_
    refine E_int ?_
    refine As_cons ?_
    refine E_int ?_
    refine As_cons ?_
    refine E_int ?_
    refine As_nil ?_
    refine ⟨by show 4 ≤ sizeLine; decide, fun p1 H1 z1 e1 h1 => ?_⟩
    refine As_cons ?_
    refine E_tup ?_
    refine As_cons ?_
    refine E_int ?_
    refine As_cons ?_
    refine E_int ?_
    refine As_cons ?_
    refine E_int ?_
    refine As_cons ?_
    refine E_int ?_
    refine As_nil ?_
    refine ⟨by show 4 ≤ sizeLine; decide, fun p2 H2 z2 e2 h2 => ?_⟩
    refine As_cons ?_
    refine E_tup ?_
    refine As_cons ?_
    refine E_int ?_
    refine As_cons ?_
    refine E_int ?_
    refine As_cons ?_
    refine E_int ?_
    refine As_cons ?_
    refine E_int ?_
    refine As_nil ?_
    refine ⟨by show 4 ≤ sizeLine; decide, fun p3 H3 z3 e3 h3 => ?_⟩
    refine As_cons ?_
    refine E_tup ?_
    refine As_cons ?_
    refine E_int ?_
    refine As_cons ?_
    refine E_int ?_
    refine As_cons ?_
    refine E_int ?_
    refine As_cons ?_
    refine E_int ?_
    refine As_nil ?_
    refine ⟨by show 4 ≤ sizeLine; decide, fun p4 H4 z4 e4 h4 => ?_⟩
    refine As_cons ?_
    refine E_tup ?_
    refine As_cons ?_
    refine E_neg ?_
    refine E_int ?_
    refine ⟨_, rfl, ?_⟩
    refine As_cons ?_
    refine E_int ?_
    refine As_cons ?_
    refine E_int ?_
    refine As_cons ?_
    refine E_int ?_
    refine As_nil ?_
    refine ⟨by show 4 ≤ sizeLine; decide, fun p5 H5 z5 e5 h5 => ?_⟩
    refine As_cons ?_
    refine E_tup ?_
    refine As_cons ?_
    refine E_int ?_
    refine As_cons ?_
    refine E_neg ?_
    refine E_int ?_
    refine ⟨_, rfl, ?_⟩
    refine As_cons ?_
    refine E_int ?_
    refine As_cons ?_
    refine E_int ?_
    refine As_nil ?_
    refine ⟨by show 4 ≤ sizeLine; decide, fun p6 H6 z6 e6 h6 => ?_⟩
    refine As_cons ?_
    refine E_tup ?_
    refine As_cons ?_
    refine E_int ?_
    refine As_cons ?_
    refine E_int ?_
    refine As_cons ?_
    refine E_neg ?_
    refine E_int ?_
    refine ⟨_, rfl, ?_⟩
    refine As_cons ?_
    refine E_int ?_
    refine As_nil ?_
    refine ⟨by show 4 ≤ sizeLine; decide, fun p7 H7 z7 e7 h7 => ?_⟩
    refine As_cons ?_
    refine E_tup ?_
    refine As_cons ?_
    refine E_int ?_
    refine As_cons ?_
    refine E_int ?_
    refine As_cons ?_
    refine E_int ?_
    refine As_cons ?_
    refine E_neg ?_
    refine E_int ?_
    refine ⟨_, rfl, ?_⟩
    refine As_nil ?_
    refine ⟨by show 4 ≤ sizeLine; decide, fun p8 H8 z8 e8 h8 => ?_⟩
    refine As_nil ?_
    refine ⟨by show 8 ≤ sizeLine; decide, fun p9 H9 z9 e9 h9 => ?_⟩
    refine E_var 0 rfl ?_
    have i8 := e8.trans e9
    have i7 := e7.trans i8
    have i6 := e6.trans i7
    have i5 := e5.trans i6
    have i4 := e4.trans i5
    have i3 := e3.trans i4
    have i2 := e2.trans i3
    have hx : ∃ (p : Addr) (x : Q4), ([V.ref p1, .ref p2, .ref p3, .ref p4, .ref p5, .ref p6, .ref p7, .ref p8] : List V)[m]? = some (.ref p) ∧ SqT K H9 p (x.ns.map V.int) ∧ x ∈ units8 := by
      have : m = 0 ∨ m = 1 ∨ m = 2 ∨ m = 3 ∨ m = 4 ∨ m = 5 ∨ m = 6 ∨ m = 7 := by omega
      rcases this with rfl | rfl | rfl | rfl | rfl | rfl | rfl | rfl
      · exact ⟨p1, ⟨1, 0, 0, 0⟩, rfl, SqT.of (i2 _ _ h1), by simp [units8]⟩
      · exact ⟨p2, ⟨0, 1, 0, 0⟩, rfl, SqT.of (i3 _ _ h2), by simp [units8]⟩
      · exact ⟨p3, ⟨0, 0, 1, 0⟩, rfl, SqT.of (i4 _ _ h3), by simp [units8]⟩
      · exact ⟨p4, ⟨0, 0, 0, 1⟩, rfl, SqT.of (i5 _ _ h4), by simp [units8]⟩
      · exact ⟨p5, ⟨-1, 0, 0, 0⟩, rfl, SqT.of (i6 _ _ h5), by simp [units8]⟩
      · exact ⟨p6, ⟨0, -1, 0, 0⟩, rfl, SqT.of (i7 _ _ h6), by simp [units8]⟩
      · exact ⟨p7, ⟨0, 0, -1, 0⟩, rfl, SqT.of (i8 _ _ h7), by simp [units8]⟩
      · exact ⟨p8, ⟨0, 0, 0, -1⟩, rfl, SqT.of (e9 _ _ h8), by simp [units8]⟩
    obtain ⟨p, x, hx1, hx2, hx3⟩ := hx
    exact ⟨p9, _, _, _, rfl, rfl, SqL.of h9, atI_nat hx1, fin _ x _ (e1.trans i2) ⟨p, rfl, hx2⟩ hx3⟩
/-! ### numbers, eighths -/
def spLNumber : Sp := fun vs H Q _ => ∃ l : Addr, vs = [.ref l, .int 3] ∧ Seed H l ∧ ∀ (i : Int) H', i.natAbs ≤ 2 ^ 200 → ExB l H H' → Seed H' l → Q (.int i) H'
theorem ten9 : (10 : Int) ^ ((9 : Int)).toNat = 1000000000 := by decide
theorem sc_lnumber : FnScope ["_law_state_here", "_law_most", "_law_found", "_law_k"] ["_law_state_here", "_law_most"] (defScope s_l_number) := ⟨rfl, rfl, rfl, by decide +kernel, rfl, by decide +kernel, by decide +kernel⟩
theorem ok_lnumber (T : Txt K mg) : Cal P w K mg base 2 "_law_number" spLNumber := by
  refine cal_ok T.d_l_number T.g_l_number sc_lnumber (fun _ _ _ _ _ _ us hl => match us, hl with | [_, _], _ => rfl) (fun vs H Q E h => ?_) (fun cdv A outer s H vs Q E hr h => ?_)
  · obtain ⟨_, rfl, _⟩ := h
    rfl
  · obtain ⟨l, rfl, hs, fin⟩ := h
    have nd := sc_lnumber.nd
    refine Ss_cons (S_set (i := 2) rfl (E_sub (E_call (ok_lnext T) hr (As_cons ?_))) nd)
    refine E_var 0 rfl ?_
    refine As_cons (E_add (E_mul ?_))
    refine E_int ?_
    refine E_var 1 rfl ?_
    refine ⟨_, _, rfl, rfl, .inl ⟨by decide, by decide⟩, ?_⟩
    refine E_int ?_
    refine ⟨_, _, rfl, rfl, As_nil ⟨l, 7, rfl, by decide, hs, fun r H1 hr1 b1 s1 => ?_⟩⟩
    refine E_var 1 rfl ?_
    refine ⟨_, _, rfl, rfl, ?_⟩
    refine Ss_cons (S_if (T_ceq (E_call (ok_lnext T) hr (As_cons ?_))))
    refine E_var 0 rfl ?_
    refine As_cons ?_
    refine E_int ?_
    refine As_nil ⟨l, 9, rfl, by decide, s1, fun r2 H2 hr2 b2 s2 => ?_⟩
    refine E_int ?_
    refine ⟨_, _, rfl, rfl, ?_⟩
    have b12 := b1.trans b2
    have small : ((r : Nat) : Int) - 3 = (((r : Nat) : Int) - 3) := rfl
    by_cases hz : ((r2 : Nat) : Int) = 0
    · rw [decide_eq_true hz]
      refine iteT (Ss_one ?_)
      refine S_forR PassesOwn.never rfl T.b_range ?_
      refine E_int ?_
      refine ⟨6, fun j σ' H' => ∃ (f : Int) (z : Option V), f.natAbs + 1 ≤ 10 * 1000000000 ^ j ∧ ExB l H H' ∧ Seed H' l ∧ σ' = [some (.ref l), some (.int 3), some (.int f), z], rfl, by decide, by decide, ⟨_, none, by omega, b12, s2, rfl⟩, ?_, ?_⟩
      · rintro j σ' H' hj ⟨f, z, hf, bb, ss, rfl⟩
        refine G_name (i := 3) rfl ?_ nd
        refine Ss_one (S_set (i := 2) rfl (E_add (E_mul ?_)) nd)
        refine E_var 2 rfl ?_
        refine E_pow ?_
        refine E_int ?_
        refine E_int ?_
        refine ⟨_, _, rfl, rfl, ⟨by decide, by decide, by decide⟩, ?_⟩
        rw [ten9]
        refine ⟨_, _, rfl, rfl, .inr ⟨by decide, by decide⟩, E_call (ok_lnext T) hr (As_cons ?_)⟩
        refine E_var 0 rfl ?_
        refine As_cons (E_pow ?_)
        refine E_int ?_
        refine E_int ?_
        refine ⟨_, _, rfl, rfl, ⟨by decide, by decide, by decide⟩, ?_⟩
        rw [ten9]
        refine As_nil ⟨l, 1000000000, rfl, by decide, ss, fun r3 H3 hr3 b3 s3 => ?_⟩
        refine ⟨_, _, rfl, rfl, ?_⟩
        refine ⟨f * 1000000000 + (r3 : Nat), _, ?_, bb.trans b3, s3, rfl⟩
        rw [Nat.pow_succ]
        have h1 : 1 ≤ 1000000000 ^ j := Nat.one_le_pow _ _ (by decide)
        generalize (1000000000 : Nat) ^ j = B at *
        omega
      · rintro σ' H' ⟨f, z, hf, bb, ss, rfl⟩
        refine Ss_one (S_ret ?_)
        refine E_var 2 rfl ?_
        refine fin _ _ ?_ bb ss
        exact Nat.le_trans (Nat.le_of_succ_le hf) (by show 10 * 1000000000 ^ 6 ≤ 2 ^ 200; decide)
    · rw [decide_eq_false hz]
      refine iteF (Ss_nil (Ss_one (S_ret ?_)))
      refine E_var 2 rfl ?_
      refine fin _ _ ?_ b12 s2
      refine Nat.le_trans (show (((r : Nat) : Int) - 3).natAbs ≤ 4 by omega) (by decide)
def spLEighth (K : PySem.W.Frag) : Sp := fun vs H Q _ => ∃ l : Addr, vs = [.ref l] ∧ Seed H l ∧ ∀ r e H', TI K H' r (Z8.ns e) → Drw e → ExB l H H' → Seed H' l → Q r H'
theorem sc_leighth : FnScope ["_law_state_here", "_law_way", "_law_k"] ["_law_state_here"] (defScope s_l_eighth) := ⟨rfl, rfl, rfl, by decide +kernel, rfl, by decide +kernel, by decide +kernel⟩
theorem ok_leighth (T : Txt K mg) : Cal P w K mg base 3 "_law_eighth" (spLEighth K) := by
  refine cal_ok T.d_l_eighth T.g_l_eighth sc_leighth (fun _ _ _ _ _ _ us hl => match us, hl with | [_], _ => rfl) (fun vs H Q E h => ?_) (fun cdv A outer s H vs Q E hr h => ?_)
  · obtain ⟨_, rfl, _⟩ := h
    rfl
  · obtain ⟨l, rfl, hs, fin⟩ := h
    have nd := sc_leighth.nd
    refine Ss_cons (S_set (i := 1) rfl (E_call (ok_lnext T) (hr.mono (by decide)) (As_cons ?_)) nd)
    refine E_var 0 rfl ?_
    refine As_cons ?_
    refine E_int ?_
    refine As_nil ⟨l, 6, rfl, by decide, hs, fun r H1 hr1 b1 s1 => ?_⟩
    refine Ss_cons ?_
    apply S_ifB
    · apply TB_eq
      refine E_var 1 rfl ?_
      refine E_int ?_
      exact ⟨_, _, rfl, rfl, rfl, rfl⟩
    · intro _
      refine Ss_one ?_
      refine S_ret ?_
      refine E_tup ?_
      refine As_cons ?_
      refine E_int ?_
      refine As_cons ?_
      refine E_int ?_
      refine As_cons ?_
      refine E_int ?_
      refine As_cons ?_
      refine E_int ?_
      refine As_cons ?_
      refine E_int ?_
      refine As_nil ?_
      refine ⟨by show 5 ≤ sizeLine; decide, fun p2 H2 z2 e2 h2 => ?_⟩
      exact fin _ Z8.nought _ (TI.new h2 rfl) drw_nought (b1.trans (ExB.of e2)) (s1.ex e2)
    intro _
    refine Ss_nil (Ss_cons ?_)
    apply S_ifB
    · apply TB_eq
      refine E_var 1 rfl ?_
      refine E_int ?_
      exact ⟨_, _, rfl, rfl, rfl, rfl⟩
    · intro _
      refine Ss_one (S_ret (E_catT (E_call (ok_lturned T) (hr.mono (by decide)) (As_cons (E_call (ok_lnext T) (hr.mono (by decide)) (As_cons ?_))))))
      refine E_var 0 rfl ?_
      refine As_cons ?_
      refine E_int ?_
      refine As_nil ⟨l, 8, rfl, by decide, s1, fun r2 H2 hr2 b2 s2 => As_nil ⟨r2, rfl, hr2, fun u x H3 e3 hu hx => ?_⟩⟩
      obtain ⟨pu, rfl, hpu⟩ := hu
      refine E_tup (As_cons (E_call (ok_lnext T) (hr.mono (by decide)) (As_cons ?_)))
      refine E_var 0 rfl ?_
      refine As_cons ?_
      refine E_int ?_
      refine As_nil ⟨l, 4, rfl, by decide, s2.ex e3, fun r4 H4 hr4 b4 s4 => As_nil ⟨by show 1 ≤ sizeLine; decide, fun p5 H5 z5 e5 h5 => ?_⟩⟩
      have hpu5 : SqT K H5 pu (x.ns.map V.int) := SqT.fz hpu (((s2.ex e3).fz b4).trans (Fz.of e5))
      refine ⟨pu, p5, _, _, rfl, rfl, hpu5, SqT.of h5, by show 5 ≤ sizeLine; decide, by simp, fun p6 H6 e6 h6 => ?_⟩
      obtain ⟨c1, c2, c3, c4, c5⟩ := unit_can r4 hr4 x hx
      refine fin _ ⟨x, r4⟩ _ ⟨p6, rfl, h6⟩ ⟨c1, by show r4 ≤ 6; omega, Nat.le_trans c2 one_le_big, Nat.le_trans c3 one_le_big, Nat.le_trans c4 one_le_big, Nat.le_trans c5 one_le_big⟩ ?_ (s4.ex (e5.trans e6))
      exact ((b1.trans b2).trans (ExB.of e3)).trans (b4.trans (ExB.of (e5.trans e6)))
    intro _
    refine Ss_nil (Ss_one (S_ret (E_call (ok_llowest T) (hr.mono (by decide)) (As_cons (E_tuple T.b_tuple (E_lcRb 2 rfl nd rfl (by show blkC ["_law_state_here", "_law_way", "_law_k"] (defScope s_l_eighth) _ [(_, 2)] = true; decide +kernel) T.b_range ?_))))))
    refine E_int ?_
    have hl1 : H1 l ≠ none := by
      obtain ⟨sd, _, h⟩ := s1
      rw [h]
      exact fun z => nomatch z
    refine ⟨4, l, fun j acc H' => (∃ ns : List Int, acc = ns.map V.int ∧ ns.length = j ∧ ∀ n ∈ ns, n.natAbs ≤ 2 ^ 200) ∧ Seed H' l, rfl, by decide, hl1, fun Dl hD => ⟨⟨[], rfl, rfl, fun _ h => nomatch h⟩, ?_⟩, ?_, ?_, ?_⟩
    · obtain ⟨sd, h1, h2⟩ := s1
      refine ⟨sd, h1, ?_⟩
      rw [upd_ne (ne_of_none h2 hD)]
      exact h2
    · rintro j acc H' Dl xs ob hne hD ⟨h1, sd, h2, h3⟩
      refine ⟨h1, sd, h2, ?_⟩
      rw [upd_ne (Ne.symm hne)]
      exact h3
    · rintro j acc H' hj bb hl ⟨⟨ns, rfl, hns, hb⟩, ss⟩
      intro s0 H0 C cl fp
      refine E_call (ok_lnumber T) (hr.mono (by decide)) (As_cons ?_)
      refine E_var 0 rfl ?_
      refine As_cons ?_
      refine E_int ?_
      refine As_nil ⟨l, rfl, ss, fun i H5 hi b5 s5 => ⟨b5, ⟨ns ++ [i], ?_, by rw [List.length_append, hns]; rfl, fun n hn => ?_⟩, s5⟩⟩
      · rw [List.map_append]
        rfl
      · rcases List.mem_append.mp hn with hn | hn
        · exact hb n hn
        · rw [List.mem_singleton.mp hn]
          exact hi
    · rintro Dl H2 ys hD b2 hy ⟨⟨ns, rfl, hns, hb⟩, s2⟩
      refine ⟨Dl, _, rfl, SqL.of hy, fun t H3 zt e3 ht => As_cons (E_call (ok_lnext T) (hr.mono (by decide)) (As_cons ?_))⟩
      refine E_var 0 rfl ?_
      refine As_cons ?_
      refine E_int ?_
      refine As_nil ⟨l, 7, rfl, by decide, s2.ex e3, fun r4 H4 hr4 b4 s4 => ?_⟩
      match ns, hns, hb, ht with
      | [a, b, c, d], _, hb, ht =>
        have hq : Q4.le (2 ^ 200) ⟨a, b, c, d⟩ := ⟨hb a (by simp), hb b (by simp), hb c (by simp), hb d (by simp)⟩
        refine As_nil ⟨_, ⟨a, b, c, d⟩, r4, rfl, ⟨t, rfl, (ht.fz ((s2.ex e3).fz b4)).t⟩, fun u H5 e5 hu => ?_⟩
        exact fin _ _ _ hu ⟨lowest_canon _ _, by have := lowest_k ⟨a, b, c, d⟩ r4; omega, lowest_le hq⟩ ((b1.trans b2).trans ((ExB.of e3).trans (b4.trans (ExB.of e5)))) (s4.ex e5)
end
end BW

set_option Elab.async false
set_option linter.all false
set_option maxRecDepth 100000
set_option maxHeartbeats 4000000
namespace BW
open PySem PySem.Spec PyProof.Rows L2
section
variable {P : Program} {w : World} {K : PySem.W.Frag} {mg : Str → Option Value} {base : Heap}
theorem S_par3 {X : Cx} {σ : L2.St} {H : Hp} {D : Ends} {i j l : Nat} {x y z : Str} {a b c : Expr} {px py pz pt pos : PySem.Pos} {kt k2 : Nat} {pt2 : PySem.Pos} (hc : X.calm = true) (hN : X.N.Nodup) (hi : X.N[i]? = some x) (hj : X.N[j]? = some y) (hl : X.N[l]? = some z) (hij : i ≠ j) (hil : i ≠ l) (hjl : j ≠ l)
    (q : As X [a, b, c] σ H fun vs H1 => ∃ u v w, vs = [u, v, w] ∧ D.nx (((σ.set i (some u)).set j (some v)).set l (some w)) H1)
    (hx : X.env.scope.names.lookup x = some .local := by rfl) (hy : X.env.scope.names.lookup y = some .local := by rfl) (hz : X.env.scope.names.lookup z = some .local := by rfl)
    (hw : swappedStores [.Tuple [.Name x px, .Name y py, .Name z pz] kt pt] (.Tuple [a, b, c] k2 pt2) X.env = pure (some [x, y, z]) := by rfl)
    (hs : swapsWithSole [.Tuple [.Name x px, .Name y py, .Name z pz] kt pt] (.Tuple [a, b, c] k2 pt2) pos.line X.env = pure false := by rfl) :
    S X (.Assign [.Tuple [.Name x px, .Name y py, .Name z pz] kt pt] (.Tuple [a, b, c] k2 pt2) pos) D σ H := S.of (ps_par3 hc hN hi hj hl hij hil hjl hx hy hz As.pa hw hs) q
/-! ### the law's eighths -/
def spLEighths (K : PySem.W.Frag) : Sp := fun vs H Q _ => ∃ (l : Addr) (n : Nat), vs = [.ref l, .int (n : Nat)] ∧ Wd n ∧ Seed H l ∧ ∀ (le : Addr) H' (ws : List V) (es : List Z8), H' le = some (.lst ws) → All2 (TI K H') ws (es.map Z8.ns) → es.length = 2 ^ n → (∀ e ∈ es, Drw e) → ExB l H H' → Q (.ref le) H'
theorem drw_one : Drw ⟨⟨1, 0, 0, 0⟩, 0⟩ := ⟨(unit_can 0 (by decide) _ (by simp [units8])).1, by decide, by refine ⟨?_, ?_, ?_, ?_⟩ <;> first | exact Nat.zero_le _ | exact one_le_big⟩
theorem sc_leighths : FnScope ["_law_state_here", "_law_many", "_law_way", "_law_found", "_law_row"] ["_law_state_here", "_law_many"] (defScope s_l_eighths) := ⟨rfl, rfl, rfl, by decide +kernel, rfl, by decide +kernel, by decide +kernel⟩
theorem ok_leighths (T : Txt K mg) : Cal P w K mg base 4 "_law_eighths" (spLEighths K) := by
  refine cal_ok T.d_l_eighths T.g_l_eighths sc_leighths (fun _ _ _ _ _ _ us hl => match us, hl with | [_, _], _ => rfl) (fun vs H Q E h => ?_) (fun cdv A outer s H vs Q E hr h => ?_)
  · obtain ⟨_, _, rfl, _⟩ := h
    rfl
  · obtain ⟨l, n, rfl, wd, hs, fin⟩ := h
    have nd := sc_leighths.nd
    have h16 := two_le wd
    have hn5 := wd.hi
    have h1n : 1 ≤ 2 ^ n := Nat.one_le_two_pow
    refine Ss_cons (S_set (i := 2) rfl (E_call (ok_lnext T) (hr.mono (by decide)) (As_cons ?_)) nd)
    refine E_var 0 rfl ?_
    refine As_cons ?_
    refine E_int ?_
    refine As_nil ⟨l, 4, rfl, by decide, hs, fun r H1 hr1 b1 s1 => ?_⟩
    refine Ss_cons ?_
    apply S_ifB
    · apply TB_eq
      refine E_var 2 rfl ?_
      refine E_int ?_
      exact ⟨_, _, rfl, rfl, rfl, rfl⟩
    · intro _
      refine Ss_cons (S_set (i := 3) rfl (E_rep ?_) nd)
      refine E_lst ?_
      refine As_cons ?_
      refine E_tup ?_
      refine As_cons ?_
      refine E_int ?_
      refine As_cons ?_
      refine E_int ?_
      refine As_cons ?_
      refine E_int ?_
      refine As_cons ?_
      refine E_int ?_
      refine As_cons ?_
      refine E_int ?_
      refine As_nil ?_
      refine ⟨by show 5 ≤ sizeLine; decide, fun p5 H5 z5 e5 h5 => ?_⟩
      refine As_nil ?_
      refine ⟨by show 1 ≤ sizeLine; decide, fun p6 H6 z6 e6 h6 => ?_⟩
      refine E_shl ?_
      refine E_int ?_
      refine E_var 1 rfl ?_
      refine ⟨_, _, rfl, rfl, pow_ok (by decide) hn5, ?_⟩
      rw [two_int]
      refine ⟨p6, _, _, rfl, rfl, h6, by omega, by omega, by rw [Int.toNat_natCast]; exact Nat.le_trans h16 (by decide), fun fo H7 zf e7 hf => ?_⟩
      rw [Int.toNat_natCast] at hf
      have e57 := e5.trans (e6.trans e7)
      have s7 := s1.ex e57
      have nfl : fo ≠ l := by
        rintro rfl
        obtain ⟨sd, _, h⟩ := s1
        rw [(e5.trans e6) _ _ h] at zf
        cases zf
      refine Ss_cons (S_asg ?_)
      refine E_tup ?_
      refine As_cons ?_
      refine E_int ?_
      refine As_cons ?_
      refine E_int ?_
      refine As_cons ?_
      refine E_int ?_
      refine As_cons ?_
      refine E_int ?_
      refine As_cons ?_
      refine E_int ?_
      refine As_nil ?_
      refine ⟨by show 5 ≤ sizeLine; decide, fun p8 H8 z8 e8 h8 => ?_⟩
      refine G_ix ?_
      refine E_var 3 rfl ?_
      have hf8 := e8 _ _ hf
      refine E_call (ok_lnext T) (hr.mono (by decide)) (As_cons ?_)
      refine E_var 0 rfl ?_
      refine As_cons (E_len T.b_len ?_)
      refine E_var 3 rfl ?_
      refine ⟨fo, _, rfl, .inl (SqL.of hf8), As_nil ⟨l, (List.replicate (2 ^ n) (V.ref p5)).length, rfl, by rw [List.length_replicate]; omega, s7.ex e8, fun r9 H9 hr9 b9 s9 => ?_⟩⟩
      have hf9 := b9 _ _ nfl hf8
      refine ⟨fo, _, _, r9, rfl, rfl, hf9, Evl.ixN_nat hr9, ?_⟩
      refine Ss_one (S_ret ?_)
      refine E_var 3 rfl ?_
      rw [List.length_replicate] at hr9
      have fzu : Fz H9 (upd H9 fo (.lst ((List.replicate (2 ^ n) (V.ref p5)).set r9 (.ref p8)))) := Fz.upd hf9
      have fz9 : Fz H8 H9 := (s7.ex e8).fz b9
      have t5 : TI K (upd H9 fo (.lst ((List.replicate (2 ^ n) (V.ref p5)).set r9 (.ref p8)))) (.ref p5) Z8.nought.ns := (TI.new h5 rfl).fz ((Fz.of (e6.trans (e7.trans e8))).trans (fz9.trans fzu))
      have t8 : TI K (upd H9 fo (.lst ((List.replicate (2 ^ n) (V.ref p5)).set r9 (.ref p8)))) (.ref p8) (Z8.ns ⟨⟨1, 0, 0, 0⟩, 0⟩) := (TI.new h8 rfl).fz (fz9.trans fzu)
      refine fin fo _ _ ((List.replicate (2 ^ n) Z8.nought).set r9 ⟨⟨1, 0, 0, 0⟩, 0⟩) upd_same ?_ (by rw [List.length_set, List.length_replicate]) ?_ ?_
      · rw [List.map_set, List.map_replicate]
        exact (All2.rep t5 _).set t8 _
      · intro e he
        rcases List.mem_or_eq_of_mem_set he with he | rfl
        · rw [List.eq_of_mem_replicate he]
          exact drw_nought
        · exact drw_one
      · intro b ob hne hb
        have x6 := (e5.trans e6) _ _ (b1 b ob hne hb)
        have x9 := b9 b ob hne (e8 _ _ (e7 _ _ x6))
        rw [upd_ne (ne_of_none x6 zf)]
        exact x9
    intro _
    refine Ss_nil (Ss_one (S_ret (E_lcRb 4 rfl nd rfl (by show blkC ["_law_state_here", "_law_many", "_law_way", "_law_found", "_law_row"] (defScope s_l_eighths) _ [(_, 4)] = true; decide +kernel) T.b_range (E_shl ?_))))
    refine E_int ?_
    refine E_var 1 rfl ?_
    refine ⟨_, _, rfl, rfl, pow_ok (by decide) hn5, ?_⟩
    rw [two_int]
    have hl1 : H1 l ≠ none := by
      obtain ⟨sd, _, h⟩ := s1
      rw [h]
      exact fun z => nomatch z
    refine ⟨2 ^ n, l, fun j acc H' => (∃ es : List Z8, All2 (TI K H') acc (es.map Z8.ns) ∧ es.length = j ∧ ∀ e ∈ es, Drw e) ∧ Seed H' l, rfl, by omega, hl1, fun Dl hD => ⟨⟨[], .nil, rfl, fun _ h => nomatch h⟩, ?_⟩, ?_, ?_, ?_⟩
    · obtain ⟨sd, h1, h2⟩ := s1
      refine ⟨sd, h1, ?_⟩
      rw [upd_ne (ne_of_none h2 hD)]
      exact h2
    · rintro j acc H' Dl xs ob hne hD ⟨⟨es, h1, h2, h3⟩, sd, h4, h5⟩
      refine ⟨⟨es, all2_fz h1 (Fz.upd hD), h2, h3⟩, sd, h4, ?_⟩
      rw [upd_ne (Ne.symm hne)]
      exact h5
    · rintro j acc H' hj bb hl ⟨⟨es, h1, h2, h3⟩, ss⟩
      intro s0 H0 C cl fp
      refine E_call (ok_leighth T) (hr.mono (by decide)) (As_cons ?_)
      refine E_var 0 rfl ?_
      refine As_nil ⟨l, rfl, ss, fun u e H5 hu he b5 s5 => ⟨b5, ⟨es ++ [e], ?_, by rw [List.length_append, h2]; rfl, fun x hx => ?_⟩, s5⟩⟩
      · rw [List.map_append]
        exact (all2_fz h1 (ss.fz b5)).snoc hu
      · rcases List.mem_append.mp hx with hx | hx
        · exact h3 x hx
        · rw [List.mem_singleton.mp hx]
          exact he
    · rintro Dl H2 ys hD b2 hy ⟨⟨es, h1, h2, h3⟩, s2⟩
      exact fin Dl H2 ys es hy h1 h2 h3 (b1.trans b2)
/-! ### the law's lengths -/
def sqN (e : Z8) : List Int := [np e.v, nq e.v, (e.k : Int)]
def spLSquare (K : PySem.W.Frag) : Sp := fun vs H Q _ => ∃ (v : V) (x : Z8), vs = [v] ∧ TI K H v x.ns ∧ x.v.bd 4000 ∧ ∀ r H', Ex H H' → TI K H' r (sqN x) → Q r H'
theorem sc_lsquare : FnScope ["_law_one", "_law_a", "_law_b", "_law_c", "_law_d", "_law_k"] ["_law_one"] (defScope s_l_square) := ⟨rfl, rfl, rfl, by decide +kernel, rfl, by decide +kernel, by decide +kernel⟩
theorem ok_lsquare (T : Txt K mg) : Cal P w K mg base 1 "_law_square" (spLSquare K) := by
  refine cal_ok T.d_l_square T.g_l_square sc_lsquare (fun _ _ _ _ _ _ us hl => match us, hl with | [_], _ => rfl) (fun vs H Q E h => ?_) (fun cdv A outer s H vs Q E hr h => ?_)
  · obtain ⟨_, _, rfl, _⟩ := h
    rfl
  · obtain ⟨v, x, rfl, ⟨p, rfl, hp⟩, ⟨ba, bb, bc, bd⟩, fin⟩ := h
    have nd := sc_lsquare.nd
    refine Ss_cons (S_asg ?_)
    refine E_var 0 rfl ?_
    refine G_tup rfl hp rfl ?_
    refine Gs_cons (G_name (i := 1) rfl (Gs_cons (G_name (i := 2) rfl (Gs_cons (G_name (i := 3) rfl (Gs_cons (G_name (i := 4) rfl (Gs_cons (G_name (i := 5) rfl (Gs_nil ?_) nd)) nd)) nd)) nd)) nd)
    refine Ss_one (S_ret (E_tup (As_cons (E_add (E_add (E_add (E_mulW ?_)))))))
    refine E_var 1 rfl ?_
    refine E_var 1 rfl ?_
    refine ⟨_, _, rfl, rfl, mul_bd ba ba, E_mulW ?_⟩
    refine E_var 2 rfl ?_
    refine E_var 2 rfl ?_
    refine ⟨_, _, rfl, rfl, mul_bd bb bb, _, _, rfl, rfl, E_mulW ?_⟩
    refine E_var 3 rfl ?_
    refine E_var 3 rfl ?_
    refine ⟨_, _, rfl, rfl, mul_bd bc bc, _, _, rfl, rfl, E_mulW ?_⟩
    refine E_var 4 rfl ?_
    refine E_var 4 rfl ?_
    refine ⟨_, _, rfl, rfl, mul_bd bd bd, _, _, rfl, rfl, As_cons (E_sub (E_add (E_add (E_mulW ?_))))⟩
    refine E_var 1 rfl ?_
    refine E_var 2 rfl ?_
    refine ⟨_, _, rfl, rfl, mul_bd ba bb, E_mulW ?_⟩
    refine E_var 2 rfl ?_
    refine E_var 3 rfl ?_
    refine ⟨_, _, rfl, rfl, mul_bd bb bc, _, _, rfl, rfl, E_mulW ?_⟩
    refine E_var 3 rfl ?_
    refine E_var 4 rfl ?_
    refine ⟨_, _, rfl, rfl, mul_bd bc bd, _, _, rfl, rfl, E_mulW ?_⟩
    refine E_var 1 rfl ?_
    refine E_var 4 rfl ?_
    refine ⟨_, _, rfl, rfl, mul_bd ba bd, _, _, rfl, rfl, As_cons ?_⟩
    refine E_var 5 rfl ?_
    refine As_nil ⟨by show 3 ≤ sizeLine; decide, fun p1 H1 z1 e1 h1 => fin _ _ e1 (TI.new h1 ?_)⟩
    have e : nq x.v = x.v.a * x.v.b + x.v.b * x.v.c + x.v.c * x.v.d - x.v.a * x.v.d := by unfold nq; rw [Int.mul_comm x.v.d x.v.a]
    show _ = [V.int (np x.v), .int (nq x.v), .int (x.k : Int)]
    rw [e]
    rfl
theorem sc_llow : FnScope ["_law_p", "_law_q", "_law_k"] ["_law_p", "_law_q", "_law_k"] (defScope s_l_low) := ⟨rfl, rfl, rfl, by decide +kernel, rfl, by decide +kernel, by decide +kernel⟩
theorem ok_llow (T : Txt K mg) : Cal P w K mg base 1 "_law_low" (spLowL K) := by
  refine cal_ok T.d_l_low T.g_l_low sc_llow (fun _ _ _ _ _ _ us hl => match us, hl with | [_, _, _], _ => rfl) (fun vs H Q E h => ?_) (fun cdv A outer s H vs Q E hr h => ?_)
  · obtain ⟨_, _, _, rfl, _⟩ := h
    rfl
  · obtain ⟨x, y, k, rfl, fin⟩ := h
    have nd := sc_llow.nd
    refine Ss_cons ?_
    refine S_whileB PassesOwn.never (fun σ' H' => ∃ (u v : Int) (l : Nat), Ex H H' ∧ lowL x y k = lowL u v l ∧ σ' = [some (.int u), some (.int v), some (.int (l : Nat))]) (fun σ' _ => slotN 2 σ') ⟨x, y, k, Evl.Ex.refl H, rfl, rfl⟩ ?_
    rintro σ' H' ⟨u, v, l, e0, el2, rfl⟩
    refine ⟨decide (0 < l ∧ u % 2 = 0 ∧ v % 2 = 0), TB_is (c1 := decide ((0 : Int) < l) && (decide (u % 2 = 0) && decide (v % 2 = 0))) ?tt1 ?ee1, fun hc => ?_, fun hc => ?_⟩
    case tt1 =>
      apply TB_w
      apply WB_and
      · apply TB_gt
        refine E_var 2 rfl ?_
        refine E_int ?_
        exact ⟨_, _, rfl, rfl, rfl, rfl⟩
      · intro _
        apply WB_and
        · apply TB_eq
          refine E_modc ?_
          refine E_var 0 rfl ?_
          refine ⟨_, rfl, ?_⟩
          refine E_int ?_
          exact ⟨_, _, rfl, rfl, rfl, rfl⟩
        · intro _
          apply WB_and1
          apply TB_eq
          refine E_modc ?_
          refine E_var 1 rfl ?_
          refine ⟨_, rfl, ?_⟩
          refine E_int ?_
          exact ⟨_, _, rfl, rfl, rfl, rfl⟩
    case ee1 =>
      rw [Bool.eq_iff_iff]
      simp only [Bool.and_eq_true, decide_eq_true_eq]
      exact ⟨fun h => ⟨by omega, h.2⟩, fun h => ⟨by omega, h.2⟩⟩
    · obtain ⟨h0, hev⟩ := of_decide_eq_true hc
      refine Ss_one (S_par3 (i := 0) (j := 1) (l := 2) rfl nd rfl rfl rfl (by decide) (by decide) (by decide) (As_cons ?_))
      refine E_fdivc ?_
      refine E_var 0 rfl ?_
      refine ⟨_, rfl, ?_⟩
      refine As_cons ?_
      refine E_fdivc ?_
      refine E_var 1 rfl ?_
      refine ⟨_, rfl, ?_⟩
      refine As_cons ?_
      refine E_sub ?_
      refine E_var 2 rfl ?_
      refine E_int ?_
      refine ⟨_, _, rfl, rfl, ?_⟩
      refine As_nil ⟨_, _, _, rfl, ?_⟩
      refine ⟨⟨u / 2, v / 2, l - 1, e0, el2.trans (lowL_step h0 hev), ?_⟩, ?_⟩
      · show [some (V.int (u / 2)), some (.int (v / 2)), some (.int ((l : Int) - 1))] = _
        have e : (l : Int) - 1 = ((l - 1 : Nat) : Int) := by omega
        rw [e]
      · show ((l : Int) - 1).toNat < (l : Int).toNat
        omega
    · have hc := of_decide_eq_false hc
      rw [lowL_stop hc] at el2
      refine Ss_one ?_
      refine S_ret ?_
      refine E_tup ?_
      refine As_cons ?_
      refine E_var 0 rfl ?_
      refine As_cons ?_
      refine E_var 1 rfl ?_
      refine As_cons ?_
      refine E_var 2 rfl ?_
      refine As_nil ?_
      refine ⟨by show 3 ≤ sizeLine; decide, fun p1 H1 z1 e1 h1 => ?_⟩
      refine fin _ _ (e0.trans e1) (TI.new h1 ?_)
      rw [el2]
      rfl
theorem PN_step {N : Nat} {es : List Z8} {i : Nat} {e : Z8} (h : es[i]? = some e) : PN N (es.take (i + 1)) = PN N (es.take i) + np (val N e) ∧ QN N (es.take (i + 1)) = QN N (es.take i) + nq (val N e) := by
  unfold PN QN
  rw [List.take_add_one, h, List.map_append, List.map_append, List.sum_append, List.sum_append]
  simp
theorem np_val {N : Nat} {e : Z8} : np (val N e) = np e.v * 2 ^ (N - e.k) ∧ nq (val N e) = nq e.v * 2 ^ (N - e.k) := ⟨np_rtN _ _, nq_rtN _ _⟩
theorem total_step {p s : Int} {m k k' N : Nat} (h1 : k ≤ m) (h2 : k' ≤ m) (h3 : m ≤ N) {a b : Int} (ha : p * 2 ^ (N - k) = a) (hb : s * 2 ^ (N - k') = b) : (p * (1 * 2 ^ (m - k)) + s * (1 * 2 ^ (m - k'))) * 2 ^ (N - m) = a + b := by
  have e1 : N - k = (m - k) + (N - m) := by omega
  have e2 : N - k' = (m - k') + (N - m) := by omega
  rw [e1, Int.pow_add] at ha
  rw [e2, Int.pow_add] at hb
  rw [Int.one_mul, Int.one_mul, Int.add_mul, Int.mul_assoc, Int.mul_assoc, ha, hb]
def spLTotal (K : PySem.W.Frag) : Sp := fun vs H Q _ => ∃ (l : Addr) (es : List Z8), vs = [.ref l] ∧ LTI K H l (es.map sqN) ∧ (∀ e ∈ es, e.k ≤ 50) ∧ ∀ r H', Ex H H' → TI K H' r (stLen es).ns → Q r H'
theorem p50 {j : Nat} (h : j ≤ 50) : (1 : Int) * 2 ^ j < 2 ^ 64 ∧ (0 : Int) ≤ 1 * 2 ^ j := by
  have h1 : (2 : Nat) ^ j ≤ 2 ^ 50 := Nat.pow_le_pow_right (by decide) h
  have e : (1 : Int) * 2 ^ j = ((2 ^ j : Nat) : Int) := by rw [Int.one_mul, Int.natCast_pow]; rfl
  rw [e]
  generalize (2 : Nat) ^ j = B at *
  have : (2 : Nat) ^ 50 < 2 ^ 64 := by decide
  omega
theorem smp {i : Int} {j : Nat} (h : j ≤ 50) : CMul i (1 * 2 ^ j) := by
  obtain ⟨h1, h2⟩ := p50 h
  exact .inr ⟨by omega, h1⟩
theorem sc_ltotal : FnScope ["_law_lengths", "_law_p", "_law_q", "_law_k", "_law_one", "_law_most"] ["_law_lengths"] (defScope s_l_total) := ⟨rfl, rfl, rfl, by decide +kernel, rfl, by decide +kernel, by decide +kernel⟩
theorem ok_ltotal (T : Txt K mg) : Cal P w K mg base 2 "_law_total" (spLTotal K) := by
  refine cal_ok T.d_l_total T.g_l_total sc_ltotal (fun _ _ _ _ _ _ us hl => match us, hl with | [_], _ => rfl) (fun vs H Q E h => ?_) (fun cdv A outer s H vs Q E hr h => ?_)
  · obtain ⟨_, _, rfl, _⟩ := h
    rfl
  · obtain ⟨l, es, rfl, ⟨ws, hl, hall⟩, hk, fin⟩ := h
    have nd := sc_ltotal.nd
    have hwl : ws.length = es.length := by have := hall.len; rw [List.length_map] at this; exact this
    refine Ss_cons ?_
    refine S_asg ?_
    refine E_tup ?_
    refine As_cons ?_
    refine E_int ?_
    refine As_cons ?_
    refine E_int ?_
    refine As_cons ?_
    refine E_int ?_
    refine As_nil ?_
    refine ⟨by show 3 ≤ sizeLine; decide, fun p1 H1 z1 e1 h1 => ?_⟩
    refine G_tup rfl (SqT.of h1) rfl ?_
    refine Gs_cons ?_
    refine G_name (i := 1) rfl ?_ nd
    refine Gs_cons ?_
    refine G_name (i := 2) rfl ?_ nd
    refine Gs_cons ?_
    refine G_name (i := 3) rfl ?_ nd
    refine Gs_nil ?_
    refine Ss_cons ?_
    refine S_forL PassesOwn.never rfl ?_
    refine E_var 0 rfl ?_
    refine ⟨l, ws, fun i σ' H' => ∃ (p q : Int) (k : Nat) (z1 z2 : Option V), Ex H H' ∧ k ≤ 50 ∧ p * 2 ^ (50 - k) = PN 50 (es.take i) ∧ q * 2 ^ (50 - k) = QN 50 (es.take i) ∧ σ' = [some (.ref l), some (.int p), some (.int q), some (.int (k : Nat)), z1, z2], rfl, SqL.ex hl e1, ⟨0, 0, 0, none, none, e1, by decide, Int.zero_mul _, Int.zero_mul _, rfl⟩, ?_, ?_, ?_⟩
    · rintro i σ' H' _ ⟨_, _, _, _, _, e, _, _, _, _⟩
      exact SqL.ex hl e
    · rintro i x σ' H' hi ⟨p, q, k, z1, z2, e2, hk50, hp, hq, rfl⟩
      obtain ⟨e, he, te⟩ := lti_get hall hi
      obtain ⟨t, rfl, ht⟩ := te.ex e2
      have hek := hk e (List.mem_of_getElem? he)
      have ht : SqT K H' t [V.int (np e.v), .int (nq e.v), .int (e.k : Nat)] := ht
      obtain ⟨q1, q2⟩ := PN_step (N := 50) he
      obtain ⟨v1, v2⟩ := np_val (N := 50) (e := e)
      refine G_name (i := 4) rfl ?_ nd
      refine Ss_cons (S_set (i := 5) rfl (E_max2 rfl T.b_max ?_) nd)
      refine E_var 3 rfl ?_
      refine E_ixT ?_
      refine E_var 4 rfl ?_
      refine E_int ?_
      refine ⟨_, _, _, _, rfl, rfl, ht, rfl, ?_⟩
      refine ⟨_, _, rfl, rfl, ?_⟩
      have ek : (if ((e.k : Nat) : Int) > ((k : Nat) : Int) then ((e.k : Nat) : Int) else ((k : Nat) : Int)) = ((max k e.k : Nat) : Int) := by split <;> omega
      rw [ek]
      generalize hm : max k e.k = m
      have m1 : k ≤ m := by omega
      have m2 : e.k ≤ m := by omega
      have m3 : m ≤ 50 := by omega
      have d1 : ((m : Nat) : Int) - ((k : Nat) : Int) = ((m - k : Nat) : Int) := by omega
      have d2 : ((m : Nat) : Int) - ((e.k : Nat) : Int) = ((m - e.k : Nat) : Int) := by omega
      refine Ss_cons (S_set (i := 1) rfl (E_add (E_mul ?_)) nd)
      refine E_var 1 rfl ?_
      refine E_shl ?_
      refine E_int ?_
      refine E_sub ?_
      refine E_var 5 rfl ?_
      refine E_var 3 rfl ?_
      refine ⟨_, _, rfl, rfl, ?_⟩
      rw [d1]
      refine ⟨_, _, rfl, rfl, ⟨by omega, by omega, by decide⟩, _, _, rfl, rfl, ?_, E_mul ?_⟩
      · rw [Int.toNat_natCast]; exact smp (by omega)
      refine E_ixT ?_
      refine E_var 4 rfl ?_
      refine E_int ?_
      refine ⟨_, _, _, _, rfl, rfl, ht, rfl, ?_⟩
      refine E_shl ?_
      refine E_int ?_
      refine E_sub ?_
      refine E_var 5 rfl ?_
      refine E_ixT ?_
      refine E_var 4 rfl ?_
      refine E_int ?_
      refine ⟨_, _, _, _, rfl, rfl, ht, rfl, ?_⟩
      refine ⟨_, _, rfl, rfl, ?_⟩
      rw [d2]
      refine ⟨_, _, rfl, rfl, ⟨by omega, by omega, by decide⟩, _, _, rfl, rfl, ?_, _, _, rfl, rfl, ?_⟩
      · rw [Int.toNat_natCast]; exact smp (by omega)
      refine Ss_cons (S_set (i := 2) rfl (E_add (E_mul ?_)) nd)
      refine E_var 2 rfl ?_
      refine E_shl ?_
      refine E_int ?_
      refine E_sub ?_
      refine E_var 5 rfl ?_
      refine E_var 3 rfl ?_
      refine ⟨_, _, rfl, rfl, ?_⟩
      rw [d1]
      refine ⟨_, _, rfl, rfl, ⟨by omega, by omega, by decide⟩, _, _, rfl, rfl, ?_, E_mul ?_⟩
      · rw [Int.toNat_natCast]; exact smp (by omega)
      refine E_ixT ?_
      refine E_var 4 rfl ?_
      refine E_int ?_
      refine ⟨_, _, _, _, rfl, rfl, ht, rfl, ?_⟩
      refine E_shl ?_
      refine E_int ?_
      refine E_sub ?_
      refine E_var 5 rfl ?_
      refine E_ixT ?_
      refine E_var 4 rfl ?_
      refine E_int ?_
      refine ⟨_, _, _, _, rfl, rfl, ht, rfl, ?_⟩
      refine ⟨_, _, rfl, rfl, ?_⟩
      rw [d2]
      refine ⟨_, _, rfl, rfl, ⟨by omega, by omega, by decide⟩, _, _, rfl, rfl, ?_, _, _, rfl, rfl, ?_⟩
      · rw [Int.toNat_natCast]; exact smp (by omega)
      rw [Int.toNat_natCast, Int.toNat_natCast]
      refine Ss_one (S_set (i := 3) rfl ?_ nd)
      refine E_var 5 rfl ?_
      refine ⟨_, _, m, _, _, e2, m3, ?_, ?_, rfl⟩
      · rw [q1]
        exact total_step m1 m2 m3 hp v1.symm
      · rw [q2]
        exact total_step m1 m2 m3 hq v2.symm
    · rintro σ' H' ⟨p, q, k, z1, z2, e2, hk50, hp, hq, rfl⟩
      rw [hwl, List.take_of_length_le (Nat.le_refl _)] at hp hq
      refine Ss_one (S_ret (E_call (ok_llow T) (hr.mono (by decide)) (As_cons ?_)))
      refine E_var 1 rfl ?_
      refine As_cons ?_
      refine E_var 2 rfl ?_
      refine As_cons ?_
      refine E_var 3 rfl ?_
      refine As_nil ⟨p, q, k, rfl, fun r H3 e3 t3 => fin r H3 (e2.trans e3) ?_⟩
      obtain ⟨a1, _⟩ := lowL_at k 50 p q hk50
      rw [hp, hq] at a1
      have a2 := stLen_at (N := 50) hk
      rw [← a1.inj a2]
      exact t3
end
end BW

set_option Elab.async false
set_option linter.all false
set_option maxRecDepth 100000
set_option maxHeartbeats 4000000
namespace BW
open PySem PySem.Spec PyProof.Rows L2
/-! ### one drawn out of a list -/
theorem pop_not {α : Type} : ∀ {l : List α} {k : Nat} {x : α}, l.Nodup → l[k]? = some x → x ∉ l.eraseIdx k
  | [], _, _, _, h => by simp at h
  | a :: l, 0, x, hn, h => by
    simp at h
    subst h
    exact (List.nodup_cons.mp hn).1
  | a :: l, k + 1, x, hn, h => by
    have h1 := List.nodup_cons.mp hn
    have h2 : l[k]? = some x := by simpa using h
    intro hm
    rw [List.eraseIdx_cons_succ] at hm
    rcases List.mem_cons.mp hm with rfl | hm
    · exact h1.1 (List.mem_of_getElem? h2)
    · exact pop_not h1.2 h2 hm
theorem erase_mapV {α β : Type} (f : α → β) : ∀ (l : List α) (k : Nat), (l.map f).eraseIdx k = (l.eraseIdx k).map f
  | [], _ => rfl
  | _ :: _, 0 => rfl
  | a :: l, k + 1 => by
    rw [List.map_cons, List.eraseIdx_cons_succ, List.eraseIdx_cons_succ, List.map_cons, erase_mapV f l k]
theorem ExB.fresh {l p : Addr} {H H' : Hp} {o : HO} (e : ExB l H H') (h : H p = none) : ExB l H (L2.upd H' p o) := fun b ob n hb => by
  rw [upd_ne (ne_of_none hb h)]
  exact e b ob n hb
theorem ex_fresh {p : Addr} {H H' : Hp} {o : HO} (e : Ex H H') (h : H p = none) : Ex H (upd H' p o) := fun b ob hb => by
  rw [upd_ne (ne_of_none hb h)]
  exact e b ob hb
section
variable {P : Program} {w : World} {K : PySem.W.Frag} {mg : Str → Option Value} {base : Heap}
/-! ### a drawn gate -/
def DgA (K : PySem.W.Frag) (H : Hp) (v : V) (g : Gt) : Prop := ∃ p t, v = .ref p ∧ SqT K H p [.str g.kd.wd, .ref t] ∧ SqT K H t (wsV g.ws)
theorem DgA.fz {H H' : Hp} {v : V} {g : Gt} (h : DgA K H v g) (e : Fz H H') : DgA K H' v g := by
  obtain ⟨p, t, rfl, h1, h2⟩ := h
  exact ⟨p, t, rfl, SqT.fz h1 e, SqT.fz h2 e⟩
def wdV (ks : List Kd) : List V := ks.map fun k => V.str k.wd
def arKvs : List (Key × V) := [(.inr "cx", .int 2), (.inr "cz", .int 2), (.inr "swap", .int 2), (.inr "ccx", .int 3)]
theorem ar_get (k : Kd) : (valV (mergeK [] arKvs) (.inr k.wd)).getD (.int 1) = V.int (k.arity : Nat) := by cases k <;> decide +kernel
def spDrawn (K : PySem.W.Frag) : Sp := fun vs H Q _ => ∃ (l : Addr) (n : Nat), vs = [.ref l, .int (n : Nat)] ∧ Wd n ∧ Seed H l ∧ ∀ (r : V) (g : Gt) (H' : Hp), DgA K H' r g → g.Ok n → ExB l H H' → Seed H' l → Q r H'
theorem sc_ldrawn : FnScope ["_law_state_here", "_law_many", "_law_words", "_law_word", "_law_wires", "_law_found", "_law_k"] ["_law_state_here", "_law_many"] (defScope s_l_drawn_gate) := ⟨rfl, rfl, rfl, by decide +kernel, rfl, by decide +kernel, by decide +kernel⟩
theorem ok_ldrawn (T : Txt K mg) : Cal P w K mg base 2 "_law_drawn_gate" (spDrawn K) := by
  refine cal_ok T.d_l_drawn_gate T.g_l_drawn_gate sc_ldrawn (fun _ _ _ _ _ _ us hl => match us, hl with | [_, _], _ => rfl) (fun vs H Q E h => ?_) (fun cdv A outer s H vs Q E hr h => ?_)
  · obtain ⟨_, _, rfl, _⟩ := h
    rfl
  · obtain ⟨l, n, rfl, wd, hs, fin⟩ := h
    have nd := sc_ldrawn.nd
    have hn0 := wd.lo
    have hn5 := wd.hi
    have last : ∀ (H3 : Hp) (pw : Addr) (ks : List Kd), Ex H H3 → H pw = none → H3 pw = some (.lst (wdV ks)) → ks ≠ [] → ks.length < 100 → (∀ k ∈ ks, k.arity ≤ n) →
        Ss (cxB P w K mg base ["_law_state_here", "_law_many", "_law_words", "_law_word", "_law_wires", "_law_found", "_law_k"] "_law_drawn_gate" s_l_drawn_gate (He.ga K "_law_drawn_gate") cdv A outer s H E) ((defBody s_l_drawn_gate).drop 3) { nx := fun _ H' => Q .non H', rt := Q } [some (.ref l), some (.int (n : Nat)), some (.ref pw), none, none, none, none] H3 := by
      intro H3 pw ks e3 npw hpw hks hkl hka
      have npl : pw ≠ l := by
        rintro rfl
        obtain ⟨sd, _, h⟩ := hs
        rw [npw] at h
        cases h
      have hwl : (wdV ks).length = ks.length := by unfold wdV; rw [List.length_map]
      have hk0 : 0 < ks.length := List.length_pos_iff.mpr hks
      refine Ss_cons (S_set (i := 3) rfl (E_ixL ?_) nd)
      refine E_var 2 rfl ?_
      refine E_call (ok_lnext T) (hr.mono (by decide)) (As_cons ?_)
      refine E_var 0 rfl ?_
      refine As_cons (E_len T.b_len ?_)
      refine E_var 2 rfl ?_
      refine ⟨pw, _, rfl, .inl (SqL.of hpw), As_nil ⟨l, (wdV ks).length, rfl, by rw [hwl]; exact hk0, hs.ex e3, fun r H4 hr4 b4 s4 => ?_⟩⟩
      rw [hwl] at hr4
      obtain ⟨kd, hkd⟩ : ∃ kd, ks[r]? = some kd := ⟨_, List.getElem?_eq_getElem hr4⟩
      have hka' := hka kd (List.mem_of_getElem? hkd)
      refine ⟨pw, wdV ks, _, V.str kd.wd, rfl, rfl, SqL.of (b4 _ _ npl hpw), atI_nat (by unfold wdV; rw [List.getElem?_map, hkd]; rfl), ?_⟩
      have bH4 : ExB l H H4 := (ExB.of e3).trans b4
      refine Ss_cons (S_set (i := 4) rfl (E_listR rfl T.b_list T.b_range ?_) nd)
      refine E_var 1 rfl ?_
      refine ⟨n, rfl, by omega, fun pi H5 z5 e5 h5 => ?_⟩
      have h5 : H5 pi = some (.lst (natV (List.range n))) := h5
      refine Ss_cons (S_set (i := 5) rfl (E_lst (As_nil ⟨by show 0 ≤ sizeLine; decide, fun pf H6 z6 e6 h6 => ?_⟩)) nd)
      have bH6 : ExB l H H6 := (bH4.trans (ExB.of e5)).trans (ExB.of e6)
      have s6 := (s4.ex e5).ex e6
      have none_of : ∀ {p : Addr} {Hx : Hp}, ExB l H Hx → Hx p = none → p ≠ l → H p = none := by
        intro p Hx b h hne
        cases q : H p with
        | none => rfl
        | some o =>
          rw [b p o hne q] at h
          cases h
      have nil_ : pi ≠ l := by
        rintro rfl
        obtain ⟨sd, _, h⟩ := s4
        rw [z5] at h
        cases h
      have nfl : pf ≠ l := by
        rintro rfl
        obtain ⟨sd, _, h⟩ := s4.ex e5
        rw [z6] at h
        cases h
      have nif : pi ≠ pf := ne_of_none h5 z6
      have zi : H pi = none := none_of bH4 z5 nil_
      have zf : H pf = none := none_of (bH4.trans (ExB.of e5)) z6 nfl
      refine Ss_cons ?_
      refine S_forR PassesOwn.never rfl T.b_range (BW.E.of (pe_dget2 (by have := hr.units; omega) (pe_disp (pps_cons pe_str pe_int (pps_cons pe_str pe_int (pps_cons pe_str pe_int (pps_cons pe_str pe_int pps_nil)))) rfl rfl (by simp) (by decide)) BW.E.pe BW.E.pe ⟨rfl, rfl, rfl, rfl⟩) ?_)
      intro pd zd
      refine ⟨upd_same, arKvs, rfl, by decide, pd, rfl, .inl ⟨_, .inl upd_same⟩, ?_⟩
      have ed : Ex H6 (upd (upd H6 pd (.dK [])) pd (.dK (mergeK [] arKvs))) := by rw [upd_upd]; exact Evl.Ex.new zd
      generalize hH7 : upd (upd H6 pd (.dK [])) pd (.dK (mergeK [] arKvs)) = H7 at ed
      have hd7 : H7 pd = some (.dK (mergeK [] arKvs)) := by rw [← hH7]; exact upd_same
      refine E_var 3 rfl ?_
      refine E_int ?_
      refine ⟨_, DGet.k (k := .inr kd.wd) hd7, ?_⟩
      rw [ar_get]
      have ha3 : kd.arity ≤ 4 := by omega
      refine ⟨(kd.arity : Nat), fun i σ' H' => ∃ (fs ws : List Nat) (z : Option V), H' pi = some (.lst (natV ws)) ∧ H' pf = some (.lst (wsV fs)) ∧ Seed H' l ∧ ExB l H H' ∧ fs.length = i ∧ ws.length = n - i ∧ ws.Nodup ∧ fs.Nodup ∧ (∀ x ∈ ws, x < n ∧ x ∉ fs) ∧ (∀ x ∈ fs, x < n) ∧
        σ' = [some (.ref l), some (.int (n : Nat)), some (.ref pw), some (.str kd.wd), some (.ref pi), some (.ref pf), z], rfl, by omega, by omega, ⟨[], List.range n, none, ed _ _ (e6 _ _ h5), ed _ _ h6, s6.ex ed, bH6.trans (ExB.of ed), rfl, by rw [List.length_range]; rfl, List.nodup_range, List.nodup_nil, fun x hx => ⟨List.mem_range.mp hx, by simp⟩, (fun x hx => nomatch hx), rfl⟩, ?_, ?_⟩
      · rintro i σ' H' hi ⟨fs, ws, z, hpi, hpf, ss, bb, hfl, hwsl, hwn, hfn, hw, hf, rfl⟩
        have hi : i < kd.arity := by rw [Int.toNat_natCast] at hi; exact hi
        have hws0 : 0 < ws.length := by omega
        have hnl : (natV ws).length = ws.length := by unfold natV; rw [List.length_map]
        refine G_name (i := 6) rfl ?_ nd
        refine Ss_one (S_expr (E_append ?_))
        refine E_var 5 rfl ?_
        refine ⟨pf, _, rfl, hpf, E_popAt ?_⟩
        refine E_var 4 rfl ?_
        refine ⟨pi, _, rfl, hpi, E_call (ok_lnext T) (hr.mono (by decide)) (As_cons ?_)⟩
        refine E_var 0 rfl ?_
        refine As_cons (E_len T.b_len ?_)
        refine E_var 4 rfl ?_
        refine ⟨pi, _, rfl, .inl (SqL.of hpi), As_nil ⟨l, (natV ws).length, rfl, by rw [hnl]; exact hws0, ss, fun r2 H8 hr8 b8 s8 => ?_⟩⟩
        rw [hnl] at hr8
        obtain ⟨x, hx⟩ : ∃ x, ws[r2]? = some x := ⟨_, List.getElem?_eq_getElem hr8⟩
        have hxm := List.mem_of_getElem? hx
        refine ⟨natV ws, r2, V.int (x : Nat), rfl, b8 _ _ nil_ hpi, by unfold natV; rw [List.getElem?_map, hx]; rfl, by omega, ?_⟩
        have hpf9 : (upd H8 pi (.lst ((natV ws).eraseIdx r2))) pf = some (.lst (wsV fs)) := by
          rw [upd_ne (Ne.symm nif)]
          exact b8 _ _ nfl hpf
        refine ⟨wsV fs, hpf9, ?_, ?_⟩
        · unfold wsV
          rw [List.length_map]
          exact Nat.lt_of_le_of_lt (show fs.length ≤ 10 by omega) (by decide)
        have her : (natV ws).eraseIdx r2 = natV (ws.eraseIdx r2) := by unfold natV; exact erase_mapV _ ws r2
        have hel : (ws.eraseIdx r2).length = ws.length - 1 := List.length_eraseIdx_of_lt hr8
        have hsub := List.eraseIdx_sublist ws r2
        refine ⟨fs ++ [x], ws.eraseIdx r2, _, ?_, ?_, ?_, ?_, by rw [List.length_append, hfl]; rfl, by rw [hel]; omega, hwn.sublist hsub, ?_, ?_, ?_, rfl⟩
        · rw [upd_ne nif, upd_same, her]
        · rw [upd_same]
          unfold wsV
          rw [List.map_append]
          rfl
        · obtain ⟨sd, q1, q2⟩ := s8
          exact ⟨sd, q1, by rw [upd_ne (Ne.symm nfl), upd_ne (Ne.symm nil_)]; exact q2⟩
        · exact ((bb.trans b8).fresh zi).fresh zf
        · rw [List.nodup_append]
          refine ⟨hfn, by simp, fun a ha b hb => ?_⟩
          rw [List.mem_singleton.mp hb]
          rintro rfl
          exact (hw _ hxm).2 ha
        · intro y hy
          have hyw := hsub.subset hy
          refine ⟨(hw y hyw).1, fun hm => ?_⟩
          rcases List.mem_append.mp hm with hm | hm
          · exact (hw y hyw).2 hm
          · rw [List.mem_singleton.mp hm] at hy
            exact pop_not hwn hx hy
        · intro y hy
          rcases List.mem_append.mp hy with hy | hy
          · exact hf y hy
          · rw [List.mem_singleton.mp hy]
            exact (hw x hxm).1
      · rintro σ' H' ⟨fs, ws, z, hpi, hpf, ss, bb, hfl, hwsl, hwn, hfn, hw, hf, rfl⟩
        rw [Int.toNat_natCast] at hfl
        refine Ss_one (S_ret (E_tup (As_cons ?_)))
        refine E_var 3 rfl ?_
        refine As_cons (E_tuple T.b_tuple ?_)
        refine E_var 5 rfl ?_
        refine ⟨pf, wsV fs, rfl, SqL.of hpf, fun t H9 z9 e9 ht => As_nil ⟨by show 2 ≤ sizeLine; decide, fun p10 H10 z10 e10 h10 => ?_⟩⟩
        refine fin _ ⟨kd, fs⟩ _ ⟨p10, t, rfl, SqT.of h10, (ht.fz (Fz.of e10)).t⟩ ⟨hfl, hfn, hf⟩ (bb.trans (ExB.of (e9.trans e10))) ((ss.ex e9).ex e10)
    have mid : ∀ (H3 : Hp) (pw : Addr) (ks : List Kd), Ex H H3 → H pw = none → H3 pw = some (.lst (wdV ks)) → ks ≠ [] → ks.length < 50 → (∀ k ∈ ks, k.arity ≤ n) →
        Ss (cxB P w K mg base ["_law_state_here", "_law_many", "_law_words", "_law_word", "_law_wires", "_law_found", "_law_k"] "_law_drawn_gate" s_l_drawn_gate (He.ga K "_law_drawn_gate") cdv A outer s H E) ((defBody s_l_drawn_gate).drop 2) { nx := fun _ H' => Q .non H', rt := Q } [some (.ref l), some (.int (n : Nat)), some (.ref pw), none, none, none, none] H3 := by
      intro H3 pw ks e3 npw hpw hks hkl hka
      refine Ss_cons ?_
      apply S_ifB
      · apply TB_gt
        refine E_var 1 rfl ?_
        refine E_int ?_
        exact ⟨_, _, rfl, rfl, rfl, rfl⟩
      · intro hc
        have hc := of_decide_eq_true hc
        refine Ss_one (S_set (i := 2) rfl (E_catL ?_) nd)
        refine E_var 2 rfl ?_
        refine E_lst ?_
        refine As_cons ?_
        refine E_str ?_
        refine As_cons ?_
        refine E_str ?_
        refine As_nil ?_
        refine ⟨by show 2 ≤ sizeLine; decide, fun p5 H5 z5 e5 h5 => ?_⟩
        refine ⟨pw, p5, _, _, rfl, rfl, e5 _ _ hpw, h5, ?_, fun p6 H6 z6 e6 h6 => ?_⟩
        · unfold wdV
          rw [List.length_map]
          exact Nat.le_trans (show ks.length + 2 ≤ 100 by omega) (by decide)
        have ec : wdV ks ++ [V.str "ccx", .str "ccx"] = wdV (ks ++ [.ccx, .ccx]) := by unfold wdV; rw [List.map_append]; rfl
        rw [ec] at h6
        refine last H6 p6 _ (e3.trans (e5.trans e6)) ?_ h6 (by simp) (by rw [List.length_append]; simp; omega) fun k hk => ?_
        · cases q : H p6 with
          | none => rfl
          | some o => rw [e5 _ _ (e3 _ _ q)] at z6; cases z6
        · rcases List.mem_append.mp hk with hk | hk
          · exact hka k hk
          · simp at hk
            subst hk
            show 3 ≤ n
            omega
      · intro _
        exact Ss_nil (last H3 pw ks e3 npw hpw hks (by omega) hka)
    refine Ss_cons ?_
    refine S_set (i := 2) rfl ?_ nd
    refine E_lst ?_
    refine As_cons ?_
    refine E_str ?_
    refine As_cons ?_
    refine E_str ?_
    refine As_cons ?_
    refine E_str ?_
    refine As_cons ?_
    refine E_str ?_
    refine As_cons ?_
    refine E_str ?_
    refine As_cons ?_
    refine E_str ?_
    refine As_cons ?_
    refine E_str ?_
    refine As_cons ?_
    refine E_str ?_
    refine As_cons ?_
    refine E_str ?_
    refine As_cons ?_
    refine E_str ?_
    refine As_nil ?_
    refine ⟨by show 10 ≤ sizeLine; decide, fun p1 H1 z1 e1 h1 => ?_⟩
    have h1 : H1 p1 = some (.lst (wdV [.x, .y, .z, .h, .s, .r, .t, .u, .h, .t])) := h1
    have hk1 : ∀ k ∈ [Kd.x, .y, .z, .h, .s, .r, .t, .u, .h, .t], k.arity ≤ n := by
      intro k hk
      have : k.arity = 1 := by
        simp at hk
        rcases hk with rfl | rfl | rfl | rfl | rfl | rfl | rfl | rfl | rfl | rfl <;> rfl
      omega
    refine Ss_cons ?_
    apply S_ifB
    · apply TB_gt
      refine E_var 1 rfl ?_
      refine E_int ?_
      exact ⟨_, _, rfl, rfl, rfl, rfl⟩
    · intro hc
      have hc := of_decide_eq_true hc
      refine Ss_one (S_set (i := 2) rfl (E_catL ?_) nd)
      refine E_var 2 rfl ?_
      refine E_lst ?_
      refine As_cons ?_
      refine E_str ?_
      refine As_cons ?_
      refine E_str ?_
      refine As_cons ?_
      refine E_str ?_
      refine As_cons ?_
      refine E_str ?_
      refine As_cons ?_
      refine E_str ?_
      refine As_nil ?_
      refine ⟨by show 5 ≤ sizeLine; decide, fun p5 H5 z5 e5 h5 => ?_⟩
      refine ⟨p1, p5, _, _, rfl, rfl, e5 _ _ h1, h5, by show 15 ≤ sizeLine; decide, fun p6 H6 z6 e6 h6 => ?_⟩
      have ec : wdV [.x, .y, .z, .h, .s, .r, .t, .u, .h, .t] ++ [V.str "cx", .str "cz", .str "swap", .str "cx", .str "cz"] = wdV ([.x, .y, .z, .h, .s, .r, .t, .u, .h, .t] ++ [.cx, .cz, .swap, .cx, .cz]) := rfl
      rw [ec] at h6
      refine mid H6 p6 _ (e1.trans (e5.trans e6)) ?_ h6 (by simp) (by decide) fun k hk => ?_
      · cases q : H p6 with
        | none => rfl
        | some o => rw [e5 _ _ (e1 _ _ q)] at z6; cases z6
      · rcases List.mem_append.mp hk with hk | hk
        · exact hk1 k hk
        · have : k.arity = 2 := by
            simp at hk
            rcases hk with rfl | rfl | rfl | rfl | rfl <;> rfl
          omega
    · intro _
      exact Ss_nil (mid H1 p1 _ e1 z1 h1 (by simp) (by decide) hk1)
end
end BW

set_option Elab.async false
set_option linter.all false
set_option maxRecDepth 100000
set_option maxHeartbeats 4000000
namespace BW
open PySem PySem.Spec PyProof.Rows L2
/-! ### rows, one more -/
theorem reads_app (a b : List Rw) : reads (a ++ b) = reads a + reads b := by unfold reads; rw [List.map_append, List.sum_append]
theorem rows_app {n : Nat} : ∀ {rs : List Rw} {m : Nat} {r : Rw}, RowsOk n m rs → r.Ok n (m + reads rs) → RowsOk n m (rs ++ [r])
  | [], m, r, _, h => ⟨h, trivial⟩
  | x :: rs, m, r, ⟨h1, h2⟩, h => ⟨h1, rows_app h2 (by
      rw [reads_cons_] at h
      rwa [Nat.add_assoc])⟩
where
  reads_cons_ {x : Rw} {rs : List Rw} : reads (x :: rs) = x.reads + reads rs := by unfold reads; simp
section
variable {K : PySem.W.Frag} {H : Hp}
/-! ### a list beside []: != -/
theorem dpS : ∀ ys : List Str, DpAll K H (ys.map V.str) (ys.map PyData.str)
  | [] => .nil
  | y :: ys => .cons (.str y) (dpS ys)
theorem layS : ∀ ys : List Str, (∀ y ∈ ys, PyData.strOk y = true) → PyData.canLayAll0 (ys.map PyData.str) = true ∧ PyData.depthAll (ys.map PyData.str) ≤ 1
  | [], _ => by simp [PyData.canLayAll0, PyData.depthAll]
  | n :: ns, h => by
    obtain ⟨h1, h2⟩ := layS ns fun y hy => h y (by simp [hy])
    rw [List.map_cons, PyData.canLayAll0, PyData.depthAll, h1]
    exact ⟨by simp [PyData.canLay0, h n (by simp)], by simp [PyData.depth]; omega⟩
theorem shS (ys : List Str) (h : ∀ y ∈ ys, PyData.strOk y = true) : SeqAt.shaped (.list (ys.map PyData.str)) = true := by
  obtain ⟨h1, h2⟩ := layS ys h
  unfold SeqAt.shaped
  rw [PyData.canLay0, h1, PyData.depth]
  simp
  omega
theorem eqvNil (ds : List PyData) : PyData.eqv (.list ds) (.list []) = decide (ds = []) := by
  cases ds with
  | nil => rw [PyData.eqv]; simp [PyData.eqvAll]
  | cons d ds => rw [PyData.eqv]; simp [PyData.eqvAll]
theorem shNil : SeqAt.shaped (.list []) = true := shS [] fun _ h => nomatch h
theorem names_str : ∀ y ∈ bnames, PyData.strOk y = true := by
  have h : (bnames.all fun y => PyData.strOk y) = true := by decide +kernel
  exact List.all_eq_true.mp h
/-! ### the law's rows -/
def LrA (K : PySem.W.Frag) (H : Hp) (v : V) : Rw → Prop
  | .gate g => ∃ p q, v = .ref p ∧ SqT K H p [.str "gate", q] ∧ DgA K H q g
  | .read wi j => ∃ p, v = .ref p ∧ SqT K H p [.str "read", .int (wi : Nat), .str (bn j)]
  | .ask j b g => ∃ p q, v = .ref p ∧ SqT K H p [.str "if", .str (bn j), .int (b.toNat : Nat), q] ∧ DgA K H q g
theorem LrA.fz {H H' : Hp} {v : V} {r : Rw} (h : LrA K H v r) (e : Fz H H') : LrA K H' v r := by
  cases r with
  | gate g =>
    obtain ⟨p, q, rfl, h1, h2⟩ := h
    exact ⟨p, q, rfl, SqT.fz h1 e, h2.fz e⟩
  | read wi j =>
    obtain ⟨p, rfl, h1⟩ := h
    exact ⟨p, rfl, SqT.fz h1 e⟩
  | ask j b g =>
    obtain ⟨p, q, rfl, h1, h2⟩ := h
    exact ⟨p, q, rfl, SqT.fz h1 e, h2.fz e⟩
theorem lrs_fz {H H' : Hp} {vs : List V} {rs : List Rw} (h : All2 (LrA K H) vs rs) (e : Fz H H') : All2 (LrA K H') vs rs := h.mp fun _ _ t => t.fz e
end
section
variable {P : Program} {w : World} {K : PySem.W.Frag} {mg : Str → Option Value} {base : Heap}
theorem bnV_at : ∀ m, m < 5 → ([V.str "m", .str "n", .str "abcdefgh", .str "read", .str "if"] : List V)[m]? = some (V.str (bn m)) := by decide +kernel
theorem nmV_get : ∀ m, m < 6 → ∀ j, j < m → (nmV m)[j]? = some (V.str (bn j)) := by decide +kernel
theorem nmV_lenE : ∀ m, m < 6 → (nmV m).length = m := by decide +kernel
def spLRows (K : PySem.W.Frag) : Sp := fun vs H Q _ => ∃ (ls : Addr) (n : Nat) (ns : List Int), vs = [.ref ls, .int 2, .int (n : Nat), .int 58] ∧ Wd n ∧ SqL K H ls (ns.map V.int) ∧ ns.length < 2 ^ 60 ∧
  ∀ (lr : Addr) (H' : Hp) (vs' : List V) (rows : List Rw), Ex H H' → H' lr = some (.lst vs') → All2 (LrA K H') vs' rows → RowsOk n 0 rows → rows.length ≤ 58 → Q (.ref lr) H'
theorem sc_lrows : FnScope ["_law_script", "_law_first", "_law_many", "_law_most", "_law_rows_here", "_law_bits", "_law_k", "_law_state_here", "_law_way", "_law_gate"] ["_law_script", "_law_first", "_law_many", "_law_most"] (defScope s_l_rows) := ⟨rfl, rfl, rfl, by decide +kernel, rfl, by decide +kernel, by decide +kernel⟩
theorem ok_lrows (T : Txt K mg) : Cal P w K mg base 3 "_law_rows" (spLRows K) := by
  refine cal_ok T.d_l_rows T.g_l_rows sc_lrows (fun _ _ _ _ _ _ us hl => match us, hl with | [_, _, _, _], _ => rfl) (fun vs H Q E h => ?_) (fun cdv A outer s H vs Q E hr h => ?_)
  · obtain ⟨_, _, _, rfl, _⟩ := h
    rfl
  · obtain ⟨ls, n, ns, rfl, wd, hls, hnl, fin⟩ := h
    have nd := sc_lrows.nd
    refine Ss_cons (S_set (i := 4) rfl (E_lst (As_nil ⟨by show 0 ≤ sizeLine; decide, fun pr H1 z1 e1 h1 => ?_⟩)) nd)
    refine Ss_cons (S_set (i := 5) rfl (E_lst (As_nil ⟨by show 0 ≤ sizeLine; decide, fun pb H2 z2 e2 h2 => ?_⟩)) nd)
    have e12 := e1.trans e2
    have npb : pr ≠ pb := ne_of_none h1 z2
    have zb : H pb = none := by
      cases q : H pb with
      | none => rfl
      | some o => rw [e1 _ _ q] at z2; cases z2
    refine Ss_cons ?_
    refine S_forR2 PassesOwn.never rfl T.b_range ?_
    refine E_var 1 rfl ?_
    refine E_min2 rfl T.b_min (E_len T.b_len ?_)
    refine E_var 0 rfl ?_
    refine ⟨ls, _, rfl, .inl (SqL.ex hls e12), ?_⟩
    refine E_add ?_
    refine E_var 1 rfl ?_
    refine E_var 3 rfl ?_
    refine ⟨_, _, rfl, rfl, ?_⟩
    refine ⟨_, _, rfl, rfl, ?_⟩
    have hml : (ns.map V.int).length = ns.length := List.length_map ..
    rw [hml]
    generalize hhi : (if ((2 : Int) + 58) < ((ns.length : Nat) : Int) then (2 : Int) + 58 else ((ns.length : Nat) : Int)) = hi
    have hi60 : hi ≤ 60 := by rw [← hhi]; split <;> omega
    have hi0 : 0 ≤ hi := by rw [← hhi]; split <;> omega
    have hil : hi ≤ (ns.length : Nat) := by rw [← hhi]; split <;> omega
    refine ⟨2, (hi - 2).toNat, hi, fun i σ' H' => ∃ (vs' : List V) (rows : List Rw) (z6 z7 z8 z9 : Option V), Ex H H' ∧ H' pr = some (.lst vs') ∧ All2 (LrA K H') vs' rows ∧ H' pb = some (.lst (nmV (reads rows))) ∧ RowsOk n 0 rows ∧ rows.length = i ∧
      σ' = [some (.ref ls), some (.int 2), some (.int (n : Nat)), some (.int 58), some (.ref pr), some (.ref pb), z6, z7, z8, z9], rfl, rfl, by decide, by omega, by omega, rfl, ⟨[], [], none, none, none, none, e12, e2 _ _ h1, .nil, h2, trivial, rfl, rfl⟩, ?_, ?_⟩
    · rintro i σ' H' hi' ⟨vs', rows, z6, z7, z8, z9, eH, hpr, hall, hpb, hok, hlen, rfl⟩
      have hb5 : reads rows ≤ 5 := by have := rows_five hok (by omega); omega
      have hvl : vs'.length = rows.length := hall.len
      refine G_name (i := 6) rfl ?_ nd
      refine Ss_cons (S_set (i := 7) rfl (E_call (ok_lstate T) (hr.mono (by decide)) (As_cons (E_ixL ?_))) nd)
      refine E_var 0 rfl ?_
      refine E_var 6 rfl ?_
      have hk : 2 + i < ns.length := by omega
      refine ⟨ls, _, _, V.int ns[2 + i], rfl, rfl, SqL.ex hls eH, atI_nat (by rw [List.getElem?_map, List.getElem?_eq_getElem hk]; rfl), As_cons ?_⟩
      refine E_var 6 rfl ?_
      refine As_nil ⟨_, 2 + i, rfl, by omega, fun l0 H3 z3 e3 s3 => ?_⟩
      have nrl : pr ≠ l0 := ne_of_none hpr z3
      have nbl : pb ≠ l0 := ne_of_none hpb z3
      refine Ss_cons (S_set (i := 8) rfl (E_call (ok_lnext T) (hr.mono (by decide)) (As_cons ?_)) nd)
      refine E_var 7 rfl ?_
      refine As_cons ?_
      refine E_int ?_
      refine As_nil ⟨l0, 9, rfl, by decide, s3, fun way H4 hway b4 s4 => ?_⟩
      refine Ss_cons (S_set (i := 9) rfl (E_call (ok_ldrawn T) (hr.mono (by decide)) (As_cons ?_)) nd)
      refine E_var 7 rfl ?_
      refine As_cons ?_
      refine E_var 2 rfl ?_
      refine As_nil ⟨l0, n, rfl, wd, s4, fun dg g H5 hdg hgo b5 s5 => ?_⟩
      have b35 := b4.trans b5
      have xH' : ∀ {Hx : Hp}, ExB l0 H3 Hx → Ex H' Hx := fun b => ExB.new e3 z3 b
      have x5 : Ex H' H5 := xH' b35
      refine Ss_one (S_if (T_w (W_and (T_ceq ?_))))
      refine E_var 8 rfl ?_
      refine E_int ?_
      refine ⟨_, _, rfl, rfl, ?_⟩
      have hpb5 := x5 _ _ hpb
      have hpr5 := x5 _ _ hpr
      have sz : vs'.length < sizeLine := by
        rw [hvl, hlen]
        exact Nat.lt_of_le_of_lt (show i ≤ 60 by omega) (by decide)
      have other : ∀ (D : Ends), (∀ σ' H'', (∃ (vs' : List V) (rows : List Rw) (z6 z7 z8 z9 : Option V), Ex H H'' ∧ H'' pr = some (.lst vs') ∧ All2 (LrA K H'') vs' rows ∧ H'' pb = some (.lst (nmV (reads rows))) ∧ RowsOk n 0 rows ∧ rows.length = i + 1 ∧
          σ' = [some (.ref ls), some (.int 2), some (.int (n : Nat)), some (.int 58), some (.ref pr), some (.ref pb), z6, z7, z8, z9]) → D.nx σ' H'') →
          Ss (cxB P w K mg base ["_law_script", "_law_first", "_law_many", "_law_most", "_law_rows_here", "_law_bits", "_law_k", "_law_state_here", "_law_way", "_law_gate"] "_law_rows" s_l_rows (He.ga K "_law_rows") cdv A outer s H E)
            ((fun st : Stmt => match st with | .If _ _ els _ => els | _ => []) (((fun st : Stmt => match st with | .For _ _ body _ _ => body | _ => []) ((defBody s_l_rows).getD 2 (.Pass ⟨0, 0, 0, 0⟩))).getD 3 (.Pass ⟨0, 0, 0, 0⟩))) D
            [some (.ref ls), some (.int 2), some (.int (n : Nat)), some (.int 58), some (.ref pr), some (.ref pb), some (.int ((2 + i : Nat) : Int)), some (.ref l0), some (.int (way : Nat)), some dg] H5 := by
        intro D hD
        have gate : ∀ Hx, Ex H5 Hx → Ss (cxB P w K mg base ["_law_script", "_law_first", "_law_many", "_law_most", "_law_rows_here", "_law_bits", "_law_k", "_law_state_here", "_law_way", "_law_gate"] "_law_rows" s_l_rows (He.ga K "_law_rows") cdv A outer s H E)
            ((fun st : Stmt => match st with | .If _ _ els _ => els | _ => []) (((fun st : Stmt => match st with | .If _ _ els _ => els | _ => []) (((fun st : Stmt => match st with | .For _ _ body _ _ => body | _ => []) ((defBody s_l_rows).getD 2 (.Pass ⟨0, 0, 0, 0⟩))).getD 3 (.Pass ⟨0, 0, 0, 0⟩))).getD 0 (.Pass ⟨0, 0, 0, 0⟩))) D
            [some (.ref ls), some (.int 2), some (.int (n : Nat)), some (.int 58), some (.ref pr), some (.ref pb), some (.int ((2 + i : Nat) : Int)), some (.ref l0), some (.int (way : Nat)), some dg] Hx := by
          intro Hx ex5
          refine Ss_one (S_expr (E_append ?_))
          refine E_var 4 rfl ?_
          have hprx := ex5 _ _ hpr5
          refine ⟨pr, _, rfl, hprx, ?_⟩
          refine E_tup ?_
          refine As_cons ?_
          refine E_str ?_
          refine As_cons ?_
          refine E_var 9 rfl ?_
          refine As_nil ?_
          refine ⟨by show 2 ≤ sizeLine; decide, fun p8 H8 z8 e8 h8 => ?_⟩
          have hpr8 := e8 _ _ hprx
          refine ⟨vs', hpr8, sz, ?_⟩
          have fzu : Fz H8 (upd H8 pr (.lst (vs' ++ [.ref p8]))) := Fz.upd hpr8
          refine hD _ _ ⟨_, rows ++ [.gate g], _, _, _, _, ex_fresh (eH.trans (x5.trans (ex5.trans e8))) z1, upd_same, ?_, ?_, rows_app (r := .gate g) hok hgo, by rw [List.length_append, hlen]; rfl, rfl⟩
          · exact (lrs_fz hall ((Fz.of (x5.trans (ex5.trans e8))).trans fzu)).snoc ⟨p8, dg, rfl, SqT.fz (SqT.of h8) fzu, hdg.fz ((Fz.of (ex5.trans e8)).trans fzu)⟩
          · rw [upd_ne (Ne.symm npb), reads_app]
            exact e8 _ _ (ex5 _ _ hpb5)
        refine Ss_one (S_if (T_w (W_and (T_clt ?_))))
        refine E_var 8 rfl ?_
        refine E_int ?_
        refine ⟨_, _, rfl, rfl, ?_⟩
        by_cases hw3 : ((way : Nat) : Int) < 3
        · rw [decide_eq_true hw3]
          refine iteT (W_and1 (T_cmp (op_neD hr.units) ?_))
          refine E_var 5 rfl ?_
          refine E_lst ?_
          refine As_nil ?_
          refine ⟨by show 0 ≤ sizeLine; decide, fun p8 H8 z8 e8 h8 => ?_⟩
          have hpb8 := e8 _ _ hpb5
          refine ⟨.list ((bnames.take (reads rows)).map PyData.str), .list [], .lst (SqL.of hpb8) (dpS _), .lst (SqL.of h8) .nil, shS _ (fun y hy => names_str y (List.mem_of_mem_take hy)), shNil, _, rfl, ?_⟩
          rw [eqvNil]
          by_cases h0 : reads rows = 0
          · have ed : (!decide ((bnames.take (reads rows)).map PyData.str = [])) = false := by rw [h0]; decide
            rw [ed]
            exact iteF (gate H8 e8)
          · have hm0 : 0 < reads rows := Nat.pos_of_ne_zero h0
            have ed : (!decide ((bnames.take (reads rows)).map PyData.str = [])) = true := by
              have : (bnames.take (reads rows)).map PyData.str ≠ [] := by
                intro z
                have z1 := congrArg List.length z
                rw [List.length_map, List.length_take] at z1
                have : bnames.length = 5 := rfl
                rw [this] at z1
                simp at z1
                omega
              rw [decide_eq_false this]
              rfl
            rw [ed]
            refine iteT (Ss_one (S_expr (E_append ?_)))
            refine E_var 4 rfl ?_
            have hpr8 := e8 _ _ hpr5
            refine ⟨pr, _, rfl, hpr8, E_tup (As_cons (E_str (As_cons (E_ixL ?_))))⟩
            refine E_var 5 rfl ?_
            refine E_call (ok_lnext T) (hr.mono (by decide)) (As_cons ?_)
            refine E_var 7 rfl ?_
            refine As_cons (E_len T.b_len ?_)
            refine E_var 5 rfl ?_
            refine ⟨pb, _, rfl, .inl (SqL.of hpb8), As_nil ⟨l0, (nmV (reads rows)).length, rfl, by rw [nmV_lenE _ (by omega)]; exact hm0, s5.ex e8, fun j H9 hj9 b9 s9 => ?_⟩⟩
            rw [nmV_lenE _ (by omega)] at hj9
            have hpb9 := b9 _ _ nbl hpb8
            refine ⟨pb, _, _, V.str (bn j), rfl, rfl, SqL.of hpb9, atI_nat (nmV_get _ (by omega) j hj9), As_cons (E_call (ok_lnext T) (hr.mono (by decide)) (As_cons ?_))⟩
            refine E_var 7 rfl ?_
            refine As_cons ?_
            refine E_int ?_
            refine As_nil ⟨l0, 2, rfl, by decide, s9, fun bv H10 hbv b10 s10 => As_cons ?_⟩
            refine E_var 9 rfl ?_
            refine As_nil ⟨by show 4 ≤ sizeLine; decide, fun p11 H11 z11 e11 h11 => ?_⟩
            have b311 : ExB l0 H3 H11 := (((b35.trans (ExB.of e8)).trans b9).trans b10).trans (ExB.of e11)
            have x11 := xH' b311
            refine ⟨vs', x11 _ _ hpr, sz, ?_⟩
            have fzu : Fz H11 (upd H11 pr (.lst (vs' ++ [.ref p11]))) := Fz.upd (x11 _ _ hpr)
            obtain ⟨b, rfl⟩ : ∃ b : Bool, bv = b.toNat := by
              have : bv = 0 ∨ bv = 1 := by omega
              rcases this with rfl | rfl
              · exact ⟨false, rfl⟩
              · exact ⟨true, rfl⟩
            refine hD _ _ ⟨_, rows ++ [.ask j b g], _, _, _, _, ex_fresh (eH.trans x11) z1, upd_same, ?_, ?_, rows_app (r := .ask j b g) hok ⟨by omega, hgo⟩, by rw [List.length_append, hlen]; rfl, rfl⟩
            · refine (lrs_fz hall ((Fz.of x11).trans fzu)).snoc ⟨p11, dg, rfl, SqT.fz (SqT.of h11) fzu, ?_⟩
              exact hdg.fz ((((Fz.of e8).trans ((s5.ex e8).fz b9)).trans (s9.fz b10)).trans ((Fz.of e11).trans fzu))
            · rw [upd_ne (Ne.symm npb), reads_app]
              exact x11 _ _ hpb
        · rw [decide_eq_false hw3]
          exact iteF (iteF (gate H5 (Evl.Ex.refl _)))
      by_cases hw0 : ((way : Nat) : Int) = 0
      · rw [decide_eq_true hw0]
        refine iteT (W_and1 (T_clt (E_len T.b_len ?_)))
        refine E_var 5 rfl ?_
        refine ⟨pb, _, rfl, .inl (SqL.of hpb5), ?_⟩
        refine E_int ?_
        refine ⟨_, _, rfl, rfl, ?_⟩
        rw [nmV_lenE _ (by omega)]
        by_cases hm5 : reads rows < 5
        · have ed : decide (((reads rows : Nat) : Int) < 5) = true := decide_eq_true (by omega)
          rw [ed]
          refine iteT (Ss_cons (S_expr (E_append ?_)))
          refine E_var 5 rfl ?_
          refine ⟨pb, _, rfl, hpb5, E_ixL ?_⟩
          refine E_lst ?_
          refine As_cons ?_
          refine E_str ?_
          refine As_cons ?_
          refine E_str ?_
          refine As_cons ?_
          refine E_str ?_
          refine As_cons ?_
          refine E_str ?_
          refine As_cons ?_
          refine E_str ?_
          refine As_nil ?_
          refine ⟨by show 5 ≤ sizeLine; decide, fun p6 H6 z6 e6 h6 => ?_⟩
          refine E_len T.b_len ?_
          refine E_var 5 rfl ?_
          have hpb6 := e6 _ _ hpb5
          refine ⟨pb, _, rfl, .inl (SqL.of hpb6), ?_⟩
          rw [nmV_lenE _ (by omega)]
          refine ⟨p6, _, _, V.str (bn (reads rows)), rfl, rfl, SqL.of h6, atI_nat (bnV_at _ hm5), _, hpb6, Nat.lt_of_le_of_lt (nmV_len _) (by decide), ?_⟩
          rw [← nmV_snoc _ hm5]
          generalize hH7 : upd H6 pb (.lst (nmV (reads rows + 1))) = H7
          have hpb7 : H7 pb = some (.lst (nmV (reads rows + 1))) := by rw [← hH7]; exact upd_same
          have hpr7 : H7 pr = some (.lst vs') := by rw [← hH7, upd_ne npb]; exact e6 _ _ hpr5
          have s7 : Seed H7 l0 := by
            obtain ⟨sd, q1, q2⟩ := s5.ex e6
            exact ⟨sd, q1, by rw [← hH7, upd_ne (Ne.symm nbl)]; exact q2⟩
          have fz7 : Fz H6 H7 := by rw [← hH7]; exact Fz.upd hpb6
          have x7 : Ex H H7 := by rw [← hH7]; exact ex_fresh (eH.trans (x5.trans e6)) zb
          refine Ss_one (S_expr (E_append ?_))
          refine E_var 4 rfl ?_
          refine ⟨pr, _, rfl, hpr7, E_tup (As_cons (E_str (As_cons (E_call (ok_lnext T) (hr.mono (by decide)) (As_cons ?_)))))⟩
          refine E_var 7 rfl ?_
          refine As_cons ?_
          refine E_var 2 rfl ?_
          have hn0 := wd.lo
          refine As_nil ⟨l0, n, rfl, hn0, s7, fun wi H8 hwi b8 s8 => As_cons (E_ixL ?_)⟩
          have hpb8 := b8 _ _ nbl hpb7
          have hpr8 := b8 _ _ nrl hpr7
          refine E_var 5 rfl ?_
          refine E_neg ?_
          refine E_int ?_
          refine ⟨_, rfl, ?_⟩
          have hlast : atI (nmV (reads rows + 1)) (-1) = some (V.str (bn (reads rows))) := by rw [nmV_snoc _ hm5]; exact atI_last _ _
          refine ⟨pb, _, _, _, rfl, rfl, SqL.of hpb8, hlast, As_nil ⟨by show 3 ≤ sizeLine; decide, fun p9 H9 z9 e9 h9 => ?_⟩⟩
          have hpr9 := e9 _ _ hpr8
          refine ⟨vs', hpr9, sz, ?_⟩
          have fzu : Fz H9 (upd H9 pr (.lst (vs' ++ [.ref p9]))) := Fz.upd hpr9
          have nlH : H l0 = none := by
            cases q : H l0 with
            | none => rfl
            | some o => rw [eH _ _ q] at z3; cases z3
          have x9 : Ex H H9 := fun b ob hb => e9 _ _ (b8 _ _ (ne_of_none hb nlH) (x7 _ _ hb))
          refine ⟨_, rows ++ [.read wi (reads rows)], _, _, _, _, ex_fresh x9 z1, upd_same, ?_, ?_, rows_app (r := .read wi (reads rows)) hok ⟨hwi, by omega, by omega⟩, by rw [List.length_append, hlen]; rfl, rfl⟩
          · exact (lrs_fz hall ((Fz.of (x5.trans e6)).trans (fz7.trans ((s7.fz b8).trans ((Fz.of e9).trans fzu))))).snoc ⟨p9, rfl, SqT.fz (SqT.of h9) fzu⟩
          · rw [upd_ne (Ne.symm npb), reads_app]
            exact e9 _ _ hpb8
        · have ed : decide (((reads rows : Nat) : Int) < 5) = false := decide_eq_false (by omega)
          rw [ed]
          exact iteF (other _ fun _ _ h => h)
      · rw [decide_eq_false hw0]
        exact iteF (iteF (other _ fun _ _ h => h))
    · rintro σ' H' ⟨vs', rows, z6, z7, z8, z9, eH, hpr, hall, hpb, hok, hlen, rfl⟩
      refine Ss_one (S_ret ?_)
      refine E_var 4 rfl ?_
      exact fin pr H' vs' rows eH hpr hall hok (by omega)
end
end BW

set_option Elab.async false
set_option linter.all false
set_option maxRecDepth 100000
set_option maxHeartbeats 4000000
namespace BW
open PySem PySem.Spec PyProof.Rows L2
/-! ### sizes -/
theorem sum_le {l : List Int} {B : Int} (h : ∀ x ∈ l, x ≤ B) : l.sum ≤ l.length * B := by
  induction l with
  | nil => simp
  | cons x l ih =>
    have h1 := h x (by simp)
    have h2 := ih fun y hy => h y (by simp [hy])
    rw [List.sum_cons, List.length_cons]
    have e : ((l.length + 1 : Nat) : Int) * B = l.length * B + B := by rw [Int.natCast_add, Int.add_mul]; simp
    rw [e]
    omega
theorem sq_le {a : Int} {B : Nat} (h : a.natAbs ≤ B) : a * a ≤ ((B * B : Nat) : Int) := by
  rw [← Int.natAbs_mul_self' a, ← Int.natCast_mul]
  exact Int.ofNat_le.mpr (Nat.mul_le_mul h h)
theorem np_le {x : Q4} {B : Nat} (h : x.le B) : np x ≤ ((4 * (B * B) : Nat) : Int) := by
  obtain ⟨h1, h2, h3, h4⟩ := h
  have a1 := sq_le h1
  have a2 := sq_le h2
  have a3 := sq_le h3
  have a4 := sq_le h4
  unfold np
  generalize B * B = C at *
  omega
theorem pow_le2 {a b : Nat} (h : a ≤ b) : (2 : Int) ^ a ≤ 2 ^ b := by
  have e : ∀ n : Nat, (2 : Int) ^ n = ((2 ^ n : Nat) : Int) := fun n => by rw [Int.natCast_pow]; rfl
  rw [e, e]
  exact Int.ofNat_le.mpr (Nat.pow_le_pow_right (by decide) h)
theorem pn_drawn {es : List Z8} (h : ∀ e ∈ es, Drw e) (hl : es.length ≤ 16) : PN 70 es ≤ 2 ^ 480 := by
  have h1 : ∀ x ∈ es.map fun e => np (val 70 e), x ≤ ((4 * (2 ^ 200 * 2 ^ 200) * 2 ^ 70 : Nat) : Int) := by
    intro x hx
    obtain ⟨e, he, rfl⟩ := List.mem_map.mp hx
    have hd := h e he
    rw [(np_val_ (N := 70) (e := e))]
    have h2 := np_le hd.sz
    have h3 : (2 : Int) ^ (70 - e.k) ≤ 2 ^ 70 := pow_le2 (by omega)
    have h4 : (0 : Int) ≤ 2 ^ (70 - e.k) := Int.le_of_lt (two_pow_pos _)
    calc np e.v * 2 ^ (70 - e.k) ≤ ((4 * (2 ^ 200 * 2 ^ 200) : Nat) : Int) * 2 ^ (70 - e.k) := Int.mul_le_mul_of_nonneg_right h2 h4
      _ ≤ ((4 * (2 ^ 200 * 2 ^ 200) : Nat) : Int) * 2 ^ 70 := Int.mul_le_mul_of_nonneg_left h3 (Int.natCast_nonneg _)
      _ = ((4 * (2 ^ 200 * 2 ^ 200) * 2 ^ 70 : Nat) : Int) := by rw [Int.natCast_mul _ (2 ^ 70)]; rfl
  have h2 := sum_le h1
  unfold PN
  refine Int.le_trans h2 ?_
  rw [List.length_map]
  have e : ((4 * (2 ^ 200 * 2 ^ 200) * 2 ^ 70 : Nat) : Int) = 2 ^ 472 := by decide +kernel
  rw [e]
  have e2 : (2 : Int) ^ 480 = 256 * 2 ^ 472 := by decide +kernel
  rw [e2]
  have hB : (0 : Int) ≤ 2 ^ 472 := Int.le_of_lt (two_pow_pos _)
  generalize (2 : Int) ^ 472 = B at *
  have : (es.length : Int) ≤ 16 := by omega
  calc (es.length : Int) * B ≤ 16 * B := Int.mul_le_mul_of_nonneg_right this hB
    _ ≤ 256 * B := by omega
where
  np_val_ {N : Nat} {e : Z8} : np (val N e) = np e.v * 2 ^ (N - e.k) := np_rtN _ _
theorem abs_of_sq {a : Int} (h : a * a ≤ 2 ^ 480) : a.natAbs < 2 ^ 4000 := by
  have h1 : ((a.natAbs * a.natAbs : Nat) : Int) ≤ 2 ^ 480 := by rw [Int.natCast_mul, Int.natAbs_mul_self']; exact h
  have e : (2 : Int) ^ 480 = ((2 ^ 480 : Nat) : Int) := by rw [Int.natCast_pow]; rfl
  rw [e] at h1
  have h2 : a.natAbs * a.natAbs ≤ 2 ^ 480 := Int.ofNat_le.mp h1
  have h3 : a.natAbs ≤ 2 ^ 480 := by
    by_cases z : a.natAbs = 0
    · rw [z]; exact Nat.zero_le _
    · exact Nat.le_trans (Nat.le_mul_of_pos_left _ (Nat.pos_of_ne_zero z)) h2
  exact Nat.lt_of_le_of_lt h3 (Nat.pow_lt_pow_right (by decide) (by decide))
theorem bd_of {n K : Nat} {es : List Z8} (h : EsOk n K es) (hK : K ≤ 70) (hp : PN 70 es ≤ 2 ^ 480) : ∀ e ∈ es, e.bd := by
  intro e he
  have h1 := Int.le_trans (np_within h hK he) hp
  have hk := h.kk e he
  have s1 := sq_nn e.v.a
  have s2 := sq_nn e.v.b
  have s3 := sq_nn e.v.c
  have s4 := sq_nn e.v.d
  unfold np at h1
  exact ⟨⟨abs_of_sq (by omega), abs_of_sq (by omega), abs_of_sq (by omega), abs_of_sq (by omega)⟩, by omega⟩
theorem q_le {es : List Z8} (h : ∀ e ∈ es, Canon e) (N : Nat) : (QN N es).natAbs ≤ (PN N es).natAbs := by
  rcases posN (N := N) h with ⟨_, h1, h2⟩ | ⟨_, h1, h2⟩
  · rw [h1, h2]
    exact Nat.le_refl _
  · generalize PN N es = A at *
    generalize QN N es = B at *
    refine Nat.le_of_not_lt fun z => ?_
    have h3 : A.natAbs * A.natAbs ≤ B.natAbs * B.natAbs := Nat.mul_le_mul (Nat.le_of_lt z) (Nat.le_of_lt z)
    have h4 : A * A ≤ B * B := by
      rw [← Int.natAbs_mul_self' A, ← Int.natAbs_mul_self' B, ← Int.natCast_mul, ← Int.natCast_mul]
      exact Int.ofNat_le.mpr h3
    have h5 := sq_nn B
    omega
theorem shrink {p P : Int} {m B : Nat} (h : p * 2 ^ m = P) (hP : P.natAbs ≤ B) : p.natAbs ≤ B := by
  rw [← h, Int.natAbs_mul] at hP
  refine Nat.le_trans (Nat.le_mul_of_pos_right _ ?_) hP
  have := two_pow_pos m
  omega
theorem len_bd {n K : Nat} {es : List Z8} (h : EsOk n K es) (hK : K ≤ 70) (hp : PN 70 es ≤ 2 ^ 480) : (stLen es).bd := by
  have hl := stLen_at (N := 70) fun e he => Nat.le_trans (h.kk e he) hK
  have h0 := PN_nn 70 es
  have h1 : (PN 70 es).natAbs ≤ 2 ^ 480 := by
    have e : (2 : Int) ^ 480 = ((2 ^ 480 : Nat) : Int) := by rw [Int.natCast_pow]; rfl
    rw [e] at hp
    generalize (2 : Nat) ^ 480 = B at *
    omega
  have h2 := Nat.le_trans (q_le h.can 70) h1
  have hb : (2 : Nat) ^ 480 < 2 ^ 20000 := Nat.pow_lt_pow_right (by decide) (by decide)
  exact ⟨Nat.lt_of_le_of_lt (shrink hl.p h1) hb, Nat.lt_of_le_of_lt (shrink hl.q h2) hb, by have := hl.k; omega⟩
/-! ### made rows -/
section
variable {P : Program} {w : World} {K : PySem.W.Frag} {mg : Str → Option Value} {base : Heap}
theorem wsI (ws : List Nat) : wsV ws = (ws.map fun w => ((w : Nat) : Int)).map V.int := wsV_int ws
def spMade (K : PySem.W.Frag) : Sp := fun vs H Q _ => ∃ (v : V) (n m : Nat) (r : Rw), vs = [v] ∧ LrA K H v r ∧ Wd n ∧ r.Ok n m ∧ ∀ u H', Ex H H' → RwA K H' u r → Q u H'
theorem sc_made : FnScope ["_law_row"] ["_law_row"] (defScope s_l_made_row) := ⟨rfl, rfl, rfl, by decide +kernel, rfl, by decide +kernel, by decide +kernel⟩
theorem ok_made (T : Txt K mg) : Cal P w K mg base 7 "_law_made_row" (spMade K) := by
  refine cal_ok T.d_l_made_row T.g_l_made_row sc_made (fun _ _ _ _ _ _ us hl => match us, hl with | [_], _ => rfl) (fun vs H Q E h => ?_) (fun cdv A outer s H vs Q E hr h => ?_)
  · obtain ⟨_, _, _, _, rfl, _⟩ := h
    rfl
  · obtain ⟨v, n, m, r, rfl, hv, wd, hok, fin⟩ := h
    have nd := sc_made.nd
    have hn5 := wd.hi
    cases r with
    | read wi j =>
      obtain ⟨p, rfl, hp⟩ := hv
      refine Ss_cons (S_if (T_cmp op_eqS ?_))
      refine E_ixT ?_
      refine E_var 0 rfl ?_
      refine E_int ?_
      refine ⟨_, _, _, _, rfl, rfl, hp, rfl, ?_⟩
      refine E_str ?_
      refine ⟨_, _, rfl, rfl, _, rfl, ?_⟩
      rw [decide_eq_true rfl]
      refine iteT (Ss_one (S_ret (E_make (mk_Reading T) (hr.mono (by decide)) (As_cons ?_))))
      refine E_ixT ?_
      refine E_var 0 rfl ?_
      refine E_int ?_
      refine ⟨_, _, _, _, rfl, rfl, hp, rfl, ?_⟩
      refine As_cons ?_
      refine E_ixT ?_
      refine E_var 0 rfl ?_
      refine E_int ?_
      refine ⟨_, _, _, _, rfl, rfl, hp, rfl, ?_⟩
      exact As_nil fun y dx H2 hy e2 h2 => ⟨y, dx, _, _, rfl, h2, fun H3 eb h3 => ⟨rfl, fin _ _ (ExB.new e2 hy eb) ⟨y, dx, rfl, h3⟩⟩⟩
    | ask j b g =>
      obtain ⟨p, q, rfl, hp, pd, td, rfl, hd, htd⟩ := hv
      obtain ⟨hj, hg⟩ := hok
      have ne : (Str.ofString "if" = Str.ofString "read") = False := eq_false (by decide +kernel)
      refine Ss_cons (S_if (T_cmp op_eqS ?_))
      refine E_ixT ?_
      refine E_var 0 rfl ?_
      refine E_int ?_
      refine ⟨_, _, _, _, rfl, rfl, hp, rfl, ?_⟩
      refine E_str ?_
      refine ⟨_, _, rfl, rfl, _, rfl, ?_⟩
      rw [decide_eq_false (show ¬ Str.ofString "if" = Str.ofString "read" by rw [ne]; exact id)]
      refine iteF (Ss_nil (Ss_cons (S_if (T_cmp op_eqS ?_))))
      refine E_ixT ?_
      refine E_var 0 rfl ?_
      refine E_int ?_
      refine ⟨_, _, _, _, rfl, rfl, hp, rfl, ?_⟩
      refine E_str ?_
      refine ⟨_, _, rfl, rfl, _, rfl, ?_⟩
      rw [decide_eq_true rfl]
      refine iteT (Ss_one (S_ret (E_make (mk_Asking T) (hr.mono (by decide)) (As_cons ?_))))
      refine E_ixT ?_
      refine E_var 0 rfl ?_
      refine E_int ?_
      refine ⟨_, _, _, _, rfl, rfl, hp, rfl, ?_⟩
      refine As_cons ?_
      refine E_ixT ?_
      refine E_var 0 rfl ?_
      refine E_int ?_
      refine ⟨_, _, _, _, rfl, rfl, hp, rfl, ?_⟩
      refine As_cons (E_call (ok_gate_of T) hr (As_cons (E_ixT ?_)))
      refine E_ixT ?_
      refine E_var 0 rfl ?_
      refine E_int ?_
      refine ⟨_, _, _, _, rfl, rfl, hp, rfl, ?_⟩
      refine E_int ?_
      refine ⟨pd, _, _, _, rfl, rfl, hd, rfl, As_cons (E_ixT ?_)⟩
      refine E_ixT ?_
      refine E_var 0 rfl ?_
      refine E_int ?_
      refine ⟨_, _, _, _, rfl, rfl, hp, rfl, ?_⟩
      refine E_int ?_
      refine ⟨pd, _, _, _, rfl, rfl, hd, rfl, As_nil ⟨g, td, rfl, htd, hg.1, hg.2.1, fun x hx => by have := hg.2.2 x hx; omega, fun gv H1 e1 hgv => As_nil fun y dx H2 hy e2 h2 => ?_⟩⟩
      exact ⟨y, dx, _, _, _, rfl, h2, fun H3 eb h3 => ⟨rfl, fin _ _ (e1.trans (ExB.new e2 hy eb)) ⟨y, dx, gv, rfl, h3, hgv.ex (ExB.new e2 hy eb)⟩⟩⟩
    | gate g =>
      obtain ⟨p, q, rfl, hp, pd, td, rfl, hd, htd⟩ := hv
      have hg : g.Ok n := hok
      refine Ss_cons (S_if (T_cmp op_eqS ?_))
      refine E_ixT ?_
      refine E_var 0 rfl ?_
      refine E_int ?_
      refine ⟨_, _, _, _, rfl, rfl, hp, rfl, ?_⟩
      refine E_str ?_
      refine ⟨_, _, rfl, rfl, _, rfl, ?_⟩
      rw [decide_eq_false (show ¬ Str.ofString "gate" = Str.ofString "read" by decide +kernel)]
      refine iteF (Ss_nil (Ss_cons (S_if (T_cmp op_eqS ?_))))
      refine E_ixT ?_
      refine E_var 0 rfl ?_
      refine E_int ?_
      refine ⟨_, _, _, _, rfl, rfl, hp, rfl, ?_⟩
      refine E_str ?_
      refine ⟨_, _, rfl, rfl, _, rfl, ?_⟩
      rw [decide_eq_false (show ¬ Str.ofString "gate" = Str.ofString "if" by decide +kernel)]
      refine iteF (Ss_nil (Ss_one (S_ret (E_call (ok_gate_of T) hr (As_cons (E_ixT ?_))))))
      refine E_ixT ?_
      refine E_var 0 rfl ?_
      refine E_int ?_
      refine ⟨_, _, _, _, rfl, rfl, hp, rfl, ?_⟩
      refine E_int ?_
      refine ⟨pd, _, _, _, rfl, rfl, hd, rfl, As_cons (E_ixT ?_)⟩
      refine E_ixT ?_
      refine E_var 0 rfl ?_
      refine E_int ?_
      refine ⟨_, _, _, _, rfl, rfl, hp, rfl, ?_⟩
      refine E_int ?_
      exact ⟨pd, _, _, _, rfl, rfl, hd, rfl, As_nil ⟨g, td, rfl, htd, hg.1, hg.2.1, fun x hx => by have := hg.2.2 x hx; omega, fun gv H1 e1 hgv => fin _ _ e1 hgv⟩⟩
end
end BW

set_option Elab.async false
set_option linter.all false
set_option maxRecDepth 100000
set_option maxHeartbeats 8000000
namespace BW
open PySem PySem.Spec PyProof.Rows L2
theorem br_bits {K : PySem.W.Frag} {H : Hp} {vs : List V} {brs : List Br} (h : All2 (BrA K H) vs brs) {m : Nat} {y : V} (hm : vs[m]? = some y) : ∃ br p tb sv, brs[m]? = some br ∧ y = .ref p ∧ SqT K H p [.ref tb, sv] ∧ SqT K H tb (bitsV br.1) ∧ StA K H sv br.2 := by
  obtain ⟨br, h1, p, tb, sv, h2, h3, h4, h5⟩ := h.get hm
  exact ⟨br, p, tb, sv, h1, h2, h3, h4, h5⟩
def bitsI (bs : List Bool) : List Int := bs.map fun b => ((b.toNat : Nat) : Int)
theorem bitsV_I (bs : List Bool) : bitsV bs = (bitsI bs).map V.int := by unfold bitsV bitsI; rw [List.map_map]; rfl
theorem bitsI_inj : ∀ {a b : List Bool}, bitsI a = bitsI b → a = b
  | [], [], _ => rfl
  | [], _ :: _, h => by simp [bitsI] at h
  | _ :: _, [], h => by simp [bitsI] at h
  | x :: a, y :: b, h => by
    have h' : ((x.toNat : Nat) : Int) :: bitsI a = ((y.toNat : Nat) : Int) :: bitsI b := h
    injection h' with h1 h2
    rw [bitsI_inj h2]
    have : x = y := by cases x <;> cases y <;> simp at h1 <;> rfl
    rw [this]
theorem bits_nodup {l : List (List Bool)} (h : l.Nodup) : (l.map bitsI).Nodup := by
  induction h with
  | nil => exact List.nodup_nil
  | cons h1 _ ih =>
    refine List.nodup_cons.mpr ⟨fun hm => ?_, ih⟩
    obtain ⟨x, hx, e⟩ := List.mem_map.mp hm
    exact h1 x hx (bitsI_inj e).symm
theorem ks_of {K : PySem.W.Frag} {H : Hp} {ys : List V} {brs : List Br} (h : All2 (fun y (br : Br) => ∃ tb, y = V.ref tb ∧ SqT K H tb (bitsV br.1)) ys brs) : ∃ ks : List (Addr × List Int), ys = ks.map (fun p => V.ref p.1) ∧ (∀ p ∈ ks, SqT K H p.1 (p.2.map V.int)) ∧ ks.map (·.2) = (brs.map (·.1)).map bitsI := by
  induction h with
  | nil => exact ⟨[], rfl, (fun _ h => nomatch h), rfl⟩
  | @cons y br ys brs r _ ih =>
    obtain ⟨tb, rfl, ht⟩ := r
    obtain ⟨ks, rfl, h1, h2⟩ := ih
    refine ⟨(tb, bitsI br.1) :: ks, rfl, fun p hp => ?_, ?_⟩
    · rcases List.mem_cons.mp hp with rfl | hp
      · rw [← bitsV_I]
        exact ht
      · exact h1 p hp
    · rw [List.map_cons, h2]
      rfl
/-- the rows read: (wire, place) each -/
def rdP (wj : Nat × Nat) : PyData := .tuple [.str "read", .int (wj.1 : Nat), .str (bn wj.2)]
def RdA (K : PySem.W.Frag) (H : Hp) (v : V) (wj : Nat × Nat) : Prop := ∃ p, v = .ref p ∧ SqT K H p [.str "read", .int (wj.1 : Nat), .str (bn wj.2)]
theorem RdA.fz {K : PySem.W.Frag} {H H' : Hp} {v : V} {wj : Nat × Nat} (h : RdA K H v wj) (e : Fz H H') : RdA K H' v wj := by
  obtain ⟨p, rfl, h⟩ := h
  exact ⟨p, rfl, SqT.fz h e⟩
theorem rd_dp {K : PySem.W.Frag} {H : Hp} {vs : List V} {l : List (Nat × Nat)} (h : All2 (RdA K H) vs l) : DpAll K H vs (l.map rdP) := by
  induction h with
  | nil => exact .nil
  | cons r _ ih =>
    obtain ⟨p, rfl, h⟩ := r
    exact .cons (.tup h (.cons (.str _) (.cons (.int _) (.cons (.str _) .nil)))) ih
theorem rd_lay : ∀ l : List (Nat × Nat), (∀ wj ∈ l, wj.2 < 5) → PyData.canLayAll0 (l.map rdP) = true ∧ PyData.depthAll (l.map rdP) ≤ 3
  | [], _ => by simp [PyData.canLayAll0, PyData.depthAll]
  | wj :: l, h => by
    obtain ⟨h1, h2⟩ := rd_lay l fun x hx => h x (by simp [hx])
    have h3 : PyData.strOk (bn wj.2) = true := names_str _ (bn_mem _ (h wj (by simp)))
    have h4 : PyData.strOk "read" = true := by decide +kernel
    rw [List.map_cons, PyData.canLayAll0, PyData.depthAll, h1]
    refine ⟨by simp [rdP, PyData.canLay0, PyData.canLayAll0, h3, h4], ?_⟩
    have e : PyData.depth (rdP wj) ≤ 3 := by simp [rdP, PyData.depth, PyData.depthAll]
    omega
theorem rd_sh {l : List (Nat × Nat)} (h : ∀ wj ∈ l, wj.2 < 5) : SeqAt.shaped (.list (l.map rdP)) = true := by
  obtain ⟨h1, h2⟩ := rd_lay l h
  unfold SeqAt.shaped
  rw [PyData.canLay0, h1, PyData.depth]
  simp
  omega
theorem all_gates : ∀ {rows : List Rw}, rows.all Rw.isGate = true → ∃ gs : List Gt, rows = gs.map Rw.gate
  | [], _ => ⟨[], rfl⟩
  | r :: rs, h => by
    rw [List.all_cons, Bool.and_eq_true] at h
    obtain ⟨gs, rfl⟩ := all_gates h.2
    cases r with
    | gate g => exact ⟨g :: gs, rfl⟩
    | read w j => cases h.1
    | ask j b g => cases h.1
theorem gates_ok {n : Nat} : ∀ {gs : List Gt} {m : Nat}, RowsOk n m (gs.map Rw.gate) → ∀ g ∈ gs, g.Ok n
  | [], _, _, _, h => nomatch h
  | g :: gs, m, ⟨h1, h2⟩, x, hx => by
    rcases List.mem_cons.mp hx with rfl | hx
    · exact h1
    · exact gates_ok h2 x hx
section
variable {P : Program} {w : World} {K : PySem.W.Frag} {mg : Str → Option Value} {base : Heap}
def spLaw (K : PySem.W.Frag) : Sp := fun vs H Q _ => ∃ (a : Addr) (ns : List Int), vs = [.ref a] ∧ SqL K H a (ns.map V.int) ∧ ns.length ≤ 63 ∧ ∀ H', Q (.bl true) H'
abbrev lawN : List Str := ["_law_script", "_law_many", "_law_eighths_here", "_law_rows_here", "_law_circuit", "_law_state_here", "_law_found", "_law_due", "_law_plain", "_law_wire", "_law_bits", "_law_branch", "_law_reads", "_law_told", "_law_part", "_law_again", "_law_row", "_law_one", "_law_more", "_law_same_here"]
theorem sc_law : FnScope ["_law_script", "_law_many", "_law_eighths_here", "_law_rows_here", "_law_circuit", "_law_state_here", "_law_found", "_law_due", "_law_plain", "_law_wire", "_law_bits", "_law_branch", "_law_reads", "_law_told", "_law_part", "_law_again", "_law_row", "_law_one", "_law_more", "_law_same_here"] ["_law_script"] (defScope s_law) := ⟨rfl, rfl, rfl, by decide +kernel, rfl, by decide +kernel, by decide +kernel⟩
theorem in_law (T : Txt K mg) {f : Addr} {fd : FuncData} (F : FnF K "law" "law" s_law f fd) : FnOk P w K mg base CX0 8 f fd ["_law_script"] (spLaw K) := by
  refine fn_ok F sc_law (fun vs H Q E h => ?_) (fun cdv A outer s H vs Q E hr h => ?_)
  · obtain ⟨_, _, rfl, _⟩ := h
    rfl
  · obtain ⟨ls, ns, rfl, hls, hns, fin⟩ := h
    have nd := sc_law.nd
    -- how many wires
    refine Ss_cons (S_set (i := 1) rfl (E_add ?_) nd)
    refine E_int ?_
    refine E_modc (E_call (ok_lcell T) (hr.mono (by decide)) (As_cons ?_))
    refine E_var 0 rfl ?_
    refine As_cons ?_
    refine E_int ?_
    refine As_nil ⟨ls, 0, ns, rfl, hls, fun c0 => ⟨_, rfl, _, _, rfl, rfl, ?_⟩⟩
    obtain ⟨n, hn, wd⟩ : ∃ n : Nat, (1 : Int) + c0 % 4 = (n : Nat) ∧ Wd n := ⟨(1 + c0 % 4).toNat, by omega, ⟨by omega, by omega⟩⟩
    rw [hn]
    have hn0 := wd.lo
    have hn5 := wd.hi
    have h16 := two_le wd
    -- the eighths
    refine Ss_cons (S_set (i := 2) rfl (E_call (ok_leighths T) (hr.mono (by decide)) (As_cons (E_call (ok_lstate T) (hr.mono (by decide)) (As_cons (E_call (ok_lcell T) (hr.mono (by decide)) (As_cons ?_)))))) nd)
    refine E_var 0 rfl ?_
    refine As_cons ?_
    refine E_int ?_
    refine As_nil ⟨ls, 1, ns, rfl, hls, fun c1 => As_cons ?_⟩
    refine E_int ?_
    refine As_nil ⟨c1, 1, rfl, by decide, fun l0 H1 z1 e1 s1 => As_cons ?_⟩
    refine E_var 1 rfl ?_
    refine As_nil ⟨l0, n, rfl, wd, s1, fun le H2 we es hle hwe hel hdrw b2 => ?_⟩
    have e2 : Ex H H2 := ExB.new e1 z1 b2
    have hwl : we.length = es.length := by have := hwe.len; rw [List.length_map] at this; exact this
    have he0 : EsOk n 6 es := ⟨hel, fun e he => (hdrw e he).can, fun e he => (hdrw e he).kk⟩
    have hpn : PN 70 es ≤ 2 ^ 480 := pn_drawn hdrw (by omega)
    -- the rows
    refine Ss_cons (S_set (i := 3) rfl (E_call (ok_lrows T) (hr.mono (by decide)) (As_cons ?_)) nd)
    refine E_var 0 rfl ?_
    refine As_cons ?_
    refine E_int ?_
    refine As_cons ?_
    refine E_var 1 rfl ?_
    refine As_cons ?_
    refine E_int ?_
    refine As_nil ⟨ls, n, ns, rfl, wd, SqL.ex hls e2, by omega, fun lr H3 wr rows e3 hlr hwr hok hrl => ?_⟩
    have hwrl : wr.length = rows.length := hwr.len
    have hr5 : reads rows ≤ 5 := by have := rows_five hok (by omega); omega
    -- the circuit
    refine Ss_cons (S_set (i := 4) rfl (E_make (mk_Circuit T) (hr.mono (by decide)) (As_cons ?_)) nd)
    refine E_var 1 rfl ?_
    refine As_cons (E_lcL 16 rfl nd rfl (by show blkC ["_law_script", "_law_many", "_law_eighths_here", "_law_rows_here", "_law_circuit", "_law_state_here", "_law_found", "_law_due", "_law_plain", "_law_wire", "_law_bits", "_law_branch", "_law_reads", "_law_told", "_law_part", "_law_again", "_law_row", "_law_one", "_law_more", "_law_same_here"] (defScope s_law) _ [(_, 16)] = true; decide +kernel) ?_)
    refine E_var 3 rfl ?_
    refine ⟨lr, wr, AccR (fun j z H' => ∃ r, rows[j]? = some r ∧ RwA K H' z r), rfl, SqL.of hlr, by rw [hwrl]; exact Nat.lt_of_le_of_lt hrl (by decide), fun H' _ => AccR.zero, AccR.fz (fun _ _ _ _ e ⟨x, h1, h2⟩ => ⟨x, h1, h2.fz e⟩), ?_, ?_⟩
    · intro j y acc H' hj e hl hA s0 H0 C cl fp
      obtain ⟨r, hr1, hrA⟩ := hwr.get hj
      obtain ⟨hrk, _⟩ := rows_at hok hr1
      refine E_call (ok_made T) hr (As_cons ?_)
      refine E_var 16 rfl ?_
      exact As_nil ⟨_, n, _, r, rfl, hrA.fz (Fz.of e), wd, hrk, fun u H4 e4 hu => ⟨e4, AccR.snoc (fun _ _ _ _ e ⟨x, h1, h2⟩ => ⟨x, h1, h2.fz e⟩) hA e4 ⟨r, hr1, hu⟩⟩⟩
    intro lm H4 ym z4 e4 hlm hA4
    have hym : All2 (RwA K H4) ym rows := by
      refine All2.of (by rw [hA4.1, hwrl]) fun i a b h1 h2 => ?_
      obtain ⟨r, h3, h4⟩ := hA4.2 i a h1
      rw [h3] at h2
      cases h2
      exact h4
    refine As_nil fun yc dc H5 zc e5 hyc => ⟨H4, yc, dc, lm, ym, n, rows, rfl, zc, e5, hyc, hlm, hym, wd, hok, by omega, fun H6 e46 hcir => ⟨rfl, ?_⟩⟩
    have e36 := e4.trans e46
    have hle6 := (e3.trans e36) _ _ hle
    have hwe6 := all2_fz hwe (Fz.of (e3.trans e36))
    -- the state
    refine Ss_cons (S_set (i := 5) rfl (E_make (ok_State T) (hr.mono (by decide)) (As_cons ?_)) nd)
    refine E_var 2 rfl ?_
    refine As_nil fun ys dxs H7 zs e7 hys => ⟨ys, dxs, le, we, n, es, rfl, hys, e7 _ _ hle6, all2_fz hwe6 (Fz.of e7), wd, hel, he0.can, fun H8 eb8 hst => ⟨rfl, ?_⟩⟩
    have e68 := ExB.new e7 zs eb8
    -- the run
    refine Ss_cons (S_set (i := 6) rfl (E_call (ok_run T) hr (As_cons ?_)) nd)
    refine E_var 4 rfl ?_
    refine As_cons ?_
    refine E_var 5 rfl ?_
    refine As_nil ⟨.ref yc, .ref ys, n, 6, rows, es, rfl, hcir.ex e68, hst, wd, hok, by omega, he0, by decide, fun lf H9 vf e89 hlf hbf => ?_⟩
    obtain ⟨bok, hSP, hSQ⟩ := run_ok (N := 70) hn5 hok he0 (by omega)
    have hfl : vf.length = (runM n rows es).length := hbf.len
    have hsh : (runM n rows es).length ≤ 32 := by
      have := run_short hok es rows.length
      rw [List.take_of_length_le (Nat.le_refl _)] at this
      exact this
    have hpb : ∀ br ∈ runM n rows es, PN 70 br.2 ≤ 2 ^ 480 := fun br hb => by
      have h1 := SP_ge (N := 70) bok hb
      rw [hSP] at h1
      exact Int.le_trans h1 hpn
    have hkb : 6 + rows.length ≤ 70 := by omega
    -- the due
    refine Ss_cons (S_set (i := 7) rfl (E_call (ok_ltotal T) (hr.mono (by decide)) (As_cons (E_lcL 17 rfl nd rfl (by show blkC ["_law_script", "_law_many", "_law_eighths_here", "_law_rows_here", "_law_circuit", "_law_state_here", "_law_found", "_law_due", "_law_plain", "_law_wire", "_law_bits", "_law_branch", "_law_reads", "_law_told", "_law_part", "_law_again", "_law_row", "_law_one", "_law_more", "_law_same_here"] (defScope s_law) _ [(_, 17)] = true; decide +kernel) ?_))) nd)
    refine E_var 2 rfl ?_
    have e69 := e68.trans e89
    have hle9 := e69 _ _ hle6
    have hwe9 := all2_fz hwe6 (Fz.of e69)
    refine ⟨le, we, AccR (fun j z H' => ∃ e, es[j]? = some e ∧ TI K H' z (sqN e)), rfl, SqL.of hle9, by rw [hwl, hel]; exact Nat.lt_of_le_of_lt h16 (by decide), fun H' _ => AccR.zero, AccR.fz (fun _ _ _ _ e ⟨x, h1, h2⟩ => ⟨x, h1, h2.fz e⟩), ?_, ?_⟩
    · intro j y acc H' hj e hl hA s0 H0 C cl fp
      obtain ⟨x, hx, te⟩ := lti_get hwe9 hj
      refine E_call (ok_lsquare T) (hr.mono (by decide)) (As_cons ?_)
      refine E_var 17 rfl ?_
      exact As_nil ⟨_, x, rfl, te.ex e, (bd_of he0 (by decide) hpn x (List.mem_of_getElem? hx)).v, fun u H4' e4' hu => ⟨e4', AccR.snoc (fun _ _ _ _ e ⟨x, h1, h2⟩ => ⟨x, h1, h2.fz e⟩) hA e4' ⟨x, hx, hu⟩⟩⟩
    intro lq H10 yq z10 e10 hlq hA10
    have hyq : All2 (TI K H10) yq (es.map sqN) := by
      refine All2.of (by rw [hA10.1, List.length_map, hwl]) fun i a b h1 h2 => ?_
      obtain ⟨e, h3, h4⟩ := hA10.2 i a h1
      rw [List.getElem?_map, h3] at h2
      cases h2
      exact h4
    refine As_nil ⟨lq, es, rfl, ⟨yq, SqL.of hlq, hyq⟩, fun e he => by have := he0.kk e he; omega, fun vd H11 e11 hd => ?_⟩
    have e911 := e10.trans e11
    have hlf11 := e911 _ _ hlf
    have hbf11 := brs_fz hbf (Fz.of e911)
    have hst11 := hst.ex (e89.trans e911)
    have hcir11 := hcir.ex (e68.trans (e89.trans e911))
    have hlr11 := (e36.trans (e68.trans (e89.trans e911))) _ _ hlr
    have hwr11 := lrs_fz hwr (Fz.of (e36.trans (e68.trans (e89.trans e911))))
    have hle11 := e911 _ _ hle9
    have hwe11 := all2_fz hwe9 (Fz.of e911)
    have hls11 := SqL.ex hls ((e2.trans e3).trans (e36.trans (e68.trans (e89.trans e911))))
    -- the lengths
    refine Ss_cons (S_if (T_w (W_or (T_cmp (op_neTI hr.units) (E_call (ok_lsum T) (hr.mono (by decide)) (As_cons (E_lcP 10 11 (by decide) rfl nd rfl rfl (by show blkC lawN (defScope s_law) _ [(_, 10), (_, 11)] = true; decide +kernel) ?_)))))))
    refine E_var 6 rfl ?_
    refine ⟨lf, vf, AccR (fun j z H' => ∃ br, (runM n rows es)[j]? = some br ∧ TI K H' z (stLen br.2).ns), rfl, SqL.of hlf11, by rw [hfl]; exact Nat.lt_of_le_of_lt hsh (by decide), fun H' _ => AccR.zero, AccR.fz (fun _ _ _ _ e ⟨x, h1, h2⟩ => ⟨x, h1, h2.fz e⟩), ?_, ?_⟩
    · intro m y acc H' hm e hl hA
      obtain ⟨br, p, tb, sv, hb1, rfl, hp, htb, hsv⟩ := br_bits hbf11 hm
      have hbm := List.mem_of_getElem? hb1
      have hsv' := hsv.ex e
      refine ⟨p, .ref tb, sv, rfl, SqT.fz hp (Fz.of e), fun s0 H0 C cl fp => ?_⟩
      obtain ⟨pq, dq, tq, vq, rfl, hpq, _, _⟩ := id hsv'
      refine E_meth0 (ok_length T) T.c_State (hr.mono (by decide)) ?_
      refine E_var 11 rfl ?_
      exact ⟨pq, dq, _, rfl, hpq, rfl, _, br.2, rfl, hsv', bd_of (bok.es br hbm) hkb (hpb br hbm), by rw [(bok.es br hbm).len]; omega, fun r H4' e4' t4' => ⟨e4', AccR.snoc (fun _ _ _ _ e ⟨x, h1, h2⟩ => ⟨x, h1, h2.fz e⟩) hA e4' ⟨br, hb1, t4'⟩⟩⟩
    intro ll H12 yl z12 e12 hll hA12
    refine As_nil ⟨ll, (runM n rows es).map fun br => stLen br.2, rfl, ⟨yl, SqL.of hll, ?_⟩, ?_, by rw [List.length_map]; omega, fun vls H13 e13 t13 => ?_⟩
    · refine All2.of (by rw [hA12.1, List.length_map, List.length_map, hfl]) fun i a b h1 h2 => ?_
      obtain ⟨br, h3, h4⟩ := hA12.2 i a h1
      rw [List.getElem?_map, List.getElem?_map, h3] at h2
      cases h2
      exact h4
    · intro x hx
      obtain ⟨br, hb, rfl⟩ := List.mem_map.mp hx
      exact len_bd (bok.es br hb) hkb (hpb br hb)
    refine E_var 7 rfl ?_
    have x13 := e12.trans e13
    refine ⟨_, _, t13, hd.ex x13, _, rfl, ?_⟩
    rw [run_len hn5 hok he0, decide_eq_true rfl]
    refine iteF (W_or1 (T_cmp (op_neTI hr.units) (E_meth0 (ok_length T) T.c_State (hr.mono (by decide)) ?_)))
    refine E_var 5 rfl ?_
    have hst13 := hst11.ex x13
    obtain ⟨py, dy, ty, vy, ey, hpy, _, _⟩ := id hst13
    cases ey
    refine ⟨ys, dy, _, rfl, hpy, rfl, _, es, rfl, hst13, bd_of he0 (by decide) hpn, by rw [hel]; omega, fun vl2 H14 e14 t14 => ?_⟩
    refine E_var 7 rfl ?_
    have x14 := x13.trans e14
    refine ⟨_, _, t14, hd.ex x14, _, rfl, ?_⟩
    rw [decide_eq_true rfl]
    refine iteF (Ss_nil ?_)
    -- plain
    refine Ss_cons (S_set (i := 8) rfl (E_eqNil hr.units (E_lcLif 16 rfl nd rfl (by show blkC ["_law_script", "_law_many", "_law_eighths_here", "_law_rows_here", "_law_circuit", "_law_state_here", "_law_found", "_law_due", "_law_plain", "_law_wire", "_law_bits", "_law_branch", "_law_reads", "_law_told", "_law_part", "_law_again", "_law_row", "_law_one", "_law_more", "_law_same_here"] (defScope s_law) _ [(_, 16)] = true; decide +kernel) ?_)) nd)
    refine E_var 3 rfl ?_
    refine ⟨lr, wr, fun j acc _ => (acc = [] ↔ ∀ m, m < j → ∀ r, rows[m]? = some r → r.isGate = true), rfl, SqL.of (x14 _ _ hlr11), by rw [hwrl]; exact Nat.lt_of_le_of_lt hrl (by decide), fun _ _ => ⟨fun _ m hm => absurd hm (Nat.not_lt_zero m), fun _ => rfl⟩, fun _ _ _ _ _ h => h, ?_, ?_⟩
    · intro j y acc H' hj e hl hA s0 H0 C cl fp
      obtain ⟨r, hr1, hrA⟩ := hwr11.get hj
      have hrA := hrA.fz (Fz.of (x14.trans e))
      have keep : r.isGate = true → (acc = [] ↔ ∀ m, m < j + 1 → ∀ r, rows[m]? = some r → r.isGate = true) := by
        intro hg
        refine Iff.trans (show acc = [] ↔ ∀ m, m < j → ∀ r, rows[m]? = some r → r.isGate = true from hA) ?_
        constructor
        · intro z m hm r' hr'
          by_cases hmj : m < j
          · exact z m hmj r' hr'
          · have : m = j := by omega
            rw [this, hr1] at hr'
            cases hr'
            exact hg
        · intro z m hm
          exact z m (by omega)
      have more : ∀ (v : V), r.isGate = false → (acc ++ [v] = [] ↔ ∀ m, m < j + 1 → ∀ r, rows[m]? = some r → r.isGate = true) := by
        intro v hg
        exact ⟨fun z => absurd z (by simp), fun z => absurd (z j (Nat.lt_succ_self j) r hr1) (by rw [hg]; exact Bool.false_ne_true)⟩
      cases r with
      | gate g =>
        obtain ⟨p, q, rfl, hp, _⟩ := hrA
        refine T_cmp op_neS ?_
        refine E_ixT ?_
        refine E_var 16 rfl ?_
        refine E_int ?_
        refine ⟨_, _, _, _, rfl, rfl, hp, rfl, ?_⟩
        refine E_str ?_
        refine ⟨_, _, rfl, rfl, _, rfl, ?_⟩
        rw [decide_eq_true rfl]
        exact iteF ⟨Evl.Ex.refl _, keep rfl⟩
      | read wi j' =>
        obtain ⟨p, rfl, hp⟩ := hrA
        refine T_cmp op_neS ?_
        refine E_ixT ?_
        refine E_var 16 rfl ?_
        refine E_int ?_
        refine ⟨_, _, _, _, rfl, rfl, hp, rfl, ?_⟩
        refine E_str ?_
        refine ⟨_, _, rfl, rfl, _, rfl, ?_⟩
        rw [decide_eq_false (show ¬ Str.ofString "read" = Str.ofString "gate" by decide +kernel)]
        refine iteT (fun s0 H0 C cl fp => ?_)
        refine E_var 16 rfl ?_
        exact ⟨Evl.Ex.refl _, more _ rfl⟩
      | ask j' b g =>
        obtain ⟨p, q, rfl, hp, _⟩ := hrA
        refine T_cmp op_neS ?_
        refine E_ixT ?_
        refine E_var 16 rfl ?_
        refine E_int ?_
        refine ⟨_, _, _, _, rfl, rfl, hp, rfl, ?_⟩
        refine E_str ?_
        refine ⟨_, _, rfl, rfl, _, rfl, ?_⟩
        rw [decide_eq_false (show ¬ Str.ofString "if" = Str.ofString "gate" by decide +kernel)]
        refine iteT (fun s0 H0 C cl fp => ?_)
        refine E_var 16 rfl ?_
        exact ⟨Evl.Ex.refl _, more _ rfl⟩
    intro lp H15 yp z15 e15 hlp hA15
    refine ⟨lp, yp, rfl, SqL.of hlp, fun H16 e16 => ?_⟩
    have epl : decide (yp = []) = rows.all Rw.isGate := by
      have h1 : yp = [] ↔ rows.all Rw.isGate = true := by
        refine Iff.trans (show yp = [] ↔ ∀ m, m < wr.length → ∀ r, rows[m]? = some r → r.isGate = true from hA15) ?_
        rw [List.all_eq_true]
        constructor
        · intro z r hrm
          obtain ⟨m, hm, rfl⟩ := List.getElem_of_mem hrm
          exact z m (by rw [hwrl]; exact hm) _ (List.getElem?_eq_getElem hm)
        · intro z m _ r hr'
          exact z r (List.mem_of_getElem? hr')
      cases q : rows.all Rw.isGate with
      | true => exact decide_eq_true (h1.mpr q)
      | false => exact decide_eq_false fun z => by rw [h1.mp z] at q; cases q
    rw [epl]
    have x16 := x14.trans (e15.trans e16)
    have hcir16 := hcir11.ex x16
    obtain ⟨pc, dc', tc, tbc, vc, ec, hpc, _, _, _⟩ := id hcir16
    cases ec
    -- is_plain, empty
    refine Ss_cons (S_if (T_w (W_or (T_cmp op_ne (E_meth0 (ok_plain T) T.c_Circuit (hr.mono (by decide)) ?_)))))
    refine E_var 4 rfl ?_
    refine ⟨yc, dc', _, rfl, hpc, rfl, _, n, rows, rfl, hcir16, by omega, fun H17 e17 => ?_⟩
    refine E_var 8 rfl ?_
    refine ⟨rfl, _, rfl, ?_⟩
    rw [decide_eq_true rfl]
    refine iteF (W_or1 (T_w (W_and (T_cmp (op_neTI hr.units) ?_))))
    refine E_var 7 rfl ?_
    have x17 := x16.trans e17
    refine E_tup ?_
    refine As_cons ?_
    refine E_int ?_
    refine As_cons ?_
    refine E_int ?_
    refine As_cons ?_
    refine E_int ?_
    refine As_nil ?_
    refine ⟨by show 3 ≤ sizeLine; decide, fun p20 H20 z20 e20 h20 => ?_⟩
    have x20 := x17.trans e20
    refine ⟨_, [0, 0, 0], hd.ex x20, TI.new h20 rfl, _, rfl, ?_⟩
    have hrest : ∀ (H' : Hp), Ex H11 H' → Ss (cxB P w K mg base lawN "law" s_law f cdv A outer s H E) ((defBody s_law).drop 10) { nx := fun _ H' => Q .non H', rt := Q }
        [some (.ref ls), some (.int (n : Nat)), some (.ref le), some (.ref lr), some (.ref yc), some (.ref ys), some (.ref lf), some vd, some (.bl (rows.all Rw.isGate)), none, none, none, none, none, none, none, none, none, none, none] H' := by
      intro H0' x0
      -- no readings twice
      have accB : ∀ (m : Nat) (z : V) (Ha Hb : Hp), Fz Ha Hb → (∃ (br : Br) (tb : Addr), (runM n rows es)[m]? = some br ∧ z = V.ref tb ∧ SqT K Ha tb (bitsV br.1)) → ∃ (br : Br) (tb : Addr), (runM n rows es)[m]? = some br ∧ z = V.ref tb ∧ SqT K Hb tb (bitsV br.1) := fun _ _ _ _ e ⟨x, t, h1, h2, h3⟩ => ⟨x, t, h1, h2, SqT.fz h3 e⟩
      refine Ss_cons (S_if (T_cne (E_lenSetT rfl hr.units T.b_len T.b_set (E_lcP 10 11 (by decide) rfl nd rfl rfl (by show blkC lawN (defScope s_law) _ [(_, 10), (_, 11)] = true; decide +kernel) ?_))))
      refine E_var 6 rfl ?_
      refine ⟨lf, vf, AccR (fun j z H'' => ∃ (br : Br) (tb : Addr), (runM n rows es)[j]? = some br ∧ z = V.ref tb ∧ SqT K H'' tb (bitsV br.1)), rfl, SqL.of (x0 _ _ hlf11), by rw [hfl]; exact Nat.lt_of_le_of_lt hsh (by decide), fun H' _ => AccR.zero, AccR.fz accB, ?_, ?_⟩
      · intro m y acc Ha hm e hl hA
        obtain ⟨br, p, tb, sv, hb1, rfl, hp, htb, hsv⟩ := br_bits hbf11 hm
        refine ⟨p, .ref tb, sv, rfl, SqT.fz hp (Fz.of (x0.trans e)), fun s0 H0 C cl fp => ?_⟩
        refine E_var 10 rfl ?_
        exact ⟨Evl.Ex.refl _, AccR.snoc accB hA (Evl.Ex.refl _) ⟨br, tb, hb1, rfl, SqT.fz htb (Fz.of (x0.trans e))⟩⟩
      intro lb Hb yb zb eb hlb hAb
      obtain ⟨ks, rfl, hk1, hk2⟩ := ks_of (K := K) (H := Hb) (ys := yb) (brs := runM n rows es) (by
        refine All2.of (by rw [hAb.1, hfl]) fun i a b h1 h2 => ?_
        obtain ⟨br, tb, h3, h4, h5⟩ := hAb.2 i a h1
        rw [h3] at h2
        cases h2
        exact ⟨tb, h4, h5⟩)
      have hkl : ks.length = vf.length := by
        have := congrArg List.length hk2
        simp only [List.length_map] at this
        rw [this, hfl]
      refine ⟨lb, ks, rfl, SqL.of hlb, hk1, by rw [hkl, hfl]; omega, by rw [hk2]; exact bits_nodup bok.nd, fun Hc ec => E_len T.b_len ?_⟩
      refine E_var 6 rfl ?_
      have xc := x0.trans (eb.trans ec)
      refine ⟨lf, vf, rfl, .inl (SqL.of (xc _ _ hlf11)), _, _, rfl, rfl, ?_⟩
      rw [hkl, decide_eq_true rfl]
      refine iteF (Ss_nil ?_)
      -- a wire
      refine Ss_cons (S_set (i := 9) rfl (E_modI (E_call (ok_lcell T) (hr.mono (by decide)) (As_cons ?_))) nd)
      refine E_var 0 rfl ?_
      refine As_cons ?_
      refine E_int ?_
      refine As_nil ⟨ls, 1, ns, rfl, SqL.ex hls11 xc, fun c2 => ?_⟩
      refine E_var 1 rfl ?_
      refine ⟨_, _, rfl, rfl, by omega, ?_⟩
      obtain ⟨wi, hwi, hwn⟩ : ∃ wi : Nat, c2 % ((n : Nat) : Int) = (wi : Nat) ∧ wi < n := by
        have q1 := Int.emod_nonneg c2 (show ((n : Nat) : Int) ≠ 0 by omega)
        have q2 := Int.emod_lt_of_pos c2 (show (0 : Int) < ((n : Nat) : Int) by omega)
        exact ⟨(c2 % ((n : Nat) : Int)).toNat, by omega, by omega⟩
      rw [hwi]
      -- the branches
      refine Ss_cons ?_
      refine S_forL PassesOwn.never rfl ?_
      refine E_var 6 rfl ?_
      refine ⟨lf, vf, fun i σ' H' => ∃ z10 z11 z12 z13 z14 z15 : Option V, Ex H11 H' ∧ σ' = [some (.ref ls), some (.int (n : Nat)), some (.ref le), some (.ref lr), some (.ref yc), some (.ref ys), some (.ref lf), some vd, some (.bl (rows.all Rw.isGate)), some (.int (wi : Nat)), z10, z11, z12, z13, z14, z15, none, none, none, none], rfl, SqL.of (xc _ _ hlf11), ⟨none, none, none, none, none, none, xc, rfl⟩, ?_, ?_, ?_⟩
      · rintro i σ' H' _ ⟨_, _, _, _, _, _, e, _⟩
        exact SqL.of (e _ _ hlf11)
      · rintro i x σ' H' hi ⟨z10, z11, z12, z13, z14, z15, xi, rfl⟩
        obtain ⟨br, p, tb, sv, hb1, rfl, hp, htb, hsv⟩ := br_bits hbf11 hi
        have hbm := List.mem_of_getElem? hb1
        have hes := bok.es br hbm
        have hsv' := hsv.ex xi
        obtain ⟨pq, dq, tq, vq, rfl, hpq, _, _⟩ := id hsv'
        refine G_tup rfl (SqT.fz hp (Fz.of xi)) rfl (Gs_cons (G_name (i := 10) rfl (Gs_cons (G_name (i := 11) rfl (Gs_nil ?_) nd)) nd))
        -- the rows read
        have accR : ∀ (j : Nat) (acc : List V) (Ha Hb : Hp), Fz Ha Hb → (∃ l : List (Nat × Nat), All2 (RdA K Ha) acc l ∧ (∀ wj ∈ l, wj.2 < 5) ∧ (l ≠ [] → 0 < reads rows)) → ∃ l : List (Nat × Nat), All2 (RdA K Hb) acc l ∧ (∀ wj ∈ l, wj.2 < 5) ∧ (l ≠ [] → 0 < reads rows) := fun _ _ _ _ e ⟨l, h1, h2⟩ => ⟨l, h1.mp fun _ _ t => t.fz e, h2⟩
        refine Ss_cons (S_lcLif (k := 12) 16 rfl nd rfl (by show blkC ["_law_script", "_law_many", "_law_eighths_here", "_law_rows_here", "_law_circuit", "_law_state_here", "_law_found", "_law_due", "_law_plain", "_law_wire", "_law_bits", "_law_branch", "_law_reads", "_law_told", "_law_part", "_law_again", "_law_row", "_law_one", "_law_more", "_law_same_here"] (defScope s_law) _ [(_, 16)] = true; decide +kernel) rfl ?_)
        refine E_var 3 rfl ?_
        refine ⟨lr, wr, fun _ acc Ha => ∃ l : List (Nat × Nat), All2 (RdA K Ha) acc l ∧ (∀ wj ∈ l, wj.2 < 5) ∧ (l ≠ [] → 0 < reads rows), rfl, SqL.of (xi _ _ hlr11), by rw [hwrl]; exact Nat.lt_of_le_of_lt hrl (by decide), fun _ _ => ⟨[], .nil, (fun _ h => nomatch h), fun h => absurd rfl h⟩, accR, ?_, ?_⟩
        · intro j y acc Ha hj e hl hA s0 H0 C cl fp
          obtain ⟨r, hr1, hrA⟩ := hwr11.get hj
          have hrA := hrA.fz (Fz.of (xi.trans e))
          obtain ⟨hrk, hrd⟩ := rows_at hok hr1
          cases r with
          | gate g =>
            obtain ⟨p2, q2, rfl, hp2, _⟩ := hrA
            refine T_cmp op_eqS ?_
            refine E_ixT ?_
            refine E_var 16 rfl ?_
            refine E_int ?_
            refine ⟨_, _, _, _, rfl, rfl, hp2, rfl, ?_⟩
            refine E_str ?_
            refine ⟨_, _, rfl, rfl, _, rfl, ?_⟩
            rw [decide_eq_false (show ¬ Str.ofString "gate" = Str.ofString "read" by decide +kernel)]
            exact iteF ⟨Evl.Ex.refl _, hA⟩
          | ask j' b g =>
            obtain ⟨p2, q2, rfl, hp2, _⟩ := hrA
            refine T_cmp op_eqS ?_
            refine E_ixT ?_
            refine E_var 16 rfl ?_
            refine E_int ?_
            refine ⟨_, _, _, _, rfl, rfl, hp2, rfl, ?_⟩
            refine E_str ?_
            refine ⟨_, _, rfl, rfl, _, rfl, ?_⟩
            rw [decide_eq_false (show ¬ Str.ofString "if" = Str.ofString "read" by decide +kernel)]
            exact iteF ⟨Evl.Ex.refl _, hA⟩
          | read wj j' =>
            obtain ⟨p2, rfl, hp2⟩ := hrA
            refine T_cmp op_eqS ?_
            refine E_ixT ?_
            refine E_var 16 rfl ?_
            refine E_int ?_
            refine ⟨_, _, _, _, rfl, rfl, hp2, rfl, ?_⟩
            refine E_str ?_
            refine ⟨_, _, rfl, rfl, _, rfl, ?_⟩
            rw [decide_eq_true rfl]
            refine iteT (fun s0 H0 C cl fp => ?_)
            refine E_var 16 rfl ?_
            obtain ⟨l, h1, h2, h3⟩ := hA
            refine ⟨Evl.Ex.refl _, l ++ [(wj, j')], h1.snoc ⟨p2, rfl, hp2⟩, fun u hu => ?_, fun _ => ?_⟩
            · rcases List.mem_append.mp hu with hu | hu
              · exact h2 u hu
              · rw [List.mem_singleton.mp hu]
                have q1 := hrk.2.1
                have q2 := hrk.2.2
                show j' < 5
                omega
            · have q3 : reads (rows.take (j + 1)) = reads (rows.take j) + 1 := hrd
              have q4 := reads_take_le rows (j + 1)
              omega
        intro lrd Hd yd zd ed hlrd hAd
        obtain ⟨rds, hrds, hrd5, hrd0⟩ := hAd
        have xd := xi.trans ed
        -- what stands behind the first test
        have inner : ∀ Ha, Ex H11 Ha → ∀ D : Ends, (∀ σ' H', (∃ z10 z11 z12 z13 z14 z15 : Option V, Ex H11 H' ∧ σ' = [some (.ref ls), some (.int (n : Nat)), some (.ref le), some (.ref lr), some (.ref yc), some (.ref ys), some (.ref lf), some vd, some (.bl (rows.all Rw.isGate)), some (.int (wi : Nat)), z10, z11, z12, z13, z14, z15, none, none, none, none]) → D.nx σ' H') → Ss (cxB P w K mg base lawN "law" s_law f cdv A outer s H E) (((fun st : Stmt => match st with | .For _ _ body _ _ => body | _ => []) ((defBody s_law).getD 12 (.Pass ⟨0, 0, 0, 0⟩))).drop 2) D
            [some (.ref ls), some (.int (n : Nat)), some (.ref le), some (.ref lr), some (.ref yc), some (.ref ys), some (.ref lf), some vd, some (.bl (rows.all Rw.isGate)), some (.int (wi : Nat)), some (.ref tb), some (.ref pq), some (.ref lrd), z13, z14, z15, none, none, none, none] Ha := by
          intro Ha xa D hD
          have hsa := hsv.ex xa
          -- read once more
          refine Ss_one (S_forL PassesOwn.never rfl (E_call (ok_run T) hr (As_cons (E_make (mk_Circuit T) (hr.mono (by decide)) (As_cons ?_)))))
          refine E_var 1 rfl ?_
          refine As_cons (E_lst (As_cons (E_make (mk_Reading T) (hr.mono (by decide)) (As_cons ?_))))
          refine E_var 9 rfl ?_
          refine As_cons ?_
          refine E_str ?_
          refine As_nil fun y1 d1 H31 u1 a1 q1 => ⟨y1, d1, _, _, rfl, q1, fun H32 b1 r1 => ⟨rfl, As_nil ⟨by show 1 ≤ sizeLine; decide, fun p33 H33 u33 a33 h33 => As_nil fun y2 d2 H34 u2 a2 q2 => ?_⟩⟩⟩
          have e132 := ExB.new a1 u1 b1
          refine ⟨H33, y2, d2, p33, [.ref y1], n, [.read wi 0], rfl, u2, a2, q2, h33, .cons ⟨y1, d1, rfl, a33 _ _ r1⟩ .nil, wd, ⟨⟨hwn, rfl, by decide⟩, trivial⟩, by show 1 ≤ 60; decide, fun H35 a35 hc35 => ⟨rfl, As_cons ?_⟩⟩
          refine E_var 11 rfl ?_
          have xa35 := e132.trans (a33.trans a35)
          refine As_nil ⟨.ref y2, .ref pq, n, 6 + rows.length, [.read wi 0], br.2, rfl, hc35, hsa.ex xa35, wd, ⟨⟨hwn, rfl, by decide⟩, trivial⟩, by show 1 ≤ 60; decide, hes, by omega, fun lx H36 vx a36 hlx hbx => ?_⟩
          have x36 := xa.trans (xa35.trans a36)
          have hxl : vx.length = (runM n [.read wi 0] br.2).length := hbx.len
          refine ⟨lx, vx, fun i' σ' H' => ∃ z13 z14 z15 : Option V, Ex H36 H' ∧ σ' = [some (.ref ls), some (.int (n : Nat)), some (.ref le), some (.ref lr), some (.ref yc), some (.ref ys), some (.ref lf), some vd, some (.bl (rows.all Rw.isGate)), some (.int (wi : Nat)), some (.ref tb), some (.ref pq), some (.ref lrd), z13, z14, z15, none, none, none, none], rfl, SqL.of hlx, ⟨z13, z14, z15, Evl.Ex.refl _, rfl⟩, ?_, ?_, ?_⟩
          · rintro i' σ' H' _ ⟨_, _, _, e, _⟩
            exact SqL.of (e _ _ hlx)
          · rintro i' x' σ' H' hi' ⟨w13, w14, w15, xi', rfl⟩
            obtain ⟨br', p', tb', sv', hb1', rfl, hp', htb', hsv'⟩ := br_bits hbx hi'
            obtain ⟨bb, rfl, hnz⟩ := read1 (List.mem_of_getElem? hb1')
            have hsv2 := hsv'.ex xi'
            obtain ⟨pq', dq', tq', vq', rfl, hpq', _, _⟩ := id hsv2
            refine G_tup rfl (SqT.fz hp' (Fz.of xi')) rfl (Gs_cons (G_name (i := 13) rfl (Gs_cons (G_name (i := 14) rfl (Gs_nil ?_) nd)) nd))
            refine Ss_cons (S_set (i := 15) rfl (E_call (ok_run T) hr (As_cons (E_make (mk_Circuit T) (hr.mono (by decide)) (As_cons ?_)))) nd)
            refine E_var 1 rfl ?_
            refine As_cons (E_lst (As_cons (E_make (mk_Reading T) (hr.mono (by decide)) (As_cons ?_))))
            refine E_var 9 rfl ?_
            refine As_cons ?_
            refine E_str ?_
            refine As_nil fun y3 d3 H41 u3 a3 q3 => ⟨y3, d3, _, _, rfl, q3, fun H42 b3 r3 => ⟨rfl, As_cons (E_make (mk_Reading T) (hr.mono (by decide)) (As_cons ?_))⟩⟩
            have e42 := ExB.new a3 u3 b3
            refine E_var 9 rfl ?_
            refine As_cons ?_
            refine E_str ?_
            refine As_nil fun y4 d4 H43 u4 a4 q4 => ⟨y4, d4, _, _, rfl, q4, fun H44 b4 r4 => ⟨rfl, As_nil ⟨by show 2 ≤ sizeLine; decide, fun p45 H45 u45 a45 h45 => As_nil fun y5 d5 H46 u5 a5 q5 => ?_⟩⟩⟩
            have e44 := ExB.new a4 u4 b4
            refine ⟨H45, y5, d5, p45, [.ref y3, .ref y4], n, [.read wi 0, .read wi 1], rfl, u5, a5, q5, h45, .cons ⟨y3, d3, rfl, (e44.trans a45) _ _ r3⟩ (.cons ⟨y4, d4, rfl, a45 _ _ r4⟩ .nil), wd, ⟨⟨hwn, rfl, by decide⟩, ⟨hwn, rfl, by show 1 < 5; decide⟩, trivial⟩, by show 2 ≤ 60; decide, fun H47 a47 hc47 => ⟨rfl, As_cons ?_⟩⟩
            refine E_var 14 rfl ?_
            have x47 := e42.trans (e44.trans (a45.trans a47))
            refine As_nil ⟨.ref y5, .ref pq', n, 6 + rows.length, [.read wi 0, .read wi 1], halfM n wi bb br.2, rfl, hc47, hsv2.ex x47, wd, ⟨⟨hwn, rfl, by decide⟩, ⟨hwn, rfl, by show 1 < 5; decide⟩, trivial⟩, by show 2 ≤ 60; decide, half_ok hes, by omega, fun lg H48 vg a48 hlg hbg => ?_⟩
            rw [again hnz] at hbg
            have x48 := x47.trans a48
            cases hbg with
            | cons hg hgt =>
              cases hgt
              obtain ⟨pg, tg, sg, rfl, hpg, htg, hsg⟩ := hg
              refine Ss_one (S_if (T_w (W_or (T_cmp (op_neLT hr.units) (E_lcP 18 19 (by decide) rfl nd rfl rfl (by show blkC lawN (defScope s_law) _ [(_, 18), (_, 19)] = true; decide +kernel) ?_)))))
              refine E_var 15 rfl ?_
              refine ⟨lg, [.ref pg], AccR (fun _ z _ => z = V.ref tg), rfl, SqL.of hlg, by show 1 < sizeLine; decide, fun H' _ => AccR.zero, AccR.fz (fun _ _ _ _ _ h => h), ?_, ?_⟩
              · intro m y acc Hc hm e hl hA
                have hy : y = .ref pg := by
                  match m, hm with
                  | 0, hm =>
                    cases hm
                    rfl
                refine ⟨pg, .ref tg, sg, hy, SqT.fz hpg (Fz.of e), fun s0 H0 C cl fp => ?_⟩
                refine E_var 18 rfl ?_
                exact ⟨Evl.Ex.refl _, AccR.snoc (fun _ _ _ _ _ h => h) hA (Evl.Ex.refl _) rfl⟩
              intro lc Hc yc' zc' ec' hlc hAc
              have hyc' : yc' = [V.ref tg] := by
                match yc', hAc with
                | [z], hAc =>
                  have := hAc.2 0 z rfl
                  rw [this]
              subst hyc'
              refine E_lst (As_cons (E_catT ?_))
              refine E_var 13 rfl ?_
              refine E_var 13 rfl ?_
              have htbc : SqT K Hc tb' (bitsV [bb]) := SqT.fz htb' (Fz.of (xi'.trans (x48.trans ec')))
              refine ⟨tb', tb', _, _, rfl, rfl, htbc, htbc, by show 2 ≤ sizeLine; decide, (fun z => nomatch z), fun p53 H53 e53 h53 => As_nil ⟨by show 1 ≤ sizeLine; decide, fun p54 H54 z54 e54 h54 => ?_⟩⟩
              have ec4 := e53.trans e54
              have t1 : TI K H54 (.ref tg) (bitsI [bb, bb]) := ⟨tg, rfl, by rw [← bitsV_I]; exact SqT.fz htg (Fz.of (ec'.trans ec4))⟩
              have t2 : TI K H54 (.ref p53) (bitsI [bb, bb]) := ⟨p53, rfl, by rw [← bitsV_I]; exact SqT.fz h53 (Fz.of e54)⟩
              refine ⟨lc, p54, [bitsI [bb, bb]], [bitsI [bb, bb]], rfl, rfl, ⟨_, SqL.of (ec4 _ _ hlc), .cons t1 .nil⟩, ⟨_, SqL.of h54, .cons t2 .nil⟩, _, rfl, ?_⟩
              rw [decide_eq_true rfl]
              have hsg2 := hsg.ex (ec'.trans ec4)
              obtain ⟨psg, dsg, tsg, vsg, rfl, hpsg, _, _⟩ := id hsg2
              refine iteF (W_or1 (T_cmp (op_neLT hr.units) (E_meth0 (ok_eighths T) T.c_State (hr.mono (by decide)) (E_ixT (E_ixL ?_)))))
              refine E_var 15 rfl ?_
              refine E_int ?_
              refine ⟨lg, _, _, _, rfl, rfl, SqL.of ((ec'.trans ec4) _ _ hlg), rfl, ?_⟩
              refine E_int ?_
              refine ⟨pg, _, _, _, rfl, rfl, SqT.fz hpg (Fz.of (ec'.trans ec4)), rfl, psg, dsg, _, rfl, hpsg, rfl, _, halfM n wi bb br.2, rfl, hsg2, fun l55 H55 w55 z55 e55 h55 k55 => E_meth0 (ok_eighths T) T.c_State (hr.mono (by decide)) ?_⟩
              refine E_var 14 rfl ?_
              have x55 := x48.trans (ec'.trans (ec4.trans e55))
              refine ⟨pq', dq', _, rfl, x55 _ _ hpq', rfl, _, halfM n wi bb br.2, rfl, hsv2.ex x55, fun l56 H56 w56 z56 e56 h56 k56 => ?_⟩
              refine ⟨l55, l56, _, _, rfl, rfl, ⟨w55, SqL.of (e56 _ _ h55), all2_fz k55 (Fz.of e56)⟩, ⟨w56, SqL.of h56, k56⟩, _, rfl, ?_⟩
              rw [decide_eq_true rfl]
              exact iteF (Ss_nil ⟨_, _, _, xi'.trans (x55.trans e56), rfl⟩)
          · rintro σ' H' ⟨w13, w14, w15, xe', rfl⟩
            exact hD _ _ ⟨_, _, _, w13, w14, w15, x36.trans xe', rfl⟩
        refine Ss_cons (S_if (T_w (W_and (T_cmp (op_neD hr.units) ?_))))
        refine E_var 12 rfl ?_
        refine E_lst ?_
        refine As_nil ?_
        refine ⟨by show 0 ≤ sizeLine; decide, fun p22 H22 z22 e22 h22 => ?_⟩
        refine ⟨.list (rds.map rdP), .list [], .lst (SqL.of (e22 _ _ hlrd)) (rd_dp (hrds.mp fun _ _ t => t.fz (Fz.of e22))), .lst (SqL.of h22) .nil, rd_sh hrd5, shNil, _, rfl, ?_⟩
        rw [eqvNil]
        have xd2 := xd.trans e22
        by_cases hr0 : rds = []
        · have eq0 : (!decide (rds.map rdP = [])) = false := by rw [hr0]; decide
          rw [eq0]
          refine iteF (iteF (Ss_nil ?_))
          exact inner H22 xd2 _ fun _ _ h => h
        · have eq1 : (!decide (rds.map rdP = [])) = true := by
            have : rds.map rdP ≠ [] := fun z => hr0 (List.map_eq_nil_iff.mp z)
            rw [decide_eq_false this]
            rfl
          rw [eq1]
          refine iteT (W_and1 (T_not (T_val (E_call (ok_less T) (hr.mono (by decide)) (As_cons ?_)))))
          refine E_tup ?_
          refine As_cons ?_
          refine E_int ?_
          refine As_cons ?_
          refine E_int ?_
          refine As_cons ?_
          refine E_int ?_
          refine As_nil ?_
          refine ⟨by show 3 ≤ sizeLine; decide, fun p23 H23 z23 e23 h23 => ?_⟩
          have xd3 := xd2.trans e23
          refine As_cons (E_meth0 (ok_length T) T.c_State (hr.mono (by decide)) ?_)
          refine E_var 11 rfl ?_
          refine ⟨pq, dq, _, rfl, (ed.trans (e22.trans e23)) _ _ hpq, rfl, _, br.2, rfl, hsv.ex xd3, bd_of hes hkb (hpb br hbm), by rw [hes.len]; omega, fun vl H24 e24 t24 => As_nil ⟨_, vl, stLen br.2, rfl, (TI.new h23 rfl).ex e24, t24, stLen_pos hes (bok.nz (hrd0 hr0) br hbm), len_bd hes hkb (hpb br hbm), fun H25 e25 => ⟨_, rfl, iteF (Ss_nil ?_)⟩⟩⟩
          exact inner H25 (xd3.trans (e24.trans e25)) _ fun _ _ h => h
      · rintro σ' H' ⟨z10, z11, z12, z13, z14, z15, xe, rfl⟩
        -- undone
        refine Ss_cons (S_if (T_not (T_val ?_)))
        refine E_var 8 rfl ?_
        refine ⟨_, rfl, ?_⟩
        cases hpl : rows.all Rw.isGate with
        | false => exact iteT (Ss_one (S_ret (E_bl (fin _))))
        | true =>
          refine iteF (Ss_nil ?_)
          obtain ⟨gs, rfl⟩ := all_gates hpl
          have hgs := gates_ok hok
          have hrun : runM n (gs.map Rw.gate) es = [([], gs.foldl (fun e g => onM n g e) es)] := run_gates n gs [] es
          have hes1 : EsOk n (6 + (gs.map Rw.gate).length) (gs.foldl (fun e g => onM n g e) es) := bok.es ([], _) (by rw [hrun]; simp)
          have hgl : gs.length ≤ 60 := by rw [List.length_map] at hrl; omega
          obtain ⟨pc2, dc2, tc2, tbc2, vc2, ec2, hpc2, _, _, _⟩ := id hcir11
          cases ec2
          have hbf12 := hbf11
          rw [hrun] at hbf12
          cases hbf12 with
          | cons hg hgt =>
            cases hgt
            obtain ⟨p0, t0, sv0, rfl, hp0, ht0, hsv0⟩ := hg
            refine Ss_one (S_ret (E_cmp (op_eqLT hr.units) (E_meth0 (ok_eighths T) T.c_State (hr.mono (by decide)) (E_ixT (E_ixL (E_call (ok_run T) hr (As_cons (E_meth0 (ok_cback T) T.c_Circuit hr ?_))))))))
            refine E_var 4 rfl ?_
            refine ⟨yc, dc2, _, rfl, xe _ _ hpc2, rfl, _, n, gs, rfl, hcir11.ex xe, wd, hgs, hgl, fun vb H51 e51 hcb => As_cons (E_ixT (E_ixL ?_))⟩
            refine E_var 6 rfl ?_
            refine E_int ?_
            have x51 := xe.trans e51
            refine ⟨lf, _, _, _, rfl, rfl, SqL.of (x51 _ _ hlf11), rfl, ?_⟩
            refine E_int ?_
            refine ⟨p0, _, _, sv0, rfl, rfl, SqT.fz hp0 (Fz.of x51), rfl, As_nil ⟨vb, sv0, n, 6 + (gs.map Rw.gate).length, (gs.reverse.map Gt.back).map Rw.gate, _, rfl, hcb, hsv0.ex x51, wd, rows_gates (gs := gs.reverse.map Gt.back) (fun g hg => ?_), by simp only [List.length_map, List.length_reverse]; exact hgl, hes1, by omega, fun lz H52 vz e52 hlz hbz => ?_⟩⟩
            · obtain ⟨x, hx, rfl⟩ := List.mem_map.mp hg
              exact back_ok (hgs x (List.mem_reverse.mp hx))
            have hrun2 : runM n ((gs.reverse.map Gt.back).map Rw.gate) (gs.foldl (fun e g => onM n g e) es) = [([], es)] := by
              have h1 : runM n ((gs.reverse.map Gt.back).map Rw.gate) (gs.foldl (fun e g => onM n g e) es) = [([], (gs.reverse.map Gt.back).foldl (fun e g => onM n g e) (gs.foldl (fun e g => onM n g e) es))] := run_gates n _ [] _
              rw [h1, undo_gates hn5 gs hgs he0]
            rw [hrun2] at hbz
            cases hbz with
            | cons hz hzt =>
              cases hzt
              obtain ⟨pz, tz, sz, rfl, hpz, htz, hsz⟩ := hz
              obtain ⟨psz, dsz, tsz, vsz, rfl, hpsz, _, _⟩ := id hsz
              refine E_int ?_
              refine ⟨lz, _, _, _, rfl, rfl, SqL.of hlz, rfl, ?_⟩
              refine E_int ?_
              refine ⟨pz, _, _, _, rfl, rfl, hpz, rfl, psz, dsz, _, rfl, hpsz, rfl, _, es, rfl, hsz, fun l55 H55 w55 z55 e55 h55 k55 => ?_⟩
              refine E_var 2 rfl ?_
              have x55 := x51.trans (e52.trans e55)
              refine ⟨l55, le, _, _, rfl, rfl, ⟨w55, SqL.of h55, k55⟩, ⟨we, SqL.of (x55 _ _ hle11), all2_fz hwe11 (Fz.of x55)⟩, ?_⟩
              rw [decide_eq_true rfl]
              exact fin _
    by_cases hz : (stLen es).ns = [0, 0, 0]
    · rw [decide_eq_true hz]
      exact iteF (iteF (Ss_nil (hrest _ x20)))
    · rw [decide_eq_false hz]
      refine iteT (W_and1 (T_cmp (op_eqNil hr.units) ?_))
      refine E_var 6 rfl ?_
      refine E_lst ?_
      refine As_nil ?_
      refine ⟨by show 0 ≤ sizeLine; decide, fun p21 H21 z21 e21 h21 => ?_⟩
      have hne : runM n rows es ≠ [] := run_some hn5 hok he0 fun z => hz (by rw [z]; rfl)
      have hvf : vf ≠ [] := by
        intro z
        rw [z] at hfl
        exact hne (List.length_eq_zero_iff.mp hfl.symm)
      refine ⟨lf, p21, vf, rfl, rfl, SqL.of (e21 _ _ (x20 _ _ hlf11)), SqL.of h21, _, rfl, ?_⟩
      rw [decide_eq_false hvf]
      exact iteF (Ss_nil (hrest _ (x20.trans e21)))
end
end BW

set_option Elab.async false
set_option linter.all false
set_option maxRecDepth 100000
set_option maxHeartbeats 4000000
namespace BW
open PySem PySem.Spec PyProof.Rows L2
theorem law_facts {P : Program} {w : World} {K : PySem.W.Frag} {h : Heap} {mg : Str → Option Value} {f : Addr} (X : K.In h) (G : h.Ns mainGlobals mg) (hfa : mg ("law" : Str) = some (.ref f)) (c : Says K) :
    ∃ fd : FuncData, (∀ (s : Shared) (v : Value), BindsTo s fd ⟨[v], []⟩ [("_law_script", v)]) ∧ ∀ base : Heap, K.In base → base.Ns mainGlobals mg → FnOk P w K mg base CX0 8 f fd ["_law_script"] (spLaw K) := by
  have T := txt_of X G c
  obtain ⟨fd, F⟩ := T.d_law
  have e := hfa.symm.trans T.g_law
  cases e
  have b := FunD.bindsA (ps := ["_law_script"]) F fun _ _ _ _ _ _ us hl => match us, hl with | [_], _ => rfl
  exact ⟨fd, fun s v => b s [v] rfl, fun base _ _ => in_law T F⟩
end BW
open PySem PySem.W PySem.Calls PyProof.Rows
theorem PySem.Challenge.cw_bothwire_k53_whole_chances_add_up_holds : PySem.Challenge.rw_bothwire_k53_whole_chances_add_up.Holds := by
  w_on; o_law
  refine HandSHeadRun.head_any (r := OpenLaw.row PySem.Challenge.rw_bothwire_k53_whole_chances_add_up) (q := view (OpenLaw.row PySem.Challenge.rw_bothwire_k53_whole_chances_add_up).prog [88]) (H := BW.hookX) (ob := BW.ob) (M := 20000) (loose := BW.loose) (d := HandSHeadRun.topDef (OpenLaw.row PySem.Challenge.rw_bothwire_k53_whole_chances_add_up).prog 88) (kwd := []) BW.ob_eq
    (by kernel_rfl) (fun s => by kernel_rfl) BW.run_top (by kernel_rfl) (by kernel_rfl) (by kernel_rfl) (by rfl) (by first | assumption | decide +kernel) (by decide +kernel) ⟨rfl, rfl, rfl, rfl, rfl, by decide +kernel⟩ ?hw ?hc
  case hw => w_witness2
  case hc =>
    refine L2.walk_ofE (l := PySem.Challenge.rw_bothwire_k53_whole_chances_add_up) (n := 63) (k := 8) (x := "_law_script") (CX := L2.CX0) rfl (by decide) (by kernel_rfl) ⟨rfl, by decide, by decide⟩ ?F (fun _ _ _ _ z => z)
    intro w mg fa h Y G hmg0
    obtain ⟨K, KX, c⟩ := Y
    have hmg : mg ("law" : PySem.Str) = some (.ref fa) := by
      have e : (HandSHeadRun.topDef (OpenLaw.row PySem.Challenge.rw_bothwire_k53_whole_chances_add_up).prog 88).name = ("law" : PySem.Str) := by kernel_rfl
      rw [← e]
      exact hmg0
    obtain ⟨fd, hb, hF⟩ := BW.law_facts (P := (PySem.Challenge.rw_bothwire_k53_whole_chances_add_up).prog) (w := w) KX G hmg c
    exact ⟨K, fd, BW.spLaw K, KX, hb, fun H a ns hl _ hS => ⟨a, ns, rfl, hS, hl, fun _ => rfl⟩, hF⟩

