import PyProof.Rows.All
import Wide.All
import OpenK.AllK
import Wide.FinOn
import HandS.ForMost
import HandS.ForExc
import HandS.Flow
import HandS.IsInst
import HandS.Wide
import HandS.Walk
import HandS.ExcIs
import HandS.TryElse
import HandS.TryMany
import HandS.HotCalls
import HandS.SuiteRaise
import HandS.TupAny
import HandS.Small
import HandS.SetKeys
import HandS.DictComp
import HandS.Rev
import HandS.More
import HandS.ExcValue
import KE.DataFind
import HandS.ReplaceLit
import HandS.ReplaceList
import KE.GoesEnum
import PySem.Challenge.RW_forestread_k13_a_row_with_it
set_option Elab.async false
set_option linter.all false
set_option maxRecDepth 100000
set_option maxHeartbeats 2000000
set_option autoImplicit false
/-! Weakest wishes of the pieces of a text: eW, tW, aW, sW, bW; rules by syntax. -/
namespace G
open PySem PySem.Spec PyProof.Rows L2 TL
structure eW (X : Cx) (e : Expr) (σ : L2.St) (H : Hp) (Q : VK) : Prop where
  run : ∀ pins s, Inv X pins σ H s → wpAny (model X.prog X.w) X.A (eval e X.env) (EP X pins σ Q) X.xe s
structure tW (X : Cx) (e : Expr) (σ : L2.St) (H : Hp) (Q : Bool → Hp → Prop) : Prop where
  run : ∀ pins s, Inv X pins σ H s → wpAny (model X.prog X.w) X.A (isTrue e X.env (eval e X.env)) (TP X pins σ Q) X.xe s
structure cW (X : Cx) (e : Expr) (σ : L2.St) (H : Hp) (Q : Bool → Hp → Prop) : Prop where
  run : ∀ whole pins s, Inv X pins σ H s → wpAny (model X.prog X.w) X.A (isTrue e X.env whole) (TP X pins σ Q) X.xe s
structure aW (X : Cx) (es : List Expr) (σ : L2.St) (H : Hp) (Q : List V → Hp → Prop) : Prop where
  run : ∀ pos pins s, Inv X pins σ H s → wpAny (model X.prog X.w) X.A (spliced (backTo pos (starEach es X.env))) (AP X pins σ Q) X.xe s
structure sW (X : Cx) (st : Stmt) (D : Ends) (σ : L2.St) (H : Hp) : Prop where
  run : ∀ pins s, Inv X pins σ H s → wpAny (model X.prog X.w) X.A (exec st X.env) (SP X pins D) X.xe s
structure bW (X : Cx) (b : List Stmt) (D : Ends) (σ : L2.St) (H : Hp) : Prop where
  run : ∀ pins s, Inv X pins σ H s → wpAny (model X.prog X.w) X.A (execs b X.env) (SP X pins D) X.xe s
structure gW (X : Cx) (e : Expr) (v : V) (σ : L2.St) (H : Hp) (Q : L2.St → Hp → Prop) : Prop where
  run : ∀ pins s u, Inv X pins σ H s → RelV v u → wpAny (model X.prog X.w) X.A (assign e X.env u) (fun _ s' => ∃ σ' H', Inv X pins σ' H' s' ∧ Q σ' H') X.xe s
structure oW (X : Cx) (f : Value → Value → Sem Value) (x y : V) (H : Hp) (Q : VK) : Prop where
  run : ∀ pins s σ v u, Inv X pins σ H s → RelV x v → RelV y u → wpAny (model X.prog X.w) X.A (f v u) (EP X pins σ Q) X.xe s
structure uW (X : Cx) (f : Value → Sem Value) (x : V) (H : Hp) (Q : VK) : Prop where
  run : ∀ pins s σ v, Inv X pins σ H s → RelV x v → wpAny (model X.prog X.w) X.A (f v) (EP X pins σ Q) X.xe s
structure kW (X : Cx) (f : Value) (xs : List V) (H : Hp) (Q : VK) : Prop where
  run : ∀ pins s σ us, Inv X pins σ H s → Vals xs us → wpAny (model X.prog X.w) X.A (call f us) (EP X pins σ Q) X.xe s
section
variable {X : Cx} {e : Expr} {es : List Expr} {st : Stmt} {b : List Stmt}
theorem PEw : PE X e (eW X e) := ⟨fun pins s _ _ _ I h => h.run pins s I⟩
theorem PTw : PT X e (tW X e) := ⟨fun pins s _ _ _ I h => h.run pins s I⟩
theorem PWw : PW X e (cW X e) := ⟨fun wh pins s _ _ _ I h => h.run wh pins s I⟩
theorem PAw : PA X es (aW X es) := ⟨fun pos pins s _ _ _ I h => h.run pos pins s I⟩
theorem PSw : PS X st (sW X st) := ⟨fun pins s _ _ _ I h => h.run pins s I⟩
theorem PBw : PSs X b (bW X b) := ⟨fun pins s _ _ _ I h => h.run pins s I⟩
theorem PGw : PG X e (gW X e) := ⟨fun pins s _ _ v u _ I r h => h.run pins s u I r⟩
theorem OPw {f : Value → Value → Sem Value} : OpR X f (oW X f) := fun pins s σ H x y v u Q I rx ry h => h.run pins s σ v u I rx ry
theorem UNw {f : Value → Sem Value} : UnR X f (uW X f) := fun pins s σ H x v Q I rx h => h.run pins s σ v I rx
theorem KRw {f : Value} : CallR X f (kW X f) := fun pins s σ H xs us Q I r h => h.run pins s σ us I r
theorem eI {t : TE} {σ : L2.St} {H : Hp} {Q : VK} (h : PE X e t) (q : t σ H Q) : eW X e σ H Q := ⟨fun pins s I => h.run pins s σ H Q I q⟩
theorem tI {t : TT} {σ : L2.St} {H : Hp} {Q : Bool → Hp → Prop} (h : PT X e t) (q : t σ H Q) : tW X e σ H Q := ⟨fun pins s I => h.run pins s σ H Q I q⟩
theorem cI {t : TT} {σ : L2.St} {H : Hp} {Q : Bool → Hp → Prop} (h : PW X e t) (q : t σ H Q) : cW X e σ H Q := ⟨fun wh pins s I => h.run wh pins s σ H Q I q⟩
theorem aI {t : TA} {σ : L2.St} {H : Hp} {Q : List V → Hp → Prop} (h : PA X es t) (q : t σ H Q) : aW X es σ H Q := ⟨fun pos pins s I => h.run pos pins s σ H Q I q⟩
theorem sI {t : TS} {D : Ends} {σ : L2.St} {H : Hp} (h : PS X st t) (q : t D σ H) : sW X st D σ H := ⟨fun pins s I => h.run pins s σ H D I q⟩
theorem bI {t : TS} {D : Ends} {σ : L2.St} {H : Hp} (h : PSs X b t) (q : t D σ H) : bW X b D σ H := ⟨fun pins s I => h.run pins s σ H D I q⟩
theorem gI {t : TG} {v : V} {σ : L2.St} {H : Hp} {Q : L2.St → Hp → Prop} (h : PG X e t) (q : t v σ H Q) : gW X e v σ H Q := ⟨fun pins s u I r => h.run pins s σ H v u Q I r q⟩
theorem oI {f : Value → Value → Sem Value} {r : R2} {x y : V} {H : Hp} {Q : VK} (h : OpR X f r) (q : r x y H Q) : oW X f x y H Q := ⟨fun pins s σ v u I rx ry => h pins s σ H x y v u Q I rx ry q⟩
theorem uI {f : Value → Sem Value} {r : V → Hp → VK → Prop} {x : V} {H : Hp} {Q : VK} (h : UnR X f r) (q : r x H Q) : uW X f x H Q := ⟨fun pins s σ v I rx => h pins s σ H x v Q I rx q⟩
theorem kI {f : Value} {r : List V → Hp → VK → Prop} {xs : List V} {H : Hp} {Q : VK} (h : CallR X f r) (q : r xs H Q) : kW X f xs H Q := ⟨fun pins s σ us I rx => h pins s σ H xs us Q I rx q⟩
theorem eMono {σ : L2.St} {H : Hp} {Q Q' : VK} (h : eW X e σ H Q) (i : ∀ v H', Q v H' → Q' v H') : eW X e σ H Q' := ⟨fun pins s I => wpAny_mono (h.run pins s I) (fun _ _ ⟨v, H', a, b, c⟩ => ⟨v, H', a, b, i v H' c⟩) fun _ _ x => x⟩
theorem tMono {σ : L2.St} {H : Hp} {Q Q' : Bool → Hp → Prop} (h : tW X e σ H Q) (i : ∀ v H', Q v H' → Q' v H') : tW X e σ H Q' := ⟨fun pins s I => wpAny_mono (h.run pins s I) (fun _ _ ⟨H', a, c⟩ => ⟨H', a, i _ H' c⟩) fun _ _ x => x⟩
end

/-! ### what a context tells -/
def cxr (P : Program) (w : World) (K : PySem.W.Frag) (mg : Str → Option Value) (base : Heap) (N : List Str) (q : Str) (st : Stmt) (f : Addr) (cd : Value) (A : Around) (outer : List Env) (s : Shared) (H : Hp) (E : XK) : Cx := cxOf (L2.CX P w) P w K mg base N q (defScope st) f cd A outer s H E
class CxN (X : Cx) (N : outParam (List Str)) : Prop where h : X.N = N
class CxK (X : Cx) (K : outParam PySem.W.Frag) : Prop where h : X.K = K
class CxM (X : Cx) (mg : outParam (Str → Option Value)) : Prop where h : X.mg = mg
class CxC (X : Cx) : Prop where h : X.calm = true
class CxO (X : Cx) : Prop where h : PassesOwn (model X.prog X.w) X.A X.env X.xe
class CxT (X : Cx) (W : outParam WX) : Prop where h : Takes X W
/-- the slot of a name -/
class Slt (N : List Str) (x : Str) (i : outParam Nat) : Prop where h : N[i]? = some x
instance (priority := high) slt0 {x : Str} {N : List Str} : Slt (x :: N) x 0 := ⟨rfl⟩
instance slt1 {x y : Str} {N : List Str} {i : Nat} [s : Slt N x i] : Slt (y :: N) x (i + 1) := ⟨s.h⟩
class Blt (x : Str) (v : outParam Value) : Prop where h : bootBuiltins x = some v
instance : Blt "len" (.builtin "len") := ⟨boot_len⟩
instance : Blt "isinstance" (.builtin "isinstance") := ⟨boot_isinstance⟩
instance : Blt "min" (.builtin "min") := ⟨boot_min⟩
instance : Blt "max" (.builtin "max") := ⟨boot_max⟩
instance : Blt "sorted" (.builtin "sorted") := ⟨boot_sorted⟩
instance : Blt "sum" (.builtin "sum") := ⟨boot_sum⟩
instance : Blt "any" (.builtin "any") := ⟨boot_any⟩
instance : Blt "all" (.builtin "all") := ⟨boot_all⟩
instance : Blt "abs" (.builtin "abs") := ⟨boot_abs⟩
instance : Blt "ord" (.builtin "ord") := ⟨boot_ord⟩
instance : Blt "chr" (.builtin "chr") := ⟨boot_chr⟩
instance : Blt "range" (.type "range") := ⟨boot_range⟩
instance : Blt "list" (.type "list") := ⟨boot_list⟩
instance : Blt "tuple" (.type "tuple") := ⟨boot_tuple⟩
instance : Blt "int" (.type "int") := ⟨boot_int⟩
instance : Blt "str" (.type "str") := ⟨boot_str⟩
instance : Blt "bool" (.type "bool") := ⟨boot_bool⟩
instance : Blt "set" (.type "set") := ⟨boot_set⟩
instance : Blt "dict" (.type "dict") := ⟨boot_dict⟩
instance : Blt "enumerate" (.type "enumerate") := ⟨boot_enumerate⟩
instance : Blt "zip" (.type "zip") := ⟨boot_zip⟩
instance : Blt "reversed" (.type "reversed") := ⟨boot_reversed⟩
instance : Blt "ValueError" (.type "ValueError") := ⟨by decide +kernel⟩
/-- what a name of the module holds -/
class Gn (mg : Str → Option Value) (x : Str) (v : outParam (Option Value)) : Prop where h : mg x = v
section
variable {P : Program} {w : World} {K : PySem.W.Frag} {mg : Str → Option Value} {base : Heap} {N : List Str} {q : Str} {st : Stmt} {f : Addr} {cd : Value} {A : Around} {outer : List Env} {s : Shared} {H : Hp} {E : XK}
instance : CxN (cxr P w K mg base N q st f cd A outer s H E) N := ⟨rfl⟩
instance : CxK (cxr P w K mg base N q st f cd A outer s H E) K := ⟨rfl⟩
instance : CxM (cxr P w K mg base N q st f cd A outer s H E) mg := ⟨rfl⟩
instance : CxC (cxr P w K mg base N q st f cd A outer s H E) := ⟨rfl⟩
instance : CxO (cxr P w K mg base N q st f cd A outer s H E) := ⟨passes_of (X := cxr P w K mg base N q st f cd A outer s H E) rfl⟩
instance : CxT (cxr P w K mg base N q st f cd A outer s H E) (fun cls d _ H => E cls d H) := ⟨takes_of (X := cxr P w K mg base N q st f cd A outer s H E) rfl rfl rfl rfl⟩
end
section
variable {X : Cx} {s : Shared} {H : Hp} {sc : Scope} {ce : Env} {fp : List Addr} {pn : List (Addr × Obj)} {xe : Value → Shared → Prop} {a : Addr}
instance {N : List Str} [c : CxN X N] : CxN (X.blk s H sc ce fp) N := ⟨c.h⟩
instance {K : PySem.W.Frag} [c : CxK X K] : CxK (X.blk s H sc ce fp) K := ⟨c.h⟩
instance {mg : Str → Option Value} [c : CxM X mg] : CxM (X.blk s H sc ce fp) mg := ⟨c.h⟩
instance [c : CxC X] : CxC (X.blk s H sc ce fp) := ⟨c.h⟩
instance : CxT (X.blk s H sc ce fp) (fun _ _ _ _ => False) := ⟨takes0⟩
instance {N : List Str} [c : CxN X N] : CxN (X.tr pn xe) N := ⟨c.h⟩
instance {K : PySem.W.Frag} [c : CxK X K] : CxK (X.tr pn xe) K := ⟨c.h⟩
instance {mg : Str → Option Value} [c : CxM X mg] : CxM (X.tr pn xe) mg := ⟨c.h⟩
instance [c : CxC X] : CxC (X.tr pn xe) := ⟨c.h⟩
instance {N : List Str} [c : CxN X N] : CxN (X.suite a pn) N := ⟨c.h⟩
instance {K : PySem.W.Frag} [c : CxK X K] : CxK (X.suite a pn) K := ⟨c.h⟩
instance {mg : Str → Option Value} [c : CxM X mg] : CxM (X.suite a pn) mg := ⟨c.h⟩
end

/-! ### expressions -/
section
variable {X : Cx} {σ : L2.St} {H : Hp} {Q : VK} {pos p2 p3 p4 : Pos} {a b c : Expr} {rest : List Expr}
theorem e_var {N : List Str} {x : Str} {i : Nat} {v : V} [cn : CxN X N] [sl : Slt N x i] (hs : σ[i]? = some (some v)) (q : Q v H)
    (hv : Vis X.env.scope x := by first | exact Or.inl rfl | exact Or.inr (Or.inl rfl) | exact Or.inr (Or.inr rfl)) (hd : (x == ("__debug__" : Str)) = false := by decide) (hcd : (x == ("__classdict__" : Str)) = false := by decide) : eW X (.Name x pos) σ H Q :=
  eI (pe_var (i := i) (by rw [cn.h]; exact sl.h) hv hd hcd) ⟨v, hs, q⟩
theorem e_int {i : Int} {j : Nat} (q : Q (.int i) H) : eW X (.Constant (.int i) j pos) σ H Q := eI pe_int q
theorem e_bl {i : Bool} {j : Nat} (q : Q (.bl i) H) : eW X (.Constant (.bool i) j pos) σ H Q := eI pe_bl q
theorem e_non {j : Nat} (q : Q .non H) : eW X (.Constant .none j pos) σ H Q := eI pe_non q
theorem e_str {x : Str} {j : Nat} (q : Q (.str x) H) : eW X (.Constant (.str x) j pos) σ H Q := eI pe_str q
theorem e_glob {mg : Str → Option Value} {x : Str} {u : Value} {v : V} [cm : CxM X mg] [g : Gn mg x (some u)] (r : RelV v u) (q : Q v H) (hg : Gl X x := by rfl) (hd : (x == ("__debug__" : Str)) = false := by decide) : eW X (.Name x pos) σ H Q :=
  eI (pe_glob hg (by rw [cm.h]; exact g.h) r hd) q
theorem e_globR {mg : Str → Option Value} {x : Str} {f : Addr} [cm : CxM X mg] [g : Gn mg x (some (.ref f))] (q : Q (.ref f) H) (hg : Gl X x := by rfl) (hd : (x == ("__debug__" : Str)) = false := by decide) : eW X (.Name x pos) σ H Q :=
  eI (pe_glob (v := .ref f) hg (by rw [cm.h]; exact g.h) rfl hd) q
theorem e_globI {mg : Str → Option Value} {x : Str} {i : Int} {t : Tok} [cm : CxM X mg] [g : Gn mg x (some (.int i t))] (q : Q (.int i) H) (hg : Gl X x := by rfl) (hd : (x == ("__debug__" : Str)) = false := by decide) : eW X (.Name x pos) σ H Q :=
  eI (pe_glob (v := .int i) hg (by rw [cm.h]; exact g.h) ⟨_, rfl⟩ hd) q
theorem e_globS {mg : Str → Option Value} {x : Str} {i : Str} {t : Tok} [cm : CxM X mg] [g : Gn mg x (some (.str i t))] (q : Q (.str i) H) (hg : Gl X x := by rfl) (hd : (x == ("__debug__" : Str)) = false := by decide) : eW X (.Name x pos) σ H Q :=
  eI (pe_glob (v := .str i) hg (by rw [cm.h]; exact g.h) ⟨_, rfl⟩ hd) q
theorem e_ty {mg : Str → Option Value} {x : Str} {n : String} [cm : CxM X mg] [g : Gn mg x none] [bl : Blt x (.type n)] (q : Q (.ty n) H) (hg : Gl X x := by rfl) (hn : x ≠ "__name__" := by decide) (hd : (x == ("__debug__" : Str)) = false := by decide) : eW X (.Name x pos) σ H Q :=
  eI (pe_bltn (v := .ty n) hg (by rw [cm.h]; exact g.h) bl.h rfl hn hd) q
theorem e_bin {op : Operator} (h : eW X a σ H fun x H1 => eW X b σ H1 fun y H2 => oW X (binaryOp op) x y H2 Q) : eW X (.BinOp a op b pos) σ H Q := eI (pe_op OPw PEw PEw) h
theorem e_un {op : UnaryOp} (h : eW X a σ H fun x H1 => uW X (unaryOp op) x H1 Q) : eW X (.UnaryOp op a pos) σ H Q := eI (pe_un UNw PEw) h
theorem e_cmp {op : CmpOp} (h : eW X a σ H fun x H1 => eW X b σ H1 fun y H2 => oW X (compareOp op) x y H2 Q) (hm : behindInMarks op b = false := by first | exact nomark _ | rfl) : eW X (.Compare a [op] [b] pos) σ H Q := eI (pe_cmpR OPw PEw PEw hm) h
theorem e_isN {j : Nat} (h : eW X a σ H fun x H1 => Q (.bl (decide (x = .non))) H1) : eW X (.Compare a [.Is] [.Constant .none j p2] pos) σ H Q := eI (pe_cmp (pc_isN PEw) rfl) h
theorem e_notN {j : Nat} (h : eW X a σ H fun x H1 => Q (.bl (!decide (x = .non))) H1) : eW X (.Compare a [.IsNot] [.Constant .none j p2] pos) σ H Q := eI (pe_cmp (pc_notN PEw) rfl) h
theorem e_ifE {t : Expr} (h : tW X t σ H fun k H1 => if k = true then eW X a σ H1 Q else eW X b σ H1 Q) : eW X (.IfExp t a b pos) σ H Q := eI (pe_ifExp PTw PEw PEw) h
theorem e_one {op : BoolOp} (h : eW X a σ H Q) : eW X (.BoolOp op [a] pos) σ H Q := eI (pe_one PEw) h
theorem e_and (h : eW X a σ H fun x H1 => ∃ k, x = .bl k ∧ if k = true then eW X (.BoolOp .And (b :: rest) pos) σ H1 Q else Q (.bl false) H1) : eW X (.BoolOp .And (a :: b :: rest) pos) σ H Q := eI (pe_and PEw PEw) h
theorem e_or (h : eW X a σ H fun x H1 => ∃ k, x = .bl k ∧ if k = true then Q (.bl true) H1 else eW X (.BoolOp .Or (b :: rest) pos) σ H1 Q) : eW X (.BoolOp .Or (a :: b :: rest) pos) σ H Q := eI (pe_or PEw PEw) h
theorem e_not (h : eW X a σ H fun x H1 => ∃ k, x = .bl k ∧ Q (.bl (!k)) H1) : eW X (.UnaryOp .Not a pos) σ H Q := eI (pe_not PEw) h
theorem e_tup {es : List Expr} {k : Nat} (h : aW X es σ H fun xs H1 => xs.length ≤ sizeLine ∧ ∀ p, H1 p = none → Q (.ref p) (upd H1 p (.tup xs))) : eW X (.Tuple es k pos) σ H Q := eI (pe_tup PAw) h
theorem e_lst {es : List Expr} (h : aW X es σ H fun xs H1 => xs.length ≤ sizeLine ∧ ∀ p, H1 p = none → Q (.ref p) (upd H1 p (.lst xs))) : eW X (.List es pos) σ H Q := eI (pe_lst PAw) h
/-- and, or of two truths whose joint answer is told -/
theorem e_andJ {d : Bool} (h : eW X a σ H fun x H1 => ∃ k, x = .bl k ∧ (k = true → ∀ Q' : VK, Q' (.bl d) H1 → eW X (.BoolOp .And (b :: rest) pos) σ H1 Q') ∧ Q (.bl (k && d)) H1) : eW X (.BoolOp .And (a :: b :: rest) pos) σ H Q :=
  e_and (eMono h fun x H1 ⟨k, e, h1, h2⟩ => ⟨k, e, by cases k with | true => exact (h1 rfl _ h2) | false => exact h2⟩)
theorem e_orJ {d : Bool} (h : eW X a σ H fun x H1 => ∃ k, x = .bl k ∧ (k = false → ∀ Q' : VK, Q' (.bl d) H1 → eW X (.BoolOp .Or (b :: rest) pos) σ H1 Q') ∧ Q (.bl (k || d)) H1) : eW X (.BoolOp .Or (a :: b :: rest) pos) σ H Q :=
  e_or (eMono h fun x H1 ⟨k, e, h1, h2⟩ => ⟨k, e, by cases k with | true => exact h2 | false => exact (h1 rfl _ h2)⟩)
/-- a chain of two comparisons -/
theorem e_chain {op op' : CmpOp} (h : eW X a σ H fun x H1 => eW X b σ H1 fun y H2 => oW X (compareOp op) x y H2 fun z H3 => ∃ k, z = .bl k ∧ (if k = true then eW X c σ H3 (fun w' H4 => oW X (compareOp op') y w' H4 Q) else Q (.bl false) H3))
    (hm : lastMarks [op, op'] [b, c] = false := by with_unfolding_all rfl) : eW X (.Compare a [op, op'] [b, c] pos) σ H Q := eI (pe_chain OPw OPw PEw PEw PEw hm) h
theorem t_chain {op op' : CmpOp} {R : Bool → Hp → Prop} (h : eW X a σ H fun x H1 => eW X b σ H1 fun y H2 => oW X (compareOp op) x y H2 fun z H3 => ∃ k, z = .bl k ∧ (if k = true then eW X c σ H3 (fun w' H4 => oW X (compareOp op') y w' H4 fun u H5 => ∃ k, u = .bl k ∧ R k H5) else (∃ k', V.bl false = .bl k' ∧ R k' H3)))
    (hm : lastMarks [op, op'] [b, c] = false := by with_unfolding_all rfl) : tW X (.Compare a [op, op'] [b, c] pos) σ H R := tI (pt_chain OPw OPw PEw PEw PEw hm) h

/-! ### arguments -/
theorem a_nil {R : List V → Hp → Prop} (h : R [] H) : aW X [] σ H R := aI pa_nil h
theorem a_cons {es : List Expr} {R : List V → Hp → Prop} (h : eW X a σ H fun x H1 => aW X es σ H1 fun xs H2 => R (x :: xs) H2) (hs : starEach (a :: es) X.env = (false, eval a X.env) :: starEach es X.env := by rfl) : aW X (a :: es) σ H R := aI (pa_cons PEw PAw hs) h

/-! ### tests -/
variable {R : Bool → Hp → Prop}
theorem t_val {e : Expr} (h : eW X e σ H fun x H1 => ∃ k, x = .bl k ∧ R k H1) (he : ∀ whole, isTrue e X.env whole = (do let v ← whole; standAt e.pos; holding [v] (truthy v)) := by intro _; rfl) : tW X e σ H R := tI (pt_val PEw he) h
theorem t_tru {e : Expr} (h : eW X e σ H fun x H1 => ∃ k, TruV X.K x H1 k ∧ R k H1) (he : ∀ whole, isTrue e X.env whole = (do let v ← whole; standAt e.pos; holding [v] (truthy v)) := by intro _; rfl) : tW X e σ H R := tI (pt_truth PEw he) h
theorem t_cmp {op : CmpOp} (h : eW X a σ H fun x H1 => eW X b σ H1 fun y H2 => oW X (compareOp op) x y H2 fun z H3 => ∃ k, z = .bl k ∧ R k H3) (hm : behindInMarks op b = false := by first | exact nomark _ | rfl) : tW X (.Compare a [op] [b] pos) σ H R := tI (pt_cmpR OPw PEw PEw hm) h
theorem t_isN {j : Nat} (h : eW X a σ H fun x H1 => R (decide (x = .non)) H1) : tW X (.Compare a [.Is] [.Constant .none j p2] pos) σ H R := tI (pt_cmp (pc_isN PEw) rfl) (eMono h fun _ _ q => ⟨_, rfl, q⟩)
theorem t_notN {j : Nat} (h : eW X a σ H fun x H1 => R (!decide (x = .non)) H1) : tW X (.Compare a [.IsNot] [.Constant .none j p2] pos) σ H R := tI (pt_cmp (pc_notN PEw) rfl) (eMono h fun _ _ q => ⟨_, rfl, q⟩)
theorem t_not (h : tW X a σ H fun k H1 => R (!k) H1) : tW X (.UnaryOp .Not a pos) σ H R := tI (pt_not PTw) h
theorem t_and (h : cW X (.BoolOp .And rest pos) σ H R) : tW X (.BoolOp .And rest pos) σ H R := tI (PWw).pt h
theorem t_or (h : cW X (.BoolOp .Or rest pos) σ H R) : tW X (.BoolOp .Or rest pos) σ H R := tI (PWw).pt h
theorem c_and1 (h : tW X a σ H R) : cW X (.BoolOp .And [a] pos) σ H R := cI (pw_and1 PTw) h
theorem c_or1 (h : tW X a σ H R) : cW X (.BoolOp .Or [a] pos) σ H R := cI (pw_or1 PTw) h
theorem c_and (h : tW X a σ H fun k H1 => if k = true then cW X (.BoolOp .And (b :: rest) pos) σ H1 R else R false H1) : cW X (.BoolOp .And (a :: b :: rest) pos) σ H R := cI (pw_and PTw PWw) h
theorem c_or (h : tW X a σ H fun k H1 => if k = true then R true H1 else cW X (.BoolOp .Or (b :: rest) pos) σ H1 R) : cW X (.BoolOp .Or (a :: b :: rest) pos) σ H R := cI (pw_or PTw PWw) h
/-- .. joined: the answer of both is told -/
theorem c_andJ {d : Bool} (h : tW X a σ H fun k H1 => (k = true → ∀ R' : Bool → Hp → Prop, R' d H1 → cW X (.BoolOp .And (b :: rest) pos) σ H1 R') ∧ R (k && d) H1) : cW X (.BoolOp .And (a :: b :: rest) pos) σ H R :=
  c_and (tMono h fun k H1 ⟨h1, h2⟩ => by cases k with | true => exact (h1 rfl _ h2) | false => exact h2)
theorem c_orJ {d : Bool} (h : tW X a σ H fun k H1 => (k = false → ∀ R' : Bool → Hp → Prop, R' d H1 → cW X (.BoolOp .Or (b :: rest) pos) σ H1 R') ∧ R (k || d) H1) : cW X (.BoolOp .Or (a :: b :: rest) pos) σ H R :=
  c_or (tMono h fun k H1 ⟨h1, h2⟩ => by cases k with | true => exact h2 | false => exact (h1 rfl _ h2))
end

/-! ### statements -/
@[reducible] def Dsq (X : Cx) (more : List Stmt) (D : Ends) : Ends := { D with nx := bW X more D }
@[reducible] def Dlp (D : Ends) (N : L2.St → Hp → Prop) : Ends := { D with nx := N, ct := N, bk := D.nx }
@[reducible] def Dnx (D : Ends) (N : L2.St → Hp → Prop) : Ends := { D with nx := N }
section
variable {X : Cx} {σ : L2.St} {H : Hp} {D : Ends} {pos p2 p3 p4 : Pos} {e it tg : Expr} {st : Stmt} {body more : List Stmt}
theorem b_nil (h : D.nx σ H) : bW X [] D σ H := bI pss_nil h
theorem b_cons (h : sW X st (Dsq X more D) σ H) : bW X (st :: more) D σ H := bI (pss_cons PSw PBw) h
theorem b_one (h : sW X st D σ H) : bW X [st] D σ H := bI (pss_one PSw) h
theorem s_ret (h : eW X e σ H D.rt) : sW X (.Return (some e) pos) D σ H := sI (ps_ret PEw) h
theorem s_retN (h : D.rt .non H) : sW X (.Return none pos) D σ H := sI ps_retN h
theorem s_pass (h : D.nx σ H) : sW X (.Pass pos) D σ H := sI ps_pass h
theorem s_brk (h : D.bk σ H) : sW X (.Break pos) D σ H := sI ps_break h
theorem s_cont (h : D.ct σ H) : sW X (.Continue pos) D σ H := sI ps_continue h
theorem s_expr (h : eW X e σ H fun _ H1 => D.nx σ H1) (hs : swapsWith e none pos.line X.env = pure false := by rfl) : sW X (.Expr e pos) D σ H := sI (ps_expr PEw hs) h
theorem s_if {t : Expr} {x y : List Stmt} (h : tW X t σ H fun k H1 => if k = true then bW X x D σ H1 else bW X y D σ H1) : sW X (.If t x y pos) D σ H := sI (ps_if PTw PBw PBw) h
class NdN (N : List Str) : Prop where h : N.Nodup
theorem s_set {N : List Str} {x : Str} {i : Nat} [cn : CxN X N] [sl : Slt N x i] [nd : NdN N] (h : eW X e σ H fun v H1 => D.nx (σ.set i (some v)) H1) (hx : Loc X.env.scope x := by first | exact Or.inl rfl | exact Or.inr rfl) (hs : swapsWith e (some (.Name x p2)) pos.line X.env = pure false := by rfl)
    (hf : X.fn x = true ∨ X.env.scope.names.lookup x = some .local := by first | exact .inl rfl | exact .inr rfl | assumption) : sW X (.Assign [.Name x p2] e pos) D σ H :=
  sI (ps_set (i := i) (by rw [cn.h]; exact nd.h) (by rw [cn.h]; exact sl.h) hx PEw hs hf) h
theorem g_name {N : List Str} {x : Str} {i : Nat} {v : V} {Q : L2.St → Hp → Prop} [cn : CxN X N] [sl : Slt N x i] [nd : NdN N] (h : Q (σ.set i (some v)) H) (hx : Loc X.env.scope x := by first | exact Or.inl rfl | exact Or.inr rfl)
    (hf : X.fn x = true ∨ X.env.scope.names.lookup x = some .local := by first | exact .inl rfl | exact .inr rfl | assumption) : gW X (.Name x pos) v σ H Q :=
  gI (pg_name (i := i) (by rw [cn.h]; exact nd.h) (by rw [cn.h]; exact sl.h) hx hf) h
theorem s_asg (h : eW X e σ H fun v H1 => gW X tg v σ H1 D.nx) (hs : swapsWithSole [tg] e pos.line X.env = pure false := by rfl) (hw : swappedStores [tg] e X.env = pure none := by rfl)
    (h1 : (assignEach [tg] X.env).map (·.2) = [assign tg X.env] := by rfl) : sW X (.Assign [tg] e pos) D σ H := sI (ps_asg PEw PGw hs hw h1) h
/-- while: W by what is left -/
theorem s_while {c : Expr} [ow : CxO X] (W : Nat → L2.St → Hp → Prop) (m : Nat) (h0 : W m σ H)
    (h : ∀ m σ H, W m σ H → tW X c σ H fun b H1 => if b = true then bW X body (Dlp D fun σ' H' => ∃ m', m' < m ∧ W m' σ' H') σ H1 else D.nx σ H1) : sW X (.While c body [] pos) D σ H :=
  sI (ps_while ow.h PTw PBw) ⟨W, ⟨m, h0⟩, fun m σ H w => tMono (h m σ H w) fun b H1 q => by
    cases b with
    | true => exact ⟨_, fun _ _ z => z, q⟩
    | false => exact q⟩
theorem s_forL [ow : CxO X] [cc : CxC X] (h : eW X it σ H fun x H1 => ∃ a xs, x = .ref a ∧ SqL X.K H1 a xs ∧ ∃ Pv : Nat → L2.St → Hp → Prop, Pv 0 σ H1 ∧ (∀ i σ' H', i ≤ xs.length → Pv i σ' H' → SqL X.K H' a xs) ∧
      (∀ i v σ' H', xs[i]? = some v → Pv i σ' H' → gW X tg v σ' H' fun σ2 H2 => bW X body (Dlp D (Pv (i + 1))) σ2 H2) ∧ ∀ σ' H', Pv xs.length σ' H' → D.nx σ' H') (hs : ∀ x, foldedSetIterable it X.env x = pure x := by intro _; rfl) : sW X (.For tg it body [] pos) D σ H :=
  sI (ps_for ow.h cc.h (pi_list PEw) PGw PBw hs) (eMono h fun x H1 ⟨a, xs, e1, e2, Pv, q0, q1, q2, q3⟩ => ⟨a, e1, ⟨xs, e2⟩, for_list (K := X.K) (a := a) (xs := xs) Pv q0 q1 q2 q3⟩)
theorem s_forT [ow : CxO X] [cc : CxC X] (h : eW X it σ H fun x H1 => ∃ a xs, x = .ref a ∧ SqT X.K H1 a xs ∧ ∃ Pv : Nat → L2.St → Hp → Prop, Pv 0 σ H1 ∧ (∀ i σ' H', i ≤ xs.length → Pv i σ' H' → SqT X.K H' a xs) ∧
      (∀ i v σ' H', xs[i]? = some v → Pv i σ' H' → gW X tg v σ' H' fun σ2 H2 => bW X body (Dlp D (Pv (i + 1))) σ2 H2) ∧ ∀ σ' H', Pv xs.length σ' H' → D.nx σ' H') (hs : ∀ x, foldedSetIterable it X.env x = pure x := by intro _; rfl) : sW X (.For tg it body [] pos) D σ H :=
  sI (ps_for ow.h cc.h (pi_tup PEw) PGw PBw hs) (eMono h fun x H1 ⟨a, xs, e1, e2, Pv, q0, q1, q2, q3⟩ => ⟨a, e1, ⟨xs, e2⟩, for_tup (K := X.K) (a := a) (xs := xs) Pv q0 q1 q2 q3⟩)
end

/-! ### values -/
section
variable {X : Cx} {H : Hp} {Q : VK} {i j : Int} {k l : Bool} {x y : V} {z u : Str}
theorem o_add (q : Q (.int (i + j)) H) : oW X (binaryOp .Add) (.int i) (.int j) H Q := oI op_add ⟨_, _, rfl, rfl, q⟩
theorem o_sub (q : Q (.int (i - j)) H) : oW X (binaryOp .Sub) (.int i) (.int j) H Q := oI op_sub ⟨_, _, rfl, rfl, q⟩
theorem o_mul (h : CMulW i j) (q : Q (.int (i * j)) H) : oW X (binaryOp .Mult) (.int i) (.int j) H Q := oI op_mulW ⟨_, _, rfl, rfl, h, q⟩
theorem o_mulS (h : CMul i j) (q : Q (.int (i * j)) H) : oW X (binaryOp .Mult) (.int i) (.int j) H Q := oI op_mul ⟨_, _, rfl, rfl, h, q⟩
theorem o_mod (h : 0 < j) (q : Q (.int (i % j)) H) : oW X (binaryOp .Mod) (.int i) (.int j) H Q := oI op_mod ⟨_, _, rfl, rfl, h, q⟩
theorem o_div (h : CDiv i j) (q : Q (.int (i / j)) H) : oW X (binaryOp .FloorDiv) (.int i) (.int j) H Q := oI op_fdiv ⟨_, _, rfl, rfl, h, q⟩
theorem o_pow (h : CPow i j) (q : Q (.int (i ^ j.toNat)) H) : oW X (binaryOp .Pow) (.int i) (.int j) H Q := oI op_pow ⟨_, _, rfl, rfl, h, q⟩
theorem o_cat (h : z.length + u.length ≤ sizeLine) (q : Q (.str (z ++ u)) H) : oW X (binaryOp .Add) (.str z) (.str u) H Q := oI op_add_str ⟨_, _, rfl, rfl, h, q⟩
theorem o_lt (q : Q (.bl (decide (i < j))) H) : oW X (compareOp .Lt) (.int i) (.int j) H Q := oI op_lt ⟨_, _, rfl, rfl, q⟩
theorem o_le (q : Q (.bl (decide (i ≤ j))) H) : oW X (compareOp .LtE) (.int i) (.int j) H Q := oI op_le ⟨_, _, rfl, rfl, q⟩
theorem o_gt (q : Q (.bl (decide (j < i))) H) : oW X (compareOp .Gt) (.int i) (.int j) H Q := oI op_gt ⟨_, _, rfl, rfl, q⟩
theorem o_ge (q : Q (.bl (decide (j ≤ i))) H) : oW X (compareOp .GtE) (.int i) (.int j) H Q := oI op_ge ⟨_, _, rfl, rfl, q⟩
theorem o_eqI (q : Q (.bl (decide (i = j))) H) : oW X (compareOp .Eq) (.int i) (.int j) H Q := oI op_eq ⟨rfl, by rw [show decide (V.int i = V.int j) = decide (i = j) from decide_eq_decide.mpr ⟨fun e => V.int.inj e, fun e => by rw [e]⟩]; exact q⟩
theorem o_neI (q : Q (.bl (!decide (i = j))) H) : oW X (compareOp .NotEq) (.int i) (.int j) H Q := oI op_ne ⟨rfl, by rw [show decide (V.int i = V.int j) = decide (i = j) from decide_eq_decide.mpr ⟨fun e => V.int.inj e, fun e => by rw [e]⟩]; exact q⟩
theorem o_eqS (q : Q (.bl (decide (z = u))) H) : oW X (compareOp .Eq) (.str z) (.str u) H Q := oI op_eq ⟨rfl, by rw [show decide (V.str z = V.str u) = decide (z = u) from decide_eq_decide.mpr ⟨fun e => V.str.inj e, fun e => by rw [e]⟩]; exact q⟩
theorem o_neS (q : Q (.bl (!decide (z = u))) H) : oW X (compareOp .NotEq) (.str z) (.str u) H Q := oI op_ne ⟨rfl, by rw [show decide (V.str z = V.str u) = decide (z = u) from decide_eq_decide.mpr ⟨fun e => V.str.inj e, fun e => by rw [e]⟩]; exact q⟩
theorem o_eqB (q : Q (.bl (decide (k = l))) H) : oW X (compareOp .Eq) (.bl k) (.bl l) H Q := oI op_eq ⟨rfl, by rw [show decide (V.bl k = V.bl l) = decide (k = l) from decide_eq_decide.mpr ⟨fun e => V.bl.inj e, fun e => by rw [e]⟩]; exact q⟩
theorem o_neB (q : Q (.bl (!decide (k = l))) H) : oW X (compareOp .NotEq) (.bl k) (.bl l) H Q := oI op_ne ⟨rfl, by rw [show decide (V.bl k = V.bl l) = decide (k = l) from decide_eq_decide.mpr ⟨fun e => V.bl.inj e, fun e => by rw [e]⟩]; exact q⟩
theorem u_neg (q : Q (.int (-i)) H) : uW X (unaryOp .USub) (.int i) H Q := uI un_neg ⟨_, rfl, q⟩
end
theorem iteD {p : Prop} [Decidable p] {A B : Prop} (h1 : p → A) (h2 : ¬ p → B) : if decide p = true then A else B := by
  by_cases h : p
  · rw [if_pos (decide_eq_true h)]; exact h1 h
  · rw [decide_eq_false h, if_neg Bool.false_ne_true]; exact h2 h
theorem iteND {p : Prop} [Decidable p] {A B : Prop} (h1 : ¬ p → A) (h2 : p → B) : if (!decide p) = true then A else B := by
  by_cases h : p
  · rw [decide_eq_true h]; exact iteF (h2 h)
  · rw [decide_eq_false h]; exact iteT (h1 h)
theorem iteB {k : Bool} {A B : Prop} (h1 : k = true → A) (h2 : k = false → B) : if k = true then A else B := by
  cases k with
  | true => exact iteT (h1 rfl)
  | false => exact iteF (h2 rfl)

/-! ### calls -/
section
variable {X : Cx} {σ : L2.St} {H : Hp} {Q : VK} {pos p2 p3 p4 apos : Pos} {a e : Expr} {es : List Expr} {P : Program} {w : World} {K : PySem.W.Frag} {mg : Str → Option Value} {base : Heap}
/-- a def of the module by its name: where it stands, how it binds, its promise -/
structure Df (P : Program) (w : World) (K : PySem.W.Frag) (mg : Str → Option Value) (base : Heap) (x : Str) (k : Nat) (ps : List Str) (sp : Sp) : Prop where
  ex : ∃ (f : Addr) (fd : FuncData), mg x = some (.ref f) ∧ PySem.W.keepIn K (.ref f) = true ∧ Binds K fd ps [] ∧ FnOk P w K mg base (L2.CX P w) k f fd ps sp
theorem e_call {x : Str} {k : Nat} {ps : List Str} {sp : Sp} {W : WX} [ct : CxT X W] (F : Df X.prog X.w X.K X.mg X.base x k ps sp) (hr : Room k X.A) (h : aW X (e :: es) σ H fun vs H1 => sp vs H1 Q fun cls d H' => W cls d σ H')
    (hg : Gl X x := by rfl) (hdb : (x == ("__debug__" : Str)) = false := by decide) (he : starEach (e :: es) X.env = (false, eval e X.env) :: starEach es X.env := by rfl) (hpl : (backTo pos (starEach es X.env)).any (·.1) = false := by rfl) : eW X (.Call (.Name x p2) (e :: es) [] pos) σ H Q := by
  obtain ⟨f, fd, h1, h2, h3, h4⟩ := F.ex
  exact eI (pe_callS (E := WE W) h4 hr hg h1 h2 h3 (fun σ => passAt ct.h σ) PAw hdb he hpl) h
theorem e_call0 {x : Str} {k : Nat} {ps : List Str} {sp : Sp} (F : Df X.prog X.w X.K X.mg X.base x k ps sp) (hr : Room k X.A) (h : sp [] H Q E0)
    (hg : Gl X x := by rfl) (hdb : (x == ("__debug__" : Str)) = false := by decide) : eW X (.Call (.Name x p2) [] [] pos) σ H Q := by
  obtain ⟨f, fd, h1, h2, h3, h4⟩ := F.ex
  exact eI (pe_call0 (E := E0) h4 hr hg h1 h2 h3 .nil passL hdb) h
theorem e_callB {x : Str} {id : String} [cm : CxM X mg] [g : Gn mg x none] [bl : Blt x (.builtin id)] (h : aW X (e :: es) σ H fun vs H1 => kW X (.builtin id) vs H1 Q)
    (hg : Gl X x := by rfl) (hn : x ≠ "__name__" := by decide) (hdb : (x == ("__debug__" : Str)) = false := by decide) (he : starEach (e :: es) X.env = (false, eval e X.env) :: starEach es X.env := by rfl) (hpl : (backTo pos (starEach es X.env)).any (·.1) = false := by rfl) : eW X (.Call (.Name x p2) (e :: es) [] pos) σ H Q :=
  eI (pe_callB KRw hg (by rw [cm.h]; exact g.h) bl.h PAw hn hdb he hpl) h
theorem e_callTy {x : Str} {id : String} [cm : CxM X mg] [g : Gn mg x none] [bl : Blt x (.type id)] (h : aW X (e :: es) σ H fun vs H1 => kW X (.type id) vs H1 Q)
    (hg : Gl X x := by rfl) (hn : x ≠ "__name__" := by decide) (hdb : (x == ("__debug__" : Str)) = false := by decide) (he : starEach (e :: es) X.env = (false, eval e X.env) :: starEach es X.env := by rfl) (hpl : (backTo pos (starEach es X.env)).any (·.1) = false := by rfl) : eW X (.Call (.Name x p2) (e :: es) [] pos) σ H Q :=
  eI (pe_callTy KRw hg (by rw [cm.h]; exact g.h) bl.h PAw hn hdb he hpl) h
end
/-! ### defs and classes of the text -/
structure At (K : PySem.W.Frag) (mg : Str → Option Value) (x q : Str) (st : Stmt) (ps : List Str) : Prop where
  ex : ∃ (f : Addr) (fd : FuncData), mg x = some (.ref f) ∧ Fun K x q st f fd ∧ Binds K fd ps []
structure MAt (K : PySem.W.Frag) (C : Addr) (x q : Str) (st : Stmt) (ps : List Str) : Prop where
  ex : ∃ (f : Addr) (fd : FuncData), Meth K C x f ∧ Fun K x q st f fd ∧ Binds K fd ps []
structure InitF (K : PySem.W.Frag) (C : Addr) (q : Str) (st : Stmt) (ps : List Str) : Prop where
  ex : ∃ (f : Addr) (fd : FuncData), Mk K C f ∧ Fun K "__init__" q st f fd ∧ Binds K fd ps []
structure ClsF (K : PySem.W.Frag) (mg : Str → Option Value) (x : Str) (C : Addr) : Prop where
  mg : mg x = some (.ref C)
  cl : Cls K C
  mks : PySem.W.makesIn K C = true
  kp : PySem.W.keepIn K (.ref C) = true
  ha : PySem.W.findIn K (.ref C) "__class__" = some (some (.builtin "object.__class__"))
  hn : PySem.W.specialIn K (.builtin "object.__class__") "__get__" = some (some (.builtin "getset_descriptor.__get__"))
  ht : PySem.W.takesIn K (.builtin "object.__class__") = some true
  hm : PySem.W.mroIn K C (.type "object") = some true
  ty : PySem.W.typeIn K (.ref C) = some (.type "type")
  ic : PySem.W.isClsIn K C = true
structure ExcF (K : PySem.W.Frag) (mg : Str → Option Value) (x : Str) (C : Addr) : Prop where
  mg : mg x = some (.ref C)
  ex : PySem.W.excIn K C [.type "ValueError", .type "Exception", .type "BaseException", .type "object"] "ValueError.__new__" = true
  kp : PySem.W.keepIn K (.ref C) = true
  be : PySem.W.subIn K (.ref C) (.type "BaseException") = some true
  ty : PySem.W.typeIn K (.ref C) = some (.type "type")
  ic : PySem.W.isClsIn K C = true
  ga : PySem.W.findIn K (.ref C) "__getattribute__" = some (some (.builtin "BaseException.__getattribute__"))
  gk : PySem.W.findIn K (.ref C) "__getattr__" = some none
  hd : PySem.W.hasDictIn K C = true
  ha : PySem.W.findIn K (.ref C) "__class__" = some (some (.builtin "object.__class__"))
  hn : PySem.W.specialIn K (.builtin "object.__class__") "__get__" = some (some (.builtin "getset_descriptor.__get__"))
  ht : PySem.W.takesIn K (.builtin "object.__class__") = some true
  hm : PySem.W.mroIn K C (.type "object") = some true
  ve : PySem.W.subIn K (.ref C) (.type "ValueError") = some true
structure Md (P : Program) (w : World) (K : PySem.W.Frag) (mg : Str → Option Value) (base : Heap) (C : Addr) (x : Str) (k : Nat) (ps : List Str) (sp : Sp) : Prop where
  ex : ∃ (f : Addr) (fd : FuncData), Meth K C x f ∧ Binds K fd ps [] ∧ FnOk P w K mg base (L2.CX P w) k f fd ps sp
/-! ### promises by the number of the arguments -/
def sp0 (R : Hp → VK → XK → Prop) : Sp := fun vs H Q E => vs = [] ∧ R H Q E
def sp1 (R : V → Hp → VK → XK → Prop) : Sp := fun vs H Q E => ∃ a, vs = [a] ∧ R a H Q E
def sp2 (R : V → V → Hp → VK → XK → Prop) : Sp := fun vs H Q E => ∃ a b, vs = [a, b] ∧ R a b H Q E
def sp3 (R : V → V → V → Hp → VK → XK → Prop) : Sp := fun vs H Q E => ∃ a b c, vs = [a, b, c] ∧ R a b c H Q E
def sp4 (R : V → V → V → V → Hp → VK → XK → Prop) : Sp := fun vs H Q E => ∃ a b c d, vs = [a, b, c, d] ∧ R a b c d H Q E
def sp5 (R : V → V → V → V → V → Hp → VK → XK → Prop) : Sp := fun vs H Q E => ∃ a b c d e, vs = [a, b, c, d, e] ∧ R a b c d e H Q E
def sp6 (R : V → V → V → V → V → V → Hp → VK → XK → Prop) : Sp := fun vs H Q E => ∃ a b c d e f, vs = [a, b, c, d, e, f] ∧ R a b c d e f H Q E
section
variable {vs : List V} {H : Hp} {Q : VK} {E : XK}
theorem sp0_len {R} (h : sp0 R vs H Q E) : vs.length = 0 := by obtain ⟨rfl, _⟩ := h; rfl
theorem sp1_len {R} (h : sp1 R vs H Q E) : vs.length = 1 := by obtain ⟨_, rfl, _⟩ := h; rfl
theorem sp2_len {R} (h : sp2 R vs H Q E) : vs.length = 2 := by obtain ⟨_, _, rfl, _⟩ := h; rfl
theorem sp3_len {R} (h : sp3 R vs H Q E) : vs.length = 3 := by obtain ⟨_, _, _, rfl, _⟩ := h; rfl
theorem sp4_len {R} (h : sp4 R vs H Q E) : vs.length = 4 := by obtain ⟨_, _, _, _, rfl, _⟩ := h; rfl
theorem sp5_len {R} (h : sp5 R vs H Q E) : vs.length = 5 := by obtain ⟨_, _, _, _, _, rfl, _⟩ := h; rfl
theorem sp6_len {R} (h : sp6 R vs H Q E) : vs.length = 6 := by obtain ⟨_, _, _, _, _, _, rfl, _⟩ := h; rfl
end
section
variable {X : Cx} {σ : L2.St} {H : Hp} {Q : VK} {pos p2 p3 p4 apos : Pos} {a e o : Expr} {es : List Expr} {mg : Str → Option Value} {C : Addr}
/-- o.m(e, ..), o.m() of an own class -/
theorem e_meth {m : Str} {k : Nat} {ps : List Str} {sp : Sp} (c : Cls X.K C) (F : Md X.prog X.w X.K X.mg X.base C m k ps sp) (hr : Room k X.A)
    (h : eW X o σ H fun x H1 => ∃ a dx fs, x = .ref a ∧ H1 a = some (.ins C dx fs) ∧ fs.lookup m = none ∧ aW X (e :: es) σ H1 fun vs H2 => sp (x :: vs) H2 Q E0) {pl : Sem Bool}
    (hst : starEach (e :: es) X.env = (false, eval e X.env) :: starEach es X.env := by rfl) (hpl : (backTo pos (starEach es X.env)).any (·.1) = false := by rfl)
    (ht : eval (.Call (.Attribute o m apos) (e :: es) [] pos) X.env = (do
      let ov ← eval o X.env
      standAt apos.atName
      let (f, first) ← holding [ov] (getMethod ov m pl)
      callWith pos f first (backTo pos (starEach (e :: es) X.env)) (backToKw pos (keywordEach [] X.env))) := by rfl) : eW X (.Call (.Attribute o m apos) (e :: es) [] pos) σ H Q := by
  obtain ⟨f, fd, h1, h2, h3⟩ := F.ex
  exact eI (pe_meth (E := E0) PEw c h1 h3 hr h2 .nil passL PAw hst hpl ht) (eMono h fun x H1 ⟨a, dx, fs, q1, q2, q3, q4⟩ => ⟨a, dx, fs, q1, q2, q3, by simpa only [List.append_nil] using q4⟩)
theorem e_meth0 {m : Str} {k : Nat} {ps : List Str} {sp : Sp} (c : Cls X.K C) (F : Md X.prog X.w X.K X.mg X.base C m k ps sp) (hr : Room k X.A)
    (h : eW X o σ H fun x H1 => ∃ a dx fs, x = .ref a ∧ H1 a = some (.ins C dx fs) ∧ fs.lookup m = none ∧ sp [x] H1 Q E0) {pl : Sem Bool}
    (ht : eval (.Call (.Attribute o m apos) [] [] pos) X.env = (do
      let ov ← eval o X.env
      standAt apos.atName
      let (f, first) ← holding [ov] (getMethod ov m pl)
      callWith pos f first (backTo pos (starEach [] X.env)) (backToKw pos (keywordEach [] X.env))) := by rfl) : eW X (.Call (.Attribute o m apos) [] [] pos) σ H Q := by
  obtain ⟨f, fd, h1, h2, h3⟩ := F.ex
  exact eI (pe_meth0 (E := E0) PEw c h1 h3 hr h2 .nil passL ht) h
theorem run_makeO {pins : List (Addr × Obj)} {s : Shared} (hm : PySem.W.makesIn X.K C = true) (hi : PySem.W.findIn X.K (.ref C) "__init__" = some (some (.builtin "object.__init__"))) (I : Inv X pins σ H s)
    (h : ∀ x dx, H x = none → H dx = none → dx ≠ x → Q (.ref x) (upd (upd H dx (.own x)) x (.ins C dx []))) : wpAny (model X.prog X.w) X.A (call (.ref C) []) (EP X pins σ Q) X.xe s := by
  have hq := h (s.heap.objs.size + 1) s.heap.objs.size (I.hok.fresh (Nat.le_succ _)) (I.hok.fresh (Nat.le_refl _)) (Nat.ne_of_lt (Nat.lt_succ_self _))
  have I2 := Inv.made (C := C) I
  have KX := I.kIn
  refine wpAny_call (make_map0 KX hm hi (fun self => PySem.W.Looks.of_pure (PySem.W.oi_bind self)) ?_)
  obtain ⟨hh, g, d, t, os⟩ := s
  have Y := PySem.W.makes_of (M := model X.prog X.w) KX hm
  have t1 : PySem.W.Looks (model X.prog X.w) ((hh.push PySem.W.emptyDict).push (PySem.W.instObj C hh.objs.size)) (typeOf (.ref (hh.objs.size + 1))) (.ref C) := (PySem.W.Looks.ld (by
    have z := Heap.get?_push_size (hh.push PySem.W.emptyDict) (o := PySem.W.instObj C hh.objs.size) rfl
    rw [Heap.size_push] at z
    exact z)).andThen .now
  have t2 : PySem.W.Looks (model X.prog X.w) ((hh.push PySem.W.emptyDict).push (PySem.W.instObj C hh.objs.size)) (isInstance (.ref (hh.objs.size + 1)) (.type "object")) true := t1.andThen (Y.top.keeps fun b o e => Heap.get?_push_of_some _ (Heap.get?_push_of_some _ e))
  refine codeAny_call_builtin PySem.W.oi_plain PySem.W.entry_oi (@PySem.W.check_slot (model X.prog X.w) _ _ _ "object.__init__" "object" "__init__" (.ref (hh.objs.size + 1)) [] [] _ PySem.W.oi_kind PySem.W.oi_split t2 (PySem.W.oi_args (.ref (hh.objs.size + 1))) ?_)
  rw [PySem.W.oi_run]
  exact wpAny_pure ⟨rfl, .ref (hh.objs.size + 1), _, I2, rfl, hq⟩
theorem e_makeO {x : Str} [cm : CxM X mg] [g : Gn mg x (some (.ref C))] (hm : PySem.W.makesIn X.K C = true) (hk : PySem.W.keepIn X.K (.ref C) = true) (hi : PySem.W.findIn X.K (.ref C) "__init__" = some (some (.builtin "object.__init__")))
    (h : ∀ x dx, H x = none → H dx = none → dx ≠ x → Q (.ref x) (upd (upd H dx (.own x)) x (.ins C dx []))) (hg : Gl X x := by rfl) (hdb : (x == ("__debug__" : Str)) = false := by decide) : eW X (.Call (.Name x p2) [] [] pos) σ H Q := ⟨fun pins s I =>
  wpAny_Call_Name_kw (ld_glob I hg (by rw [cm.h]; exact g.h) (PySem.W.callWith_K0 I.kIn hk (run_makeO hm hi I h)) hdb)⟩
end
/-! ### isinstance -/
section
variable {X : Cx} {H : Hp} {Q : VK}
theorem k_isi {x c : V} {t u : Value} {b : Bool} (hc : ClsV c u) (hx : TyX X.K H x t) (e : PySem.W.kitOne X.K t u = some b) (q : Q (.bl b) H) : kW X (.builtin "isinstance") [x, c] H Q := kI call_isi ⟨_, _, _, _, _, rfl, hc, hx, e, q⟩
theorem ClsF.tyX {K : PySem.W.Frag} {mg : Str → Option Value} {x : Str} {C a dx : Addr} {fs : List (Str × V)} (T : ClsF K mg x C) (h : H a = some (.ins C dx fs)) : TyX K H (.ref a) (.ref C) := .base (.ins h T.cl T.ha T.hn T.ht T.hm)
theorem kit_refs {K : PySem.W.Frag} {C D : Addr} {b : Bool} (hs : PySem.W.subIn K (.ref C) (.ref D) = some b) (ic : PySem.W.isClsIn K D = true) (ty : PySem.W.typeIn K (.ref D) = some (.type "type")) (ne : C ≠ D) : PySem.W.kitOne K (.ref C) (.ref D) = some b := by
  have e1 : ((PySem.W.clsIn K D).isSome && PySem.W.typeIn K (.ref D) == some (.type "type")) = true := by
    have h2 : (PySem.W.clsIn K D).isSome = true := ic
    rw [h2, ty]; rfl
  have e2 : (Value.ref C == Value.ref D) = false := by simp [ne]
  show (if (Value.ref C == Value.ref D) = true then some true else if ((PySem.W.clsIn K D).isSome && PySem.W.typeIn K (.ref D) == some (.type "type")) = true then PySem.W.subIn K (.ref C) (.ref D) else none) = some b
  rw [e2, if_neg Bool.false_ne_true, if_pos e1]
  exact hs
theorem kit_self {K : PySem.W.Frag} {C : Addr} : PySem.W.kitOne K (.ref C) (.ref C) = some true := by
  show (if (Value.ref C == Value.ref C) = true then some true else _) = some true
  rw [if_pos (by simp)]
end
/-! ### subscripts, equality of data -/
structure iW (X : Cx) (x y : V) (H : Hp) (Q : VK) : Prop where
  run : ∀ (value slice : Expr) pins s σ v u, Inv X pins σ H s → RelV x v → RelV y u → subscripted slice false v u = operate [v, u] (getItem v u) → wpAny (model X.prog X.w) X.A (subscriptTail value slice v u) (EP X pins σ Q) X.xe s
section
variable {X : Cx} {σ : L2.St} {H : Hp} {Q : VK} {pos p2 p3 : Pos} {a b : Expr} {x y v : V} {p : Addr} {xs : List V} {i : Int}
theorem e_ix (h : eW X a σ H fun x H1 => eW X b σ H1 fun y H2 => iW X x y H2 Q) (hs : PlainIx b := by exact fun _ _ => rfl) : eW X (.Subscript a b pos) σ H Q :=
  eI (pe_ix (r := iW X) (fun value slice pins s σ H x y v u Q I rx ry h hs => h.run value slice pins s σ v u I rx ry hs) PEw PEw hs) h
theorem iI {r : R2} (h : IxR X r) (q : r x y H Q) : iW X x y H Q := ⟨fun value slice pins s σ v u I rx ry hs => h value slice pins s σ H x y v u Q I rx ry q hs⟩
theorem i_lst (h : SqL X.K H p xs) (e : atI xs i = some v) (q : Q v H) : iW X (.ref p) (.int i) H Q := iI ix_list ⟨_, _, _, _, rfl, rfl, h, e, q⟩
theorem i_tup (h : SqT X.K H p xs) (e : atI xs i = some v) (q : Q v H) : iW X (.ref p) (.int i) H Q := iI ix_tup ⟨_, _, _, _, rfl, rfl, h, e, q⟩
theorem i_str {z : Str} {c : Nat} (hz : z.length ≤ sizeLine) (e : atI z.cps.toList i = some c) (q : Q (.str ⟨#[c]⟩) H) : iW X (.str z) (.int i) H Q := iI ix_str ⟨_, _, _, rfl, rfl, hz, e, q⟩
theorem o_eqD {d e : PyData} (hu : X.A.units + 64 < cLine) (hx : Dp X.K H x d) (hy : Dp X.K H y e) (sd : SeqAt.shaped d = true) (se : SeqAt.shaped e = true) (q : Q (.bl (PyData.eqv d e)) H) : oW X (compareOp .Eq) x y H Q := oI (op_eqD hu) ⟨d, e, hx, hy, sd, se, q⟩
theorem o_neD {d e : PyData} (hu : X.A.units + 64 < cLine) (hx : Dp X.K H x d) (hy : Dp X.K H y e) (sd : SeqAt.shaped d = true) (se : SeqAt.shaped e = true) (q : Q (.bl (!PyData.eqv d e)) H) : oW X (compareOp .NotEq) x y H Q := oI (op_neD hu) ⟨d, e, hx, hy, sd, se, q⟩
theorem k_min {j : Int} [cc : CxC X] (q : Q (.int (if j < i then j else i)) H) : kW X (.builtin "min") [.int i, .int j] H Q := kI (call_min2 cc.h) ⟨_, _, rfl, q⟩
theorem k_max {j : Int} [cc : CxC X] (q : Q (.int (if j > i then j else i)) H) : kW X (.builtin "max") [.int i, .int j] H Q := kI (call_max2 cc.h) ⟨_, _, rfl, q⟩
end
theorem atI_nat {α : Type} {xs : List α} {i : Int} {v : α} (h0 : 0 ≤ i) (h : xs[i.toNat]? = some v) : atI xs i = some v := by
  have hl := (List.getElem?_eq_some_iff.mp h).1
  unfold atI ixN
  rw [if_pos h0, if_pos (by omega)]
  exact h
theorem atI_all {α : Type} {xs : List α} {i : Int} {P : α → Prop} (h0 : 0 ≤ i) (h1 : i < xs.length) (hp : ∀ x ∈ xs, P x) : ∃ v, atI xs i = some v ∧ P v := by
  have hl : i.toNat < xs.length := by omega
  exact ⟨xs[i.toNat], atI_nat h0 (List.getElem?_eq_getElem hl), hp _ (List.getElem_mem hl)⟩
theorem TyB {K : PySem.W.Frag} {H : Hp} : (∀ i, TyX K H (.int i) (.type "int")) ∧ (∀ b, TyX K H (.bl b) (.type "bool")) ∧ (∀ z, TyX K H (.str z) (.type "str")) ∧ TyX K H .non (.type "NoneType") := ⟨fun _ => .base (.int _), fun _ => .base (.bl _), fun _ => .base (.str _), .base .non⟩
theorem TyL {K : PySem.W.Frag} {H : Hp} {p : Addr} {xs : List V} (h : H p = some (.lst xs)) : TyX K H (.ref p) (.type "list") := .base (.lst h)
theorem TyT {K : PySem.W.Frag} {H : Hp} {p : Addr} {xs : List V} (h : H p = some (.tup xs)) : TyX K H (.ref p) (.type "tuple") := .base (.tup h)
section
variable {X : Cx} {H : Hp} {Q : VK}
/-- isinstance of a value told by its type's name, of a built-in type -/
theorem k_isB {x : V} {t n : String} {b : Bool} (hx : TyX X.K H x (.type t)) (e : kitB t n = some b) (q : Q (.bl b) H) : kW X (.builtin "isinstance") [x, .ty n] H Q := k_isi (.ty n) hx (kit_ty e) q
end
theorem kb_int_int : kitB "int" "int" = some true := by decide +kernel
theorem kb_int_bool : kitB "int" "bool" = some false := by decide +kernel
theorem kb_bool_int : kitB "bool" "int" = some true := by decide +kernel
theorem kb_bool_bool : kitB "bool" "bool" = some true := by decide +kernel
theorem p60 : (10 : Int) ^ (60 : Int).toNat = 1000000000000000000000000000000000000000000000000000000000000 := by decide
theorem p30 : (10 : Int) ^ (30 : Int).toNat = 1000000000000000000000000000000 := by decide
section
variable {X : Cx} {H : Hp} {Q : VK}
theorem o_p60 (q : Q (.int 1000000000000000000000000000000000000000000000000000000000000) H) : oW X (binaryOp .Pow) (.int 10) (.int 60) H Q := oI op_pow ⟨_, _, rfl, rfl, ⟨by decide, by decide, by decide⟩, by show Q (.int ((10 : Int) ^ (60 : Int).toNat)) H; rw [p60]; exact q⟩
theorem o_p30 (q : Q (.int 1000000000000000000000000000000) H) : oW X (binaryOp .Pow) (.int 10) (.int 30) H Q := oI op_pow ⟨_, _, rfl, rfl, ⟨by decide, by decide, by decide⟩, by show Q (.int ((10 : Int) ^ (30 : Int).toNat)) H; rw [p30]; exact q⟩
end
/-- a new list, its heap by what is known of it -/
theorem e_lstN {X : Cx} {σ : L2.St} {H : Hp} {Q : VK} {pos : Pos} {es : List Expr} (h : aW X es σ H fun xs H1 => Nat.ble xs.length 1000 = true ∧ ∀ p H2, Same H1 H2 → H1 p = none → H2 p = some (.lst xs) → (∀ b, b ≠ p → H2 b = H1 b) → Q (.ref p) H2) : eW X (.List es pos) σ H Q :=
  e_lst ⟨fun pos pins s I => wpAny_mono (h.run pos pins s I) (fun us s' ⟨vs, H', a, b, c, d⟩ => ⟨vs, H', a, b, Nat.le_trans (Nat.le_of_ble_eq_true c) (by decide), fun p hp => d p _ (fun x o e => by rw [upd_ne (ne_of_none e hp)]; exact e) hp upd_same fun x hx => upd_ne hx⟩) fun _ _ x => x⟩
theorem e_tupN {X : Cx} {σ : L2.St} {H : Hp} {Q : VK} {pos : Pos} {es : List Expr} {k : Nat} (h : aW X es σ H fun xs H1 => Nat.ble xs.length 1000 = true ∧ ∀ p H2, Same H1 H2 → H1 p = none → H2 p = some (.tup xs) → (∀ b, b ≠ p → H2 b = H1 b) → Q (.ref p) H2) : eW X (.Tuple es k pos) σ H Q :=
  e_tup ⟨fun pos pins s I => wpAny_mono (h.run pos pins s I) (fun us s' ⟨vs, H', a, b, c, d⟩ => ⟨vs, H', a, b, Nat.le_trans (Nat.le_of_ble_eq_true c) (by decide), fun p hp => d p _ (fun x o e => by rw [upd_ne (ne_of_none e hp)]; exact e) hp upd_same fun x hx => upd_ne hx⟩) fun _ _ x => x⟩
section
variable {X : Cx} {H : Hp} {Q : VK} {p : Addr} {xs : List V} {z : Str}
theorem k_lenL (h : SqL X.K H p xs) (q : Q (.int (xs.length : Int)) H) : kW X (.builtin "len") [.ref p] H Q := kI call_len_seq ⟨_, _, rfl, .inl h, q⟩
theorem k_lenT (h : SqT X.K H p xs) (q : Q (.int (xs.length : Int)) H) : kW X (.builtin "len") [.ref p] H Q := kI call_len_seq ⟨_, _, rfl, .inr h, q⟩
theorem k_lenS (h : z.length ≤ sizeLine) (q : Q (.int (z.length : Int)) H) : kW X (.builtin "len") [.str z] H Q := kI call_len_str ⟨_, rfl, h, q⟩
end
theorem Same.made' {H : Hp} {x dx C : Addr} (nx : H x = Option.none) (nd : H dx = Option.none) : Same H (upd (upd H dx (.own x)) x (.ins C dx [])) := fun b o e => by
  rw [upd_ne (ne_of_none e nx), upd_ne (ne_of_none e nd)]
  exact e
def R_law (K : PySem.W.Frag) : V → Hp → VK → XK → Prop := fun x H Q _ => ∃ (a : Addr) (ns : List Int), x = .ref a ∧ SqL K H a (ns.map V.int) ∧ ns.length ≤ 63 ∧ ∀ H', Q (.bl true) H'
/-! ### targets that are tuples -/
structure hW (X : Cx) (es : List Expr) (vs : List V) (σ : L2.St) (H : Hp) (Q : L2.St → Hp → Prop) : Prop where
  run : ∀ pins s us, Inv X pins σ H s → Vals vs us → wpAny (model X.prog X.w) X.A (assignInOrder ((assignEach es X.env).map (·.2)) us) (fun _ s' => ∃ σ' H', Inv X pins σ' H' s' ∧ Q σ' H') X.xe s
section
variable {X : Cx} {σ : L2.St} {H : Hp} {pos : Pos} {e : Expr} {es : List Expr} {Q : L2.St → Hp → Prop}
theorem PHw : PGs X es (hW X es) := ⟨fun pins s _ _ vs us _ I r h => h.run pins s us I r⟩
theorem h_nil (h : Q σ H) : hW X [] [] σ H Q := ⟨fun pins s us I r => pgs_nil.run pins s σ H [] us Q I r ⟨rfl, h⟩⟩
theorem h_cons {v : V} {vs : List V} (h : gW X e v σ H fun σ1 H1 => hW X es vs σ1 H1 Q) (hs : (assignEach (e :: es) X.env).map (·.2) = assign e X.env :: (assignEach es X.env).map (·.2) := by rfl) : hW X (e :: es) (v :: vs) σ H Q :=
  ⟨fun pins s us I r => (pgs_cons PGw PHw hs).run pins s σ H (v :: vs) us Q I r ⟨v, vs, rfl, h⟩⟩
theorem g_tup {k n : Nat} {v : V} [cc : CxC X] (h : ∃ a xs, v = .ref a ∧ SqT X.K H a xs ∧ xs.length = n ∧ hW X es xs σ H Q)
    (hn : (assignEach es X.env).length = n := by rfl) (hst : (assignEach es X.env).findIdx? (·.1) = none := by rfl) : gW X (.Tuple es k pos) v σ H Q := gI (pg_tup cc.h PHw hn hst) h
end
section
variable {X : Cx} {σ : L2.St} {H : Hp} {pos : Pos} {es : List Expr} {Q : L2.St → Hp → Prop}
theorem g_lst {k n : Nat} {v : V} [cc : CxC X] (h : ∃ a xs, v = .ref a ∧ SqL X.K H a xs ∧ xs.length = n ∧ hW X es xs σ H Q)
    (hn : (assignEach es X.env).length = n := by rfl) (hst : (assignEach es X.env).findIdx? (·.1) = none := by rfl) : gW X (.Tuple es k pos) v σ H Q := gI (pg_lst cc.h PHw hn hst) h
theorem is_h {vs : List V} (h : hW X es vs σ H Q) : hW X es vs σ H Q := h
end
theorem s_asgT {X : Cx} {σ : L2.St} {H : Hp} {D : Ends} {pos p2 : Pos} {e : Expr} {es : List Expr} {k : Nat} (h : eW X e σ H fun v H1 => gW X (.Tuple es k p2) v σ H1 D.nx) (hs : swapsWithSole [.Tuple es k p2] e pos.line X.env = pure false := by rfl) (hw : swappedStores [.Tuple es k p2] e X.env = pure none := by rfl)
    (h1 : (assignEach [.Tuple es k p2] X.env).map (·.2) = [assign (.Tuple es k p2) X.env] := by rfl) : sW X (.Assign [.Tuple es k p2] e pos) D σ H := s_asg h hs hw h1
def oV : Option Int → V
  | none => .non
  | some i => .int i
theorem TyO {K : PySem.W.Frag} {H : Hp} : TyX K H .non (.type "NoneType") := .base .non
/-! ### what is walked; for and comprehensions over any walk -/
structure jW (X : Cx) (tg it : Expr) (σ : L2.St) (H : Hp) (R : It → Hp → Prop) : Prop where
  run : ∀ pins s, Inv X pins σ H s → wpAny (model X.prog X.w) X.A (eval it X.env) (fun v s1 => wpAny (model X.prog X.w) X.A (pyIter v) (PIE X pins σ tg R) X.xe s1) X.xe s
structure mW (X : Cx) (id : String) (x : V) (xs : List V) (H : Hp) (Q : VK) : Prop where
  run : ∀ pins s σ v us, Inv X pins σ H s → RelV x v → Vals xs us → wpAny (model X.prog X.w) X.A (call (.builtin id) (v :: us)) (EP X pins σ Q) X.xe s
structure nW (X : Cx) (x : V) (lo hi : Option Int) (H : Hp) (Q : VK) : Prop where
  run : ∀ pins s σ v vl vu sl, Inv X pins σ H s → RelV x v → s.heap.IsSliceOf sl vl vu .none → IsPart vl lo → IsPart vu hi →
    ∃ T id, typeLookup (.type T) "__getitem__" = pure (some (.builtin id)) ∧ s.TypeIs v T ∧ wpAny (model X.prog X.w) X.A (getItem v (.ref sl)) (EP X pins σ Q) X.xe s
section
variable {X : Cx} {σ : L2.St} {H : Hp} {Q : VK} {D : Ends} {pos p2 p3 p4 p5 apos : Pos} {e o it tg elt c a b : Expr} {es : List Expr} {body : List Stmt} {R : It → Hp → Prop} {mg : Str → Option Value}
theorem PJw : PI X tg it (jW X tg it) := ⟨fun pins s _ _ _ I h => h.run pins s I⟩
theorem jI {wi : TI} (h : PI X tg it wi) (q : wi σ H R) : jW X tg it σ H R := ⟨fun pins s I => h.run pins s σ H R I q⟩
theorem MRw {id : String} : MtR X id (mW X id) := fun pins s σ H x xs v us Q I rx r h => h.run pins s σ v us I rx r
theorem mI {id : String} {r : V → List V → Hp → VK → Prop} {x : V} {xs : List V} (h : MtR X id r) (q : r x xs H Q) : mW X id x xs H Q := ⟨fun pins s σ v us I rx rs => h pins s σ H x xs v us Q I rx rs q⟩
theorem NRw : SlR X (nW X) := fun pins s σ H x v vl vu lo hi sl Q I rx h1 h2 h3 q => q.run pins s σ v vl vu sl I rx h1 h2 h3
theorem nI {r : V → Option Int → Option Int → Hp → VK → Prop} {x : V} {lo hi : Option Int} (h : SlR X r) (q : r x lo hi H Q) : nW X x lo hi H Q := ⟨fun pins s σ v vl vu sl I rx h1 h2 h3 => h pins s σ H x v vl vu lo hi sl Q I rx h1 h2 h3 q⟩
theorem j_list (h : eW X it σ H fun x H1 => ∃ a, x = .ref a ∧ (∃ xs, SqL X.K H1 a xs) ∧ R (Itl X.K a) H1) : jW X tg it σ H R := jI (pi_list PEw) h
theorem j_tup (h : eW X it σ H fun x H1 => ∃ a, x = .ref a ∧ (∃ xs, SqT X.K H1 a xs) ∧ R (Itt X.K a) H1) : jW X tg it σ H R := jI (pi_tup PEw) h
theorem j_str (h : eW X it σ H fun x H1 => ∃ z, x = .str z ∧ R (Its z) H1) : jW X tg it σ H R := jI (pi_str PEw) h
theorem j_rng1 [cm : CxM X mg] [g : Gn mg "range" none] (h : aW X [a] σ H fun vs H1 => ∃ j : Int, vs = [.int j] ∧ -(2 ^ 62) ≤ j ∧ j < 2 ^ 62 ∧ R (Itr 0 j.toNat) H1) (hg : Gl X "range" := by rfl) (hs : starEach [a] X.env = [(false, eval a X.env)] := by rfl) : jW X tg (.Call (.Name "range" p2) [a] [] pos) σ H R :=
  jI (pi_range1 hg (by rw [cm.h]; exact g.h) PAw hs) h
theorem j_rng2 [cm : CxM X mg] [g : Gn mg "range" none] (h : aW X [a, b] σ H fun vs H1 => ∃ i j : Int, vs = [.int i, .int j] ∧ (-(2 ^ 62) ≤ i ∧ i < 2 ^ 62 ∧ -(2 ^ 62) ≤ j ∧ j < 2 ^ 62) ∧ R (Itr i (j - i).toNat) H1) (hg : Gl X "range" := by rfl)
    (hs : starEach [a, b] X.env = [(false, eval a X.env), (false, eval b X.env)] := by rfl) (hs2 : starEach [b] X.env = [(false, eval b X.env)] := by rfl) : jW X tg (.Call (.Name "range" p2) [a, b] [] pos) σ H R :=
  jI (pi_range2 hg (by rw [cm.h]; exact g.h) PAw hs hs2) h
theorem j_rng3 [cm : CxM X mg] [g : Gn mg "range" none] (h : aW X [a, b, c] σ H fun vs H1 => ∃ (i j c : Int) (n : Nat), vs = [.int i, .int j, .int c] ∧ RgC i j c n ∧ R (Itc i c n) H1) (hg : Gl X "range" := by rfl)
    (hs : starEach [a, b, c] X.env = (false, eval a X.env) :: starEach [b, c] X.env := by rfl) (hpl : (backTo pos (starEach [b, c] X.env)).any (·.1) = false := by rfl) : jW X tg (.Call (.Name "range" p2) [a, b, c] [] pos) σ H R :=
  jI (pi_range3 hg (by rw [cm.h]; exact g.h) PAw hs hpl) h
theorem j_rev [cm : CxM X mg] [g : Gn mg "reversed" none] (h : aW X [a] σ H fun vs H1 => ∃ (a : Addr) (xs : List V), vs = [.ref a] ∧ SqL X.K H1 a xs ∧ R (Itv X.K a xs.length) H1) (hg : Gl X "reversed" := by rfl) (hs : starEach [a] X.env = [(false, eval a X.env)] := by rfl) : jW X tg (.Call (.Name "reversed" p2) [a] [] pos) σ H R :=
  jI (pi_reversed hg (by rw [cm.h]; exact g.h) PAw hs) h
theorem j_revT [cm : CxM X mg] [g : Gn mg "reversed" none] (h : eW X a σ H fun v H1 => ∃ (p : Addr) (xs : List V), v = .ref p ∧ SqT X.K H1 p xs ∧ R (RT.ItvT X.K p xs.length) H1) (hg : Gl X "reversed" := by rfl) (hs : starEach [a] X.env = (false, eval a X.env) :: starEach [] X.env := by rfl) : jW X tg (.Call (.Name "reversed" p2) [a] [] pos) σ H R :=
  jI (RT.pi_revA hg (by rw [cm.h]; exact g.h) PEw hs) (eMono h fun v H1 ⟨p, xs, e, q, r⟩ => ⟨p, xs, e, .inr ⟨q, r⟩⟩)
theorem walk_revT {K : PySem.W.Frag} {p : Addr} {xs : List V} : Walk (RT.ItvT K p xs.length) xs.length (fun H => SqT K H p xs) (fun i H x H' => H' = H ∧ xs[xs.length - 1 - i]? = some x) :=
  ⟨fun i _ hi q => ⟨hi, xs, xs[xs.length - 1 - i]'(by omega), q, by simp [show xs.length - 1 - i < xs.length by omega]⟩, fun _ _ => Nat.le_refl _, fun _ _ _ _ _ q y => ⟨y.1, y.2 xs q⟩⟩
theorem j_enum {elts : List Expr} {kk : Nat} [cm : CxM X mg] [g : Gn mg "enumerate" none] (h : aW X [a] σ H fun vs H1 => ∃ a xs, vs = [.ref a] ∧ SqL X.K H1 a xs ∧ R (Ite X.K a) H1) (hg : Gl X "enumerate" := by rfl) (hs : starEach [a] X.env = [(false, eval a X.env)] := by rfl) : jW X (.Tuple elts kk p3) (.Call (.Name "enumerate" p2) [a] [] pos) σ H R :=
  jI (pi_enum hg (by rw [cm.h]; exact g.h) PAw hs) h
theorem j_items {elts : List Expr} {kk : Nat} (h : eW X e σ H fun x H1 => ∃ d o kvs, x = .ref d ∧ H1 d = some (.frz o (.dK kvs)) ∧ R (Iti d o kvs) H1) (hbase : attributeBase e "items" X.env (eval e X.env) = eval e X.env := by rfl) (hline : (apos.endLine == pos.line) = true := by rfl) :
    jW X (.Tuple elts kk p3) (.Call (.Attribute e "items" apos) [] [] pos) σ H R := jI (pi_items PEw hbase hline) h
/-- for over any walk -/
theorem s_for [ow : CxO X] [cc : CxC X] (h : jW X tg it σ H fun J H1 => ∃ n G Y, Walk J n G Y ∧ ∃ Pv : Nat → L2.St → Hp → Prop, Pv 0 σ H1 ∧ (∀ i σ' H', i ≤ n → Pv i σ' H' → G H') ∧
      (∀ i x σ' H' H2, i < n → Pv i σ' H' → Y i H' x H2 → gW X tg x σ' H2 fun σ3 H3 => bW X body (Dlp D (Pv (i + 1))) σ3 H3) ∧ ∀ σ' H', Pv n σ' H' → D.nx σ' H')
    (hs : ∀ x, foldedSetIterable it X.env x = pure x := by intro _; rfl) : sW X (.For tg it body [] pos) D σ H :=
  sI (ps_for ow.h cc.h PJw PGw PBw hs) ⟨fun pins s I => wpAny_mono (h.run pins s I) (fun v s1 q => wpAny_mono q (fun u s2 ⟨i, fp, tn, J, H2, e, I2, T, t0, f2, n, G, Y, w, Pv, q0, q1, q2, q3⟩ => ⟨i, fp, tn, J, H2, e, I2, T, t0, f2, for_it w Pv q0 q1 q2 q3⟩) fun _ _ z => z) fun _ _ z => z⟩
/-- the parts of a comprehension, in every context of its block -/
def eB (X : Cx) (sc : Scope) (e : Expr) : TE := fun σ H Q => ∀ (s : Shared) (H0 : Hp) (C : Addr) (cl : List (Str × Addr)) (fp : List Addr), eW (X.blk s H0 sc (compEnvC sc cl C X.env) fp) e σ H Q
def tB' (X : Cx) (sc : Scope) (e : Expr) : TT := fun σ H Q => ∀ (s : Shared) (H0 : Hp) (C : Addr) (cl : List (Str × Addr)) (fp : List Addr), tW (X.blk s H0 sc (compEnvC sc cl C X.env) fp) e σ H Q
def gB (X : Cx) (sc : Scope) (e : Expr) : TG := fun v σ H Q => ∀ (s : Shared) (H0 : Hp) (C : Addr) (cl : List (Str × Addr)) (fp : List Addr), gW (X.blk s H0 sc (compEnvC sc cl C X.env) fp) e v σ H Q
theorem e_lc {sc : Scope} {N : List Str} {own : List (Str × Nat)} [cc : CxC X] [cn : CxN X N] [nd : NdN N] (ok : BlkOk N X.env.scope sc own)
    (h : jW X tg it σ H fun J H1 => ∃ n G Y, Walk J n G Y ∧ ∀ D, H1 D = none → ∃ Pv : Nat → Hp → Prop, Pv 0 (upd H1 D (.lst [])) ∧ (∀ i H', i ≤ n → Pv i H' → G H') ∧
      (∀ i x H' H2, i < n → Pv i H' → Y i H' x H2 → gB X sc tg x (wipe σ (own.map (·.2))) H2 fun σ3 H3 => wipe σ3 (own.map (·.2)) = wipe σ (own.map (·.2)) ∧ eB X sc elt σ3 H3 fun y H4 => ∃ acc, H4 D = some (.lst acc) ∧ acc.length < sizeLine ∧ Pv (i + 1) (upd H4 D (.lst (acc ++ [y])))) ∧
      ∀ H', Pv n H' → Q (.ref D) H') (hs : ∀ x, foldedSetIterable it X.env x = pure x := by intro _; rfl) : eW X (.ListComp elt [⟨tg, it, [], 0⟩] sc pos) σ H Q :=
  eI (pe_lc (g := gB X sc tg) (tt := tYes) (te := eB X sc elt) cc.h (by rw [cn.h]; exact nd.h) PJw (by rw [cn.h]; exact ok) (fun s H0 C cl fp => ⟨fun pins s' _ _ v u _ I r h => (h s H0 C cl fp).run pins s' u I r⟩) (fun _ _ _ _ _ => pts_nil) (fun s H0 C cl fp => ⟨fun pins s' _ _ _ I h => (h s H0 C cl fp).run pins s' I⟩) hs)
    ⟨fun pins s I => wpAny_mono (h.run pins s I) (fun v s1 q => wpAny_mono q (fun u s2 ⟨i, fp, tn, J, H2, e, I2, T, t0, f2, n, G, Y, w, k⟩ => ⟨i, fp, tn, J, H2, e, I2, T, t0, f2, fun D hD => by
      obtain ⟨Pv, q0, q1, q2, q3⟩ := k D hD
      exact lc_it w Pv q0 q1 (fun i x H' H2' hi p y s0 H0 C cl fp => ⟨fun pins s' u I r => wpAny_mono ((q2 i x H' H2' hi p y s0 H0 C cl fp).run pins s' u I r) (fun _ s'' ⟨σ', H'', I'', e1, e2⟩ => ⟨σ', H'', I'', e1, e2⟩) fun _ _ z => z⟩) q3⟩) fun _ _ z => z) fun _ _ z => z⟩
/-- .. with one if -/
theorem e_lcI {sc : Scope} {N : List Str} {own : List (Str × Nat)} [cc : CxC X] [cn : CxN X N] [nd : NdN N] (ok : BlkOk N X.env.scope sc own)
    (h : jW X tg it σ H fun J H1 => ∃ n G Y, Walk J n G Y ∧ ∀ D, H1 D = none → ∃ Pv : Nat → Hp → Prop, Pv 0 (upd H1 D (.lst [])) ∧ (∀ i H', i ≤ n → Pv i H' → G H') ∧
      (∀ i x H' H2, i < n → Pv i H' → Y i H' x H2 → gB X sc tg x (wipe σ (own.map (·.2))) H2 fun σ3 H3 => wipe σ3 (own.map (·.2)) = wipe σ (own.map (·.2)) ∧ tB' X sc c σ3 H3 fun k H4 => if k = true then eB X sc elt σ3 H4 fun y H5 => ∃ acc, H5 D = some (.lst acc) ∧ acc.length < sizeLine ∧ Pv (i + 1) (upd H5 D (.lst (acc ++ [y]))) else Pv (i + 1) H4) ∧
      ∀ H', Pv n H' → Q (.ref D) H') (hs : ∀ x, foldedSetIterable it X.env x = pure x := by intro _; rfl) : eW X (.ListComp elt [⟨tg, it, [c], 0⟩] sc pos) σ H Q :=
  eI (pe_lc (g := gB X sc tg) (tt := tB' X sc c) (te := eB X sc elt) cc.h (by rw [cn.h]; exact nd.h) PJw (by rw [cn.h]; exact ok) (fun s H0 C cl fp => ⟨fun pins s' _ _ v u _ I r h => (h s H0 C cl fp).run pins s' u I r⟩) (fun s H0 C cl fp => pts_one ⟨fun pins s' _ _ _ I h => (h s H0 C cl fp).run pins s' I⟩) (fun s H0 C cl fp => ⟨fun pins s' _ _ _ I h => (h s H0 C cl fp).run pins s' I⟩) hs)
    ⟨fun pins s I => wpAny_mono (h.run pins s I) (fun v s1 q => wpAny_mono q (fun u s2 ⟨i, fp, tn, J, H2, e, I2, T, t0, f2, n, G, Y, w, k⟩ => ⟨i, fp, tn, J, H2, e, I2, T, t0, f2, fun D hD => by
      obtain ⟨Pv, q0, q1, q2, q3⟩ := k D hD
      exact lc_it w Pv q0 q1 q2 q3⟩) fun _ _ z => z) fun _ _ z => z⟩
/-- name = [..] whose place is stored from within -/
theorem s_setLc {sc : Scope} {N : List Str} {own : List (Str × Nat)} {y : Str} {i : Nat} [cc : CxC X] [cn : CxN X N] [sl : Slt N y i] [nd : NdN N] (ok : BlkOk N X.env.scope sc own)
    (h : jW X tg it σ H fun J H1 => ∃ n G Y, Walk J n G Y ∧ ∀ D', H1 D' = none → ∃ Pv : Nat → Hp → Prop, Pv 0 (upd H1 D' (.lst [])) ∧ (∀ i H', i ≤ n → Pv i H' → G H') ∧
      (∀ i x H' H2, i < n → Pv i H' → Y i H' x H2 → gB X sc tg x (wipe σ (own.map (·.2))) H2 fun σ3 H3 => wipe σ3 (own.map (·.2)) = wipe σ (own.map (·.2)) ∧ eB X sc elt σ3 H3 fun y H4 => ∃ acc, H4 D' = some (.lst acc) ∧ acc.length < sizeLine ∧ Pv (i + 1) (upd H4 D' (.lst (acc ++ [y])))) ∧
      ∀ H', Pv n H' → D.nx (σ.set i (some (.ref D'))) H') (hyl : X.env.scope.names.lookup y = some .local := by rfl)
    (hsw : swapsWith (.ListComp elt [⟨tg, it, [], 0⟩] sc pos) (some (.Name y p2)) p3.line X.env = pure true := by exact sw_true rfl rfl rfl (by decide +kernel)) (hs : ∀ x, foldedSetIterable it X.env x = pure x := by intro _; rfl) : sW X (.Assign [.Name y p2] (.ListComp elt [⟨tg, it, [], 0⟩] sc pos) p3) D σ H :=
  sI (ps_setLc (i := i) (g := gB X sc tg) (tt := tYes) (te := eB X sc elt) cc.h (by rw [cn.h]; exact nd.h) (by rw [cn.h]; exact sl.h) hyl hsw PJw (by rw [cn.h]; exact ok) (fun s H0 C cl fp => ⟨fun pins s' _ _ v u _ I r h => (h s H0 C cl fp).run pins s' u I r⟩) (fun _ _ _ _ _ => pts_nil) (fun s H0 C cl fp => ⟨fun pins s' _ _ _ I h => (h s H0 C cl fp).run pins s' I⟩) hs)
    ⟨fun pins s I => wpAny_mono (h.run pins s I) (fun v s1 q => wpAny_mono q (fun u s2 ⟨j, fp, tn, J, H2, e, I2, T, t0, f2, n, G, Y, w, k⟩ => ⟨j, fp, tn, J, H2, e, I2, T, t0, f2, fun D' hD => by
      obtain ⟨Pv, q0, q1, q2, q3⟩ := k D' hD
      exact lc_it w Pv q0 q1 (fun i x H' H2' hi p y s0 H0 C cl fp => ⟨fun pins s' u I r => wpAny_mono ((q2 i x H' H2' hi p y s0 H0 C cl fp).run pins s' u I r) (fun _ s'' ⟨σ', H'', I'', e1, e2⟩ => ⟨σ', H'', I'', e1, e2⟩) fun _ _ z => z⟩) q3⟩) fun _ _ z => z) fun _ _ z => z⟩
/-- name = [.. if ..] whose place is stored from within -/
theorem s_setLcI {sc : Scope} {N : List Str} {own : List (Str × Nat)} {y : Str} {i : Nat} [cc : CxC X] [cn : CxN X N] [sl : Slt N y i] [nd : NdN N] (ok : BlkOk N X.env.scope sc own)
    (h : jW X tg it σ H fun J H1 => ∃ n G Y, Walk J n G Y ∧ ∀ D', H1 D' = none → ∃ Pv : Nat → Hp → Prop, Pv 0 (upd H1 D' (.lst [])) ∧ (∀ i H', i ≤ n → Pv i H' → G H') ∧
      (∀ i x H' H2, i < n → Pv i H' → Y i H' x H2 → gB X sc tg x (wipe σ (own.map (·.2))) H2 fun σ3 H3 => wipe σ3 (own.map (·.2)) = wipe σ (own.map (·.2)) ∧ tB' X sc c σ3 H3 fun k H4 => if k = true then eB X sc elt σ3 H4 fun y H5 => ∃ acc, H5 D' = some (.lst acc) ∧ acc.length < sizeLine ∧ Pv (i + 1) (upd H5 D' (.lst (acc ++ [y]))) else Pv (i + 1) H4) ∧
      ∀ H', Pv n H' → D.nx (σ.set i (some (.ref D'))) H') (hyl : X.env.scope.names.lookup y = some .local := by rfl)
    (hsw : swapsWith (.ListComp elt [⟨tg, it, [c], 0⟩] sc pos) (some (.Name y p2)) p3.line X.env = pure true := by exact sw_true rfl rfl rfl (by decide +kernel)) (hs : ∀ x, foldedSetIterable it X.env x = pure x := by intro _; rfl) : sW X (.Assign [.Name y p2] (.ListComp elt [⟨tg, it, [c], 0⟩] sc pos) p3) D σ H :=
  sI (ps_setLc (i := i) (g := gB X sc tg) (tt := tB' X sc c) (te := eB X sc elt) cc.h (by rw [cn.h]; exact nd.h) (by rw [cn.h]; exact sl.h) hyl hsw PJw (by rw [cn.h]; exact ok) (fun s H0 C cl fp => ⟨fun pins s' _ _ v u _ I r h => (h s H0 C cl fp).run pins s' u I r⟩) (fun s H0 C cl fp => pts_one ⟨fun pins s' _ _ _ I h => (h s H0 C cl fp).run pins s' I⟩) (fun s H0 C cl fp => ⟨fun pins s' _ _ _ I h => (h s H0 C cl fp).run pins s' I⟩) hs)
    ⟨fun pins s I => wpAny_mono (h.run pins s I) (fun v s1 q => wpAny_mono q (fun u s2 ⟨j, fp, tn, J, H2, e, I2, T, t0, f2, n, G, Y, w, k⟩ => ⟨j, fp, tn, J, H2, e, I2, T, t0, f2, fun D' hD => by
      obtain ⟨Pv, q0, q1, q2, q3⟩ := k D' hD
      exact lc_it w Pv q0 q1 q2 q3⟩) fun _ _ z => z) fun _ _ z => z⟩
/-! ### slices -/
structure pW (X : Cx) (e : Option Expr) (σ : L2.St) (H : Hp) (Q : Option Int → Hp → Prop) : Prop where
  run : ∀ pins s, Inv X pins σ H s → wpAny (model X.prog X.w) X.A (evalPart e X.env) (fun u s' => ∃ o H', Inv X pins σ H' s' ∧ IsPart u o ∧ Q o H') X.xe s
theorem p_none {R : Option Int → Hp → Prop} (h : R none H) : pW X none σ H R := ⟨fun pins s I => by
  have z := (po_none (X := X)).run pins s σ H R I h
  exact wpAny_mono z (fun u s' ⟨o, H', a, b, c⟩ => ⟨o, H', a, b, c⟩) fun _ _ z => z⟩
theorem p_some {R : Option Int → Hp → Prop} (h : eW X e σ H fun v H1 => ∃ i, v = .int i ∧ R (some i) H1) : pW X (some e) σ H R := ⟨fun pins s I => by
  have z := (po_some (X := X) (PEw (e := e))).run pins s σ H R I h
  exact wpAny_mono z (fun u s' ⟨o, H', a, b, c⟩ => ⟨o, H', a, b, c⟩) fun _ _ z => z⟩
theorem POw {e : Option Expr} : PO X e (pW X e) := ⟨fun pins s _ _ _ I h => h.run pins s I⟩
theorem e_slice {lo hi : Option Expr} (h : eW X e σ H fun x H1 => pW X lo σ H1 fun l H2 => pW X hi σ H2 fun u H3 => nW X x l u H3 Q) : eW X (.Subscript e (.Slice lo hi none p2) pos) σ H Q := eI (pe_slice NRw PEw POw POw) h
theorem n_str {z : Str} {lo hi : Option Int} (hz : z.length ≤ sizeLine) (q : Q (.str (cutS z lo hi)) H) : nW X (.str z) lo hi H Q := nI sl_str ⟨z, rfl, hz, q⟩
theorem n_lst {p : Addr} {xs : List V} {lo hi : Option Int} (h : SqL X.K H p xs) (q : ∀ l H2, Same H H2 → H l = none → H2 l = some (.lst (cutV xs lo hi)) → (∀ b, b ≠ l → H2 b = H b) → Q (.ref l) H2) : nW X (.ref p) lo hi H Q :=
  nI sl_list ⟨p, xs, rfl, h, fun l hl => q l _ (fun x o e => by rw [upd_ne (ne_of_none e hl)]; exact e) hl upd_same fun x hx => upd_ne hx⟩
/-! ### methods of built-in types -/
theorem e_bm {T id : String} {name : Str} (pa : PlainAttrs T) (slot : Slot T name id) (hty : typeOf (.builtin id) = pure (.type "method_descriptor")) (h : eW X o σ H fun x H1 => tyV X.K T x H1 ∧ aW X (e :: es) σ H1 fun xs H2 => mW X id x xs H2 Q)
    (hbase : attributeBase o name X.env (eval o X.env) = eval o X.env := by rfl)
    (hfew : ((backTo pos (starEach (e :: es) X.env)).all (fun x => !x.1) && (backToKw pos (keywordEach [] X.env)).all (fun x => x.1.isSome) && decide ((e :: es).length + ([] : List Keyword).length + (if ([] : List Keyword).isEmpty then 0 else 1) < 30)) = true := by rfl)
    (hline : (apos.endLine == pos.line) = true := by rfl) (hs : starEach (e :: es) X.env = (false, eval e X.env) :: starEach es X.env := by rfl) (hplain : (backTo pos (starEach es X.env)).any (·.1) = false := by rfl) : eW X (.Call (.Attribute o name apos) (e :: es) [] pos) σ H Q :=
  eI (pe_bm pa slot hty MRw PEw PAw hbase hfew hline hs hplain) h
theorem e_bm0 {T id : String} {name : Str} (pa : PlainAttrs T) (slot : Slot T name id) (hty : typeOf (.builtin id) = pure (.type "method_descriptor")) (h : eW X o σ H fun x H1 => tyV X.K T x H1 ∧ mW X id x [] H1 Q)
    (hbase : attributeBase o name X.env (eval o X.env) = eval o X.env := by rfl) (hline : (apos.endLine == pos.line) = true := by rfl) : eW X (.Call (.Attribute o name apos) [] [] pos) σ H Q := eI (pe_bm0 pa slot hty MRw PEw hbase hline) h
theorem m_append {l : Addr} {xs : List V} {y : V} (h : H l = some (.lst xs)) (hz : xs.length < 16000000) (q : ∀ H2, H2 l = some (.lst (xs ++ [y])) → (∀ b, b ≠ l → H2 b = H b) → Q .non H2) : mW X "list.append" (.ref l) [y] H Q :=
  mI mt_append ⟨l, xs, y, rfl, rfl, h, Nat.lt_of_lt_of_le hz (by decide), q _ upd_same fun b hb => upd_ne hb⟩
theorem m_extend {l b : Addr} {xs zs : List V} (h : H l = some (.lst xs)) (h2 : H b = some (.lst zs)) (hz : xs.length + zs.length ≤ 100000) (q : ∀ H2, H2 l = some (.lst (xs ++ zs)) → (∀ b, b ≠ l → H2 b = H b) → Q .non H2) : mW X "list.extend" (.ref l) [.ref b] H Q :=
  mI mt_extend ⟨l, b, xs, zs, rfl, rfl, h, h2, Nat.le_trans hz (by decide), q _ upd_same fun b hb => upd_ne hb⟩
theorem m_pop {l : Addr} {xs : List V} {y : V} (h : H l = some (.lst (xs ++ [y]))) (q : ∀ H2, H2 l = some (.lst xs) → (∀ b, b ≠ l → H2 b = H b) → Q y H2) : mW X "list.pop" (.ref l) [] H Q :=
  mI mt_pop ⟨l, _, y, rfl, rfl, h, by simp, q _ (by rw [List.dropLast_concat]; exact upd_same) fun b hb => upd_ne hb⟩
theorem m_reverse {l : Addr} {xs : List V} (h : H l = some (.lst xs)) (q : ∀ H2, H2 l = some (.lst xs.reverse) → (∀ b, b ≠ l → H2 b = H b) → Q .non H2) : mW X "list.reverse" (.ref l) [] H Q :=
  mI mt_reverse ⟨l, _, rfl, rfl, h, q _ upd_same fun b hb => upd_ne hb⟩
theorem e_append (h : eW X o σ H fun x H1 => tyV X.K "list" x H1 ∧ aW X [e] σ H1 fun xs H2 => mW X "list.append" x xs H2 Q) (hbase : attributeBase o "append" X.env (eval o X.env) = eval o X.env := by rfl)
    (hfew : ((backTo pos (starEach [e] X.env)).all (fun x => !x.1) && (backToKw pos (keywordEach [] X.env)).all (fun x => x.1.isSome) && decide ([e].length + ([] : List Keyword).length + (if ([] : List Keyword).isEmpty then 0 else 1) < 30)) = true := by rfl)
    (hline : (apos.endLine == pos.line) = true := by rfl) (hs : starEach [e] X.env = (false, eval e X.env) :: starEach [] X.env := by rfl) : eW X (.Call (.Attribute o "append" apos) [e] [] pos) σ H Q :=
  e_bm PySem.F.plainAttrs_list PySem.F.slot_list_append PySem.F.type_list_append h hbase hfew hline hs rfl
theorem e_extend (h : eW X o σ H fun x H1 => tyV X.K "list" x H1 ∧ aW X [e] σ H1 fun xs H2 => mW X "list.extend" x xs H2 Q) (hbase : attributeBase o "extend" X.env (eval o X.env) = eval o X.env := by rfl)
    (hfew : ((backTo pos (starEach [e] X.env)).all (fun x => !x.1) && (backToKw pos (keywordEach [] X.env)).all (fun x => x.1.isSome) && decide ([e].length + ([] : List Keyword).length + (if ([] : List Keyword).isEmpty then 0 else 1) < 30)) = true := by rfl)
    (hline : (apos.endLine == pos.line) = true := by rfl) (hs : starEach [e] X.env = (false, eval e X.env) :: starEach [] X.env := by rfl) : eW X (.Call (.Attribute o "extend" apos) [e] [] pos) σ H Q :=
  e_bm PySem.F.plainAttrs_list PySem.F.slot_list_extend PySem.F.type_list_extend h hbase hfew hline hs rfl
theorem e_pop (h : eW X o σ H fun x H1 => tyV X.K "list" x H1 ∧ mW X "list.pop" x [] H1 Q) (hbase : attributeBase o "pop" X.env (eval o X.env) = eval o X.env := by rfl) (hline : (apos.endLine == pos.line) = true := by rfl) : eW X (.Call (.Attribute o "pop" apos) [] [] pos) σ H Q :=
  e_bm0 PySem.F.plainAttrs_list PySem.F.slot_list_pop PySem.F.type_list_pop h hbase hline
theorem e_reverse (h : eW X o σ H fun x H1 => tyV X.K "list" x H1 ∧ mW X "list.reverse" x [] H1 Q) (hbase : attributeBase o "reverse" X.env (eval o X.env) = eval o X.env := by rfl) (hline : (apos.endLine == pos.line) = true := by rfl) : eW X (.Call (.Attribute o "reverse" apos) [] [] pos) σ H Q :=
  e_bm0 PySem.F.plainAttrs_list PySem.F.slot_list_reverse PySem.F.type_list_reverse h hbase hline
theorem ty_l {K : PySem.W.Frag} {p : Addr} {xs : List V} (h : H p = some (.lst xs)) : tyV K "list" (.ref p) H := .inl ⟨rfl, _, SqL.of h⟩
theorem e_join (h : eW X o σ H fun x H1 => (∃ a, x = .str a) ∧ eW X e σ H1 fun y H2 => mW X "str.join" x [y] H2 Q) (hs : starEach [e] X.env = [(false, eval e X.env)] := by rfl) (hbase : attributeBase o "join" X.env (eval o X.env) = eval o X.env := by rfl) (hline : (apos.endLine == pos.line) = true := by rfl) : eW X (.Call (.Attribute o "join" apos) [e] [] pos) σ H Q :=
  eI (pe_m1 PySem.F.slot_str_join PySem.F.type_str_join MRw PEw PEw hs hbase hline) h
theorem e_split (h : eW X o σ H fun x H1 => (∃ a, x = .str a) ∧ eW X e σ H1 fun y H2 => mW X "str.split" x [y] H2 Q) (hs : starEach [e] X.env = [(false, eval e X.env)] := by rfl) (hbase : attributeBase o "split" X.env (eval o X.env) = eval o X.env := by rfl) (hline : (apos.endLine == pos.line) = true := by rfl) : eW X (.Call (.Attribute o "split" apos) [e] [] pos) σ H Q :=
  eI (pe_m1 PySem.F.slot_str_split PySem.F.type_str_split MRw PEw PEw hs hbase hline) h
end
section
variable {X : Cx} {H : Hp} {Q : VK} {i j : Int} {z u : Str} {p : Addr} {xs : List V}
theorem o_leS (q : Q (.bl (!decide (tl u < tl z))) H) : oW X (compareOp .LtE) (.str z) (.str u) H Q := oI op_le_str ⟨_, _, rfl, rfl, q⟩
theorem o_ltS (q : Q (.bl (decide (tl z < tl u))) H) : oW X (compareOp .Lt) (.str z) (.str u) H Q := oI op_lt_str ⟨_, _, rfl, rfl, q⟩
theorem o_inC {c : Nat} (q : Q (.bl (decide (c ∈ tl z))) H) : oW X (compareOp .In) (.str ⟨#[c]⟩) (.str z) H Q := oI op_in_sign ⟨_, _, rfl, rfl, q⟩
theorem o_niC {c : Nat} (q : Q (.bl (!decide (c ∈ tl z))) H) : oW X (compareOp .NotIn) (.str ⟨#[c]⟩) (.str z) H Q := oI op_notIn_sign ⟨_, _, rfl, rfl, q⟩
theorem k_ordC {c : Nat} (q : Q (.int (c : Int)) H) : kW X (.builtin "ord") [.str ⟨#[c]⟩] H Q := kI call_ord ⟨_, rfl, rfl, q⟩
theorem k_strI (h : i.natAbs.log2 < 1920) (q : Q (.str (Str.ofString (toString i))) H) : kW X (.type "str") [.int i] H Q := kI call_str_int ⟨_, rfl, h, q⟩
theorem k_intS (h : PySem.intText? z = some i) (hz : z.length ≤ 640) (q : Q (.int i) H) : kW X (.type "int") [.str z] H Q := kI call_int_str ⟨_, _, rfl, h, hz, q⟩
theorem k_sum {ns : List Int} [cc : CxC X] (h : SqL X.K H p (ns.map V.int)) (q : Q (.int ns.sum) H) : kW X (.builtin "sum") [.ref p] H Q := kI (cr_sum cc.h) ⟨_, _, rfl, h, q⟩
theorem k_all {bs : List Bool} [cc : CxC X] (h : SqL X.K H p (bs.map V.bl)) (q : Q (.bl (bs.all id)) H) : kW X (.builtin "all") [.ref p] H Q := kI (cr_all cc.h) ⟨_, _, rfl, h, q⟩
theorem k_dictD {kvs : List (Key × V)} (h : Rd H p (.dK kvs)) (q : ∀ l H2, Same H H2 → H l = none → H2 l = some (.dK kvs) → (∀ b, b ≠ l → H2 b = H b) → Q (.ref l) H2) : kW X (.type "dict") [.ref p] H Q :=
  kI call_dictD ⟨_, _, rfl, h, fun l hl => q l _ (fun x o e => by rw [upd_ne (ne_of_none e hl)]; exact e) hl upd_same fun x hx => upd_ne hx⟩
theorem k_listL (h : SqL X.K H p xs ∨ SqT X.K H p xs) (q : ∀ l H2, Same H H2 → H l = none → H2 l = some (.lst xs) → (∀ b, b ≠ l → H2 b = H b) → Q (.ref l) H2) : kW X (.type "list") [.ref p] H Q :=
  kI call_list_of ⟨_, _, rfl, h, fun l hl => q l _ (fun x o e => by rw [upd_ne (ne_of_none e hl)]; exact e) hl upd_same fun x hx => upd_ne hx⟩
theorem k_tupL (h : SqL X.K H p xs) (q : ∀ l H2, Same H H2 → H l = none → H2 l = some (.tup xs) → (∀ b, b ≠ l → H2 b = H b) → Q (.ref l) H2) : kW X (.type "tuple") [.ref p] H Q :=
  kI call_tuple_of ⟨_, _, rfl, .inl ⟨h, fun l hl => q l _ (fun x o e => by rw [upd_ne (ne_of_none e hl)]; exact e) hl upd_same fun x hx => upd_ne hx⟩⟩
theorem o_catL {q2 : Addr} {zs : List V} (h1 : H p = some (.lst xs)) (h2 : H q2 = some (.lst zs)) (hz : xs.length + zs.length ≤ 100000) (q : ∀ l H2, Same H H2 → H l = none → H2 l = some (.lst (xs ++ zs)) → (∀ b, b ≠ l → H2 b = H b) → Q (.ref l) H2) : oW X (binaryOp .Add) (.ref p) (.ref q2) H Q :=
  oI op_cat ⟨_, _, _, _, rfl, rfl, h1, h2, Nat.le_trans hz (by decide), fun l hl => q l _ (fun x o e => by rw [upd_ne (ne_of_none e hl)]; exact e) hl upd_same fun x hx => upd_ne hx⟩
theorem m_join {ys : List Str} {a : Str} (h : SqL X.K H p (ys.map V.str) ∨ SqT X.K H p (ys.map V.str)) (hz : (ys.map Str.length).sum + ys.length * a.length ≤ 16777216) (q : Q (.str (Txt.join a ys)) H) : mW X "str.join" (.str a) [.ref p] H Q := by
  exact mI mt_join ⟨_, _, _, rfl, rfl, h, hz, q⟩
theorem m_split {a b : Str} (hb : (b.length == 0) = false) (ha : a.length ≤ 1000000) (q : ∀ l H2, Same H H2 → H l = none → H2 l = some (.lst ((Txt.split a b).map V.str)) → (∀ b, b ≠ l → H2 b = H b) → Q (.ref l) H2) : mW X "str.split" (.str a) [.str b] H Q :=
  mI mt_split ⟨_, _, rfl, rfl, hb, by rw [sizeLine_eq]; omega, fun l hl => q l _ (fun x o e => by rw [upd_ne (ne_of_none e hl)]; exact e) hl upd_same fun x hx => upd_ne hx⟩
end
/-! ### things of any kind -/
mutual
inductive Th (K : PySem.W.Frag) (H : Hp) : V → PyData → Prop
  | non : Th K H .non .none
  | bl (b : Bool) : Th K H (.bl b) (.bool b)
  | int (i : Int) : Th K H (.int i) (.int i)
  | str (x : Str) (h : x.length ≤ 1000000) : Th K H (.str x) (.str x)
  | lst {a : Addr} {xs : List V} {ds : List PyData} : SqL K H a xs → ThAll K H xs ds → Th K H (.ref a) (.list ds)
  | tup {a : Addr} {xs : List V} {ds : List PyData} : SqT K H a xs → ThAll K H xs ds → Th K H (.ref a) (.tuple ds)
  | dct {a : Addr} {kvs : List (Key × V)} : H a = some (.dK kvs) → Th K H (.ref a) (.dict [])
inductive ThAll (K : PySem.W.Frag) (H : Hp) : List V → List PyData → Prop
  | nil : ThAll K H [] []
  | cons {v : V} {vs : List V} {d : PyData} {ds : List PyData} : Th K H v d → ThAll K H vs ds → ThAll K H (v :: vs) (d :: ds)
end
def tyName : PyData → String
  | .none => "NoneType"
  | .bool _ => "bool"
  | .int _ => "int"
  | .str _ => "str"
  | .list _ => "list"
  | .tuple _ => "tuple"
  | .dict _ => "dict"
theorem Th.ty {K : PySem.W.Frag} {H : Hp} {v : V} {d : PyData} (h : Th K H v d) : TyX K H v (.type (tyName d)) := by
  cases h with
  | non => exact .base .non
  | bl b => exact .base (.bl b)
  | int i => exact .base (.int i)
  | str x _ => exact .base (.str x)
  | lst hs _ =>
    rcases hs with (h | ⟨o, h⟩) | ⟨o, its, n, h, hc, _⟩
    · exact .base (.lst h)
    · exact .base (.frz h)
    · exact .kList h hc
  | tup hs _ =>
    rcases hs with (h | ⟨o, h⟩) | ⟨o, its, n, h, hc, _⟩
    · exact .base (.tup h)
    · exact .fTuple h
    · exact .kTuple h hc
  | dct h => exact .base (.dK h)
/-- whether data is of the built-in type -/
def isK (d : PyData) (n : String) : Bool := match d with
  | .none => false
  | .bool _ => n == "bool" || n == "int"
  | .int _ => n == "int"
  | .str _ => n == "str"
  | .list _ => n == "list"
  | .tuple _ => n == "tuple"
  | .dict _ => n == "dict"
theorem kitTh (d : PyData) : kitB (tyName d) "str" = some (isK d "str") ∧ kitB (tyName d) "int" = some (isK d "int") ∧ kitB (tyName d) "bool" = some (isK d "bool") ∧ kitB (tyName d) "list" = some (isK d "list") ∧ kitB (tyName d) "tuple" = some (isK d "tuple") ∧ kitB (tyName d) "dict" = some (isK d "dict") := by
  cases d <;> (simp only [tyName, isK]; decide +kernel)
section
variable {X : Cx} {H : Hp} {Q : VK} {v : V} {d : PyData}
theorem k_isStr (h : Th X.K H v d) (q : Q (.bl (isK d "str")) H) : kW X (.builtin "isinstance") [v, .ty "str"] H Q := k_isB h.ty (kitTh d).1 q
theorem k_isInt (h : Th X.K H v d) (q : Q (.bl (isK d "int")) H) : kW X (.builtin "isinstance") [v, .ty "int"] H Q := k_isB h.ty (kitTh d).2.1 q
theorem k_isBool (h : Th X.K H v d) (q : Q (.bl (isK d "bool")) H) : kW X (.builtin "isinstance") [v, .ty "bool"] H Q := k_isB h.ty (kitTh d).2.2.1 q
theorem k_isList (h : Th X.K H v d) (q : Q (.bl (isK d "list")) H) : kW X (.builtin "isinstance") [v, .ty "list"] H Q := k_isB h.ty (kitTh d).2.2.2.1 q
theorem k_isTuple (h : Th X.K H v d) (q : Q (.bl (isK d "tuple")) H) : kW X (.builtin "isinstance") [v, .ty "tuple"] H Q := k_isB h.ty (kitTh d).2.2.2.2.1 q
theorem k_isDict (h : Th X.K H v d) (q : Q (.bl (isK d "dict")) H) : kW X (.builtin "isinstance") [v, .ty "dict"] H Q := k_isB h.ty (kitTh d).2.2.2.2.2 q
end
/-- what is tracked stands so in a greater heap -/
theorem sq_more {K : PySem.W.Frag} {H H' : Hp} {a : Addr} {xs : List V} (s : Same H H') (h : SqT K H a xs) : SqT K H' a xs := by
  rcases h with (h | ⟨o, h⟩) | h
  · exact .inl (.inl (s _ _ h))
  · exact .inl (.inr ⟨o, s _ _ h⟩)
  · exact .inr h
mutual
theorem Th.more {K : PySem.W.Frag} {H H' : Hp} (s : Same H H') : ∀ (d : PyData) (v : V), Th K H v d → Th K H' v d
  | .none, _, h => by cases h; exact .non
  | .bool _, _, h => by cases h; exact .bl _
  | .int _, _, h => by cases h; exact .int _
  | .str _, _, h => by cases h with | str _ h => exact .str _ h
  | .list ds, _, h => by cases h with | lst hs ha => exact .lst (s.seq hs) (ThAll.more s ds _ ha)
  | .tuple ds, _, h => by cases h with | tup hs ha => exact .tup (sq_more s hs) (ThAll.more s ds _ ha)
  | .dict _, _, h => by cases h with | dct hd => exact .dct (s _ _ hd)
theorem ThAll.more {K : PySem.W.Frag} {H H' : Hp} (s : Same H H') : ∀ (ds : List PyData) (vs : List V), ThAll K H vs ds → ThAll K H' vs ds
  | [], _, h => by cases h; exact .nil
  | d :: ds, _, h => by cases h with | cons h1 h2 => exact .cons (Th.more s d _ h1) (ThAll.more s ds _ h2)
end
theorem ThAll.len {K : PySem.W.Frag} {H : Hp} : ∀ {vs : List V} {ds : List PyData}, ThAll K H vs ds → vs.length = ds.length
  | _, _, .nil => rfl
  | _, _, .cons _ h => congrArg (· + 1) h.len
theorem ThAll.get {K : PySem.W.Frag} {H : Hp} : ∀ {vs : List V} {ds : List PyData} {i : Nat} {v : V}, ThAll K H vs ds → vs[i]? = some v → ∃ d, ds[i]? = some d ∧ Th K H v d
  | _, _, _, _, .nil, e => by simp at e
  | _, _, 0, _, .cons h _, e => by simp at e; subst e; exact ⟨_, rfl, h⟩
  | _, _, i + 1, v, .cons _ t, e => by
    obtain ⟨d, h1, h2⟩ := ThAll.get (i := i) (v := v) t (by simpa using e)
    exact ⟨d, by simpa using h1, h2⟩
theorem all_snoc {α : Type} {p : α → Bool} {l : List α} {i : Nat} {x : α} (h : l[i]? = some x) : (l.take (i + 1)).all p = ((l.take i).all p && p x) := by
  have hl := (List.getElem?_eq_some_iff.mp h).1
  have e := (List.getElem?_eq_some_iff.mp h).2
  rw [← List.take_append_getElem hl, List.all_append, e]
  simp
theorem all_cut {α : Type} {p : α → Bool} {l : List α} {i : Nat} {x : α} (h : l[i]? = some x) (hx : p x = false) : l.all p = false := by
  have hm := List.mem_of_getElem? h
  cases e : l.all p with
  | false => rfl
  | true => rw [List.all_eq_true.mp e x hm] at hx; cases hx
theorem sz1m {n : Nat} (h : n ≤ 1000000) : n ≤ sizeLine := Nat.le_trans h (by decide)
theorem lt1 (a b : Nat) : ([a] < [b]) ↔ a < b := by simp [List.cons_lt_cons_iff]
section
variable {X : Cx} {σ : L2.St} {H : Hp} {Q : VK} {D : Ends} {pos p2 p3 p4 p5 : Pos} {it tg elt c : Expr}
/-- a comprehension whose elements are told one by one and track nothing that a turn could change -/
theorem e_lcM {sc : Scope} {N : List Str} {own : List (Str × Nat)} [cc : CxC X] [cn : CxN X N] [nd : NdN N] (ok : BlkOk N X.env.scope sc own)
    (h : jW X tg it σ H fun J H1 => ∃ n G Y, Walk J n G Y ∧ ∃ ys : List V, ys.length = n ∧ ys.length ≤ 100000 ∧ (∀ H', Same H1 H' → G H') ∧
      (∀ i x H' H2, i < n → Same H1 H' → Y i H' x H2 → Same H' H2 ∧ gB X sc tg x (wipe σ (own.map (·.2))) H2 fun σ3 H3 => wipe σ3 (own.map (·.2)) = wipe σ (own.map (·.2)) ∧ Same H2 H3 ∧ eB X sc elt σ3 H3 fun y H4 => ys[i]? = some y ∧ Same H3 H4) ∧
      ∀ l H', Same H1 H' → H1 l = none → H' l = some (.lst ys) → Q (.ref l) H') (hs : ∀ x, foldedSetIterable it X.env x = pure x := by intro _; rfl) : eW X (.ListComp elt [⟨tg, it, [], 0⟩] sc pos) σ H Q := by
  refine e_lc ok ⟨fun pins s I => wpAny_mono (h.run pins s I) (fun v s1 q => wpAny_mono q (fun u s2 ⟨i, fp, tn, J, H2, e, I2, T, t0, f2, n, G, Y, w, ys, hl, hn, q1, q2, q3⟩ => ⟨i, fp, tn, J, H2, e, I2, T, t0, f2, n, G, Y, w, fun D' hD => ⟨fun i H' => Same H2 H' ∧ H' D' = some (.lst (ys.take i)), ⟨fun b o e => by rw [upd_ne (ne_of_none e hD)]; exact e, upd_same⟩, fun _ _ _ p => q1 _ p.1, fun i x H' H3 hi p y s0 H0 C cl fp => ?_, fun H' p => q3 D' H' p.1 hD (by rw [p.2, ← hl, List.take_length])⟩⟩) fun _ _ z => z) fun _ _ z => z⟩ hs
  obtain ⟨k1, k2⟩ := q2 i x H' H3 hi p.1 y
  refine ⟨fun pins s' u I r => wpAny_mono ((k2 s0 H0 C cl fp).run pins s' u I r) (fun _ s'' ⟨σ', H'', I'', e1, e2, e3⟩ => ⟨σ', H'', I'', e1, fun s0 H0 C cl fp => ⟨fun pins s' I => wpAny_mono ((e3 s0 H0 C cl fp).run pins s' I) (fun u s4 ⟨v4, H4, I4, r4, ev, e4⟩ => ⟨v4, H4, I4, r4, ys.take i, e4 _ _ (e2 _ _ (k1 _ _ p.2)), ?_, ?_, ?_⟩) fun _ _ z => z⟩⟩) fun _ _ z => z⟩
  · rw [List.length_take]
    exact Nat.lt_of_le_of_lt (Nat.min_le_left _ _) (Nat.lt_of_lt_of_le (Nat.lt_of_lt_of_le (hl ▸ hi) hn) (by decide))
  · intro b o e
    rw [upd_ne (ne_of_none e hD)]
    exact e4 _ _ (e2 _ _ (k1 _ _ (p.1 _ _ e)))
  · rw [upd_same]
    have q := (List.getElem?_eq_some_iff.mp ev).1
    rw [← List.take_append_getElem q, (List.getElem?_eq_some_iff.mp ev).2]
/-- a comprehension whose elements are told by a word of the turn and the element -/
theorem e_lcP {sc : Scope} {N : List Str} {own : List (Str × Nat)} [cc : CxC X] [cn : CxN X N] [nd : NdN N] (ok : BlkOk N X.env.scope sc own) (Pr : Nat → V → Prop)
    (h : jW X tg it σ H fun J H1 => ∃ n G Y, Walk J n G Y ∧ n ≤ 100000 ∧ (∀ H', Same H1 H' → G H') ∧
      (∀ i x H' H2, i < n → Same H1 H' → Y i H' x H2 → Same H' H2 ∧ gB X sc tg x (wipe σ (own.map (·.2))) H2 fun σ3 H3 => wipe σ3 (own.map (·.2)) = wipe σ (own.map (·.2)) ∧ Same H2 H3 ∧ eB X sc elt σ3 H3 fun y H4 => Pr i y ∧ Same H3 H4) ∧
      ∀ l H' ys, Same H1 H' → H1 l = none → H' l = some (.lst ys) → ys.length = n → (∀ i y, ys[i]? = some y → Pr i y) → Q (.ref l) H') (hs : ∀ x, foldedSetIterable it X.env x = pure x := by intro _; rfl) : eW X (.ListComp elt [⟨tg, it, [], 0⟩] sc pos) σ H Q := by
  refine e_lc ok ⟨fun pins s I => wpAny_mono (h.run pins s I) (fun v s1 q => wpAny_mono q (fun u s2 ⟨i, fp, tn, J, H2, e, I2, T, t0, f2, n, G, Y, w, hn, q1, q2, q3⟩ => ⟨i, fp, tn, J, H2, e, I2, T, t0, f2, n, G, Y, w, fun D' hD => ⟨fun i H' => Same H2 H' ∧ ∃ acc, H' D' = some (.lst acc) ∧ acc.length = i ∧ ∀ j z, acc[j]? = some z → Pr j z, ⟨fun b o e => by rw [upd_ne (ne_of_none e hD)]; exact e, [], upd_same, rfl, by simp⟩, fun _ _ _ p => q1 _ p.1, fun i x H' H3 hi p y s0 H0 C cl fp => ?_, fun H' p => by
    obtain ⟨p1, acc, p2, p3, p4⟩ := p
    exact q3 D' H' acc p1 hD p2 p3 p4⟩⟩) fun _ _ z => z) fun _ _ z => z⟩ hs
  obtain ⟨k1, k2⟩ := q2 i x H' H3 hi p.1 y
  obtain ⟨p1, acc, p2, p3, p4⟩ := p
  refine ⟨fun pins s' u I r => wpAny_mono ((k2 s0 H0 C cl fp).run pins s' u I r) (fun _ s'' ⟨σ', H'', I'', e1, e2, e3⟩ => ⟨σ', H'', I'', e1, fun s0 H0 C cl fp => ⟨fun pins s' I => wpAny_mono ((e3 s0 H0 C cl fp).run pins s' I) (fun u s4 ⟨v4, H4, I4, r4, ev, e4⟩ => ⟨v4, H4, I4, r4, acc, e4 _ _ (e2 _ _ (k1 _ _ p2)), ?_, ?_, acc ++ [v4], upd_same, ?_, ?_⟩) fun _ _ z => z⟩⟩) fun _ _ z => z⟩
  · rw [p3]
    exact Nat.lt_of_lt_of_le (Nat.lt_of_lt_of_le hi hn) (by decide)
  · intro b o e
    rw [upd_ne (ne_of_none e hD)]
    exact e4 _ _ (e2 _ _ (k1 _ _ (p1 _ _ e)))
  · rw [List.length_append, p3]; rfl
  · intro j z hz
    by_cases hj : j < i
    · rw [List.getElem?_append_left (by omega)] at hz
      exact p4 j z hz
    · rw [List.getElem?_append_right (by omega), p3] at hz
      have hj2 : j = i := by
        have := (List.getElem?_eq_some_iff.mp hz).1
        simp at this
        omega
      subst hj2
      simp at hz
      rw [← hz]
      exact ev
theorem s_setLcP {sc : Scope} {N : List Str} {own : List (Str × Nat)} {y : Str} {i : Nat} [cc : CxC X] [cn : CxN X N] [sl : Slt N y i] [nd : NdN N] (ok : BlkOk N X.env.scope sc own) (Pr : Nat → V → Prop)
    (h : jW X tg it σ H fun J H1 => ∃ n G Y, Walk J n G Y ∧ n ≤ 100000 ∧ (∀ H', Same H1 H' → G H') ∧
      (∀ i x H' H2, i < n → Same H1 H' → Y i H' x H2 → Same H' H2 ∧ gB X sc tg x (wipe σ (own.map (·.2))) H2 fun σ3 H3 => wipe σ3 (own.map (·.2)) = wipe σ (own.map (·.2)) ∧ Same H2 H3 ∧ eB X sc elt σ3 H3 fun y H4 => Pr i y ∧ Same H3 H4) ∧
      ∀ l H' ys, Same H1 H' → H1 l = none → H' l = some (.lst ys) → ys.length = n → (∀ i y, ys[i]? = some y → Pr i y) → D.nx (σ.set i (some (.ref l))) H') (hyl : X.env.scope.names.lookup y = some .local := by rfl)
    (hsw : swapsWith (.ListComp elt [⟨tg, it, [], 0⟩] sc pos) (some (.Name y p2)) p3.line X.env = pure true := by exact sw_true rfl rfl rfl (by decide +kernel)) (hs : ∀ x, foldedSetIterable it X.env x = pure x := by intro _; rfl) : sW X (.Assign [.Name y p2] (.ListComp elt [⟨tg, it, [], 0⟩] sc pos) p3) D σ H := by
  refine s_setLc ok ⟨fun pins s I => wpAny_mono (h.run pins s I) (fun v s1 q => wpAny_mono q (fun u s2 ⟨i, fp, tn, J, H2, e, I2, T, t0, f2, n, G, Y, w, hn, q1, q2, q3⟩ => ⟨i, fp, tn, J, H2, e, I2, T, t0, f2, n, G, Y, w, fun D' hD => ⟨fun i H' => Same H2 H' ∧ ∃ acc, H' D' = some (.lst acc) ∧ acc.length = i ∧ ∀ j z, acc[j]? = some z → Pr j z, ⟨fun b o e => by rw [upd_ne (ne_of_none e hD)]; exact e, [], upd_same, rfl, by simp⟩, fun _ _ _ p => q1 _ p.1, fun i x H' H3 hi p y s0 H0 C cl fp => ?_, fun H' p => by
    obtain ⟨p1, acc, p2, p3, p4⟩ := p
    exact q3 D' H' acc p1 hD p2 p3 p4⟩⟩) fun _ _ z => z) fun _ _ z => z⟩ hyl hsw hs
  obtain ⟨k1, k2⟩ := q2 i x H' H3 hi p.1 y
  obtain ⟨p1, acc, p2, p3, p4⟩ := p
  refine ⟨fun pins s' u I r => wpAny_mono ((k2 s0 H0 C cl fp).run pins s' u I r) (fun _ s'' ⟨σ', H'', I'', e1, e2, e3⟩ => ⟨σ', H'', I'', e1, fun s0 H0 C cl fp => ⟨fun pins s' I => wpAny_mono ((e3 s0 H0 C cl fp).run pins s' I) (fun u s4 ⟨v4, H4, I4, r4, ev, e4⟩ => ⟨v4, H4, I4, r4, acc, e4 _ _ (e2 _ _ (k1 _ _ p2)), ?_, ?_, acc ++ [v4], upd_same, ?_, ?_⟩) fun _ _ z => z⟩⟩) fun _ _ z => z⟩
  · rw [p3]
    exact Nat.lt_of_lt_of_le (Nat.lt_of_lt_of_le hi hn) (by decide)
  · intro b o e
    rw [upd_ne (ne_of_none e hD)]
    exact e4 _ _ (e2 _ _ (k1 _ _ (p1 _ _ e)))
  · rw [List.length_append, p3]; rfl
  · intro j z hz
    by_cases hj : j < i
    · rw [List.getElem?_append_left (by omega)] at hz
      exact p4 j z hz
    · rw [List.getElem?_append_right (by omega), p3] at hz
      have hj2 : j = i := by
        have := (List.getElem?_eq_some_iff.mp hz).1
        simp at this
        omega
      subst hj2
      simp at hz
      rw [← hz]
      exact ev
/-- raise X('..') -/
theorem s_raise {x m : Str} {C : Addr} {j : Nat} {W : WX} [cc : CxC X] [ct : CxT X W] (T : ExcF X.K X.mg x C) (h : W (.ref C) none σ H) (hg : Gl X x := by rfl) (hdb : (x == ("__debug__" : Str)) = false := by decide) : sW X (.Raise (some (.Call (.Name x p2) [.Constant (.str m) j p3] [] p4)) none pos) D σ H :=
  sI (ps_raise cc.h ct.h (pmk_own PySem.F.excBase_ValueError T.ex T.mg T.kp (raises_own T.be T.ty) hg hdb)) h
end
theorem range_map {α β : Type} (f : α → β) (d : β) : ∀ (l : List α), (List.range l.length).map (fun i => (l[i]?.map f).getD d) = l.map f
  | [] => rfl
  | a :: l => by
    rw [List.length_cons, List.range_succ_eq_map, List.map_cons, List.map_map, List.map_cons, ← range_map f d l]
    simp [Function.comp_def]
theorem sIx_nn (n d : Nat) {i : Int} (h : 0 ≤ i) : HT.sIx n d (some i) = min i.toNat n := by
  show (if i < 0 then (i + (n : Int)).toNat else min i.toNat n) = _
  rw [if_neg (by omega)]
theorem cutL_from {α : Type} (xs : List α) {n : Nat} (hn : xs.length = n) {i : Int} (h : 0 ≤ i) : (xs.drop (HT.sIx n 0 (some i))).take (HT.sIx n n none - HT.sIx n 0 (some i)) = xs.drop i.toNat := by
  rw [sIx_nn _ _ h, HT.sIx_none, ← hn]
  by_cases k : i.toNat ≤ xs.length
  · rw [Nat.min_eq_left k, List.take_of_length_le (by rw [List.length_drop]; omega)]
  · rw [Nat.min_eq_right (by omega), List.drop_length, List.drop_of_length_le (by omega)]
    simp
theorem cutL_to {α : Type} (xs : List α) {n : Nat} (hn : xs.length = n) {i : Int} (h : 0 ≤ i) : (xs.drop (HT.sIx n 0 none)).take (HT.sIx n n (some i) - HT.sIx n 0 none) = xs.take i.toNat := by
  rw [sIx_nn _ _ h, HT.sIx_none, ← hn, List.drop_zero, Nat.sub_zero]
  by_cases k : i.toNat ≤ xs.length
  · rw [Nat.min_eq_left k]
  · rw [Nat.min_eq_right (by omega), List.take_length, List.take_of_length_le (by omega)]
theorem cutL_mid {α : Type} (xs : List α) {n : Nat} (hn : xs.length = n) {i j : Int} (h : 0 ≤ i) (h2 : i ≤ j) : (xs.drop (HT.sIx n 0 (some i))).take (HT.sIx n n (some j) - HT.sIx n 0 (some i)) = (xs.drop i.toNat).take (j.toNat - i.toNat) := by
  rw [sIx_nn _ _ h, sIx_nn _ _ (by omega), ← hn]
  by_cases k : i.toNat ≤ xs.length
  · rw [Nat.min_eq_left k]
    by_cases k2 : j.toNat ≤ xs.length
    · rw [Nat.min_eq_left k2]
    · rw [Nat.min_eq_right (by omega), List.take_of_length_le (by rw [List.length_drop]; omega), List.take_of_length_le (by rw [List.length_drop]; omega)]
  · rw [Nat.min_eq_right (a := i.toNat) (by omega), List.drop_length, List.drop_of_length_le (by omega)]
    simp
theorem cutV_from (xs : List V) {i : Int} (h : 0 ≤ i) : cutV xs (some i) none = xs.drop i.toNat := cutL_from xs rfl h
theorem cutV_to (xs : List V) {i : Int} (h : 0 ≤ i) : cutV xs none (some i) = xs.take i.toNat := cutL_to xs rfl h
theorem cutV_mid (xs : List V) {i j : Int} (h : 0 ≤ i) (h2 : i ≤ j) : cutV xs (some i) (some j) = (xs.drop i.toNat).take (j.toNat - i.toNat) := cutL_mid xs rfl h h2
theorem cutV_last (xs : List V) : cutV xs none (some (-1)) = xs.dropLast := by
  have h : HT.sIx xs.length xs.length (some (-1)) = xs.length - 1 := by
    show (if (-1 : Int) < 0 then (-1 + (xs.length : Int)).toNat else min (-1 : Int).toNat xs.length) = _
    rw [if_pos (by decide)]
    omega
  unfold cutV
  rw [h, HT.sIx_none, List.drop_zero, Nat.sub_zero, List.dropLast_eq_take]
theorem cutS_from (z : Str) {i : Int} (h : 0 ≤ i) : tl (cutS z (some i) none) = (tl z).drop i.toNat := cutL_from (tl z) (len_tl z).symm h
theorem cutS_to (z : Str) {i : Int} (h : 0 ≤ i) : tl (cutS z none (some i)) = (tl z).take i.toNat := cutL_to (tl z) (len_tl z).symm h
theorem cutS_mid (z : Str) {i j : Int} (h : 0 ≤ i) (h2 : i ≤ j) : tl (cutS z (some i) (some j)) = ((tl z).drop i.toNat).take (j.toNat - i.toNat) := cutL_mid (tl z) (len_tl z).symm h h2

/-! ### data that == may be asked of -/
structure Sh (k : Nat) (d : PyData) : Prop where
  can : d.canLay0 = true
  dep : d.depth ≤ k
theorem Sh.int {k : Nat} (i : Int) : Sh k (.int i) := ⟨rfl, Nat.zero_le _⟩
theorem Sh.bl {k : Nat} (i : Bool) : Sh k (.bool i) := ⟨rfl, Nat.zero_le _⟩
theorem Sh.non {k : Nat} : Sh k .none := ⟨rfl, Nat.zero_le _⟩
theorem Sh.str {k : Nat} {z : Str} (h : ∀ c ∈ tl z, c < 1114112) : Sh k (.str z) := ⟨by
  show z.cps.all (· < 0x110000) = true
  rw [← Array.all_toList]
  exact List.all_eq_true.mpr fun c hc => decide_eq_true (h c hc), Nat.zero_le _⟩
theorem can_all : ∀ {ds : List PyData}, (∀ d ∈ ds, d.canLay0 = true) → PyData.canLayAll0 ds = true
  | [], _ => rfl
  | d :: ds, h => by
    show (d.canLay0 && PyData.canLayAll0 ds) = true
    rw [h d (List.mem_cons_self ..), can_all fun x hx => h x (List.mem_cons_of_mem _ hx)]
    rfl
theorem depth_all {k : Nat} : ∀ {ds : List PyData}, (∀ d ∈ ds, d.depth ≤ k) → PyData.depthAll ds ≤ k
  | [], _ => Nat.zero_le _
  | d :: ds, h => by
    show max d.depth (PyData.depthAll ds) ≤ k
    exact Nat.max_le.mpr ⟨h d (List.mem_cons_self ..), depth_all fun x hx => h x (List.mem_cons_of_mem _ hx)⟩
theorem Sh.lst {k : Nat} {ds : List PyData} (h : ∀ d ∈ ds, Sh k d) : Sh (k + 1) (.list ds) := ⟨can_all fun d hd => (h d hd).can, Nat.succ_le_succ (depth_all fun d hd => (h d hd).dep)⟩
theorem Sh.tup {k : Nat} {ds : List PyData} (h : ∀ d ∈ ds, Sh k d) : Sh (k + 1) (.tuple ds) := ⟨can_all fun d hd => (h d hd).can, Nat.succ_le_succ (depth_all fun d hd => (h d hd).dep)⟩
theorem Sh.ok {k : Nat} {d : PyData} (h : Sh k d) (hk : k ≤ 64 := by decide) : SeqAt.shaped d = true := by
  show (d.canLay0 && decide (d.depth ≤ 64)) = true
  rw [h.can, decide_eq_true (Nat.le_trans h.dep hk)]
  rfl
theorem Sh.refl {k : Nat} {d : PyData} (h : Sh k d) : PyData.eqv d d = true := SeqAt.eqv_refl d h.can
theorem dp_strs {K : PySem.W.Frag} {H : Hp} : ∀ (l : List Str), DpAll K H (l.map V.str) (l.map PyData.str)
  | [] => .nil
  | z :: l => .cons (.str z) (dp_strs l)
theorem dp_ints {K : PySem.W.Frag} {H : Hp} : ∀ (l : List Int), DpAll K H (l.map V.int) (l.map PyData.int)
  | [] => .nil
  | z :: l => .cons (.int z) (dp_ints l)

/-! ### what kind of goal stands here -/
/-- a word of one value, once for all that follows -/
theorem eVia {X : Cx} {e : Expr} {σ : L2.St} {H : Hp} {Q : VK} (v : V) (h1 : ∀ Q' : VK, Q' v H → eW X e σ H Q') (h2 : Q v H) : eW X e σ H Q := h1 Q h2
/-- .., where the heap may grow -/
theorem eViaS {X : Cx} {e : Expr} {σ : L2.St} {H : Hp} {Q : VK} (P : V → Hp → Prop) (h1 : ∀ Q' : VK, (∀ v H', P v H' → Q' v H') → eW X e σ H Q') (h2 : ∀ v H', P v H' → Q v H') : eW X e σ H Q := h1 Q h2
theorem oMono {X : Cx} {f : Value → Value → Sem Value} {x y : V} {H : Hp} {Q Q' : VK} (h : oW X f x y H Q) (i : ∀ v H', Q v H' → Q' v H') : oW X f x y H Q' := ⟨fun pins s σ v u I rx ry => wpAny_mono (h.run pins s σ v u I rx ry) (fun _ _ ⟨v, H', a, b, c⟩ => ⟨v, H', a, b, i v H' c⟩) fun _ _ x => x⟩
theorem e_chainJ {X : Cx} {σ : L2.St} {H : Hp} {Q : VK} {pos : Pos} {a b c : Expr} {op op' : CmpOp} {d : Bool} (h : eW X a σ H fun x H1 => eW X b σ H1 fun y H2 => oW X (compareOp op) x y H2 fun z H3 => ∃ k, z = .bl k ∧ (k = true → ∀ Q' : VK, Q' (.bl d) H3 → eW X c σ H3 (fun w' H4 => oW X (compareOp op') y w' H4 Q')) ∧ Q (.bl (k && d)) H3)
    (hm : lastMarks [op, op'] [b, c] = false := by with_unfolding_all rfl) : eW X (.Compare a [op, op'] [b, c] pos) σ H Q :=
  e_chain (eMono h fun x H1 h1 => eMono h1 fun y H2 h2 => oMono h2 fun z H3 ⟨k, e, h3, q⟩ => ⟨k, e, by
    cases k with
    | true => exact iteT (h3 rfl _ q)
    | false => exact iteF q⟩) hm
theorem s_augA {X : Cx} {σ : L2.St} {H : Hp} {D : Ends} {pos p2 : Pos} {e : Expr} {N : List Str} {x : Str} {i : Nat} {v : Int} [cn : CxN X N] [sl : Slt N x i] [nd : NdN N] (hs : σ[i]? = some (some (.int v))) (h : eW X e σ H fun y H1 => ∃ j, y = .int j ∧ D.nx (σ.set i (some (.int (v + j)))) H1) (hx : Loc X.env.scope x := by first | exact Or.inl rfl | exact Or.inr rfl)
    (hf : X.fn x = true ∨ X.env.scope.names.lookup x = some .local := by first | exact .inl rfl | exact .inr rfl | assumption) : sW X (.AugAssign (.Name x p2) .Add e pos) D σ H :=
  sI (ps_aug (i := i) (by rw [cn.h]; exact nd.h) (by rw [cn.h]; exact sl.h) hx PEw ip_add hf) ⟨.int v, hs, eMono h fun y H1 ⟨j, e, q⟩ => ⟨v, j, rfl, e, q⟩⟩
theorem e_neg {X : Cx} {a : Expr} {σ : L2.St} {H : Hp} {Q : VK} {pos : Pos} (h : eW X a σ H fun x H1 => ∃ i, x = .int i ∧ Q (.int (-i)) H1) : eW X (.UnaryOp .USub a pos) σ H Q := e_un (eMono h fun x H1 ⟨i, e, q⟩ => by subst e; exact u_neg q)
/-- a test of one truth, once for all that follows -/
theorem tVia {X : Cx} {e : Expr} {σ : L2.St} {H : Hp} {R : Bool → Hp → Prop} (b : Bool) (P : Hp → Prop) (h1 : ∀ R' : Bool → Hp → Prop, (∀ H', P H' → R' b H') → tW X e σ H R') (h2 : ∀ H', P H' → R b H') : tW X e σ H R := h1 R h2
/-! ### dict displays -/
theorem sameU {H : Hp} {p : Addr} {o : HO} (hp : H p = none) : Same H (upd H p o) := fun x u e => by rw [upd_ne (ne_of_none e hp)]; exact e
section
variable {X : Cx} {σ : L2.St} {H : Hp} {Q : VK} {pos : Pos} {a b : Expr}
theorem e_dct0 (h : ∀ p H2, Same H H2 → H p = none → H2 p = some (.dK []) → (∀ b, b ≠ p → H2 b = H b) → Q (.ref p) H2) : eW X (.Dict [] [] pos) σ H Q :=
  eI pe_dnewK fun p hp => h p _ (sameU hp) hp upd_same fun _ hb => upd_ne hb
theorem e_dct1 (h : ∀ p H', Same H H' → H p = none → H' p = some (.dK []) → (∀ b, b ≠ p → H' b = H b) → eW X a σ H' fun x H1 => eW X b σ H1 fun y H2 => H2 p = some (.dK []) ∧ ∃ k : Key, x = kV k ∧ ∀ H3, H3 p = some (.dK (mergeK [] [(k, y)])) → (∀ b, b ≠ p → H3 b = H2 b) → Q (.ref p) H3) : eW X (.Dict [some a] [b] pos) σ H Q :=
  eI (pe_disp (pps_cons PEw PEw pps_nil) rfl rfl (fun z => nomatch z) (Nat.le_of_ble_eq_true rfl)) fun p hp => eMono (h p _ (sameU hp) hp upd_same fun _ hb => upd_ne hb) fun x H1 h1 => eMono h1 fun y H2 ⟨e, k, ek, q⟩ => ⟨e, [(k, y)], by rw [ek]; rfl, Nat.le_of_ble_eq_true rfl, q _ upd_same fun _ hb => upd_ne hb⟩
end
/-! ### tuples: parts and sums; dicts -/
/-- all that is a tuple stays -/
def TS (H H' : Hp) : Prop := ∀ b xs, H b = some (.tup xs) → H' b = some (.tup xs)
theorem TS.refl (H : Hp) : TS H H := fun _ _ h => h
theorem TS.trans {H H1 H2 : Hp} (a : TS H H1) (b : TS H1 H2) : TS H H2 := fun c o h => b c o (a c o h)
theorem Same.ts {H H' : Hp} (s : Same H H') : TS H H' := fun _ _ h => s _ _ h
/-- a list's or dict's place is stored anew: tuples stay -/
theorem TS.but {H H' : Hp} {l : Addr} {o : HO} (h : H l = some o) (hn : ∀ xs, o ≠ .tup xs) (k : ∀ b, b ≠ l → H' b = H b) : TS H H' := fun b xs e => by
  rw [k b fun z => hn xs (by rw [z, h] at e; exact Option.some.inj e)]
  exact e
theorem TS.butL {H H' : Hp} {l : Addr} {ys : List V} (h : H l = some (.lst ys)) (k : ∀ b, b ≠ l → H' b = H b) : TS H H' := TS.but h (fun _ z => nomatch z) k
theorem TS.butD {H H' : Hp} {l : Addr} {ys : List (Key × V)} (h : H l = some (.dK ys)) (k : ∀ b, b ≠ l → H' b = H b) : TS H H' := TS.but h (fun _ z => nomatch z) k
section
variable {X : Cx} {σ : L2.St} {H : Hp} {Q : VK} {pos p2 : Pos} {p q : Addr} {xs ys : List V} {lo hi : Option Int}
theorem n_tup (h : H p = some (.tup xs)) (k : ∀ t H2, Same H H2 → H2 t = some (.tup (cutV xs lo hi)) → Q (.ref t) H2) : nW X (.ref p) lo hi H Q :=
  nI sl_tupA ⟨p, xs, rfl, SqT.of h, fun ⟨e1, e2⟩ => k p H (Same.refl _) (by
    have e : cutV xs lo hi = xs := by
      unfold cutV
      rw [e1, e2, List.drop_zero, Nat.sub_zero, List.take_length]
    rw [e]; exact h), fun _ t ht => k t _ (sameU ht) upd_same⟩
theorem n_tupS (h : SqT X.K H p xs) (k : ∀ t H2, Same H H2 → SqT X.K H2 t (cutV xs lo hi) → Q (.ref t) H2) : nW X (.ref p) lo hi H Q :=
  nI sl_tupA ⟨p, xs, rfl, h, fun ⟨e1, e2⟩ => k p H (Same.refl _) (by
    have e : cutV xs lo hi = xs := by
      unfold cutV
      rw [e1, e2, List.drop_zero, Nat.sub_zero, List.take_length]
    rw [e]; exact h), fun _ t ht => k t _ (sameU ht) (SqT.of upd_same)⟩
theorem o_catT (h1 : H p = some (.tup xs)) (h2 : H q = some (.tup ys)) (hz : xs.length + ys.length ≤ 100000) (k : ∀ t H2, Same H H2 → H2 t = some (.tup (xs ++ ys)) → Q (.ref t) H2) : oW X (binaryOp .Add) (.ref p) (.ref q) H Q :=
  oI op_catA ⟨p, q, xs, ys, rfl, rfl, SqT.of h1, SqT.of h2, Nat.le_trans hz (by decide), fun e => k q H (Same.refl _) (by rw [e]; exact h2), fun _ e => k p H (Same.refl _) (by rw [e, List.append_nil]; exact h1), fun _ _ t ht => k t _ (sameU ht) upd_same⟩
theorem k_listD {d : Addr} {kvs : List (Key × V)} [cc : CxC X] (h : H d = some (.dK kvs)) (k : ∀ l H2, Same H H2 → H l = none → H2 l = some (.lst (kvs.map fun kv => kV kv.1)) → (∀ b, b ≠ l → H2 b = H b) → Q (.ref l) H2) : kW X (.type "list") [.ref d] H Q :=
  kI (call_listD cc.h) ⟨d, kvs, rfl, .inl h, fun l hl => k l _ (sameU hl) hl upd_same fun b hb => upd_ne hb⟩
/-- o[i] = v, o a dict whose keys are ints and texts -/
theorem g_setD {o i : Expr} {v : V} {R : L2.St → Hp → Prop} (hu : X.A.units + 1 < cLine) (h : eW X o σ H fun x H1 => eW X i σ H1 fun y H2 => ∃ d kvs k, x = .ref d ∧ H2 d = some (.dK kvs) ∧ y = kV k ∧ kvs.length ≤ 100000 ∧ ∀ H3, H3 d = some (.dK (putK kvs k v)) → (∀ b, b ≠ d → H3 b = H2 b) → R σ H3)
    (ha : ∀ v, assign (.Subscript o i pos) X.env v = (holding [v] (eval o X.env) >>= fun ov => holding [v, ov] (eval i X.env) >>= fun iv => standAt pos >>= fun _ => holding [v, ov, iv] (setItem ov iv v) >>= fun _ => release [v, ov, iv] []) := by intro _; rfl) : gW X (.Subscript o i pos) v σ H R :=
  gI (pg_sub PEw PEw (set_dict hu) ha) (eMono h fun x H1 h1 => eMono h1 fun y H2 ⟨d, kvs, k, e1, e2, e3, e4, q⟩ => ⟨d, _, e1, by rw [e3]; exact .k e2 (Nat.lt_of_le_of_lt e4 (by decide)), q _ upd_same fun b hb => upd_ne hb⟩)
theorem g_setL {o i : Expr} {v : V} {R : L2.St → Hp → Prop} (h : eW X o σ H fun x H1 => eW X i σ H1 fun y H2 => ∃ p xs k j, x = .ref p ∧ y = .int k ∧ H2 p = some (.lst xs) ∧ ixN xs.length k = some j ∧ ∀ H3, H3 p = some (.lst (xs.set j v)) → (∀ b, b ≠ p → H3 b = H2 b) → R σ H3)
    (ha : ∀ v, assign (.Subscript o i pos) X.env v = (holding [v] (eval o X.env) >>= fun ov => holding [v, ov] (eval i X.env) >>= fun iv => standAt pos >>= fun _ => holding [v, ov, iv] (setItem ov iv v) >>= fun _ => release [v, ov, iv] []) := by intro _; rfl) : gW X (.Subscript o i pos) v σ H R :=
  gI (pg_sub PEw PEw set_list ha) (eMono h fun x H1 h1 => eMono h1 fun y H2 ⟨p, xs, k, j, e1, e2, e3, e4, q⟩ => ⟨p, xs, k, j, e1, e2, e3, e4, q _ upd_same fun b hb => upd_ne hb⟩)
/-- a comprehension, its elements by a word of the heap that holds while tuples stay -/
theorem lcH_h {it tg elt : Expr} {sc : Scope} {own : List (Str × Nat)} {R : Addr → Hp → Prop} (Pr : Nat → V → Hp → Prop) (hP : ∀ i y H H', TS H H' → Pr i y H → Pr i y H')
    (h : jW X tg it σ H fun J H1 => ∃ n G Y, Walk J n G Y ∧ n ≤ 100000 ∧ (∀ H', Same H1 H' → G H') ∧
      (∀ i x H' H2, i < n → Same H1 H' → Y i H' x H2 → Same H' H2 ∧ gB X sc tg x (wipe σ (own.map (·.2))) H2 fun σ3 H3 => wipe σ3 (own.map (·.2)) = wipe σ (own.map (·.2)) ∧ Same H2 H3 ∧ eB X sc elt σ3 H3 fun y H4 => Pr i y H4 ∧ Same H3 H4) ∧
      ∀ l H' ys, Same H1 H' → H1 l = none → H' l = some (.lst ys) → ys.length = n → (∀ i y, ys[i]? = some y → Pr i y H') → R l H') :
    jW X tg it σ H fun J H1 => ∃ n G Y, Walk J n G Y ∧ ∀ D, H1 D = none → ∃ Pv : Nat → Hp → Prop, Pv 0 (upd H1 D (.lst [])) ∧ (∀ i H', i ≤ n → Pv i H' → G H') ∧
      (∀ i x H' H2, i < n → Pv i H' → Y i H' x H2 → gB X sc tg x (wipe σ (own.map (·.2))) H2 fun σ3 H3 => wipe σ3 (own.map (·.2)) = wipe σ (own.map (·.2)) ∧ eB X sc elt σ3 H3 fun y H4 => ∃ acc, H4 D = some (.lst acc) ∧ acc.length < sizeLine ∧ Pv (i + 1) (upd H4 D (.lst (acc ++ [y])))) ∧
      ∀ H', Pv n H' → R D H' := by
  refine ⟨fun pins s I => wpAny_mono (h.run pins s I) (fun v s1 q => wpAny_mono q (fun u s2 ⟨i, fp, tn, J, H2, e, I2, T, t0, f2, n, G, Y, w, hn, q1, q2, q3⟩ => ⟨i, fp, tn, J, H2, e, I2, T, t0, f2, n, G, Y, w, fun D' hD => ⟨fun i H' => Same H2 H' ∧ ∃ acc, H' D' = some (.lst acc) ∧ acc.length = i ∧ ∀ j z, acc[j]? = some z → Pr j z H', ⟨sameU hD, [], upd_same, rfl, by simp⟩, fun _ _ _ p => q1 _ p.1, fun i x H' H3 hi p y s0 H0 C cl fp => ?_, fun H' p => by
    obtain ⟨p1, acc, p2, p3, p4⟩ := p
    exact q3 D' H' acc p1 hD p2 p3 p4⟩⟩) fun _ _ z => z) fun _ _ z => z⟩
  obtain ⟨k1, k2⟩ := q2 i x H' H3 hi p.1 y
  obtain ⟨p1, acc, p2, p3, p4⟩ := p
  refine ⟨fun pins s' u I r => wpAny_mono ((k2 s0 H0 C cl fp).run pins s' u I r) (fun _ s'' ⟨σ', H'', I'', e1, e2, e3⟩ => ⟨σ', H'', I'', e1, fun s0 H0 C cl fp => ⟨fun pins s' I => wpAny_mono ((e3 s0 H0 C cl fp).run pins s' I) (fun u s4 ⟨v4, H4, I4, r4, ev, e4⟩ => ⟨v4, H4, I4, r4, acc, e4 _ _ (e2 _ _ (k1 _ _ p2)), ?_, ?_, acc ++ [v4], upd_same, ?_, ?_⟩) fun _ _ z => z⟩⟩) fun _ _ z => z⟩
  · rw [p3]
    exact Nat.lt_of_lt_of_le (Nat.lt_of_lt_of_le hi hn) (by decide)
  · intro b o e
    rw [upd_ne (ne_of_none e hD)]
    exact e4 _ _ (e2 _ _ (k1 _ _ (p1 _ _ e)))
  · rw [List.length_append, p3]; rfl
  · have k4 := e4 _ _ (e2 _ _ (k1 _ _ p2))
    have up : TS H4 (upd H4 D' (.lst (acc ++ [v4]))) := TS.butL k4 fun b hb => upd_ne hb
    intro j z hz
    by_cases hj : j < i
    · rw [List.getElem?_append_left (by omega)] at hz
      exact hP _ _ _ _ ((TS.trans (Same.ts k1) (TS.trans (Same.ts e2) (Same.ts e4))).trans up) (p4 j z hz)
    · rw [List.getElem?_append_right (by omega), p3] at hz
      have hj2 : j = i := by
        have := (List.getElem?_eq_some_iff.mp hz).1
        simp at this
        omega
      subst hj2
      simp at hz
      rw [← hz]
      exact hP _ _ _ _ up ev
theorem e_lcH {it tg elt : Expr} {sc : Scope} {N : List Str} {own : List (Str × Nat)} [cc : CxC X] [cn : CxN X N] [nd : NdN N] (ok : BlkOk N X.env.scope sc own) (Pr : Nat → V → Hp → Prop) (hP : ∀ i y H H', TS H H' → Pr i y H → Pr i y H')
    (h : jW X tg it σ H fun J H1 => ∃ n G Y, Walk J n G Y ∧ n ≤ 100000 ∧ (∀ H', Same H1 H' → G H') ∧
      (∀ i x H' H2, i < n → Same H1 H' → Y i H' x H2 → Same H' H2 ∧ gB X sc tg x (wipe σ (own.map (·.2))) H2 fun σ3 H3 => wipe σ3 (own.map (·.2)) = wipe σ (own.map (·.2)) ∧ Same H2 H3 ∧ eB X sc elt σ3 H3 fun y H4 => Pr i y H4 ∧ Same H3 H4) ∧
      ∀ l H' ys, Same H1 H' → H1 l = none → H' l = some (.lst ys) → ys.length = n → (∀ i y, ys[i]? = some y → Pr i y H') → Q (.ref l) H') (hs : ∀ x, foldedSetIterable it X.env x = pure x := by intro _; rfl) : eW X (.ListComp elt [⟨tg, it, [], 0⟩] sc pos) σ H Q :=
  e_lc ok (lcH_h (R := fun l H' => Q (.ref l) H') Pr hP h) hs
theorem s_setLcH {it tg elt : Expr} {sc : Scope} {N : List Str} {own : List (Str × Nat)} {y : Str} {i : Nat} {D : Ends} {p3 : Pos} [cc : CxC X] [cn : CxN X N] [sl : Slt N y i] [nd : NdN N] (ok : BlkOk N X.env.scope sc own) (Pr : Nat → V → Hp → Prop) (hP : ∀ i y H H', TS H H' → Pr i y H → Pr i y H')
    (h : jW X tg it σ H fun J H1 => ∃ n G Y, Walk J n G Y ∧ n ≤ 100000 ∧ (∀ H', Same H1 H' → G H') ∧
      (∀ i x H' H2, i < n → Same H1 H' → Y i H' x H2 → Same H' H2 ∧ gB X sc tg x (wipe σ (own.map (·.2))) H2 fun σ3 H3 => wipe σ3 (own.map (·.2)) = wipe σ (own.map (·.2)) ∧ Same H2 H3 ∧ eB X sc elt σ3 H3 fun y H4 => Pr i y H4 ∧ Same H3 H4) ∧
      ∀ l H' ys, Same H1 H' → H1 l = none → H' l = some (.lst ys) → ys.length = n → (∀ i y, ys[i]? = some y → Pr i y H') → D.nx (σ.set i (some (.ref l))) H') (hyl : X.env.scope.names.lookup y = some .local := by rfl)
    (hsw : swapsWith (.ListComp elt [⟨tg, it, [], 0⟩] sc pos) (some (.Name y p2)) p3.line X.env = pure true := by exact sw_true rfl rfl rfl (by decide +kernel)) (hs : ∀ x, foldedSetIterable it X.env x = pure x := by intro _; rfl) : sW X (.Assign [.Name y p2] (.ListComp elt [⟨tg, it, [], 0⟩] sc pos) p3) D σ H :=
  s_setLc ok (lcH_h (R := fun l H' => D.nx (σ.set i (some (.ref l))) H') Pr hP h) hyl hsw hs
/-- a comprehension, its elements by a word of the heap that holds while all but the comprehension's own list stays -/
theorem lcK_h {it tg elt : Expr} {sc : Scope} {own : List (Str × Nat)} {R : Addr → Hp → Prop} (Pr : Nat → V → Hp → Prop) (hP : ∀ i y H H', Same H H' → Pr i y H → Pr i y H') (hK : ∀ i y H H' D acc, H D = some (.lst acc) → (∀ (j : Nat) z, acc[j]? = some z → Pr j z H) → (∀ b, b ≠ D → H' b = H b) → Pr i y H → Pr i y H')
    (h : jW X tg it σ H fun J H1 => ∃ n G Y, Walk J n G Y ∧ n ≤ 100000 ∧ (∀ H', Same H1 H' → G H') ∧
      (∀ i x H' H2, i < n → Same H1 H' → Y i H' x H2 → Same H' H2 ∧ gB X sc tg x (wipe σ (own.map (·.2))) H2 fun σ3 H3 => wipe σ3 (own.map (·.2)) = wipe σ (own.map (·.2)) ∧ Same H2 H3 ∧ eB X sc elt σ3 H3 fun y H4 => Pr i y H4 ∧ Same H3 H4) ∧
      ∀ l H' ys, Same H1 H' → H1 l = none → H' l = some (.lst ys) → ys.length = n → (∀ i y, ys[i]? = some y → Pr i y H') → R l H') :
    jW X tg it σ H fun J H1 => ∃ n G Y, Walk J n G Y ∧ ∀ D, H1 D = none → ∃ Pv : Nat → Hp → Prop, Pv 0 (upd H1 D (.lst [])) ∧ (∀ i H', i ≤ n → Pv i H' → G H') ∧
      (∀ i x H' H2, i < n → Pv i H' → Y i H' x H2 → gB X sc tg x (wipe σ (own.map (·.2))) H2 fun σ3 H3 => wipe σ3 (own.map (·.2)) = wipe σ (own.map (·.2)) ∧ eB X sc elt σ3 H3 fun y H4 => ∃ acc, H4 D = some (.lst acc) ∧ acc.length < sizeLine ∧ Pv (i + 1) (upd H4 D (.lst (acc ++ [y])))) ∧
      ∀ H', Pv n H' → R D H' := by
  refine ⟨fun pins s I => wpAny_mono (h.run pins s I) (fun v s1 q => wpAny_mono q (fun u s2 ⟨i, fp, tn, J, H2, e, I2, T, t0, f2, n, G, Y, w, hn, q1, q2, q3⟩ => ⟨i, fp, tn, J, H2, e, I2, T, t0, f2, n, G, Y, w, fun D' hD => ⟨fun i H' => Same H2 H' ∧ ∃ acc, H' D' = some (.lst acc) ∧ acc.length = i ∧ ∀ j z, acc[j]? = some z → Pr j z H', ⟨sameU hD, [], upd_same, rfl, by simp⟩, fun _ _ _ p => q1 _ p.1, fun i x H' H3 hi p y s0 H0 C cl fp => ?_, fun H' p => by
    obtain ⟨p1, acc, p2, p3, p4⟩ := p
    exact q3 D' H' acc p1 hD p2 p3 p4⟩⟩) fun _ _ z => z) fun _ _ z => z⟩
  obtain ⟨k1, k2⟩ := q2 i x H' H3 hi p.1 y
  obtain ⟨p1, acc, p2, p3, p4⟩ := p
  refine ⟨fun pins s' u I r => wpAny_mono ((k2 s0 H0 C cl fp).run pins s' u I r) (fun _ s'' ⟨σ', H'', I'', e1, e2, e3⟩ => ⟨σ', H'', I'', e1, fun s0 H0 C cl fp => ⟨fun pins s' I => wpAny_mono ((e3 s0 H0 C cl fp).run pins s' I) (fun u s4 ⟨v4, H4, I4, r4, ev, e4⟩ => ⟨v4, H4, I4, r4, acc, e4 _ _ (e2 _ _ (k1 _ _ p2)), ?_, ?_, acc ++ [v4], upd_same, ?_, ?_⟩) fun _ _ z => z⟩⟩) fun _ _ z => z⟩
  · rw [p3]
    exact Nat.lt_of_lt_of_le (Nat.lt_of_lt_of_le hi hn) (by decide)
  · intro b o e
    rw [upd_ne (ne_of_none e hD)]
    exact e4 _ _ (e2 _ _ (k1 _ _ (p1 _ _ e)))
  · rw [List.length_append, p3]; rfl
  · have k4 := e4 _ _ (e2 _ _ (k1 _ _ p2))
    have sm : Same H' H4 := k1.trans (e2.trans e4)
    have pa : ∀ (j : Nat) z, acc[j]? = some z → Pr j z H4 := fun j z hz => hP _ _ _ _ sm (p4 j z hz)
    have up : ∀ i y, Pr i y H4 → Pr i y (upd H4 D' (.lst (acc ++ [v4]))) := fun i y h => hK _ _ _ _ _ _ k4 pa (fun b hb => upd_ne hb) h
    intro j z hz
    by_cases hj : j < i
    · rw [List.getElem?_append_left (by omega)] at hz
      exact up _ _ (pa j z hz)
    · rw [List.getElem?_append_right (by omega), p3] at hz
      have hj2 : j = i := by
        have := (List.getElem?_eq_some_iff.mp hz).1
        simp at this
        omega
      subst hj2
      simp at hz
      rw [← hz]
      exact up _ _ ev
theorem e_lcK {it tg elt : Expr} {sc : Scope} {N : List Str} {own : List (Str × Nat)} [cc : CxC X] [cn : CxN X N] [nd : NdN N] (ok : BlkOk N X.env.scope sc own) (Pr : Nat → V → Hp → Prop) (hP : ∀ i y H H', Same H H' → Pr i y H → Pr i y H') (hK : ∀ i y H H' D acc, H D = some (.lst acc) → (∀ (j : Nat) z, acc[j]? = some z → Pr j z H) → (∀ b, b ≠ D → H' b = H b) → Pr i y H → Pr i y H')
    (h : jW X tg it σ H fun J H1 => ∃ n G Y, Walk J n G Y ∧ n ≤ 100000 ∧ (∀ H', Same H1 H' → G H') ∧
      (∀ i x H' H2, i < n → Same H1 H' → Y i H' x H2 → Same H' H2 ∧ gB X sc tg x (wipe σ (own.map (·.2))) H2 fun σ3 H3 => wipe σ3 (own.map (·.2)) = wipe σ (own.map (·.2)) ∧ Same H2 H3 ∧ eB X sc elt σ3 H3 fun y H4 => Pr i y H4 ∧ Same H3 H4) ∧
      ∀ l H' ys, Same H1 H' → H1 l = none → H' l = some (.lst ys) → ys.length = n → (∀ i y, ys[i]? = some y → Pr i y H') → Q (.ref l) H') (hs : ∀ x, foldedSetIterable it X.env x = pure x := by intro _; rfl) : eW X (.ListComp elt [⟨tg, it, [], 0⟩] sc pos) σ H Q :=
  e_lc ok (lcK_h (R := fun l H' => Q (.ref l) H') Pr hP hK h) hs
theorem s_setLcK {it tg elt : Expr} {sc : Scope} {N : List Str} {own : List (Str × Nat)} {y : Str} {i : Nat} {D : Ends} {p3 : Pos} [cc : CxC X] [cn : CxN X N] [sl : Slt N y i] [nd : NdN N] (ok : BlkOk N X.env.scope sc own) (Pr : Nat → V → Hp → Prop) (hP : ∀ i y H H', Same H H' → Pr i y H → Pr i y H') (hK : ∀ i y H H' D acc, H D = some (.lst acc) → (∀ (j : Nat) z, acc[j]? = some z → Pr j z H) → (∀ b, b ≠ D → H' b = H b) → Pr i y H → Pr i y H')
    (h : jW X tg it σ H fun J H1 => ∃ n G Y, Walk J n G Y ∧ n ≤ 100000 ∧ (∀ H', Same H1 H' → G H') ∧
      (∀ i x H' H2, i < n → Same H1 H' → Y i H' x H2 → Same H' H2 ∧ gB X sc tg x (wipe σ (own.map (·.2))) H2 fun σ3 H3 => wipe σ3 (own.map (·.2)) = wipe σ (own.map (·.2)) ∧ Same H2 H3 ∧ eB X sc elt σ3 H3 fun y H4 => Pr i y H4 ∧ Same H3 H4) ∧
      ∀ l H' ys, Same H1 H' → H1 l = none → H' l = some (.lst ys) → ys.length = n → (∀ i y, ys[i]? = some y → Pr i y H') → D.nx (σ.set i (some (.ref l))) H') (hyl : X.env.scope.names.lookup y = some .local := by rfl)
    (hsw : swapsWith (.ListComp elt [⟨tg, it, [], 0⟩] sc pos) (some (.Name y p2)) p3.line X.env = pure true := by exact sw_true rfl rfl rfl (by decide +kernel)) (hs : ∀ x, foldedSetIterable it X.env x = pure x := by intro _; rfl) : sW X (.Assign [.Name y p2] (.ListComp elt [⟨tg, it, [], 0⟩] sc pos) p3) D σ H :=
  s_setLc ok (lcK_h (R := fun l H' => D.nx (σ.set i (some (.ref l))) H') Pr hP hK h) hyl hsw hs
end
/-! ### a text so often -/
theorem fold_app : ∀ (n : Nat) (a : Array Nat) (z : Array Nat), ((List.replicate n z).foldl (· ++ ·) a).toList = a.toList ++ (List.replicate n z.toList).flatten
  | 0, a, z => by simp
  | n + 1, a, z => by
    rw [List.replicate_succ, List.foldl_cons, fold_app n, Array.toList_append, List.replicate_succ, List.flatten_cons, List.append_assoc]
theorem o_repS {X : Cx} {H : Hp} {Q : VK} {z : Str} {n : Int} (h0 : 0 ≤ n) (h1 : n ≤ 100000) (hz : z.length ≤ 100) (q : ∀ y, tl y = (List.replicate n.toNat (tl z)).flatten → Q (.str y) H) : oW X (binaryOp .Mult) (.str z) (.int n) H Q := by
  refine ⟨fun pins s σ v u I rx ry => ?_⟩
  obtain ⟨t, rfl⟩ := rx
  obtain ⟨t', rfl⟩ := ry
  have hm : z.length * n.toNat ≤ 100 * 100000 := Nat.mul_le_mul hz (by omega)
  refine PySem.P.mul_str (by rw [decide_eq_false (by omega), decide_eq_false (by omega)]; rfl) (fun c _ => ?_) (fun _ _ => ?_) ?_
  · have : (z.length : Int) ≤ (2 ^ 63 - 1) / n := by
      refine Int.le_ediv_of_mul_le (by omega) ?_
      have e : (z.length : Int) * n = ((z.length * n.toNat : Nat) : Int) := by
        rw [Int.natCast_mul, Int.toNat_of_nonneg h0]
      rw [e]
      omega
    omega
  · show decide (z.length * n.toNat > sizeLine) = false
    rw [sizeLine_eq]
    exact decide_eq_false (by omega)
  · by_cases c : n < 1
    · rw [if_pos c]
      refine ⟨by decide, ⟨.str Str.empty, H, I.tok _, ⟨_, rfl⟩, q _ ?_⟩⟩
      have : n.toNat = 0 := by omega
      rw [this]
      rfl
    · rw [if_neg c]
      by_cases c2 : (n == 1 || z.length == 0) = true
      · rw [if_pos c2]
        refine ⟨.str z, H, I.tok _, ⟨t, rfl⟩, q z ?_⟩
        rcases Bool.or_eq_true_iff.mp c2 with c3 | c3
        · have : n = 1 := beq_iff_eq.mp c3
          subst this
          simp
        · have e : tl z = [] := List.eq_nil_of_length_eq_zero (by rw [← len_tl]; exact beq_iff_eq.mp c3)
          rw [e]
          simp
      · rw [if_neg c2]
        have e : tl (⟨(List.replicate n.toNat z.cps).foldl (· ++ ·) #[]⟩ : Str) = (List.replicate n.toNat (tl z)).flatten := by
          show ((List.replicate n.toNat z.cps).foldl (· ++ ·) #[]).toList = _
          rw [fold_app]
          rfl
        refine ⟨?_, ⟨.str _, H, I.tok _, ⟨_, rfl⟩, q _ e⟩⟩
        rw [len_tl, e, List.length_flatten, List.map_replicate, List.sum_replicate_nat, ← len_tl, Nat.mul_comm, sizeLine_eq]
        omega
/-! ### exceptions: try, what a clause names, isinstance of what is caught -/
def trX (X : Cx) (pn : List (Addr × Obj)) (xe : Value → Shared → Prop) : Cx := X.tr pn xe
def suX (X : Cx) (a : Addr) (pn : List (Addr × Obj)) : Cx := X.suite a pn
theorem bMono {X : Cx} {b : List Stmt} {D : Ends} {σ : L2.St} {H : Hp} {nx : L2.St → Hp → Prop} (h : bW X b D σ H) (i : ∀ σ' H', D.nx σ' H' → nx σ' H') : bW X b { D with nx := nx } σ H := ⟨fun pins s I => wpAny_mono (h.run pins s I) (fun f s1 q => by
  cases f with
  | next => obtain ⟨σ', H', a, c⟩ := q; exact ⟨σ', H', a, i _ _ c⟩
  | brk => exact q
  | cont => exact q
  | ret v => exact q) fun _ _ x => x⟩
theorem sMono {X : Cx} {st : Stmt} {D : Ends} {σ : L2.St} {H : Hp} (nx : L2.St → Hp → Prop) (h : sW X st (Dnx D nx) σ H) (i : ∀ σ' H', nx σ' H' → D.nx σ' H') : sW X st D σ H := ⟨fun pins s I => wpAny_mono (h.run pins s I) (fun f s1 q => by
  cases f with
  | next => obtain ⟨σ', H', a, c⟩ := q; exact ⟨σ', H', a, i _ _ c⟩
  | brk => exact q
  | cont => exact q
  | ret v => exact q) fun _ _ x => x⟩
section
variable {X : Cx} {pn : List (Addr × Obj)} {xe : Value → Shared → Prop} {a : Addr}
instance {N : List Str} [c : CxN X N] : CxN (trX X pn xe) N := ⟨c.h⟩
instance {K : PySem.W.Frag} [c : CxK X K] : CxK (trX X pn xe) K := ⟨c.h⟩
instance {mg : Str → Option Value} [c : CxM X mg] : CxM (trX X pn xe) mg := ⟨c.h⟩
instance [c : CxC X] : CxC (trX X pn xe) := ⟨c.h⟩
instance {N : List Str} [c : CxN X N] : CxN (suX X a pn) N := ⟨c.h⟩
instance {K : PySem.W.Frag} [c : CxK X K] : CxK (suX X a pn) K := ⟨c.h⟩
instance {mg : Str → Option Value} [c : CxM X mg] : CxM (suX X a pn) mg := ⟨c.h⟩
instance : CxO (suX X a pn) := ⟨PassesOwn.never⟩
instance : CxT (suX X a pn) (fun _ _ _ _ => False) := ⟨takes0 (X := suX X a pn)⟩
end
section
variable {K : PySem.W.Frag} {mg : Str → Option Value} {x y : Str} {C D : Addr} {b : Bool}
theorem ExcF.excC (T : ExcF K mg x C) : ExcC K C := ⟨T.ga, T.gk, T.be, T.hd, T.ha, T.hn, T.ht, T.hm⟩
theorem ExcF.self (T : ExcF K mg x C) : PySem.W.subIn K (.ref C) (.ref C) = some true := by
  have q := T.ex
  unfold PySem.W.excIn at q
  show PySem.W.mroIn K C (.ref C) = some true
  unfold PySem.W.mroIn PySem.W.clsIn
  split at q
  · rename_i dd cd sl ho
    rw [ho]
    dsimp only
    split at q
    · rename_i C' bm k0 k1 k2 k3 n k5 hm hs
      simp only [Bool.and_eq_true, beq_iff_eq] at q
      obtain ⟨⟨⟨⟨⟨e, _⟩, _⟩, _⟩, _⟩, _⟩ := q
      subst e
      rw [Option.bind_some, hm]
      simp
    · cases q
  · cases q
theorem ExcF.kit (TD : ExcF K mg x D) (TC : ExcF K mg y C) (h : PySem.W.subIn K (.ref D) (.ref C) = some b) : PySem.W.kitOne K (.ref D) (.ref C) = some b := by
  by_cases e : D = C
  · subst e
    rw [TD.self] at h
    cases h
    exact kit_self
  · exact kit_refs h TC.ic TC.ty e
theorem ExcF.kitVE (TD : ExcF K mg x D) : PySem.W.kitOne K (.ref D) (.type "ValueError") = some true := by
  have e2 : (Value.ref D == Value.type "ValueError") = false := by simp
  have e3 : PySem.W.kitMeta "ValueError" = true := by decide +kernel
  show (if (Value.ref D == Value.type "ValueError") = true then some true else if PySem.W.kitMeta "ValueError" = true then PySem.W.subIn K (.ref D) (.type "ValueError") else none) = some true
  rw [e2, if_neg Bool.false_ne_true, if_pos e3]
  exact TD.ve
theorem ExcF.exm (TC : ExcF K mg y C) (h : PySem.W.subIn K (.ref D) (.ref C) = some b) : PySem.W.exmOne K (.ref D) (.ref C) = some b := PySem.W.exm_ref TC.be TC.hd TC.ty h
theorem kit_none {t : Value} : ∀ {cs : List Addr}, (∀ c ∈ cs, PySem.W.kitOne K t (.ref c) = some false) → PySem.W.kitAny K t (cs.map Value.ref) = some false
  | [], _ => rfl
  | c :: cs, h => by
    show (match PySem.W.kitOne K t (.ref c) with
      | some true => some true
      | some false => PySem.W.kitAny K t (cs.map Value.ref)
      | none => none) = some false
    rw [h c List.mem_cons_self]
    exact kit_none fun d hd => h d (List.mem_cons_of_mem _ hd)
theorem vals_refs : ∀ {cs : List Addr} {its : List Value}, Vals (cs.map V.ref) its → its = cs.map Value.ref
  | [], _, .nil => rfl
  | c :: cs, _, .cons r t => by
    have e : _ = Value.ref c := r
    rw [e, vals_refs t]
    rfl
end
section
variable {X : Cx} {σ : L2.St} {H : Hp} {D : Ends} {Q : VK} {pos pos' np p2 p3 p4 : Pos} {st b₀ : Stmt} {body suite orelse : List Stmt} {N : List Str} {x y n : Str} {a C E : Addr} {oe : Obj} {pn : List (Addr × Obj)} {b : Bool} {mg : Str → Option Value}
/-- isinstance(e, C), e what the suite holds -/
theorem k_isE (TD : ExcF X.K mg x E) (TC : ExcF X.K mg y C) (hz : Zc (.ref E) none oe) (hf : ∃ vs, oe.data = .fields vs) (h : PySem.W.subIn X.K (.ref E) (.ref C) = some b) (q : Q (.bl b) H) : kW (suX X a ((a, oe) :: pn)) (.builtin "isinstance") [.ref a, .ref C] H Q :=
  kI (X := X.suite a ((a, oe) :: pn)) (call_isE TD.excC hz hf) ⟨_, _, _, rfl, fun _ r => r, TD.kit TC h, q⟩
theorem k_isEV (TD : ExcF X.K mg x E) (hz : Zc (.ref E) none oe) (hf : ∃ vs, oe.data = .fields vs) (q : Q (.bl true) H) : kW (suX X a ((a, oe) :: pn)) (.builtin "isinstance") [.ref a, .ty "ValueError"] H Q :=
  kI (X := X.suite a ((a, oe) :: pn)) (call_isE TD.excC hz hf) ⟨_, _, _, rfl, fun _ r => r, TD.kitVE, q⟩
/-- isinstance(e, (C1, C2, ..)), none of them -/
theorem k_isEN {t : Addr} (cs : List Addr) (TD : ExcF X.K mg x E) (hz : Zc (.ref E) none oe) (hf : ∃ vs, oe.data = .fields vs) (ht : H t = some (.tup (cs.map V.ref))) (h : ∀ c ∈ cs, PySem.W.kitOne X.K (.ref E) (.ref c) = some false) (q : Q (.bl false) H) :
    kW (suX X a ((a, oe) :: pn)) (.builtin "isinstance") [.ref a, .ref t] H Q := by
  refine ⟨fun pins s σ us I r => ?_⟩
  cases r with
  | cons rx rr =>
    cases rr with
    | cons rt rr =>
      cases rr
      cases rx
      cases rt
      obtain ⟨hget, _⟩ := I.pin (a, oe) (List.mem_append.mpr (.inl List.mem_cons_self))
      obtain ⟨vs, hv⟩ := hf
      have J : PySem.W.InstAt s.heap a oe E none := by
        obtain ⟨oc, od, oda, osl⟩ := oe
        obtain ⟨h1, h2⟩ := hz
        dsimp only at h1 h2 hv
        subst h1 h2 hv
        exact ⟨hget, rfl, rfl, trivial⟩
      have C := TD.excC
      obtain ⟨_, its, rv, ho⟩ : ObjOk X.prog X.w H s.heap t (.tup (cs.map V.ref)) := I.hok t _ ht
      have e := vals_refs rv
      subst e
      obtain ⟨⟨oc, dd, dt, osl⟩, hg, e1, nn, e2⟩ := ho
      dsimp only at e1 e2
      subst e1 e2
      exact PySem.W.kia_tup (PySem.W.handS_kitx_exc C.hg C.hk C.hs C.hd C.ha C.hn C.ht C.hm) I.kIn J hg (kit_none h) (fun z => nomatch z) fun tk => ⟨.bl false, H, I.kept (t' := tk) fun _ _ z => z, rfl, q⟩
theorem k_intB {k : Bool} (q : Q (.int (if k then 1 else 0)) H) : kW X (.type "int") [.bl k] H Q := kI call_int1 (.inr ⟨k, rfl, q⟩)
/-- try: body, except x as n: suite -/
theorem s_tryAs {i : Nat} {Wout : WX} [cn : CxN X N] [sl : Slt N n i] [nd : NdN N] [ct : CxT X Wout] (T : ExcF X.K X.mg x C) (W : WX)
    (hw : ∀ cls d σ' H', W cls d σ' H' → (PySem.W.exmOne X.K cls (.ref C) = some true ∧ ∀ a oe pn, H' a = none → Zc cls d oe → (∃ vs, oe.data = .fields vs) →
        bW (suX X a ((a, oe) :: pn)) (b₀ :: suite) { nx := fun σ' H' => D.nx (σ'.set i none) H', rt := D.rt, bk := fun σ' H' => D.bk (σ'.set i none) H', ct := fun σ' H' => D.ct (σ'.set i none) H' } (σ'.set i (some (.ref a))) H') ∨
      (PySem.W.exmOne X.K cls (.ref C) = some false ∧ Wout cls d σ' H'))
    (hb : ∀ pn xe, CxT (trX X pn xe) W → CxO (trX X pn xe) → bW (trX X pn xe) body D σ H)
    (hg : Gl X x := by rfl) (hdb : (x == ("__debug__" : Str)) = false := by decide) (hln : X.env.kindOf n = some .local := by rfl) (hs : X.stack = X.env :: X.outer := by rfl) (hf : X.env.frame = some X.env.locals := by rfl) :
    sW X (.Try body [.ExceptHandler (some (.Name x np)) (some n) (b₀ :: suite) pos'] [] [] pos) D σ H :=
  sI (ps_try_as hs hf (by rw [cn.h]; exact nd.h) (by rw [cn.h]; exact sl.h) hln ⟨hg, hdb, .inl T.mg⟩ ct.h
    (tb := fun W' D' σ' H' => ∀ pn xe, CxT (trX X pn xe) W' → CxO (trX X pn xe) → bW (trX X pn xe) body D' σ' H')
    (ts := fun a cls d D' σ' H' => ∀ oe pn, Zc cls d oe → (∃ vs, oe.data = .fields vs) → bW (suX X a ((a, oe) :: pn)) (b₀ :: suite) D' σ' H')
    (fun W' pn xe tk ow => ⟨fun pins s σ H D I q => (q pn xe ⟨tk⟩ ⟨ow⟩).run pins s I⟩)
    (fun a oe cls d pn hz hf => ⟨fun pins s σ H D I q => (q oe pn hz hf).run pins s I⟩))
   (fun pn xe c1 c2 => hb pn xe ⟨c1.h.imp fun cls d σ' H' w => (hw cls d σ' H' w).elim (fun ⟨h1, h2⟩ => ⟨true, h1, fun _ a ha oe pn hz hf => h2 a oe pn ha hz hf, fun z => nomatch z⟩) fun ⟨h1, h2⟩ => ⟨false, h1, (fun z => nomatch z), fun _ => h2⟩⟩ c2)
/-- try: body, except x: suite, else: orelse -/
theorem s_tryElse {Wout : WX} [ct : CxT X Wout] (T : ExcF X.K X.mg x C) (W : WX)
    (hw : ∀ cls d σ' H', W cls d σ' H' → (PySem.W.exmOne X.K cls (.ref C) = some true ∧ ∀ a oe pn, H' a = none → Zc cls d oe → (∃ vs, oe.data = .fields vs) → bW (suX X a ((a, oe) :: pn)) (b₀ :: suite) D σ' H') ∨ (PySem.W.exmOne X.K cls (.ref C) = some false ∧ Wout cls d σ' H'))
    (hb : ∀ pn xe, CxT (trX X pn xe) W → CxO (trX X pn xe) → bW (trX X pn xe) body (Dsq X orelse D) σ H)
    (hg : Gl X x := by rfl) (hdb : (x == ("__debug__" : Str)) = false := by decide) (hs : X.stack = X.env :: X.outer := by rfl) (hf : X.env.frame = some X.env.locals := by rfl) :
    sW X (.Try body [.ExceptHandler (some (.Name x np)) none (b₀ :: suite) pos'] orelse [] pos) D σ H :=
  sI (ps_try_onlyE (u := bW X orelse) PBw hs hf ⟨hg, hdb, .inl T.mg⟩ ct.h
    (tb := fun W' D' σ' H' => ∀ pn xe, CxT (trX X pn xe) W' → CxO (trX X pn xe) → bW (trX X pn xe) body D' σ' H')
    (ts := fun a cls d D' σ' H' => ∀ oe pn, Zc cls d oe → (∃ vs, oe.data = .fields vs) → bW (suX X a ((a, oe) :: pn)) (b₀ :: suite) D' σ' H')
    (fun W' pn xe tk ow => ⟨fun pins s σ H D I q => (q pn xe ⟨tk⟩ ⟨ow⟩).run pins s I⟩)
    (fun a oe cls d pn hz hf => ⟨fun pins s σ H D I q => (q oe pn hz hf).run pins s I⟩))
   (fun pn xe c1 c2 => hb pn xe ⟨c1.h.imp fun cls d σ' H' w => (hw cls d σ' H' w).elim (fun ⟨h1, h2⟩ => ⟨true, h1, fun _ a ha oe pn hz hf => h2 a oe pn ha hz hf, fun z => nomatch z⟩) fun ⟨h1, h2⟩ => ⟨false, h1, (fun z => nomatch z), fun _ => h2⟩⟩ c2)
/-- try: body, except x: suite -/
theorem s_tryOnly {Wout : WX} [ct : CxT X Wout] (T : ExcF X.K X.mg x C) (W : WX)
    (hw : ∀ cls d σ' H', W cls d σ' H' → (PySem.W.exmOne X.K cls (.ref C) = some true ∧ ∀ a oe pn, H' a = none → Zc cls d oe → (∃ vs, oe.data = .fields vs) → bW (suX X a ((a, oe) :: pn)) (b₀ :: suite) D σ' H') ∨ (PySem.W.exmOne X.K cls (.ref C) = some false ∧ Wout cls d σ' H'))
    (hb : ∀ pn xe, CxT (trX X pn xe) W → CxO (trX X pn xe) → bW (trX X pn xe) body D σ H)
    (hg : Gl X x := by rfl) (hdb : (x == ("__debug__" : Str)) = false := by decide) (hs : X.stack = X.env :: X.outer := by rfl) (hf : X.env.frame = some X.env.locals := by rfl) :
    sW X (.Try body [.ExceptHandler (some (.Name x np)) none (b₀ :: suite) pos'] [] [] pos) D σ H :=
  s_tryElse T W hw (fun pn xe c1 c2 => ⟨fun pins s I => (bMono (hb pn xe c1 c2) (fun σ' H' q => b_nil q)).run pins s I⟩) hg hdb hs hf
end
/-! ### try with clauses of any kind -/
theorem wp_forIn {M : Model} {A : Around} {E : Value → Shared → Prop} {α β : Type} {f : α → β → Sem (ForInStep β)} {init : β} {s : Shared} {Q : β → Shared → Prop} : ∀ L : List α, (∀ c ∈ L, ∀ R : ForInStep β → Shared → Prop, R (.yield init) s → wpAny M A (f c init) R E s) → Q init s → wpAny M A (forIn L init f) Q E s
  | [], _, q => by rw [List.forIn_nil]; exact wpAny_pure q
  | c :: L, h, q => by
    rw [List.forIn_cons]
    exact wpAny_bind (h c (List.mem_cons_self ..) _ (wp_forIn L (fun d hd => h d (List.mem_cons_of_mem _ hd)) q))
theorem exm_none {M : Model} {K : PySem.W.Frag} {cs : List Addr} {cls : Value} {tp e : Addr} {h : Heap} (X : K.In h) (LT : PySem.W.Looks M h (typeOf (.ref e)) cls) (hp : h.get? tp = some { cls := .type "tuple", data := .seq (cs.map Value.ref).toArray })
    (hx : ∀ c ∈ cs, PySem.W.exmOne K cls (.ref c) = some false) : PySem.W.Looks M h (excMatches (.ref e) (.ref tp)) false := by
  intro A Q E s k₀ q
  obtain ⟨hh, g, d, tk, os⟩ := s
  have k : ∀ b o, h.get? b = some o → hh.get? b = some o := k₀
  have LTT : PySem.W.Looks M h (isInstance (.ref tp) (.type "tuple")) true := ((PySem.W.Looks.ld hp).andThen .now).andThen (PySem.W.Looks.of_pure isSubtype_tuple_tuple)
  have hpp := k _ _ hp
  unfold excMatches
  refine wpAny_bind ((LTT.keeps k).at ?_)
  dsimp only
  rw [if_pos rfl]
  first
    | refine wpAny_bind (wpAny_seqItems hpp rfl ?_)
    | refine wpAny_bind (wpAny_bind (wpAny_seqItems hpp rfl (wpAny_pure ?_)))
  dsimp only [Option.getD_some, Option.getD]
  have get : ∀ v ∈ cs.map Value.ref, PySem.W.exmOne K cls v = some false := fun v hv => by
    obtain ⟨c, hc, rfl⟩ := List.mem_map.mp hv
    exact hx c hc
  refine wpAny_bind (wpAny_pure (wpAny_bind (wp_forIn _ (fun c hc R r => ?_) ?_)))
  · have L1 := (PySem.W.exm_cls (M := M) X (get c hc)).1.keeps k
    refine wpAny_bind (L1.at ?_)
    rw [if_neg (by decide)]
    exact wpAny_pure r
  · refine wpAny_bind ((LT.keeps k).at ?_)
    refine wpAny_bind (wp_forIn _ (fun c hc R r => ?_) ?_)
    · have L1 := (PySem.W.exm_cls (M := M) X (get c hc)).2.keeps k
      refine wpAny_bind (L1.at ?_)
      rw [if_neg (by decide)]
      exact wpAny_pure r
    · exact wpAny_pure q
/-- an exception that was caught, kept -/
def ExK (cls : Value) (d : Option Addr) (a : Addr) : HO := .ext fun h => ∃ (oe : Obj) (vs : Array Value), h.get? a = some oe ∧ Zc cls d oe ∧ oe.data = .fields vs
theorem exK_ok {P : Program} {w : World} {H : Hp} {h : Heap} {a : Addr} {cls : Value} {d : Option Addr} {oe : Obj} {vs : Array Value} (e : h.get? a = some oe) (z : Zc cls d oe) (q : oe.data = .fields vs) : ObjOk P w H h a (ExK cls d a) :=
  ⟨⟨oe, vs, e, z, q⟩, ⟨oe, e⟩, fun _ _ ⟨o, v, q, r⟩ k => ⟨o, v, k o q, r⟩⟩
/-- what stood unseen is seen -/
theorem lay_old {X : Cx} {pins : List (Addr × Obj)} {σ : L2.St} {H : Hp} {s : Shared} {a : Addr} {o : HO} (I : Inv X pins σ H s) (hn : H a = none) (h0 : X.s_0.heap.get? a = none) (nl : a ≠ X.env.locals) (nc : ∀ v, ¬ s.heap.IsCell a v)
    (np : ∀ p ∈ X.pn ++ pins, p.1 ≠ a) (new : ObjOk X.prog X.w (upd H a o) s.heap a o) : Inv X pins σ (upd H a o) s where
  ok := I.ok
  os := I.os
  bare := I.bare
  base := { keep := I.base.keep, slot := I.base.slot, there := I.base.there
            free := fun b u q n x => by rw [upd_ne fun z => by rw [z, h0] at q; cases q]; exact I.base.free b u q n x
            tups := fun b xs q => by
              have t := I.base.tups b xs q
              rw [upd_ne fun z => by rw [z, hn] at t; cases t]; exact t
            frzs := fun b u xs q => by
              have t := I.base.frzs b u xs q
              rw [upd_ne fun z => by rw [z, hn] at t; cases t]; exact t
            tbls := fun b ps q => by
              obtain ⟨m, t⟩ := I.base.tbls b ps q
              exact ⟨m, by rw [upd_ne fun z => by rw [z, hn] at t; cases t]; exact t⟩ }
  loc := I.loc
  cell := I.cell
  free := by rw [upd_ne (Ne.symm nl)]; exact I.free
  freeC := fun x c e => by
    rw [upd_ne fun z => by
      obtain ⟨v, hv⟩ := I.cell x c e
      rw [z] at hv
      exact nc v hv]
    exact I.freeC x c e
  pin := fun p hp => by
    obtain ⟨q1, q2, q3⟩ := I.pin p hp
    exact ⟨q1, by rw [upd_ne (np p hp)]; exact q2, q3⟩
  hok := HOk.laidN I.hok (fun _ _ z => z) hn new
  len := I.len
/-- the ends of a suite: what is held is kept -/
def keptD (D : Ends) (f : L2.St → L2.St) (cls : Value) (d : Option Addr) (a : Addr) : Ends where
  nx := fun σ H => ∀ H2, Same H H2 → H2 a = some (ExK cls d a) → D.nx (f σ) H2
  rt := fun v H => ∀ H2, Same H H2 → H2 a = some (ExK cls d a) → D.rt v H2
  bk := fun σ H => ∀ H2, Same H H2 → H2 a = some (ExK cls d a) → D.bk (f σ) H2
  ct := fun σ H => ∀ H2, Same H H2 → H2 a = some (ExK cls d a) → D.ct (f σ) H2
/-- the names of a tuple of classes -/
inductive Tst (X : Cx) : List Expr → List Addr → Prop
  | nil : Tst X [] []
  | cons {x : Str} {c : Addr} {np : Pos} {es : List Expr} {cs : List Addr} (hc : Names X x (.ref c)) (hs : starEach (.Name x np :: es) X.env = (false, eval (.Name x np) X.env) :: starEach es X.env) (t : Tst X es cs) : Tst X (.Name x np :: es) (c :: cs)
/-- what the clauses do with an exception of the class cls -/
inductive Caught (X : Cx) (D : Ends) (Wout : WX) (cls : Value) (d : Option Addr) (σ : L2.St) (H : Hp) : List ExceptHandler → Prop
  | out (w : Wout cls d σ H) : Caught X D Wout cls d σ H []
  | skip {x : Str} {c : Addr} {np pos : Pos} {nm : Option Str} {b₀ : Stmt} {suite : List Stmt} {hds : List ExceptHandler} (hc : Names X x (.ref c)) (hx : PySem.W.exmOne X.K cls (.ref c) = some false) (r : Caught X D Wout cls d σ H hds) : Caught X D Wout cls d σ H (.ExceptHandler (some (.Name x np)) nm (b₀ :: suite) pos :: hds)
  | skipT {es : List Expr} {k : Nat} {cs : List Addr} {tp pos : Pos} {nm : Option Str} {b₀ : Stmt} {suite : List Stmt} {hds : List ExceptHandler} (t : Tst X es cs) (hz : cs.length ≤ 1000) (hx : ∀ c ∈ cs, PySem.W.exmOne X.K cls (.ref c) = some false) (r : Caught X D Wout cls d σ H hds) :
      Caught X D Wout cls d σ H (.ExceptHandler (some (.Tuple es k tp)) nm (b₀ :: suite) pos :: hds)
  | hit {x : Str} {c : Addr} {np pos : Pos} {b₀ : Stmt} {suite : List Stmt} {hds : List ExceptHandler} (hc : Names X x (.ref c)) (hx : PySem.W.exmOne X.K cls (.ref c) = some true)
      (q : ∀ a oe pn, H a = none → Zc cls d oe → (∃ vs, oe.data = .fields vs) → bW (suX X a ((a, oe) :: pn)) (b₀ :: suite) (keptD D id cls d a) σ H) : Caught X D Wout cls d σ H (.ExceptHandler (some (.Name x np)) none (b₀ :: suite) pos :: hds)
  | hitAs {x n : Str} {i : Nat} {c : Addr} {np pos : Pos} {b₀ : Stmt} {suite : List Stmt} {hds : List ExceptHandler} (hN : X.N.Nodup) (hi : X.N[i]? = some n) (hln : X.env.kindOf n = some .local) (hc : Names X x (.ref c)) (hx : PySem.W.exmOne X.K cls (.ref c) = some true)
      (q : ∀ a oe pn, H a = none → Zc cls d oe → (∃ vs, oe.data = .fields vs) → bW (suX X a ((a, oe) :: pn)) (b₀ :: suite) (keptD D (·.set i none) cls d a) (σ.set i (some (.ref a))) H) : Caught X D Wout cls d σ H (.ExceptHandler (some (.Name x np)) (some n) (b₀ :: suite) pos :: hds)
theorem tst_name {X : Cx} {a : Addr} {pn pins : List (Addr × Obj)} {σ : L2.St} {H : Hp} {s : Shared} {x : Str} {np : Pos} {c : Value} (hc : Names X x c) (S : Inv (X.suite a pn) pins σ H s) {Q : Value → Shared → Prop} {E : Value → Shared → Prop} (q : Q c s) :
    wpAny (model X.prog X.w) (X.A.mark (some (.ref a))) (eval (.Name x np) X.env) Q E s := by
  obtain ⟨hg, hdb, hm | ⟨hm, hv, hn⟩⟩ := hc
  · exact ld_glob (X := X.suite a pn) S hg hm q hdb
  · exact ld_blt (X := X.suite a pn) S hg hm hv q hn hdb
theorem tst_run {X : Cx} {a : Addr} {pn pins : List (Addr × Obj)} {σ : L2.St} {H : Hp} {s : Shared} {pos : Pos} (S : Inv (X.suite a pn) pins σ H s) {E : Value → Shared → Prop} : ∀ {es : List Expr} {cs : List Addr}, Tst X es cs → ∀ {Q : List Value → Shared → Prop}, Q (cs.map Value.ref) s →
    wpAny (model X.prog X.w) (X.A.mark (some (.ref a))) (spliced (backTo pos (starEach es X.env))) Q E s
  | _, _, .nil, Q, q => wpAny_pure q
  | _, _, .cons hc hs t, Q, q => by
    rw [hs]
    show wpAny _ _ (spliced ((false, eval _ X.env) :: backTo pos _)) _ _ s
    exact Calls.spliced_cons (tst_name hc S (tst_run S t q))
theorem s_tryC {X : Cx} {σ : L2.St} {H : Hp} {D : Ends} {pos : Pos} {body orelse : List Stmt} {h₀ : ExceptHandler} {hds : List ExceptHandler} {Wout : WX} [ct : CxT X Wout] (W : WX)
    (hw : ∀ cls d σ' H', W cls d σ' H' → Caught X D Wout cls d σ' H' (h₀ :: hds))
    (hb : ∀ pn xe, CxT (trX X pn xe) W → CxO (trX X pn xe) → bW (trX X pn xe) body (Dsq X orelse D) σ H)
    (hs : X.stack = X.env :: X.outer := by rfl) (hf : X.env.frame = some X.env.locals := by rfl) (hex : X.ex = [] := by rfl) : sW X (.Try body (h₀ :: hds) orelse [] pos) D σ H := by
  refine ⟨fun pins s I => ?_⟩
  have ok := I.ok
  have fr0 : X.A.frames = some (X.env :: X.outer) := by rw [ok.frames, hs]
  refine wpAny_Try_except ?_
  refine wpAny_mono ((hb (X.pn ++ pins) (fun e s1 => wpAny (model X.prog X.w) X.A (noteFrame e X.env) (fun _ s2 => wpAny (model X.prog X.w) X.A (setFlight e none) (fun _ s3 => wpAny (model X.prog X.w) X.A (handleBy e X.env (h₀ :: hds)) (SP X pins D) X.xe s3) X.xe s2) X.xe s1)
    ⟨fun u s' xx => ?_⟩ ⟨PassesOwn.looking⟩).run [] s (I.toTry _)) (fun f s1 hsp => ?_) (fun e s1 he => he)
  · obtain ⟨a, B, sI, pins', σ', H', cls, d, rfl, J0, nb, up, sky, na, os, ag, w⟩ := xx
    have JJ : Inv X pins σ' H' sI := J0.ofTry ok
    have sky2 : Sky B (X.env :: X.outer) a (Zc cls d) X.env.locals s'.heap := by rw [← hs]; exact sky
    show wpAny (model X.prog X.w) X.A (noteFrame (.ref a) X.env) _ _ _
    refine Sky.land Zc.steady fr0 hf sky2 fun h3 fl3 up3 => ?_
    have aB : B.get? a = none := fl3.2.1
    have nfr : a ∉ frs (X.env :: X.outer) := fun hm => by
      obtain ⟨oe3, vs3, he3, _, hd3⟩ := fl3.there
      obtain ⟨_, o', e', hnf⟩ := fl3.2.2.1.mem hm; rw [he3] at e'; cases e'; exact hnf _ hd3
    have nL : a ≠ X.env.locals := fun z => nfr (List.mem_filterMap.mpr ⟨X.env, List.mem_cons_self .., by rw [hf, z]⟩)
    have nF : a ∉ X.fs := fun hm => by
      obtain ⟨e, he, q⟩ := List.mem_filterMap.mp hm; exact nfr (List.mem_filterMap.mpr ⟨e, List.mem_cons_of_mem _ he, q⟩)
    have ngr : ∀ o, ¬ sI.heap.get? a = some o := fun o e => by
      have t := nb a o e (by show a ∉ frs X.stack; rw [hs]; exact nfr); rw [aB] at t; cases t
    have h0 : X.s_0.heap.get? a = none := by
      cases e : X.s_0.heap.get? a with
      | none => rfl
      | some o => obtain ⟨o', q⟩ := JJ.base.there a o e (by rw [hex]; simp); exact absurd q (ngr o')
    have np : ∀ p ∈ X.pn ++ pins, p.1 ≠ a := fun p hp z => ngr p.2 (by rw [← z]; exact (JJ.pin p hp).1)
    have fac : ∀ h, HandSPX.FlyingZ B (X.env :: X.outer) a (Zc cls d) h → sI.heap.UpToSlots h → Inv X pins σ' H' { s' with heap := h } ∧ ∃ oe, Zc cls d oe ∧ (∃ vs, oe.data = .fields vs) ∧ h.get? a = some oe ∧ Inv (X.suite a ((a, oe) :: (X.pn ++ pins))) [] σ' H' { s' with heap := h } := fun h fl u => by
      obtain ⟨oe, vs, he, hz, hd⟩ := fl.there
      have J : Inv X pins σ' H' { s' with heap := h } := JJ.landed nb fl.1 u os ag
      exact ⟨J, oe, hz, ⟨vs, hd⟩, he, J.suite he hd na nL nF⟩
    have kept6 : ∀ {oe : Obj} {σ6 : L2.St} {H6 : Hp} {s6 : Shared}, Zc cls d oe → (∃ vs, oe.data = .fields vs) → Inv (X.suite a ((a, oe) :: (X.pn ++ pins))) [] σ6 H6 s6 → Inv X pins σ6 (upd H6 a (ExK cls d a)) s6 ∧ Same H6 (upd H6 a (ExK cls d a)) := fun {oe σ6 H6 s6} hz hd S6 => by
      obtain ⟨vs, hd⟩ := hd
      obtain ⟨p1, p2, p3, p4, p5⟩ := S6.pin (a, oe) (List.mem_append_left _ (List.mem_cons_self ..))
      exact ⟨lay_old (S6.unsuite ok) p2 h0 nL (fun v ⟨o, q1, q2⟩ => by rw [p1] at q1; cases q1; exact p5 v q2) np (exK_ok p1 hz hd), sameU p2⟩
    have go : ∀ {hs2 : List ExceptHandler}, Caught X D Wout cls d σ' H' hs2 → ∀ h, HandSPX.FlyingZ B (X.env :: X.outer) a (Zc cls d) h → sI.heap.UpToSlots h → wpAny (model X.prog X.w) X.A (handleBy (.ref a) X.env hs2) (SP X pins D) X.xe { s' with heap := h } := by
      intro hs2 hk
      induction hk with
      | out w =>
        intro h fl u
        refine wpAny_handleBy_nil ?_
        obtain ⟨_, _, _, oe, vs, T, oT, ts, he, hz, hd, h1, hr⟩ := id fl
        unfold PySem.passOn; refine wpAny_bind (wpAny_field he hd h1 ?_); rw [if_neg (show ¬ ((Value.ref T == Value.none) = true) from by simp)]
        have fin : wpAny (model X.prog X.w) X.A (setFlight (.ref a) X.env.frame) (fun _ s4 => wpAny (model X.prog X.w) X.A (throw (.ref a) : Sem Flow) (SP X pins D) X.xe s4) X.xe { s' with heap := h } := by
          rw [hf]; exact HandSPX.setFlight_upZ fl fun h4 hh4 up4 => wpAny_throw (ct.h _ _ ⟨a, B, sI, pins, σ', H', cls, d, rfl, JJ, nb, u.trans up4, .inr (.inr (by rw [hs]; exact hh4)), na, os, ag, w⟩)
        first | exact wpAny_bind (wpAny_pure (wpAny_bind fin)) | exact wpAny_bind fin
      | skip hc hx r ih =>
        intro h fl u
        obtain ⟨J, oe, hz, hd, he, S⟩ := fac h fl u
        refine wpAny_handleBy_cons (codeAny_handlers_test ?_) (by intro q; cases q)
        have LT : PySem.W.Looks (model X.prog X.w) h (typeOf (.ref a)) cls := fun A Q E s k q => wpAny_typeOf_ref (k _ _ he) (by rw [hz.1]; exact q)
        refine tst_name hc S ((PySem.W.exm_one (M := model X.prog X.w) J.kIn LT hx).here ?_)
        exact ih h fl u
      | @skipT es k cs tp pos nm b₀ suite hds t hz1 hx r ih =>
        intro h fl u
        obtain ⟨J, oe, hz, hd, he, S⟩ := fac h fl u
        refine wpAny_handleBy_cons (codeAny_handlers_test ?_) (by intro q; cases q)
        refine wpAny_Tuple_spliced (tst_run S t ⟨by rw [List.length_map]; exact Nat.le_trans hz1 (by decide), ?_⟩)
        have kp : ∀ b o, h.get? b = some o → (h.push { cls := .type "tuple", data := .seq (cs.map Value.ref).toArray }).get? b = some o := fun b o e => Heap.get?_push_of_some _ e
        have fl2 : HandSPX.FlyingZ B (X.env :: X.outer) a (Zc cls d) (h.push { cls := .type "tuple", data := .seq (cs.map Value.ref).toArray }) := by
          obtain ⟨q1, q2, q3, oe', vs, T, oT, ts, r1, r2, r3, r4, r5, r6, r7, r8⟩ := id fl
          exact ⟨fun b o e => kp b o (q1 b o e), q2, q3.of_keeps fun b o e _ => ⟨o, kp b o e, rfl⟩, oe', vs, T, oT, ts, kp _ _ r1, r2, r3, r4, r5, r6, kp _ _ r7, r8⟩
        have u2 : sI.heap.UpToSlots (h.push { cls := .type "tuple", data := .seq (cs.map Value.ref).toArray }) := u.trans fun b o e _ => ⟨o.slots, kp b o e⟩
        have LT : PySem.W.Looks (model X.prog X.w) (h.push { cls := .type "tuple", data := .seq (cs.map Value.ref).toArray }) (typeOf (.ref a)) cls := fun A Q E s k q => wpAny_typeOf_ref (k _ _ (kp _ _ he)) (by rw [hz.1]; exact q)
        refine (exm_none (M := model X.prog X.w) (fac _ fl2 u2).1.kIn LT (Heap.get?_push_size _ rfl) hx).here ?_
        exact ih _ fl2 u2
      | hit hc hx q =>
        intro h fl u
        obtain ⟨J, oe, hz, hd, he, S⟩ := fac h fl u
        refine wpAny_handleBy_cons (codeAny_handlers_test ?_) (by intro q; cases q)
        have LT : PySem.W.Looks (model X.prog X.w) h (typeOf (.ref a)) cls := fun A Q E s k q => wpAny_typeOf_ref (k _ _ he) (by rw [hz.1]; exact q)
        refine tst_name hc S ((PySem.W.exm_one (M := model X.prog X.w) J.kIn LT hx).here ?_)
        refine codeAny_handlers_suite (HandSPX.lands_againZ fl fun h4 fl4 up4 => ?_)
        obtain ⟨J4, oe4, hz4, hd4, he4, S4⟩ := fac h4 fl4 (u.trans up4)
        refine wpAny_mono ((q a oe4 (X.pn ++ pins) na hz4 hd4).run [] _ S4) (fun f s6 hsp => ?_) fun _ _ z => False.elim z
        cases f with
        | next => obtain ⟨σ6, H6, S6, q6⟩ := hsp; obtain ⟨k1, k2⟩ := kept6 hz4 hd4 S6; exact ⟨_, _, k1, q6 _ k2 upd_same⟩
        | brk => obtain ⟨σ6, H6, S6, q6⟩ := hsp; obtain ⟨k1, k2⟩ := kept6 hz4 hd4 S6; exact ⟨_, _, k1, q6 _ k2 upd_same⟩
        | cont => obtain ⟨σ6, H6, S6, q6⟩ := hsp; obtain ⟨k1, k2⟩ := kept6 hz4 hd4 S6; exact ⟨_, _, k1, q6 _ k2 upd_same⟩
        | ret v => obtain ⟨v6, σ6, H6, S6, r6, q6⟩ := hsp; obtain ⟨k1, k2⟩ := kept6 hz4 hd4 S6; exact ⟨_, _, _, k1, r6, q6 _ k2 upd_same⟩
      | @hitAs x n i c np pos b₀ suite hds hN hi hln hc hx q =>
        intro h fl u
        obtain ⟨J, oe, hz, hd, he, S⟩ := fac h fl u
        refine wpAny_handleBy_cons (codeAny_handlers_test ?_) (by intro q; cases q)
        have LT : PySem.W.Looks (model X.prog X.w) h (typeOf (.ref a)) cls := fun A Q E s k q => wpAny_typeOf_ref (k _ _ he) (by rw [hz.1]; exact q)
        refine tst_name hc S ((PySem.W.exm_one (M := model X.prog X.w) J.kIn LT hx).here ?_)
        refine codeAny_handlers_suite_as (HandSPX.lands_againZ fl fun h4 fl4 up4 => ?_)
        obtain ⟨J4, oe4, hz4, hd4, he4, S4⟩ := fac h4 fl4 (u.trans up4)
        have hloc : Loc X.env.scope n := .inl hln
        refine store_ok (X := X.suite a ((a, oe4) :: (X.pn ++ pins))) (v := .ref a) S4 hN hi hloc rfl (fun s5 S5 => ?_) (.inr hln)
        refine wpAny_mono ((q a oe4 (X.pn ++ pins) na hz4 hd4).run [] s5 S5) (fun f s6 hsp => ?_) fun _ _ z => False.elim z
        cases f with
        | next => obtain ⟨σ6, H6, S6, q6⟩ := hsp; obtain ⟨k1, k2⟩ := kept6 hz4 hd4 S6; exact gone_ok k1 hN hi hln fun s7 J7 => ⟨_, _, J7, q6 _ k2 upd_same⟩
        | brk => obtain ⟨σ6, H6, S6, q6⟩ := hsp; obtain ⟨k1, k2⟩ := kept6 hz4 hd4 S6; exact gone_ok k1 hN hi hln fun s7 J7 => ⟨_, _, J7, q6 _ k2 upd_same⟩
        | cont => obtain ⟨σ6, H6, S6, q6⟩ := hsp; obtain ⟨k1, k2⟩ := kept6 hz4 hd4 S6; exact gone_ok k1 hN hi hln fun s7 J7 => ⟨_, _, J7, q6 _ k2 upd_same⟩
        | ret v => obtain ⟨v6, σ6, H6, S6, r6, q6⟩ := hsp; obtain ⟨k1, k2⟩ := kept6 hz4 hd4 S6; exact gone_ok k1 hN hi hln fun s7 J7 => ⟨_, _, _, J7, r6, q6 _ k2 upd_same⟩
    exact go (hw cls d σ' H' w) h3 fl3 (up.trans up3)
  · cases f with
    | next => obtain ⟨σ2, H2, J2, q⟩ := hsp; exact q.run pins s1 (J2.ofTry ok)
    | brk => obtain ⟨σ2, H2, J2, q⟩ := hsp; exact ⟨σ2, H2, J2.ofTry ok, q⟩
    | cont => obtain ⟨σ2, H2, J2, q⟩ := hsp; exact ⟨σ2, H2, J2.ofTry ok, q⟩
    | ret v => obtain ⟨v, σ2, H2, J2, r, q⟩ := hsp; exact ⟨v, σ2, H2, J2.ofTry ok, r, q⟩
section
variable {X : Cx} {H : Hp} {Q : VK} {x y : Str} {a C E : Addr} {b : Bool} {mg : Str → Option Value}
theorem instK {pins : List (Addr × Obj)} {σ : L2.St} {s : Shared} (I : Inv X pins σ H s) (hk : H a = some (ExK (.ref E) none a)) : ∃ oe, PySem.W.InstAt s.heap a oe E none := by
  obtain ⟨⟨oe, vs, e, z, hv⟩, _⟩ : ObjOk X.prog X.w H s.heap a (ExK (.ref E) none a) := I.hok a _ hk
  refine ⟨oe, ?_⟩
  obtain ⟨oc, od, oda, osl⟩ := oe
  obtain ⟨h1, h2⟩ := z
  dsimp only at h1 h2 hv
  subst h1 h2 hv
  exact ⟨e, rfl, rfl, trivial⟩
/-- isinstance(e, C), e an exception that was caught and kept -/
theorem k_isK (TD : ExcF X.K mg x E) (TC : ExcF X.K mg y C) (hk : H a = some (ExK (.ref E) none a)) (h : PySem.W.subIn X.K (.ref E) (.ref C) = some b) (q : Q (.bl b) H) : kW X (.builtin "isinstance") [.ref a, .ref C] H Q := by
  refine ⟨fun pins s σ us I r => ?_⟩
  cases r with
  | cons rx rr =>
    cases rr with
    | cons rt rr =>
      cases rr; cases rx; cases rt
      obtain ⟨oe, J⟩ := instK I hk
      have K := TD.excC
      exact PySem.W.kia_one (PySem.W.handS_kitx_exc K.hg K.hk K.hs K.hd K.ha K.hn K.ht K.hm) I.kIn J (TD.kit TC h) (fun z => nomatch z) fun tk => ⟨.bl b, H, I.kept (t' := tk) fun _ _ z => z, rfl, q⟩
theorem k_isKV (TD : ExcF X.K mg x E) (hk : H a = some (ExK (.ref E) none a)) (q : Q (.bl true) H) : kW X (.builtin "isinstance") [.ref a, .ty "ValueError"] H Q := by
  refine ⟨fun pins s σ us I r => ?_⟩
  cases r with
  | cons rx rr =>
    cases rr with
    | cons rt rr =>
      cases rr; cases rx; cases rt
      obtain ⟨oe, J⟩ := instK I hk
      have K := TD.excC
      exact PySem.W.kia_one (PySem.W.handS_kitx_exc K.hg K.hk K.hs K.hd K.ha K.hn K.ht K.hm) I.kIn J TD.kitVE (fun z => nomatch z) fun tk => ⟨.bl true, H, I.kept (t' := tk) fun _ _ z => z, rfl, q⟩
end
/-! ### list(reversed(xs)) -/
section
open RT
section
variable {prog : Program} {w : World} {A : Around} {E : Value → Shared → Prop} {s : Shared}
theorem wpAny_extend_rev {R : Result → Shared → Prop} (hh : A.handled = none) {it l : Addr} {items : Array Value} (S : Addr) (res : Value) (c₀ : Nat) (hS : s.heap.get? S = some { cls := .type "list", data := .seq #[] c₀ })
    (hit : s.heap.IsRevIter it l ((items.size : Int) - 1)) (hl : s.heap.IsList l items) (hne : l ≠ it) (hSi : S ≠ it) (hSl : S ≠ l) (hn : items.size ≤ sizeLine)
    (hR : ∀ h' tk acc' c', (∀ b o, b ≠ S → b ≠ it → s.heap.get? b = some o → h'.get? b = some o) → h'.get? S = some { cls := .type "list", dict := none, data := .seq acc' c', slots := #[] } →
      ItemsOf (fun i v => items[items.size - 1 - i]? = some v) acc' items.size → R (.ok (.ret res)) { s with heap := h', toks := tk }) :
    wpAny (model prog w) A.in1 (Builtin.List.listExtendWith (.ref S) (.ref it) res)
      (fun fin s' => match fin with | .done f => R (.ok f) s' | .again c' => c'.quiet = true ∧ codeAny (model prog w) A c' R s') (fun e s' => R (.error e) s') s := by
  have W := (Walks.listRev (prog := prog) (w := w) (A := A.in1) hh it l hne items).toS
  have hSf : S ∉ [it, l] := by simp only [List.mem_cons, List.not_mem_nil, or_false, not_or]; exact ⟨hSi, hSl⟩
  have hT : s.TypeIs (.ref it) "list_reverseiterator" := Heap.IsRevIter.typeIs hit
  have h1 : Builtin.List.listSameRef (.ref S) (.ref it) = false := by simp [Builtin.List.listSameRef, hSi]
  unfold Builtin.List.listExtendWith
  refine wpAny_bind (wpAny_typeOf hT ?_)
  rw [if_neg (by rw [h1]; decide)]
  refine wpAny_bind (wpAny_pyIter_revIter hit ?_)
  refine wpAny_bind (wpAny_holding ?_)
  unfold Builtin.List.listLengthHint
  refine wpAny_bind (wpAny_specialOf hT nolen_lri ?_)
  show wpAny _ A.in1 (specialOf (Value.ref it) (Str.ofString "__length_hint__") >>= _) _ _ _
  refine wpAny_bind (wpAny_specialOf hT hint_lri ?_)
  generalize hid : ("list_reverseiterator.__length_hint__" : String) = id0
  wp_delta
  rw [show splitId id0 = some ("list_reverseiterator", "__length_hint__") from by subst hid; decide +kernel]
  subst hid
  refine wpAny_bind (wpAny_isInstance (b := true) hT (by rw [isSubtype_type]; kernel_rfl) ?_)
  refine wpAny_pure ?_
  rw [if_neg (by decide)]
  have e0 : ((items.size : Nat) : Int) - 1 - ((0 : Nat) : Int) = (items.size : Int) - 1 := by omega
  refine wpAny_pure ⟨plainId_quiet F.plain_extend_loop _, codeAny_extend_loopS W hn _ hSf _ items.size 0 _ _ _ rfl (Nat.zero_le _) ⟨Nat.zero_le _, by rw [e0]; exact hit, hl⟩ hS (ItemsOf.nil _) fun s' acc' c' hm hS' hacc => ?_⟩
  rw [Moved.eq_with hm]
  refine hR s'.heap s'.toks acc' c' (fun b o hb hb2 e => hm.heap b o (fun hmem => ?_) e) hS' hacc
  rcases List.mem_cons.mp hmem with e' | hmem
  · exact hb e'
  · exact hb2 (List.mem_singleton.mp hmem)
theorem call_list_rev {it l : Addr} {items : Array Value} {Q : Value → Shared → Prop} (hh : A.handled = none) (hit : s.heap.IsRevIter it l ((items.size : Int) - 1)) (hl : s.heap.IsList l items) (hne : l ≠ it) (hn : items.size ≤ sizeLine)
    (hQ : ∀ h' tk acc' c', (∀ b o, b ≠ it → s.heap.get? b = some o → h'.get? b = some o) →
      h'.get? s.heap.objs.size = some { cls := .type "list", dict := none, data := .seq acc' c', slots := #[] } → ItemsOf (fun i v => items[items.size - 1 - i]? = some v) acc' items.size → Q (.ref s.heap.objs.size) { s with heap := h', toks := tk }) :
    wpAny (model prog w) A (call (.type "list") [.ref it]) Q E s := by
  obtain ⟨oi, hoi, _⟩ := id hit
  obtain ⟨ol, hol, _⟩ := id hl
  have hSi : s.heap.objs.size ≠ it := Nat.ne_of_gt (Heap.lt_size hoi)
  have hSl : s.heap.objs.size ≠ l := Nat.ne_of_gt (Heap.lt_size hol)
  refine callType_codes (Q₁ := fun obj s₁ => obj = .ref s.heap.objs.size ∧ s₁ = { s with heap := s.heap.push { cls := .type "list", data := .seq #[] } }) F.called_list (F.typeCall_list_1 _) F.entry_list_init
    (code_list_new _ ⟨rfl, rfl⟩) fun obj s₁ h₁ => ?_
  obtain ⟨rfl, rfl⟩ := h₁
  have hS : (s.heap.push { cls := .type "list", data := .seq #[] }).get? s.heap.objs.size = some { cls := .type "list", data := .seq #[] } := Heap.get?_push_size _ rfl
  have hit1 : (s.heap.push { cls := .type "list", data := .seq #[] }).IsRevIter it l ((items.size : Int) - 1) := hit.at fun o e => Heap.get?_push_of_some _ e
  have hl1 : (s.heap.push { cls := .type "list", data := .seq #[] }).IsList l items := hl.push _
  refine ⟨⟨_, hS, rfl⟩, F.args_list_init_2 _ _, ?_⟩
  show wpAny _ _ (do let old ← Builtin.List.listItems (.ref s.heap.objs.size); Builtin.List.listUpdate (.ref s.heap.objs.size) (fun _ => #[]); letGo old.toList.reverse; Builtin.List.listExtendWith (.ref s.heap.objs.size) (.ref it) .none) _ _ _
  refine wpAny_bind ?_
  unfold Builtin.List.listItems
  refine wpAny_bind (wpAny_seqItems hS rfl (wpAny_pure ?_))
  show wpAny _ _ (updateSeq s.heap.objs.size (fun _ => #[]) >>= fun _ => letGo (#[] : Array Value).toList.reverse >>= fun _ => Builtin.List.listExtendWith (.ref s.heap.objs.size) (.ref it) .none) _ _ _
  refine wpAny_bind (wpAny_updateSeq hS rfl ?_)
  have hS₂ := Heap.get?_update_self (Obj.mapSeq (fun _ => (#[] : Array Value))) hS rfl
  have oth : ∀ b o, b ≠ s.heap.objs.size → (s.heap.push { cls := .type "list", data := .seq #[] }).get? b = some o → ((s.heap.push { cls := .type "list", data := .seq #[] }).update s.heap.objs.size (Obj.mapSeq (fun _ => (#[] : Array Value)))).get? b = some o :=
    fun b o hb e => (Heap.get?_update_other _ _ (Ne.symm hb)).trans e
  have hit2 : ((s.heap.push { cls := .type "list", data := .seq #[] }).update s.heap.objs.size (Obj.mapSeq (fun _ => (#[] : Array Value)))).IsRevIter it l ((items.size : Int) - 1) := hit1.at fun o e => oth it o hSi.symm e
  have hl2 : ((s.heap.push { cls := .type "list", data := .seq #[] }).update s.heap.objs.size (Obj.mapSeq (fun _ => (#[] : Array Value)))).IsList l items := by
    obtain ⟨o, ho, r⟩ := hl1
    exact ⟨o, oth l o hSl.symm ho, r⟩
  refine wpAny_bind (wpAny_letGo ?_)
  refine wpAny_extend_rev (s := { s with heap := (s.heap.push { cls := .type "list", data := .seq #[] }).update s.heap.objs.size (Obj.mapSeq (fun _ => (#[] : Array Value))) }) (R := wants (fun r s₂ => r = Value.none ∧ Q (Value.ref s.heap.objs.size) s₂) E) (A := A.in1) hh s.heap.objs.size .none _ hS₂ hit2 hl2 hne hSi hSl hn fun h' tk acc' c' hk hS' hacc => ?_
  exact ⟨rfl, hQ h' tk acc' c' (fun b o hb e => hk b o (Nat.ne_of_lt (Heap.lt_size e)) hb (oth b o (Nat.ne_of_lt (Heap.lt_size e)) (Heap.get?_push_of_some _ e))) hS' hacc⟩
end
/-- list(reversed(xs)), xs a list -/
theorem e_listRev {X : Cx} {σ : L2.St} {H : Hp} {Q : VK} {e : Expr} {p p2 pos pos2 : Pos} {mg : Str → Option Value} [cc : CxC X] [cm : CxM X mg] [g1 : Gn mg "list" none] [g2 : Gn mg "reversed" none]
    (h : eW X e σ H fun v H1 => ∃ (a : Addr) (xs : List V), v = .ref a ∧ SqL X.K H1 a xs ∧ ∀ l H2, Same H1 H2 → H1 l = none → H2 l = some (.lst xs.reverse) → (∀ b, b ≠ l → H2 b = H1 b) → Q (.ref l) H2)
    (hg : Gl X "list" := by rfl) (hg2 : Gl X "reversed" := by rfl) (hs : starEach [e] X.env = (false, eval e X.env) :: starEach [] X.env := by rfl)
    (hs2 : starEach [.Call (.Name "reversed" p2) [e] [] pos2] X.env = (false, eval (.Call (.Name "reversed" p2) [e] [] pos2) X.env) :: starEach [] X.env := by rfl) : eW X (.Call (.Name "list" p) [.Call (.Name "reversed" p2) [e] [] pos2] [] pos) σ H Q := by
  refine ⟨fun pins s I => ?_⟩
  have hm : X.mg "list" = none := by rw [cm.h]; exact g1.h
  have hm2 : X.mg "reversed" = none := by rw [cm.h]; exact g2.h
  refine Call_ (ld_blt I hg hm boot_list (PyProof.Rows.callWith_type1 (args_cons (Call_ (ld_blt I hg2 hm2 PyProof.Rows.boot_reversed (PyProof.Rows.callWith_type1 (args_cons (thn (h.run pins s I) fun u s1 ⟨v, H1, I1, r1, q1⟩ => args_nil ?_) hs) hs rfl))) hs2) hs2 rfl))
  obtain ⟨a, xs, ev, hq, q⟩ := q1
  subst ev
  obtain rfl : u = Value.ref a := r1
  obtain ⟨its, rv, p', hz⟩ := I1.list hq
  refine call_reversed_list p'.isList (args_nil ?_)
  have k0 : ∀ b o, s1.heap.get? b = some o → (s1.heap.push (revObj a ((its.toArray.size : Int) - 1))).get? b = some o := fun b o e => Heap.get?_push_of_some _ e
  have I2 : Inv X pins σ H1 { s1 with heap := s1.heap.push (revObj a ((its.toArray.size : Int) - 1)) } := I1.kept (t' := s1.toks) k0
  obtain ⟨f0, f1, f2, f3, f4, f5⟩ := I1.fpOk (H' := H1) (b := s1.heap.objs.size) (Nat.le_refl _) (I1.hok.fresh (Nat.le_refl _))
  have hl := p'.isList
  obtain ⟨ol, hol, _⟩ := id hl
  have hne : a ≠ s1.heap.objs.size := Nat.ne_of_lt (Heap.lt_size hol)
  have hn : its.toArray.size ≤ sizeLine := by rw [List.size_toArray, ← rv.length]; exact hz
  refine call_list_rev (s := { s1 with heap := s1.heap.push (revObj a ((its.toArray.size : Int) - 1)) }) (I1.ok.hd cc.h) ⟨_, Heap.get?_push_size _ rfl, rfl, rfl⟩ (hl.push _) hne hn fun h' tk acc c' hk hS hi => ?_
  have I3 : Inv X pins σ H1 { s1 with heap := h', toks := tk } := I2.turned (t' := tk) (fun b o hb e => hk b o hb e) f0 f1 f3 f4 f5
  have hn1 : H1 (s1.heap.push (revObj a ((its.toArray.size : Int) - 1))).objs.size = none := I2.hok.fresh (Nat.le_refl _)
  refine ⟨.ref _, upd H1 (s1.heap.push (revObj a ((its.toArray.size : Int) - 1))).objs.size (.lst xs.reverse), I1.laid (t' := tk) (fun b u e => hk b u (Nat.ne_of_lt (Heap.lt_size e)) (k0 b u e)) ?_ ⟨by rw [List.length_reverse]; exact hz, acc.toList, c', RT.vals_rev rv hi, by simpa using hS⟩, rfl, q _ _ (sameU hn1) hn1 upd_same fun b hb => upd_ne hb⟩
  show s1.heap.objs.size ≤ _
  rw [Heap.size_push]
  omega
end
/-! ### comprehensions with one if, told turn by turn -/
section
variable {X : Cx} {σ : L2.St} {H : Hp} {Q : VK} {pos p2 p3 : Pos} {it tg elt cnd : Expr} {D : Ends}
theorem lcF_h {sc : Scope} {own : List (Str × Nat)} {R : Addr → Hp → Prop} (c : Nat → Bool) (ys : Nat → V)
    (h : jW X tg it σ H fun J H1 => ∃ n G Y, Walk J n G Y ∧ n ≤ 100000 ∧ (∀ H', Same H1 H' → G H') ∧
      (∀ i x H' H2, i < n → Same H1 H' → Y i H' x H2 → Same H' H2 ∧ gB X sc tg x (wipe σ (own.map (·.2))) H2 fun σ3 H3 => wipe σ3 (own.map (·.2)) = wipe σ (own.map (·.2)) ∧ Same H2 H3 ∧ tB' X sc cnd σ3 H3 fun k H4 => Same H3 H4 ∧ k = c i ∧ (k = true → eB X sc elt σ3 H4 fun y H5 => y = ys i ∧ Same H4 H5)) ∧
      ∀ l H', Same H1 H' → H1 l = none → H' l = some (.lst (((List.range n).filter c).map ys)) → R l H') :
    jW X tg it σ H fun J H1 => ∃ n G Y, Walk J n G Y ∧ ∀ D, H1 D = none → ∃ Pv : Nat → Hp → Prop, Pv 0 (upd H1 D (.lst [])) ∧ (∀ i H', i ≤ n → Pv i H' → G H') ∧
      (∀ i x H' H2, i < n → Pv i H' → Y i H' x H2 → gB X sc tg x (wipe σ (own.map (·.2))) H2 fun σ3 H3 => wipe σ3 (own.map (·.2)) = wipe σ (own.map (·.2)) ∧ tB' X sc cnd σ3 H3 fun k H4 => if k = true then eB X sc elt σ3 H4 fun y H5 => ∃ acc, H5 D = some (.lst acc) ∧ acc.length < sizeLine ∧ Pv (i + 1) (upd H5 D (.lst (acc ++ [y]))) else Pv (i + 1) H4) ∧
      ∀ H', Pv n H' → R D H' := by
  refine ⟨fun pins s I => wpAny_mono (h.run pins s I) (fun v s1 q => wpAny_mono q (fun u s2 ⟨i, fp, tn, J, H2, e, I2, T, t0, f2, n, G, Y, w, hn, q1, q2, q3⟩ => ⟨i, fp, tn, J, H2, e, I2, T, t0, f2, n, G, Y, w, fun D' hD => ⟨fun i H' => Same H2 H' ∧ H' D' = some (.lst (((List.range i).filter c).map ys)), ⟨sameU hD, upd_same⟩, fun _ _ _ p => q1 _ p.1, fun i x H' H3 hi p y s0 H0 C cl fp => ?_, fun H' p => q3 D' H' p.1 hD p.2⟩⟩) fun _ _ z => z) fun _ _ z => z⟩
  obtain ⟨k1, k2⟩ := q2 i x H' H3 hi p.1 y
  obtain ⟨p1, p2⟩ := p
  have step : (List.range (i + 1)).filter c = (List.range i).filter c ++ (if c i = true then [i] else []) := by
    rw [List.range_succ, List.filter_append]
    congr 1
    by_cases q : c i = true
    · rw [if_pos q, List.filter_cons_of_pos q, List.filter_nil]
    · rw [if_neg q, List.filter_cons_of_neg q, List.filter_nil]
  refine ⟨fun pins s' u I r => wpAny_mono ((k2 s0 H0 C cl fp).run pins s' u I r) (fun _ s'' ⟨σ', H'', I'', e1, e2, e3⟩ => ⟨σ', H'', I'', e1, fun s0 H0 C cl fp => ⟨fun pins s' I => wpAny_mono ((e3 s0 H0 C cl fp).run pins s' I) (fun u s4 ⟨H4, I4, e4, ek, ey⟩ => ⟨H4, I4, ?_⟩) fun _ _ z => z⟩⟩) fun _ _ z => z⟩
  have s4' : Same H' H4 := fun b o q => e4 _ _ (e2 _ _ (k1 _ _ q))
  cases u with
  | false =>
    refine iteF ⟨fun b o q => s4' _ _ (p1 _ _ q), ?_⟩
    rw [step, if_neg (by rw [← ek]; exact Bool.false_ne_true), List.append_nil]
    exact s4' _ _ p2
  | true =>
    refine iteT fun s0 H0 C cl fp => ⟨fun pins s' I => wpAny_mono ((ey rfl s0 H0 C cl fp).run pins s' I) (fun u s5 ⟨v5, H5, I5, r5, ev, e5⟩ => ⟨v5, H5, I5, r5, _, e5 _ _ (s4' _ _ p2), ?_, ?_, ?_⟩) fun _ _ z => z⟩
    · rw [List.length_map]
      have := List.length_filter_le c (List.range i)
      rw [List.length_range] at this
      rw [sizeLine_eq]
      omega
    · intro b o e
      rw [upd_ne (ne_of_none e hD)]
      exact e5 _ _ (s4' _ _ (p1 _ _ e))
    · rw [upd_same, step, if_pos ek.symm, List.map_append, ev]
      rfl
theorem e_lcF {sc : Scope} {N : List Str} {own : List (Str × Nat)} [cc : CxC X] [cn : CxN X N] [nd : NdN N] (ok : BlkOk N X.env.scope sc own) (c : Nat → Bool) (ys : Nat → V)
    (h : jW X tg it σ H fun J H1 => ∃ n G Y, Walk J n G Y ∧ n ≤ 100000 ∧ (∀ H', Same H1 H' → G H') ∧
      (∀ i x H' H2, i < n → Same H1 H' → Y i H' x H2 → Same H' H2 ∧ gB X sc tg x (wipe σ (own.map (·.2))) H2 fun σ3 H3 => wipe σ3 (own.map (·.2)) = wipe σ (own.map (·.2)) ∧ Same H2 H3 ∧ tB' X sc cnd σ3 H3 fun k H4 => Same H3 H4 ∧ k = c i ∧ (k = true → eB X sc elt σ3 H4 fun y H5 => y = ys i ∧ Same H4 H5)) ∧
      ∀ l H', Same H1 H' → H1 l = none → H' l = some (.lst (((List.range n).filter c).map ys)) → Q (.ref l) H') (hs : ∀ x, foldedSetIterable it X.env x = pure x := by intro _; rfl) : eW X (.ListComp elt [⟨tg, it, [cnd], 0⟩] sc pos) σ H Q :=
  e_lcI ok (lcF_h (R := fun l H' => Q (.ref l) H') c ys h) hs
theorem s_setLcF {sc : Scope} {N : List Str} {own : List (Str × Nat)} {y : Str} {i : Nat} [cc : CxC X] [cn : CxN X N] [sl : Slt N y i] [nd : NdN N] (ok : BlkOk N X.env.scope sc own) (c : Nat → Bool) (ys : Nat → V)
    (h : jW X tg it σ H fun J H1 => ∃ n G Y, Walk J n G Y ∧ n ≤ 100000 ∧ (∀ H', Same H1 H' → G H') ∧
      (∀ i x H' H2, i < n → Same H1 H' → Y i H' x H2 → Same H' H2 ∧ gB X sc tg x (wipe σ (own.map (·.2))) H2 fun σ3 H3 => wipe σ3 (own.map (·.2)) = wipe σ (own.map (·.2)) ∧ Same H2 H3 ∧ tB' X sc cnd σ3 H3 fun k H4 => Same H3 H4 ∧ k = c i ∧ (k = true → eB X sc elt σ3 H4 fun y H5 => y = ys i ∧ Same H4 H5)) ∧
      ∀ l H', Same H1 H' → H1 l = none → H' l = some (.lst (((List.range n).filter c).map ys)) → D.nx (σ.set i (some (.ref l))) H') (hyl : X.env.scope.names.lookup y = some .local := by rfl)
    (hsw : swapsWith (.ListComp elt [⟨tg, it, [cnd], 0⟩] sc pos) (some (.Name y p2)) p3.line X.env = pure true := by exact sw_true rfl rfl rfl (by decide +kernel)) (hs : ∀ x, foldedSetIterable it X.env x = pure x := by intro _; rfl) : sW X (.Assign [.Name y p2] (.ListComp elt [⟨tg, it, [cnd], 0⟩] sc pos) p3) D σ H :=
  s_setLcI ok (lcF_h (R := fun l H' => D.nx (σ.set i (some (.ref l))) H') c ys h) hyl hsw hs
theorem lcG_h {sc : Scope} {own : List (Str × Nat)} {R : Addr → Hp → Prop}
    (h : jW X tg it σ H fun J H1 => ∃ c : Nat → Bool, ∃ ys : Nat → V, ∃ n G Y, Walk J n G Y ∧ n ≤ 100000 ∧ (∀ H', Same H1 H' → G H') ∧
      (∀ i x H' H2, i < n → Same H1 H' → Y i H' x H2 → Same H' H2 ∧ gB X sc tg x (wipe σ (own.map (·.2))) H2 fun σ3 H3 => wipe σ3 (own.map (·.2)) = wipe σ (own.map (·.2)) ∧ Same H2 H3 ∧ tB' X sc cnd σ3 H3 fun k H4 => Same H3 H4 ∧ k = c i ∧ (k = true → eB X sc elt σ3 H4 fun y H5 => y = ys i ∧ Same H4 H5)) ∧
      ∀ l H', Same H1 H' → H1 l = none → H' l = some (.lst (((List.range n).filter c).map ys)) → R l H') :
    jW X tg it σ H fun J H1 => ∃ n G Y, Walk J n G Y ∧ ∀ D, H1 D = none → ∃ Pv : Nat → Hp → Prop, Pv 0 (upd H1 D (.lst [])) ∧ (∀ i H', i ≤ n → Pv i H' → G H') ∧
      (∀ i x H' H2, i < n → Pv i H' → Y i H' x H2 → gB X sc tg x (wipe σ (own.map (·.2))) H2 fun σ3 H3 => wipe σ3 (own.map (·.2)) = wipe σ (own.map (·.2)) ∧ tB' X sc cnd σ3 H3 fun k H4 => if k = true then eB X sc elt σ3 H4 fun y H5 => ∃ acc, H5 D = some (.lst acc) ∧ acc.length < sizeLine ∧ Pv (i + 1) (upd H5 D (.lst (acc ++ [y]))) else Pv (i + 1) H4) ∧
      ∀ H', Pv n H' → R D H' := by
  refine ⟨fun pins s I => wpAny_mono (h.run pins s I) (fun v s1 q => wpAny_mono q (fun u s2 ⟨i, fp, tn, J, H2, e, I2, T, t0, f2, c, ys, n, G, Y, w, hn, q1, q2, q3⟩ => ⟨i, fp, tn, J, H2, e, I2, T, t0, f2, n, G, Y, w, fun D' hD => ⟨fun i H' => Same H2 H' ∧ H' D' = some (.lst (((List.range i).filter c).map ys)), ⟨sameU hD, upd_same⟩, fun _ _ _ p => q1 _ p.1, fun i x H' H3 hi p y s0 H0 C cl fp => ?_, fun H' p => q3 D' H' p.1 hD p.2⟩⟩) fun _ _ z => z) fun _ _ z => z⟩
  obtain ⟨k1, k2⟩ := q2 i x H' H3 hi p.1 y
  obtain ⟨p1, p2⟩ := p
  have step : (List.range (i + 1)).filter c = (List.range i).filter c ++ (if c i = true then [i] else []) := by
    rw [List.range_succ, List.filter_append]
    congr 1
    by_cases q : c i = true
    · rw [if_pos q, List.filter_cons_of_pos q, List.filter_nil]
    · rw [if_neg q, List.filter_cons_of_neg q, List.filter_nil]
  refine ⟨fun pins s' u I r => wpAny_mono ((k2 s0 H0 C cl fp).run pins s' u I r) (fun _ s'' ⟨σ', H'', I'', e1, e2, e3⟩ => ⟨σ', H'', I'', e1, fun s0 H0 C cl fp => ⟨fun pins s' I => wpAny_mono ((e3 s0 H0 C cl fp).run pins s' I) (fun u s4 ⟨H4, I4, e4, ek, ey⟩ => ⟨H4, I4, ?_⟩) fun _ _ z => z⟩⟩) fun _ _ z => z⟩
  have s4' : Same H' H4 := fun b o q => e4 _ _ (e2 _ _ (k1 _ _ q))
  cases u with
  | false =>
    refine iteF ⟨fun b o q => s4' _ _ (p1 _ _ q), ?_⟩
    rw [step, if_neg (by rw [← ek]; exact Bool.false_ne_true), List.append_nil]
    exact s4' _ _ p2
  | true =>
    refine iteT fun s0 H0 C cl fp => ⟨fun pins s' I => wpAny_mono ((ey rfl s0 H0 C cl fp).run pins s' I) (fun u s5 ⟨v5, H5, I5, r5, ev, e5⟩ => ⟨v5, H5, I5, r5, _, e5 _ _ (s4' _ _ p2), ?_, ?_, ?_⟩) fun _ _ z => z⟩
    · rw [List.length_map]
      have := List.length_filter_le c (List.range i)
      rw [List.length_range] at this
      rw [sizeLine_eq]
      omega
    · intro b o e
      rw [upd_ne (ne_of_none e hD)]
      exact e5 _ _ (s4' _ _ (p1 _ _ e))
    · rw [upd_same, step, if_pos ek.symm, List.map_append, ev]
      rfl
theorem e_lcG {sc : Scope} {N : List Str} {own : List (Str × Nat)} [cc : CxC X] [cn : CxN X N] [nd : NdN N] (ok : BlkOk N X.env.scope sc own)
    (h : jW X tg it σ H fun J H1 => ∃ c : Nat → Bool, ∃ ys : Nat → V, ∃ n G Y, Walk J n G Y ∧ n ≤ 100000 ∧ (∀ H', Same H1 H' → G H') ∧
      (∀ i x H' H2, i < n → Same H1 H' → Y i H' x H2 → Same H' H2 ∧ gB X sc tg x (wipe σ (own.map (·.2))) H2 fun σ3 H3 => wipe σ3 (own.map (·.2)) = wipe σ (own.map (·.2)) ∧ Same H2 H3 ∧ tB' X sc cnd σ3 H3 fun k H4 => Same H3 H4 ∧ k = c i ∧ (k = true → eB X sc elt σ3 H4 fun y H5 => y = ys i ∧ Same H4 H5)) ∧
      ∀ l H', Same H1 H' → H1 l = none → H' l = some (.lst (((List.range n).filter c).map ys)) → Q (.ref l) H') (hs : ∀ x, foldedSetIterable it X.env x = pure x := by intro _; rfl) : eW X (.ListComp elt [⟨tg, it, [cnd], 0⟩] sc pos) σ H Q :=
  e_lcI ok (lcG_h (R := fun l H' => Q (.ref l) H') h) hs
theorem s_setLcG {sc : Scope} {N : List Str} {own : List (Str × Nat)} {y : Str} {i : Nat} [cc : CxC X] [cn : CxN X N] [sl : Slt N y i] [nd : NdN N] (ok : BlkOk N X.env.scope sc own)
    (h : jW X tg it σ H fun J H1 => ∃ c : Nat → Bool, ∃ ys : Nat → V, ∃ n G Y, Walk J n G Y ∧ n ≤ 100000 ∧ (∀ H', Same H1 H' → G H') ∧
      (∀ i x H' H2, i < n → Same H1 H' → Y i H' x H2 → Same H' H2 ∧ gB X sc tg x (wipe σ (own.map (·.2))) H2 fun σ3 H3 => wipe σ3 (own.map (·.2)) = wipe σ (own.map (·.2)) ∧ Same H2 H3 ∧ tB' X sc cnd σ3 H3 fun k H4 => Same H3 H4 ∧ k = c i ∧ (k = true → eB X sc elt σ3 H4 fun y H5 => y = ys i ∧ Same H4 H5)) ∧
      ∀ l H', Same H1 H' → H1 l = none → H' l = some (.lst (((List.range n).filter c).map ys)) → D.nx (σ.set i (some (.ref l))) H') (hyl : X.env.scope.names.lookup y = some .local := by rfl)
    (hsw : swapsWith (.ListComp elt [⟨tg, it, [cnd], 0⟩] sc pos) (some (.Name y p2)) p3.line X.env = pure true := by exact sw_true rfl rfl rfl (by decide +kernel)) (hs : ∀ x, foldedSetIterable it X.env x = pure x := by intro _; rfl) : sW X (.Assign [.Name y p2] (.ListComp elt [⟨tg, it, [cnd], 0⟩] sc pos) p3) D σ H :=
  s_setLcI ok (lcG_h (R := fun l H' => D.nx (σ.set i (some (.ref l))) H') h) hyl hsw hs
theorem e_lcQ {sc : Scope} {N : List Str} {own : List (Str × Nat)} [cc : CxC X] [cn : CxN X N] [nd : NdN N] (ok : BlkOk N X.env.scope sc own)
    (h : jW X tg it σ H fun J H1 => ∃ Pr : Nat → V → Prop, ∃ n G Y, Walk J n G Y ∧ n ≤ 100000 ∧ (∀ H', Same H1 H' → G H') ∧
      (∀ i x H' H2, i < n → Same H1 H' → Y i H' x H2 → Same H' H2 ∧ gB X sc tg x (wipe σ (own.map (·.2))) H2 fun σ3 H3 => wipe σ3 (own.map (·.2)) = wipe σ (own.map (·.2)) ∧ Same H2 H3 ∧ eB X sc elt σ3 H3 fun y H4 => Pr i y ∧ Same H3 H4) ∧
      ∀ l H' ys, Same H1 H' → H1 l = none → H' l = some (.lst ys) → ys.length = n → (∀ i y, ys[i]? = some y → Pr i y) → Q (.ref l) H') (hs : ∀ x, foldedSetIterable it X.env x = pure x := by intro _; rfl) : eW X (.ListComp elt [⟨tg, it, [], 0⟩] sc pos) σ H Q := by
  refine e_lc ok ⟨fun pins s I => wpAny_mono (h.run pins s I) (fun v s1 q => wpAny_mono q (fun u s2 ⟨i, fp, tn, J, H2, e, I2, T, t0, f2, Pr, n, G, Y, w, hn, q1, q2, q3⟩ => ⟨i, fp, tn, J, H2, e, I2, T, t0, f2, n, G, Y, w, fun D' hD => ⟨fun i H' => Same H2 H' ∧ ∃ acc, H' D' = some (.lst acc) ∧ acc.length = i ∧ ∀ j z, acc[j]? = some z → Pr j z, ⟨fun b o e => by rw [upd_ne (ne_of_none e hD)]; exact e, [], upd_same, rfl, by simp⟩, fun _ _ _ p => q1 _ p.1, fun i x H' H3 hi p y s0 H0 C cl fp => ?_, fun H' p => by
    obtain ⟨p1, acc, p2, p3, p4⟩ := p
    exact q3 D' H' acc p1 hD p2 p3 p4⟩⟩) fun _ _ z => z) fun _ _ z => z⟩ hs
  obtain ⟨k1, k2⟩ := q2 i x H' H3 hi p.1 y
  obtain ⟨p1, acc, p2, p3, p4⟩ := p
  refine ⟨fun pins s' u I r => wpAny_mono ((k2 s0 H0 C cl fp).run pins s' u I r) (fun _ s'' ⟨σ', H'', I'', e1, e2, e3⟩ => ⟨σ', H'', I'', e1, fun s0 H0 C cl fp => ⟨fun pins s' I => wpAny_mono ((e3 s0 H0 C cl fp).run pins s' I) (fun u s4 ⟨v4, H4, I4, r4, ev, e4⟩ => ⟨v4, H4, I4, r4, acc, e4 _ _ (e2 _ _ (k1 _ _ p2)), ?_, ?_, acc ++ [v4], upd_same, ?_, ?_⟩) fun _ _ z => z⟩⟩) fun _ _ z => z⟩
  · rw [p3]
    exact Nat.lt_of_lt_of_le (Nat.lt_of_lt_of_le hi hn) (by decide)
  · intro b o e
    rw [upd_ne (ne_of_none e hD)]
    exact e4 _ _ (e2 _ _ (k1 _ _ (p1 _ _ e)))
  · rw [List.length_append, p3]; rfl
  · intro j z hz
    by_cases hj : j < i
    · rw [List.getElem?_append_left (by omega)] at hz
      exact p4 j z hz
    · rw [List.getElem?_append_right (by omega), p3] at hz
      have hj2 : j = i := by
        have := (List.getElem?_eq_some_iff.mp hz).1
        simp at this
        omega
      subst hj2
      simp at hz
      rw [← hz]
      exact ev
theorem s_setLcQ {sc : Scope} {N : List Str} {own : List (Str × Nat)} {y : Str} {i : Nat} [cc : CxC X] [cn : CxN X N] [sl : Slt N y i] [nd : NdN N] (ok : BlkOk N X.env.scope sc own)
    (h : jW X tg it σ H fun J H1 => ∃ Pr : Nat → V → Prop, ∃ n G Y, Walk J n G Y ∧ n ≤ 100000 ∧ (∀ H', Same H1 H' → G H') ∧
      (∀ i x H' H2, i < n → Same H1 H' → Y i H' x H2 → Same H' H2 ∧ gB X sc tg x (wipe σ (own.map (·.2))) H2 fun σ3 H3 => wipe σ3 (own.map (·.2)) = wipe σ (own.map (·.2)) ∧ Same H2 H3 ∧ eB X sc elt σ3 H3 fun y H4 => Pr i y ∧ Same H3 H4) ∧
      ∀ l H' ys, Same H1 H' → H1 l = none → H' l = some (.lst ys) → ys.length = n → (∀ i y, ys[i]? = some y → Pr i y) → D.nx (σ.set i (some (.ref l))) H') (hyl : X.env.scope.names.lookup y = some .local := by rfl)
    (hsw : swapsWith (.ListComp elt [⟨tg, it, [], 0⟩] sc pos) (some (.Name y p2)) p3.line X.env = pure true := by exact sw_true rfl rfl rfl (by decide +kernel)) (hs : ∀ x, foldedSetIterable it X.env x = pure x := by intro _; rfl) : sW X (.Assign [.Name y p2] (.ListComp elt [⟨tg, it, [], 0⟩] sc pos) p3) D σ H := by
  refine s_setLc ok ⟨fun pins s I => wpAny_mono (h.run pins s I) (fun v s1 q => wpAny_mono q (fun u s2 ⟨i, fp, tn, J, H2, e, I2, T, t0, f2, Pr, n, G, Y, w, hn, q1, q2, q3⟩ => ⟨i, fp, tn, J, H2, e, I2, T, t0, f2, n, G, Y, w, fun D' hD => ⟨fun i H' => Same H2 H' ∧ ∃ acc, H' D' = some (.lst acc) ∧ acc.length = i ∧ ∀ j z, acc[j]? = some z → Pr j z, ⟨fun b o e => by rw [upd_ne (ne_of_none e hD)]; exact e, [], upd_same, rfl, by simp⟩, fun _ _ _ p => q1 _ p.1, fun i x H' H3 hi p y s0 H0 C cl fp => ?_, fun H' p => by
    obtain ⟨p1, acc, p2, p3, p4⟩ := p
    exact q3 D' H' acc p1 hD p2 p3 p4⟩⟩) fun _ _ z => z) fun _ _ z => z⟩ hyl hsw hs
  obtain ⟨k1, k2⟩ := q2 i x H' H3 hi p.1 y
  obtain ⟨p1, acc, p2, p3, p4⟩ := p
  refine ⟨fun pins s' u I r => wpAny_mono ((k2 s0 H0 C cl fp).run pins s' u I r) (fun _ s'' ⟨σ', H'', I'', e1, e2, e3⟩ => ⟨σ', H'', I'', e1, fun s0 H0 C cl fp => ⟨fun pins s' I => wpAny_mono ((e3 s0 H0 C cl fp).run pins s' I) (fun u s4 ⟨v4, H4, I4, r4, ev, e4⟩ => ⟨v4, H4, I4, r4, acc, e4 _ _ (e2 _ _ (k1 _ _ p2)), ?_, ?_, acc ++ [v4], upd_same, ?_, ?_⟩) fun _ _ z => z⟩⟩) fun _ _ z => z⟩
  · rw [p3]
    exact Nat.lt_of_lt_of_le (Nat.lt_of_lt_of_le hi hn) (by decide)
  · intro b o e
    rw [upd_ne (ne_of_none e hD)]
    exact e4 _ _ (e2 _ _ (k1 _ _ (p1 _ _ e)))
  · rw [List.length_append, p3]; rfl
  · intro j z hz
    by_cases hj : j < i
    · rw [List.getElem?_append_left (by omega)] at hz
      exact p4 j z hz
    · rw [List.getElem?_append_right (by omega), p3] at hz
      have hj2 : j = i := by
        have := (List.getElem?_eq_some_iff.mp hz).1
        simp at this
        omega
      subst hj2
      simp at hz
      rw [← hz]
      exact ev
end
theorem filter_ix {α : Type} (f : α → V) (p : α → Bool) (d : V) : ∀ (l : List α), ((List.range l.length).filter fun i => (l[i]?.map p).getD false).map (fun i => (l[i]?.map f).getD d) = (l.filter p).map f
  | [] => rfl
  | a :: l => by
    rw [List.length_cons, List.range_succ_eq_map, List.filter_cons, List.filter_map]
    have ih := filter_ix f p d l
    have e1 : ((fun i => ((a :: l)[i]?.map p).getD false) ∘ Nat.succ) = fun i => (l[i]?.map p).getD false := by
      funext i
      simp
    rw [e1]
    simp only [List.getElem?_cons_zero, Option.map_some, Option.getD_some]
    by_cases q : p a = true
    · rw [if_pos q, List.filter_cons_of_pos q, List.map_cons, List.map_cons, List.map_map, ← ih]
      simp [Function.comp_def]
    · rw [if_neg q, List.filter_cons_of_neg q, List.map_map, ← ih]
      simp [Function.comp_def]
/-! ### a dict that is walked is locked -/
def lockD (D : Ends) (d : Addr) (u : HO) (od : Obj) : Ends where
  nx := fun σ H => H d = some (.frz od u) ∧ ∀ H2, H2 d = some u → (∀ b, b ≠ d → H2 b = H b) → D.nx σ H2
  rt := fun v H => H d = some (.frz od u) ∧ ∀ H2, H2 d = some u → (∀ b, b ≠ d → H2 b = H b) → D.rt v H2
  bk := fun σ H => H d = some (.frz od u) ∧ ∀ H2, H2 d = some u → (∀ b, b ≠ d → H2 b = H b) → D.bk σ H2
  ct := fun σ H => H d = some (.frz od u) ∧ ∀ H2, H2 d = some u → (∀ b, b ≠ d → H2 b = H b) → D.ct σ H2
theorem s_lock {X : Cx} {st : Stmt} {D : Ends} {σ : L2.St} {H : Hp} {d : Addr} {u : HO} (hd : H d = some u) (mu : Mut (some u)) (h : ∀ od H1, H1 d = some (.frz od u) → (∀ b, b ≠ d → H1 b = H b) → sW X st (lockD D d u od) σ H1) : sW X st D σ H :=
  sI (ps_lock PSw) ⟨d, u, hd, mu, fun od => ⟨fun pins s I => wpAny_mono ((h od _ upd_same fun b hb => upd_ne hb).run pins s I) (fun f s1 q => by
    cases f with
    | next => obtain ⟨σ', H', a, e, c⟩ := q; exact ⟨σ', H', a, e, c _ upd_same fun b hb => upd_ne hb⟩
    | brk => obtain ⟨σ', H', a, e, c⟩ := q; exact ⟨σ', H', a, e, c _ upd_same fun b hb => upd_ne hb⟩
    | cont => obtain ⟨σ', H', a, e, c⟩ := q; exact ⟨σ', H', a, e, c _ upd_same fun b hb => upd_ne hb⟩
    | ret v => obtain ⟨x, σ', H', a, r, e, c⟩ := q; exact ⟨x, σ', H', a, r, e, c _ upd_same fun b hb => upd_ne hb⟩) fun _ _ z => z⟩⟩
/-! ### words that want that a token was given out; replace -/
structure eT (X : Cx) (e : Expr) (σ : L2.St) (H : Hp) (Q : VK) : Prop where
  run : ∀ pins s, 1 ≤ s.toks → Inv X pins σ H s → wpAny (model X.prog X.w) X.A (eval e X.env) (EP X pins σ Q) X.xe s
structure aT (X : Cx) (es : List Expr) (σ : L2.St) (H : Hp) (Q : List V → Hp → Prop) : Prop where
  run : ∀ pos pins s, 1 ≤ s.toks → Inv X pins σ H s → wpAny (model X.prog X.w) X.A (spliced (backTo pos (starEach es X.env))) (AP X pins σ Q) X.xe s
section
variable {X : Cx} {σ : L2.St} {H : Hp} {Q : VK} {R : List V → Hp → Prop} {pos p2 apos : Pos} {a o : Expr} {es : List Expr} {c y z : Str} {j k : Nat} {c0 c1 : Pos}
theorem eT_of (h : eW X a σ H Q) : eT X a σ H Q := ⟨fun pins s _ I => h.run pins s I⟩
theorem aT_of (h : aW X es σ H R) : aT X es σ H R := ⟨fun pos pins s _ I => h.run pos pins s I⟩
theorem aT_cons (h : eT X a σ H fun x H1 => aT X es σ H1 fun xs H2 => R (x :: xs) H2) (hs : starEach (a :: es) X.env = (false, eval a X.env) :: starEach es X.env := by rfl) : aT X (a :: es) σ H R := ⟨fun pos pins s ht I => by
  rw [hs]
  show wpAny _ _ (spliced ((false, eval a X.env) :: backTo pos (starEach es X.env))) _ _ s
  exact Calls.spliced_cons (wpAny_mono (PySem.wpAny_toks (h.run pins s ht I)) (fun u s1 ⟨hk, x, H1, I1, r1, q1⟩ => wpAny_mono (q1.run pos pins s1 (Nat.le_trans ht hk) I1) (fun us s2 ⟨xs, H2, I2, r2, q2⟩ => ⟨x :: xs, H2, I2, .cons r1 r2, q2⟩) fun _ _ w => w) fun _ _ w => w.2)⟩
theorem a_binS {op : Operator} (h : eW X a σ H fun x H1 => oW X (binaryOp op) x (.str c) H1 fun v H2 => aT X es σ H2 fun xs H3 => R (v :: xs) H3)
    (hs : starEach (.BinOp a op (.Constant (.str c) j p2) pos :: es) X.env = (false, eval (.BinOp a op (.Constant (.str c) j p2) pos) X.env) :: starEach es X.env := by rfl) : aW X (.BinOp a op (.Constant (.str c) j p2) pos :: es) σ H R := ⟨fun pos2 pins s I => by
  rw [hs]
  show wpAny _ _ (spliced ((false, eval _ X.env) :: backTo pos2 (starEach es X.env))) _ _ s
  exact Calls.spliced_cons (wpAny_BinOp (thn (h.run pins s I) fun v s1 ⟨x, H1, I1, r1, q1⟩ => Calls.Constant_str (wpAny_mono (PySem.wpAny_toks (q1.run pins _ σ v _ (I1.tok (s1.toks + 1)) r1 ⟨s1.toks, rfl⟩)) (fun u s3 ⟨hk, w, H3, I3, r3, q3⟩ =>
    wpAny_mono (q3.run pos2 pins s3 (Nat.le_trans (Nat.le_add_left 1 _) hk) I3) (fun us s4 ⟨xs, H4, I4, r4, q4⟩ => ⟨w :: xs, H4, I4, .cons r3 r4, q4⟩) fun _ _ w => w) fun _ _ w => w.2)))⟩
theorem eT_repl (h : eW X o σ H fun v H1 => ∃ x, v = .str x ∧ x.length + (x.length + 1) * z.length ≤ 16777216 ∧ Q (.str (Txt.replace x y z)) H1) (hyz : (y == z) = false := by decide)
    (hst : starEach [.Constant (.str y) j c0, .Constant (.str z) k c1] X.env = [(false, eval (.Constant (.str y) j c0) X.env), (false, eval (.Constant (.str z) k c1) X.env)] := by rfl)
    (hbase : attributeBase o "replace" X.env (eval o X.env) = eval o X.env := by rfl) (hline : (apos.endLine == pos.line) = true := by rfl) : eT X (.Call (.Attribute o "replace" apos) [.Constant (.str y) j c0, .Constant (.str z) k c1] [] pos) σ H Q :=
  ⟨fun pins s ht I => CwR.pet_replC PEw hyz hst hbase hline pins s σ H Q ht I h⟩
theorem e_lower (h : eW X o σ H fun v H1 => ∃ x, v = .str x ∧ x.length ≤ 5592405 ∧ Q (.str (Txt.lower x)) H1) (hbase : attributeBase o "lower" X.env (eval o X.env) = eval o X.env := by rfl) (hline : (apos.endLine == pos.line) = true := by rfl) : eW X (.Call (.Attribute o "lower" apos) [] [] pos) σ H Q :=
  eI (pe_lower PEw hbase hline) (eMono h fun v H1 ⟨x, e, hz, q⟩ => ⟨⟨x, e⟩, x, e, rfl, hz, q⟩)
end
/-! ### the longer walk: what stands in a heap, found by itself -/
theorem _root_.L2.Same.none {G H : Hp} {p : Addr} (s : Same G H) (h : H p = Option.none) : G p = Option.none := by
  cases e : G p with
  | none => rfl
  | some o => rw [s _ _ e] at h; cases h
theorem Same.at' {G H : Hp} {p : Addr} {o : HO} (s : Same G H) (h : G p = some o) : H p = some o := s _ _ h
theorem Same.seq' {K : PySem.W.Frag} {G H : Hp} {a : Addr} {xs : List V} (s : Same G H) (h : SqL K G a xs) : SqL K H a xs := s.seq h
theorem Same.seqT' {K : PySem.W.Frag} {G H : Hp} {a : Addr} {xs : List V} (s : Same G H) (h : SqT K G a xs) : SqT K H a xs := sq_more s h
theorem Same.th' {K : PySem.W.Frag} {G H : Hp} {v : V} {d : PyData} (s : Same G H) (h : Th K G v d) : Th K H v d := Th.more s d v h
theorem Same.thA' {K : PySem.W.Frag} {G H : Hp} {v : List V} {d : List PyData} (s : Same G H) (h : ThAll K G v d) : ThAll K H v d := ThAll.more s d v h
theorem Same.tr' {F G H : Hp} (s : Same G H) (h : Same F G) : Same F H := h.trans s
mutual
theorem Th.dp {K : PySem.W.Frag} {H : Hp} : ∀ (d : PyData) (v : V), Th K H v d → d.canLay0 = true → Dp K H v d
  | .none, _, h, _ => by cases h; exact .non
  | .bool _, _, h, _ => by cases h; exact .bl _
  | .int _, _, h, _ => by cases h; exact .int _
  | .str _, _, h, _ => by cases h; exact .str _
  | .list ds, _, h, c => by cases h with | lst hs ha => exact .lst hs (ThAll.dp ds _ ha c)
  | .tuple ds, _, h, c => by cases h with | tup hs ha => exact .tup hs (ThAll.dp ds _ ha c)
  | .dict _, _, _, c => by cases c
theorem ThAll.dp {K : PySem.W.Frag} {H : Hp} : ∀ (ds : List PyData) (vs : List V), ThAll K H vs ds → PyData.canLayAll0 ds = true → DpAll K H vs ds
  | [], _, h, _ => by cases h; exact .nil
  | d :: ds, _, h, c => by
    have c2 : (d.canLay0 && PyData.canLayAll0 ds) = true := c
    rw [Bool.and_eq_true] at c2
    cases h with | cons h1 h2 => exact .cons (Th.dp d _ h1 c2.1) (ThAll.dp ds _ h2 c2.2)
end
theorem Th.dpS {K : PySem.W.Frag} {H : Hp} {k : Nat} {d : PyData} {v : V} (h : Th K H v d) (s : Sh k d) : Dp K H v d := Th.dp d v h s.can
theorem vals_signs : ∀ (cs : List Nat) (vs : List Value), vs.length = cs.length → (∀ (j : Nat) (v : Value), vs[j]? = some v → ∃ c u, cs[j]? = some c ∧ v = Value.str ⟨#[c]⟩ u) → Vals (cs.map fun c => V.str ⟨#[c]⟩) vs
  | [], [], _, _ => .nil
  | c :: cs, v :: vs, h, k => by
    obtain ⟨c', u, e1, e2⟩ := k 0 v rfl
    cases e1
    exact .cons ⟨u, e2⟩ (vals_signs cs vs (by simpa using h) fun j w e => by simpa using k (j + 1) w (by simpa using e))
  | [], _ :: _, h, _ => by simp at h
  | _ :: _, [], h, _ => by simp at h
/-- list(s), s a text -/
theorem k_listS {X : Cx} {H : Hp} {Q : VK} {z : Str} [cc : CxC X] (hz : z.length ≤ 100000) (q : ∀ l H2, Same H H2 → H l = none → H2 l = some (.lst ((tl z).map fun c => V.str ⟨#[c]⟩)) → (∀ b, b ≠ l → H2 b = H b) → Q (.ref l) H2) : kW X (.type "list") [.str z] H Q := ⟨fun pins s σ us I r => by
  obtain ⟨u, rfl, rx⟩ := vals1 r
  obtain ⟨t, rfl⟩ := rx
  have hz2 : z.cps.size ≤ sizeLine := Nat.le_trans (show z.length ≤ 100000 from hz) (by decide)
  refine PySem.call_list_str (I.ok.hd cc.h) z t (fun h' tk acc' c' k e hit => ?_) hz2
  have hn := I.hok.fresh (Nat.le_refl s.heap.objs.size)
  refine ⟨.ref _, upd H s.heap.objs.size (.lst ((tl z).map fun c => V.str ⟨#[c]⟩)), I.laid (t' := tk) k (Nat.le_refl _) ⟨?_, acc'.toList, c', vals_signs _ _ ?_ fun j v hv => ?_, by simpa using e⟩, rfl, q _ _ (sameU hn) hn upd_same fun b hb => upd_ne hb⟩
  · rw [List.length_map]; exact hz2
  · rw [Array.length_toList, hit.1]
    rfl
  · obtain ⟨c, u, q1, q2⟩ := hit.2 j v (by simpa using hv)
    exact ⟨c, u, by simpa [tl] using q1, q2⟩⟩
/-! ### enumerate over a tuple, over a text -/
section
open PySem.Builtin PySem.W
set_option maxHeartbeats 2000000 in
theorem meets_enum1 {v : Value} {o : Obj} {H : Heap → Prop} (B : Begins v o H) :
    Meets (Builtin.«enumerate.__new__» ⟨[.type "enumerate", v], []⟩) (fun _ R s => H s.heap ∧
      R (.ok (.ret (.ref (s.heap.push o).objs.size))) { s with heap := (s.heap.push o).push { cls := .type "enumerate", data := .fields #[.none, .bool false, .ref s.heap.objs.size, rawInt 0, .none, .none] } }) :=
  .of_wp fun prog w A R s h => by
    obtain ⟨hp, g, d, tk, os⟩ := s; obtain ⟨h1, h⟩ := h
    have hsub := sub_enumerate
    have q1 : ∀ {A' : Around} {E : Value → Shared → Prop} {Q : Value → Shared → Prop}, Q (.ref hp.objs.size) ⟨hp.push o, g, d, tk, os⟩ → wpAny (model prog w) A' (pyIter v) Q E ⟨hp, g, d, tk, os⟩ :=
      fun q => B.iter prog w _ _ ⟨hp, g, d, tk, os⟩ _ h1 q
    wp_walk using q1
    refine wpAny_stack_any fun st => wpAny_pure ?_
    split
    · rename_i c _ _ _ _ _
      cases (c == Value.type "enumerate")
      · wp_walk using q1
        exact ⟨_, rfl, h⟩
      · wp_walk using q1
        exact ⟨_, rfl, h⟩
    · wp_walk using q1
      exact ⟨_, rfl, h⟩
theorem enum_begins1 {prog : Program} {w : World} {A : Around} {E : Value → Shared → Prop} {s : Shared} {v : Value} {o : Obj} {H : Heap → Prop} {Q : Value → Shared → Prop} (B : Begins v o H) (h1 : H s.heap)
    (h : ∀ h', IsEnum h' (s.heap.objs.size + 1) s.heap.objs.size 0 .none → h'.get? s.heap.objs.size = some o → h'.objs.size = s.heap.objs.size + 2 →
      (∀ b o, s.heap.get? b = some o → h'.get? b = some o) → Q (.ref (s.heap.objs.size + 1)) { s with heap := h' }) :
    wpAny (model prog w) A (call (.type "enumerate") [v]) Q E s := by
  refine callType_new F.called_enumerate (by decide) (F.typeCall_enumerate_1 _) (F.newCall_enumerate_1 _) (fun obj => F.args_object_init_2 obj _) F.entry_enumerate_new
    (meets_enum1 B) ⟨h1, ?_⟩
  have hz : (s.heap.push o).objs.size = s.heap.objs.size + 1 := Heap.size_push ..
  show _ ∧ _
  rw [hz]
  have he : IsEnum ((s.heap.push o).push { cls := .type "enumerate", data := .fields #[.none, .bool false, .ref s.heap.objs.size, rawInt 0, .none, .none] }) (s.heap.objs.size + 1) s.heap.objs.size 0 .none := by
    have := Heap.get?_push_size (s.heap.push o) (o := { cls := .type "enumerate", data := .fields #[.none, .bool false, .ref s.heap.objs.size, rawInt 0, .none, .none] }) rfl
    rw [hz] at this; exact this
  refine ⟨⟨_, he, rfl⟩, h _ he (Heap.get?_push_of_some _ (Heap.get?_push_size _ B.free)) (by rw [Heap.size_push, hz]) fun b o x => Heap.get?_push_of_some _ (Heap.get?_push_of_some _ x)⟩
def IteT (K : PySem.W.Frag) (a : Addr) : It :=
  ⟨fun i H => ∃ (xs : List V) (x : V), SqT K H a xs ∧ xs[i]? = some x, fun i H v H' => ∃ T x, v = .ref T ∧ H T = none ∧ H' = upd H T (.tup [.int (i : Nat), x]) ∧ ∀ xs, SqT K H a xs → xs[i]? = some x, fun i H => ∃ xs : List V, SqT K H a xs ∧ xs.length = i⟩
def IteS (z : Str) : It :=
  ⟨fun i _ => i < z.cps.size, fun i H v H' => ∃ T c, v = .ref T ∧ H T = none ∧ H' = upd H T (.tup [.int (i : Nat), .str ⟨#[c]⟩]) ∧ z.cps[i]? = some c, fun i _ => i = z.cps.size⟩
theorem enum_turn {X : Cx} {pins : List (Addr × Obj)} {s : Shared} {σ : L2.St} {H : Hp} {E : Value → Shared → Prop} {elts : List Expr} {kk : Nat} {tpos : Pos} {e it : Addr} {fp : List Addr} {n i : Nat} {Pu : Nat → Value → Prop} {St : Nat → Heap → Prop} {PV : V → Prop} {old : Value}
    (I : Inv X pins σ H s) (hf : ∀ b ∈ [e, it], FpOk X pins H b) (D : Draws X.prog X.w X.A.in1 it fp n Pu St) (he : IsEnum s.heap e it ((i : Nat) : Int) old) (hst : St i s.heap) (hlt : i < n) (hne : e ≠ it) (hef : e ∉ fp)
    (hPV : ∀ u, Pu i u → ∃ x, RelV x u ∧ PV x) :
    wpAny (model X.prog X.w) X.A (pyNext (.ref e)) (fun r s1 => ∃ u, r = some u ∧ wpAny (model X.prog X.w) X.A (letOwnedTupleGo (.Tuple elts kk tpos) (.ref e) u) (fun _ s2 => ∃ x H', Inv X pins σ H' s2 ∧ RelV x u ∧
      (∃ T y, x = .ref T ∧ H T = none ∧ H' = upd H T (.tup [.int (i : Nat), y]) ∧ PV y) ∧ ((∃ old, IsEnum s2.heap e it ((i + 1 : Nat) : Int) old) ∧ St (i + 1) s2.heap) ∧ ∀ b ∈ [e, it], H' b = none) E s1) E s := by
  have hel : e < s.heap.objs.size := Heap.lt_size he
  have hil : it < s.heap.objs.size := by obtain ⟨_, q⟩ := D.live _ _ hst; exact Heap.lt_size q
  refine wpAny_pyNext_enum_itemD D he hst hlt hne hef fun u h' tk hPu ho hst' hT hsz hk => ?_
  obtain ⟨x, ru, px⟩ := hPV u hPu
  refine ⟨_, rfl, wpAny_letOwnedTupleGo_enum (s := { s with heap := h', toks := tk + 1 }) ho fun h'' he' sb => ?_⟩
  have hT2 : h''.get? s.heap.objs.size = some { cls := .type "tuple", data := .seq #[.int i tk, u] } := (sb.2 _ (Nat.ne_of_gt hel)).trans hT
  have new : ObjOk X.prog X.w (upd H s.heap.objs.size (.tup [.int (i : Nat), x])) h'' s.heap.objs.size (.tup [.int (i : Nat), x]) :=
    ⟨by show 2 ≤ sizeLine; decide, [.int i tk, u], .cons ⟨_, rfl⟩ (.cons ru .nil), ⟨_, hT2, rfl, _, rfl⟩⟩
  have I1 : Inv X pins σ (upd H s.heap.objs.size (.tup [.int (i : Nat), x])) { s with heap := h'', toks := tk + 1 } :=
    I.turnedNew (ch := [e, it]) (fun b ob hb q => (sb.2 b (fun z => hb (by simp [z]))).trans (hk b ob (fun z => hb (by simp [z])) (fun z => hb (by simp [z])) q)) hf (Nat.le_refl _) new
  refine ⟨.ref s.heap.objs.size, _, I1, rfl, ⟨_, x, rfl, I.hok.fresh (Nat.le_refl _), rfl, px⟩, ⟨⟨u, ?_⟩, D.frame _ _ _ hst' fun b hb o q => (sb.2 b fun z => hef (z ▸ hb)).trans q⟩, fun b hb => ?_⟩
  · have e1 : ((i + 1 : Nat) : Int) = (i : Int) + 1 := by omega
    rw [e1]; exact he'
  · have hb' : b < s.heap.objs.size := by
      have e' : b = e ∨ b = it := by simpa using hb
      rcases e' with z | z
      · rw [z]; exact hel
      · rw [z]; exact hil
    rw [upd_ne (Nat.ne_of_lt hb')]
    exact (hf b hb).1
theorem turn_enumT {P : Program} {w : World} {K : PySem.W.Frag} {elts : List Expr} {kk : Nat} {tpos : Pos} (a e it : Addr) :
    Turn P w K (.Tuple elts kk tpos) (IteT K a) [e, it] e (fun i h => (∃ old, IsEnum h e it ((i : Nat) : Int) old) ∧ h.IsTupleIter it a i ∧ e ≠ it ∧ a ≠ it ∧ a ≠ e) where
  mem := by simp
  obj := fun i h st b hb => by
    obtain ⟨⟨old, he⟩, ⟨o, ho, hc, hd⟩, _⟩ := st
    have e' : b = e ∨ b = it := by simpa using hb
    rcases e' with z | z
    · rw [z]; exact ⟨_, he, fun v q => nomatch q⟩
    · rw [z]; exact ⟨o, ho, fun v q => by rw [hd] at q; cases q⟩
  keep := fun i h h' st k => let ⟨⟨old, he⟩, hi, hne⟩ := st; ⟨⟨old, k e (by simp) _ he⟩, hi.at fun o q => k it (by simp) o q, hne⟩
  item := by
    intro X hP hw hK hc i pins s σ H E I hf st hg
    subst hP hw hK
    obtain ⟨⟨old, he⟩, hit, hne, hai, hae⟩ := st
    obtain ⟨xs, x, hq, hx⟩ := hg
    obtain ⟨its, rv, p, hz⟩ := I.tuple hq
    obtain ⟨u, hu, ru⟩ := rv.get hx
    have hli : i < its.toArray.size := by
      have := (List.getElem?_eq_some_iff.mp hu).1
      simpa using this
    refine wpAny_mono (enum_turn (PV := fun y => ∀ xs, SqT X.K H a xs → xs[i]? = some y) I hf (Draws.tuple (A := X.A.in1) (show X.A.in1.handled = Option.none from I.ok.hd hc) it a hai its.toArray) he ⟨hit, p⟩ hli hne (by simp only [List.mem_cons, List.not_mem_nil, or_false, not_or]; exact ⟨hne, hae.symm⟩) fun u' hu' => ?_) (fun r s1 ⟨u1, e1, h1⟩ => ⟨u1, e1, wpAny_mono h1 (fun _ s2 ⟨x2, H', I2, r2, y2, ⟨q1, q2, _⟩, q3⟩ => ⟨x2, H', I2, r2, y2, ⟨q1, q2, hne, hai, hae⟩, q3⟩) fun _ _ z => z⟩) fun _ _ z => z
    have e2 : u' = u := by
      have hu' : its.toArray[i]? = some u' := hu'
      rw [List.getElem?_toArray, hu] at hu'
      exact (Option.some.inj hu').symm
    subst e2
    exact ⟨x, ru, fun ys hy => by rw [I.tuple_inj hy hq]; exact hx⟩
  done := by
    intro X hP hw hK hc i pins s σ H E I hf st hg
    subst hP hw hK
    obtain ⟨⟨old, he⟩, hit, hne, hai, hae⟩ := st
    obtain ⟨xs, hq, hx⟩ := hg
    obtain ⟨its, rv, p, hz⟩ := I.tuple hq
    obtain ⟨f0, f1, f2, f3, f4, f5⟩ := hf it (by simp)
    have hl := rv.length
    refine wpAny_pyNext_enum_endD (Draws.tuple (A := X.A.in1) (show X.A.in1.handled = Option.none from I.ok.hd hc) it a hai its.toArray) he (St := fun i h => h.IsTupleIter it a i ∧ h.IsTuple a its.toArray) ⟨?_, p⟩ fun h' eb => ⟨rfl, I.turned (t' := s.toks) (fun b o hb q => eb b o hb q) f0 f1 f3 f4 f5⟩
    rw [List.size_toArray, ← hl, hx]
    exact hit
  self := fun A i s Q E st h => let ⟨⟨_, he⟩, _⟩ := st; wpAny_pyIter_enum he h
theorem j_enumT {X : Cx} {σ : L2.St} {H : Hp} {R : It → Hp → Prop} {a : Expr} {p2 p3 pos : Pos} {mg : Str → Option Value} {elts : List Expr} {kk : Nat} [cm : CxM X mg] [g : Gn mg "enumerate" none] (h : eW X a σ H fun v H1 => ∃ (p : Addr) (xs : List V), v = .ref p ∧ SqT X.K H1 p xs ∧ R (IteT X.K p) H1) (hg : Gl X "enumerate" := by rfl) (hs : starEach [a] X.env = (false, eval a X.env) :: starEach [] X.env := by rfl) :
    jW X (.Tuple elts kk p3) (.Call (.Name "enumerate" p2) [a] [] pos) σ H R := ⟨fun pins s I => by
  have hm : X.mg "enumerate" = none := by rw [cm.h]; exact g.h
  refine Call_ (ld_blt I hg hm boot_enumerate (PyProof.Rows.callWith_type1 (args_cons (thn (h.run pins s I) fun u s1 ⟨v, H1, I1, r1, q1⟩ => args_nil ?_) hs) hs rfl))
  obtain ⟨p, xs, ev, hq, q⟩ := q1
  subst ev
  obtain rfl : u = Value.ref p := r1
  obtain ⟨its, rv, p', hz⟩ := I1.tuple hq
  refine enum_begins1 (begins_tuple p its.toArray) p' fun h' he hit hsz hk => wpAny_pyIter_enum he ?_
  have I2 : Inv X pins σ H1 { s1 with heap := h' } := I1.kept (t' := s1.toks) hk
  have hpl : p < s1.heap.objs.size := by obtain ⟨o, ho, _⟩ := p'; exact Heap.lt_size ho
  refine ⟨s1.heap.objs.size + 1, [s1.heap.objs.size + 1, s1.heap.objs.size], _, _, H1, rfl, I2, turn_enumT p (s1.heap.objs.size + 1) s1.heap.objs.size, ⟨⟨.none, he⟩, ⟨_, hit, rfl, rfl⟩, Nat.succ_ne_self _, Nat.ne_of_lt hpl, Nat.ne_of_lt (Nat.lt_succ_of_lt hpl)⟩, fun b hb => ?_, q⟩
  have e' : b = s1.heap.objs.size + 1 ∨ b = s1.heap.objs.size := by simpa using hb
  have hle : s1.heap.objs.size ≤ b := by
    rcases e' with z | z
    · rw [z]; exact Nat.le_add_right _ _
    · rw [z]; exact Nat.le_refl _
  exact I1.fpOk hle (I1.hok.fresh hle)⟩
theorem walk_enumT {K : PySem.W.Frag} {a : Addr} {xs : List V} : Walk (IteT K a) xs.length (fun H => SqT K H a xs) (fun i H v H' => ∃ T x, v = .ref T ∧ H T = none ∧ H' = upd H T (.tup [.int (i : Nat), x]) ∧ xs[i]? = some x) :=
  ⟨fun i _ hi q => ⟨xs, xs[i], q, by simp [hi]⟩, fun _ q => ⟨xs, q, rfl⟩, fun _ _ _ _ _ q ⟨T, x, e1, e2, e3, e4⟩ => ⟨T, x, e1, e2, e3, e4 xs q⟩⟩
theorem walk_enumL {K : PySem.W.Frag} {a : Addr} {xs : List V} : Walk (Ite K a) xs.length (fun H => SqL K H a xs) (fun i H v H' => ∃ T x, v = .ref T ∧ H T = none ∧ H' = upd H T (.tup [.int (i : Nat), x]) ∧ xs[i]? = some x) :=
  ⟨fun i _ hi q => ⟨xs, xs[i], q, by simp [hi]⟩, fun _ q => ⟨xs, q, Nat.le_refl _⟩, fun _ _ _ _ _ q ⟨T, x, e1, e2, e3, e4⟩ => ⟨T, x, e1, e2, e3, e4 xs q⟩⟩
theorem turn_enumS {P : Program} {w : World} {K : PySem.W.Frag} {elts : List Expr} {kk : Nat} {tpos : Pos} (z : Str) (t : Tok) (e it : Addr) :
    Turn P w K (.Tuple elts kk tpos) (IteS z) [e, it] e (fun i h => (∃ old, IsEnum h e it ((i : Nat) : Int) old) ∧ h.IsStrIter it (strIterType z) z t i ∧ e ≠ it) where
  mem := by simp
  obj := fun i h st b hb => by
    obtain ⟨⟨old, he⟩, ⟨o, ho, hc, hd⟩, _⟩ := st
    have e' : b = e ∨ b = it := by simpa using hb
    rcases e' with z | z
    · rw [z]; exact ⟨_, he, fun v q => nomatch q⟩
    · rw [z]; exact ⟨o, ho, fun v q => by rw [hd] at q; cases q⟩
  keep := fun i h h' st k => let ⟨⟨old, he⟩, ⟨o, ho, r⟩, hne⟩ := st; ⟨⟨old, k e (by simp) _ he⟩, ⟨o, k it (by simp) o ho, r⟩, hne⟩
  item := by
    intro X hP hw hK hc i pins s σ H E I hf st hg
    subst hP hw hK
    obtain ⟨⟨old, he⟩, hit, hne⟩ := st
    have hg : i < z.cps.size := hg
    refine wpAny_mono (enum_turn (PV := fun y => ∃ c, z.cps[i]? = some c ∧ y = V.str ⟨#[c]⟩) I hf (Draws.text (A := X.A.in1) (show X.A.in1.handled = Option.none from I.ok.hd hc) it z t) he hit hg hne (by simp only [List.mem_cons, List.not_mem_nil, or_false]; exact hne) fun u' hu' => ?_) (fun r s1 ⟨u1, e1, h1⟩ => ⟨u1, e1, wpAny_mono h1 (fun _ s2 ⟨x2, H', I2, r2, ⟨T, y, y1, y2, y3, c, y4, y5⟩, ⟨q1, q2⟩, q3⟩ => ⟨x2, H', I2, r2, ⟨T, c, y1, y2, by rw [y3, y5], y4⟩, ⟨q1, q2, hne⟩, q3⟩) fun _ _ z => z⟩) fun _ _ z => z
    obtain ⟨c, u, q1, rfl⟩ := hu'
    exact ⟨.str ⟨#[c]⟩, ⟨u, rfl⟩, c, q1, rfl⟩
  done := by
    intro X hP hw hK hc i pins s σ H E I hf st hg
    subst hP hw hK
    obtain ⟨⟨old, he⟩, hit, hne⟩ := st
    have hg : i = z.cps.size := hg
    obtain ⟨f0, f1, f2, f3, f4, f5⟩ := hf it (by simp)
    exact wpAny_pyNext_enum_endD (Draws.text (A := X.A.in1) (show X.A.in1.handled = Option.none from I.ok.hd hc) it z t) he (by rw [← hg]; exact hit) fun h' eb => ⟨rfl, I.turned (t' := s.toks) (fun b o hb q => eb b o hb q) f0 f1 f3 f4 f5⟩
  self := fun A i s Q E st h => let ⟨⟨_, he⟩, _⟩ := st; wpAny_pyIter_enum he h
theorem j_enumS {X : Cx} {σ : L2.St} {H : Hp} {R : It → Hp → Prop} {a : Expr} {p2 p3 pos : Pos} {mg : Str → Option Value} {elts : List Expr} {kk : Nat} [cm : CxM X mg] [g : Gn mg "enumerate" none] (h : eW X a σ H fun v H1 => ∃ (z : Str), v = .str z ∧ R (IteS z) H1) (hg : Gl X "enumerate" := by rfl) (hs : starEach [a] X.env = (false, eval a X.env) :: starEach [] X.env := by rfl) :
    jW X (.Tuple elts kk p3) (.Call (.Name "enumerate" p2) [a] [] pos) σ H R := ⟨fun pins s I => by
  have hm : X.mg "enumerate" = none := by rw [cm.h]; exact g.h
  refine Call_ (ld_blt I hg hm boot_enumerate (PyProof.Rows.callWith_type1 (args_cons (thn (h.run pins s I) fun u s1 ⟨v, H1, I1, r1, q1⟩ => args_nil ?_) hs) hs rfl))
  obtain ⟨z, ev, q⟩ := q1
  subst ev
  obtain ⟨t, rfl⟩ := r1
  refine enum_begins1 (begins_text z t) trivial fun h' he hit hsz hk => wpAny_pyIter_enum he ?_
  have I2 : Inv X pins σ H1 { s1 with heap := h' } := I1.kept (t' := s1.toks) hk
  refine ⟨s1.heap.objs.size + 1, [s1.heap.objs.size + 1, s1.heap.objs.size], _, _, H1, rfl, I2, turn_enumS z t (s1.heap.objs.size + 1) s1.heap.objs.size, ⟨⟨.none, he⟩, ⟨_, hit, rfl, rfl⟩, Nat.succ_ne_self _⟩, fun b hb => ?_, q⟩
  have e' : b = s1.heap.objs.size + 1 ∨ b = s1.heap.objs.size := by simpa using hb
  have hle : s1.heap.objs.size ≤ b := by
    rcases e' with z | z
    · rw [z]; exact Nat.le_add_right _ _
    · rw [z]; exact Nat.le_refl _
  exact I1.fpOk hle (I1.hok.fresh hle)⟩
theorem walk_enumS {z : Str} : Walk (IteS z) z.cps.size (fun _ => True) (fun i H v H' => ∃ T c, v = .ref T ∧ H T = none ∧ H' = upd H T (.tup [.int (i : Nat), .str ⟨#[c]⟩]) ∧ z.cps[i]? = some c) :=
  ⟨fun i _ hi _ => hi, fun _ _ => rfl, fun _ _ _ _ _ _ y => y⟩
end
/-! ### a part's first sign -/
def isSg (p : Str) : Bool := (tl p).head? == some 39
section
variable {X : Cx} {σ : L2.St} {H : Hp} {R : Bool → Hp → Prop} {p1 p2 p3 p4 : Pos} {e : Expr} {j1 j2 : Nat}
theorem isq (a : Nat) : decide ((⟨#[a]⟩ : Str) = Str.ofString "'") = decide (a = 39) := decide_eq_decide.mpr (by
  have h : tl (Str.ofString "'") = [39] := by decide +kernel
  constructor
  · intro e
    have : tl (⟨#[a]⟩ : Str) = [39] := by rw [e, h]
    exact (List.cons.inj this).1
  · intro e
    exact ext_tl (by rw [h, e]))
theorem isq_sg {p : Str} {c : Nat} {l : List Nat} (h : tl p = c :: l) : isSg p = decide (c = 39) := by
  unfold isSg
  rw [h]
  show (some c == some 39) = _
  by_cases q : c = 39
  · rw [q]; rfl
  · rw [decide_eq_false q]; simp [q]
theorem o_sgN {p : Str} {c : Nat} {l : List Nat} (h : tl p = c :: l) {Q : VK} (q : Q (.bl (!isSg p)) H) : oW X (compareOp .NotEq) (.str ⟨#[c]⟩) (.str (Str.ofString "'")) H Q := o_neS (by rw [isq, ← isq_sg h]; exact q)
theorem o_sgE {p : Str} {c : Nat} {l : List Nat} (h : tl p = c :: l) {Q : VK} (q : Q (.bl (isSg p)) H) : oW X (compareOp .Eq) (.str ⟨#[c]⟩) (.str (Str.ofString "'")) H Q := o_eqS (by rw [isq, ← isq_sg h]; exact q)
/-- e[0] != "'" -/
theorem t_sg (h : eW X e σ H fun x H1 => ∃ p, x = .str p ∧ ((∃ c l, tl p = c :: l) ∧ p.length ≤ 1000000) ∧ R (!isSg p) H1) : tW X (.Compare (.Subscript e (.Constant (.int 0) j1 p1) p2) [.NotEq] [.Constant (.str (Str.ofString "'")) j2 p3] p4) σ H R :=
  t_cmp (e_ix (eMono h fun x H1 ⟨p, ex, ⟨⟨c, l, hc⟩, hl⟩, q⟩ => by
    subst ex
    exact e_int (i_str (sz1m hl) (c := c) (by rw [show p.cps.toList = c :: l from hc]; exact atI_nat (by decide) rfl) (e_str (o_sgN hc ⟨_, rfl, q⟩)))))
theorem t_sgE (h : eW X e σ H fun x H1 => ∃ p, x = .str p ∧ ((∃ c l, tl p = c :: l) ∧ p.length ≤ 1000000) ∧ R (isSg p) H1) : tW X (.Compare (.Subscript e (.Constant (.int 0) j1 p1) p2) [.Eq] [.Constant (.str (Str.ofString "'")) j2 p3] p4) σ H R :=
  t_cmp (e_ix (eMono h fun x H1 ⟨p, ex, ⟨⟨c, l, hc⟩, hl⟩, q⟩ => by
    subst ex
    exact e_int (i_str (sz1m hl) (c := c) (by rw [show p.cps.toList = c :: l from hc]; exact atI_nat (by decide) rfl) (e_str (o_sgE hc ⟨_, rfl, q⟩)))))
end
/-! ### dicts by values: what stands at a key -/
theorem subTail {M : Model} {A : Around} {E : Value → Shared → Prop} {s : Shared} {prog : Program} {w : World} {value slice : Expr} {o i : Value} {T id : String} {Q : Value → Shared → Prop} (hT : s.TypeIs o T)
    (hl : typeLookup (.type T) "__getitem__" = pure (some (.builtin id))) (h : wpAny (model prog w) A (getItem o i) Q E s)
    (hs : subscripted slice false o i = operate [o, i] (getItem o i)) : wpAny (model prog w) A (subscriptTail value slice o i) Q E s := by
  unfold subscriptTail
  refine wpAny_bind ?_
  rw [getitemInPython_of_ne hT.not_modules]
  refine wpAny_bind (wpAny_specialOf hT hl ?_)
  have fin : wpAny (model prog w) A (subscripted slice false o i) (fun r s₃ => wpAny (model prog w) A (letTemporaryGo value o r >>= fun _ => pure r) Q E s₃) E s := by
    rw [hs]
    exact wpAny_operating (wpAny_mono h (fun r s₃ h₃ => wpAny_bind (wpAny_letTemporaryGo (wpAny_pure h₃))) fun _ _ x => x)
  first
    | exact wpAny_pure (wpAny_bind fin)
    | exact wpAny_bind (wpAny_pure (wpAny_bind fin))
    | exact wpAny_bind fin
section
variable {X : Cx} {σ : L2.St} {H : Hp} {Q : VK} {a b : Addr} {y v : V} {r : Option V} {pos p2 apos : Pos} {o e f : Expr}
theorem i_dget (hu : X.A.units + 1 < cLine) (g : DGet H a y (some v)) (q : Q v H) : iW X (.ref a) y H Q := ⟨fun value slice pins s σ u' u I rx ry hs => by
  obtain rfl : u' = Value.ref a := rx
  exact subTail (M := model X.prog X.w) (dict_typeIs I g) PySem.F.slot_dict_getitem.lookup (d_getItem hu I g ry fun w' s3 I3 rw' => ⟨v, H, I3, rw', q⟩) hs⟩
theorem o_din (hu : X.A.units + 1 < cLine) (g : DGet H a y r) (q : Q (.bl r.isSome) H) : oW X (compareOp .In) y (.ref a) H Q := ⟨fun pins s σ u u' I ry rx => by
  obtain rfl : u' = Value.ref a := rx
  exact d_in hu I g ry fun s3 I3 => ⟨.bl r.isSome, H, I3, rfl, q⟩⟩
theorem o_dni (hu : X.A.units + 1 < cLine) (g : DGet H a y r) (q : Q (.bl (!r.isSome)) H) : oW X (compareOp .NotIn) y (.ref a) H Q := ⟨fun pins s σ u u' I ry rx => by
  obtain rfl : u' = Value.ref a := rx
  exact d_notIn hu I g ry fun s3 I3 => ⟨.bl (!r.isSome), H, I3, rfl, q⟩⟩
theorem e_dget1 (hu : X.A.units + 1 < cLine) (h : eW X o σ H fun x H1 => ∃ a, x = .ref a ∧ IsD H1 a ∧ eW X e σ H1 fun y H2 => ∃ r, DGet H2 a y r ∧ Q (r.getD .non) H2) (hb : attributeBase o "get" X.env (eval o X.env) = eval o X.env := by rfl)
    (hf : ((backTo pos (starEach [e] X.env)).all (fun x => !x.1) && (backToKw pos (keywordEach [] X.env)).all (fun x => x.1.isSome) && decide (([e] : List Expr).length + ([] : List Keyword).length + (if ([] : List Keyword).isEmpty then 0 else 1) < 30)) = true := by rfl)
    (hl : (apos.endLine == pos.line) = true := by rfl) (ht : backTo pos (starEach [e] X.env) = [(false, eval e X.env)] := by rfl) : eW X (.Call (.Attribute o "get" apos) [e] [] pos) σ H Q := eI (pe_dget1 hu PEw PEw ⟨hb, hf, hl, ht⟩) h
theorem e_dget2 (hu : X.A.units + 1 < cLine) (h : eW X o σ H fun x H1 => ∃ a, x = .ref a ∧ IsD H1 a ∧ eW X e σ H1 fun y H2 => eW X f σ H2 fun z H3 => ∃ r, DGet H3 a y r ∧ Q (r.getD z) H3) (hb : attributeBase o "get" X.env (eval o X.env) = eval o X.env := by rfl)
    (hf : ((backTo pos (starEach [e, f] X.env)).all (fun x => !x.1) && (backToKw pos (keywordEach [] X.env)).all (fun x => x.1.isSome) && decide (([e, f] : List Expr).length + ([] : List Keyword).length + (if ([] : List Keyword).isEmpty then 0 else 1) < 30)) = true := by rfl)
    (hl : (apos.endLine == pos.line) = true := by rfl) (ht : backTo pos (starEach [e, f] X.env) = [(false, eval e X.env), (false, eval f X.env)] := by rfl) : eW X (.Call (.Attribute o "get" apos) [e, f] [] pos) σ H Q := eI (pe_dget2 hu PEw PEw PEw ⟨hb, hf, hl, ht⟩) h
theorem e_dsetd (h : eW X o σ H fun x H1 => ∃ a, x = .ref a ∧ IsD H1 a ∧ eW X e σ H1 fun y H2 => eW X f σ H2 fun z H3 => ∃ (kvs : List (Key × V)) (k : Key), H3 a = some (.dK kvs) ∧ y = kV k ∧ kvs.length ≤ 100000 ∧ (∀ v, valV kvs k = some v → Q v H3) ∧ (valV kvs k = none → ∀ H4, H4 a = some (.dK (putK kvs k z)) → (∀ b, b ≠ a → H4 b = H3 b) → Q z H4)) (hb : attributeBase o "setdefault" X.env (eval o X.env) = eval o X.env := by rfl)
    (hf : ((backTo pos (starEach [e, f] X.env)).all (fun x => !x.1) && (backToKw pos (keywordEach [] X.env)).all (fun x => x.1.isSome) && decide (([e, f] : List Expr).length + ([] : List Keyword).length + (if ([] : List Keyword).isEmpty then 0 else 1) < 30)) = true := by rfl)
    (hl : (apos.endLine == pos.line) = true := by rfl) (ht : backTo pos (starEach [e, f] X.env) = [(false, eval e X.env), (false, eval f X.env)] := by rfl) : eW X (.Call (.Attribute o "setdefault" apos) [e, f] [] pos) σ H Q :=
  eI (pe_dsetd PEw PEw PEw ⟨hb, hf, hl, ht⟩) (eMono h fun x H1 ⟨a, ea, d, h1⟩ => ⟨a, ea, d, eMono h1 fun y H2 h2 => eMono h2 fun z H3 ⟨kvs, k, e1, e2, e3, q1, q2⟩ => ⟨kvs, k, e1, e2, Nat.lt_of_le_of_lt e3 (by decide), q1, fun hn => q2 hn _ upd_same fun b hb => upd_ne hb⟩⟩)
/-- o[i] = v, o a dict whose keys are tuples -/
theorem g_setT {i : Expr} {R : L2.St → Hp → Prop} (hu : X.A.units + 1 < cLine) (h : eW X o σ H fun x H1 => eW X i σ H1 fun y H2 => ∃ (d : Addr) (kvs : List (List Key × V)) (k : List Key) (b : Addr), x = .ref d ∧ H2 d = some (.dT kvs) ∧ y = .ref b ∧ H2 b = some (.tup (k.map kV)) ∧ kvs.length ≤ 1000000 ∧ ∀ H3, H3 d = some (.dT (putK kvs k v)) → (∀ b, b ≠ d → H3 b = H2 b) → R σ H3)
    (ha : ∀ v, assign (.Subscript o i pos) X.env v = (holding [v] (eval o X.env) >>= fun ov => holding [v, ov] (eval i X.env) >>= fun iv => standAt pos >>= fun _ => holding [v, ov, iv] (setItem ov iv v) >>= fun _ => release [v, ov, iv] []) := by intro _; rfl) : gW X (.Subscript o i pos) v σ H R :=
  gI (pg_sub PEw PEw (set_dict hu) ha) (eMono h fun x H1 h1 => eMono h1 fun y H2 ⟨d, kvs, k, b, e1, e2, e3, e4, e5, q⟩ => ⟨d, _, e1, by rw [e3]; exact .t e2 e4 (Nat.lt_of_le_of_lt e5 (by decide)), q _ upd_same fun b hb => upd_ne hb⟩)
theorem e_dctT (h : ∀ p H2, Same H H2 → H p = none → H2 p = some (.dT []) → (∀ b, b ≠ p → H2 b = H b) → Q (.ref p) H2) : eW X (.Dict [] [] pos) σ H Q :=
  eI pe_dnewT fun p hp => h p _ (sameU hp) hp upd_same fun _ hb => upd_ne hb
end
theorem rm1 {k : Nat} {A : Around} (hr : Room k A) : A.units + 1 < cLine := by have := hr.units; omega
/-! ### two lists, one by one -/
inductive All2 {α β : Type} (R : α → β → Prop) : List α → List β → Prop
  | nil : All2 R [] []
  | cons {a : α} {b : β} {as : List α} {bs : List β} : R a b → All2 R as bs → All2 R (a :: as) (b :: bs)
section
variable {α β : Type} {R S : α → β → Prop}
theorem All2.len : ∀ {as : List α} {bs : List β}, All2 R as bs → as.length = bs.length
  | _, _, .nil => rfl
  | _, _, .cons _ h => congrArg (· + 1) h.len
theorem All2.mono (i : ∀ a b, R a b → S a b) : ∀ {as : List α} {bs : List β}, All2 R as bs → All2 S as bs
  | _, _, .nil => .nil
  | _, _, .cons h t => .cons (i _ _ h) (t.mono i)
theorem All2.get : ∀ {as : List α} {bs : List β} {i : Nat} {a : α}, All2 R as bs → as[i]? = some a → ∃ b, bs[i]? = some b ∧ R a b
  | _, _, _, _, .nil, e => by simp at e
  | _, _, 0, _, .cons h _, e => by simp at e; subst e; exact ⟨_, rfl, h⟩
  | _, _, i + 1, a, .cons _ t, e => by
    obtain ⟨d, h1, h2⟩ := All2.get (i := i) (a := a) t (by simpa using e)
    exact ⟨d, by simpa using h1, h2⟩
theorem All2.get' : ∀ {as : List α} {bs : List β} {i : Nat} {b : β}, All2 R as bs → bs[i]? = some b → ∃ a, as[i]? = some a ∧ R a b
  | _, _, _, _, .nil, e => by simp at e
  | _, _, 0, _, .cons h _, e => by simp at e; subst e; exact ⟨_, rfl, h⟩
  | _, _, i + 1, a, .cons _ t, e => by
    obtain ⟨d, h1, h2⟩ := All2.get' (i := i) (b := a) t (by simpa using e)
    exact ⟨d, by simpa using h1, h2⟩
theorem All2.app : ∀ {as : List α} {bs : List β} {cs : List α} {ds : List β}, All2 R as bs → All2 R cs ds → All2 R (as ++ cs) (bs ++ ds)
  | _, _, _, _, .nil, k => k
  | _, _, _, _, .cons h t, k => .cons h (t.app k)
theorem All2.snoc {as : List α} {bs : List β} {a : α} {b : β} (h : All2 R as bs) (k : R a b) : All2 R (as ++ [a]) (bs ++ [b]) := h.app (.cons k .nil)
theorem All2.take : ∀ {as : List α} {bs : List β} (n : Nat), All2 R as bs → All2 R (as.take n) (bs.take n)
  | _, _, 0, _ => by simp; exact .nil
  | _, _, _ + 1, .nil => by simp; exact .nil
  | _, _, n + 1, .cons h t => .cons h (t.take n)
theorem All2.drop : ∀ {as : List α} {bs : List β} (n : Nat), All2 R as bs → All2 R (as.drop n) (bs.drop n)
  | _, _, 0, h => by simpa using h
  | _, _, _ + 1, .nil => by simp; exact .nil
  | _, _, n + 1, .cons _ t => t.drop n
theorem All2.rev : ∀ {as : List α} {bs : List β}, All2 R as bs → All2 R as.reverse bs.reverse
  | _, _, .nil => .nil
  | _, _, .cons h t => by simp only [List.reverse_cons]; exact t.rev.snoc h
theorem All2.ex {P : α → Prop} (h : ∀ a, P a → ∃ b, R a b) : ∀ {as : List α}, (∀ a ∈ as, P a) → ∃ bs, All2 R as bs
  | [], _ => ⟨[], .nil⟩
  | a :: as, k => by
    obtain ⟨b, hb⟩ := h a (k a (List.mem_cons_self ..))
    obtain ⟨bs, hbs⟩ := All2.ex h (as := as) fun x hx => k x (List.mem_cons_of_mem _ hx)
    exact ⟨b :: bs, .cons hb hbs⟩
end
theorem thAll_of {K : PySem.W.Frag} {H : Hp} : ∀ {vs : List V} {ds : List PyData}, All2 (Th K H) vs ds → ThAll K H vs ds
  | _, _, .nil => .nil
  | _, _, .cons h t => .cons h (thAll_of t)
theorem thAll_to {K : PySem.W.Frag} {H : Hp} : ∀ {vs : List V} {ds : List PyData}, ThAll K H vs ds → All2 (Th K H) vs ds
  | _, _, .nil => .nil
  | _, _, .cons h t => .cons h (thAll_to t)
theorem ThAll.app {K : PySem.W.Frag} {H : Hp} {xs ys : List V} {ds es : List PyData} (h : ThAll K H xs ds) (k : ThAll K H ys es) : ThAll K H (xs ++ ys) (ds ++ es) := thAll_of ((thAll_to h).app (thAll_to k))
theorem ThAll.take {K : PySem.W.Frag} {H : Hp} {xs : List V} {ds : List PyData} (n : Nat) (h : ThAll K H xs ds) : ThAll K H (xs.take n) (ds.take n) := thAll_of ((thAll_to h).take n)
theorem ThAll.drop {K : PySem.W.Frag} {H : Hp} {xs : List V} {ds : List PyData} (n : Nat) (h : ThAll K H xs ds) : ThAll K H (xs.drop n) (ds.drop n) := thAll_of ((thAll_to h).drop n)
theorem walk_range0 {n : Nat} : Walk (Itr 0 n) n (fun _ => True) (fun i H v H' => H' = H ∧ v = .int ((i : Nat) : Int)) :=
  ⟨fun _ _ hi _ => hi, fun _ _ => Nat.le_refl _, fun i H x H' _ _ y => ⟨y.1, y.2.trans (by show V.int (0 + (i : Int)) = _; rw [Int.zero_add])⟩⟩
/-! ### a number in a list of numbers -/
theorem inV_int (h : Int) : ∀ hs : List Int, inV (.int h) (hs.map V.int) = decide (h ∈ hs)
  | [] => rfl
  | a :: hs => by
    have ih := inV_int h hs
    unfold inV at ih ⊢
    rw [List.map_cons, List.any_cons, ih]
    have e : eqV (.int a) (.int h) = decide (a = h) := by
      by_cases q : a = h
      · subst q
        rw [decide_eq_true rfl]
        simp [eqV]
      · rw [decide_eq_false q]
        simp [eqV, q]
    rw [e]
    by_cases q : a = h
    · subst q; simp
    · have q2 : ¬ h = a := fun z => q z.symm
      simp [q, q2]
theorem inV_nat (h : Nat) (hs : List Nat) : inV (.int (h : Nat)) (hs.map fun k => V.int (k : Nat)) = decide (h ∈ hs) := by
  have e : (hs.map fun k => V.int ((k : Nat) : Int)) = (hs.map fun k => ((k : Nat) : Int)).map V.int := by rw [List.map_map]; rfl
  rw [e, inV_int]
  refine decide_eq_decide.mpr ⟨fun q => ?_, fun q => List.mem_map.mpr ⟨h, q, rfl⟩⟩
  obtain ⟨x, hx, ex⟩ := List.mem_map.mp q
  have : x = h := by omega
  rw [← this]
  exact hx
theorem flat_nats (hs : List Nat) : (hs.map fun k => V.int ((k : Nat) : Int)).all flatV = true := by
  rw [List.all_map]
  exact List.all_eq_true.mpr fun _ _ => rfl
theorem o_inN {X : Cx} {H : Hp} {Q : VK} {p : Addr} {h : Nat} {hs : List Nat} (k : SqL X.K H p (hs.map fun k => V.int ((k : Nat) : Int))) (q : Q (.bl (decide (h ∈ hs))) H) : oW X (compareOp .In) (.int (h : Nat)) (.ref p) H Q :=
  oI op_in_seq ⟨p, _, rfl, .inl k, rfl, flat_nats hs, by rw [if_neg Bool.false_ne_true, inV_nat]; exact q⟩
theorem o_niN {X : Cx} {H : Hp} {Q : VK} {p : Addr} {h : Nat} {hs : List Nat} (k : SqL X.K H p (hs.map fun k => V.int ((k : Nat) : Int))) (q : Q (.bl (!decide (h ∈ hs))) H) : oW X (compareOp .NotIn) (.int (h : Nat)) (.ref p) H Q :=
  oI op_notIn_seq ⟨p, _, rfl, .inl k, rfl, flat_nats hs, by rw [if_pos rfl, inV_nat]; exact q⟩
theorem dp_nats {K : PySem.W.Frag} {H : Hp} : ∀ (l : List Nat), DpAll K H (l.map fun k => V.int ((k : Nat) : Int)) (l.map fun k => PyData.int ((k : Nat) : Int))
  | [] => .nil
  | z :: l => .cons (.int _) (dp_nats l)
theorem th_nats {K : PySem.W.Frag} {H : Hp} : ∀ (l : List Nat), ThAll K H (l.map fun k => V.int ((k : Nat) : Int)) (l.map fun k => PyData.int ((k : Nat) : Int))
  | [] => .nil
  | z :: l => .cons (.int _) (th_nats l)
theorem nat_get {ks : List Nat} {i : Nat} {k : Nat} (h : ks[i]? = some k) {j : Int} (hj : j = (i : Nat)) : atI (ks.map fun k => V.int ((k : Nat) : Int)) j = some (.int ((k : Nat) : Int)) := by
  subst hj
  exact atI_nat (by omega) (by rw [show ((i : Nat) : Int).toNat = i by omega, List.getElem?_map, h]; rfl)
theorem nats_sh (l : List Nat) : Sh 1 (.list (l.map fun k => PyData.int ((k : Nat) : Int))) := .lst fun d hd => by
  obtain ⟨k, _, rfl⟩ := List.mem_map.mp hd
  exact .int _
theorem eqvAll_nats : ∀ (l m : List Nat), PyData.eqvAll (l.map fun k => PyData.int ((k : Nat) : Int)) (m.map fun k => PyData.int ((k : Nat) : Int)) = decide (l = m)
  | [], [] => rfl
  | [], _ :: _ => by rw [decide_eq_false (by simp)]; rfl
  | _ :: _, [] => by rw [decide_eq_false (by simp)]; rfl
  | a :: l, b :: m => by
    show (((a : Int) == (b : Int)) && PyData.eqvAll (l.map fun k => PyData.int ((k : Nat) : Int)) (m.map fun k => PyData.int ((k : Nat) : Int))) = _
    rw [eqvAll_nats l m]
    by_cases e : a = b
    · subst e
      by_cases e2 : l = m
      · subst e2; simp
      · rw [decide_eq_false e2, decide_eq_false fun z => e2 (List.cons.inj z).2]; simp
    · rw [decide_eq_false fun z => e (List.cons.inj z).1]
      have : ((a : Int) == (b : Int)) = false := by rw [beq_eq_false_iff_ne]; omega
      rw [this]; rfl
theorem eqv_nats (l m : List Nat) : PyData.eqv (.list (l.map fun k => PyData.int ((k : Nat) : Int))) (.list (m.map fun k => PyData.int ((k : Nat) : Int))) = decide (l = m) := eqvAll_nats l m
/-! ### existences whose first word is an equation of values -/
section
theorem xV1 {A1 : Type} {v : V} {f : A1 → V} {p : A1 → Prop} (h : ∃ x1, v = f x1 ∧ p x1) : ∃ x1, v = f x1 ∧ p x1 := h
theorem xL1 {A1 : Type} {v : List V} {f : A1 → List V} {p : A1 → Prop} (h : ∃ x1, v = f x1 ∧ p x1) : ∃ x1, v = f x1 ∧ p x1 := h
theorem xV2 {A1 : Type} {A2 : Type} {v : V} {f : A1 → A2 → V} {p : A1 → A2 → Prop} (h : ∃ x1 x2, v = f x1 x2 ∧ p x1 x2) : ∃ x1 x2, v = f x1 x2 ∧ p x1 x2 := h
theorem xL2 {A1 : Type} {A2 : Type} {v : List V} {f : A1 → A2 → List V} {p : A1 → A2 → Prop} (h : ∃ x1 x2, v = f x1 x2 ∧ p x1 x2) : ∃ x1 x2, v = f x1 x2 ∧ p x1 x2 := h
theorem xV3 {A1 : Type} {A2 : Type} {A3 : Type} {v : V} {f : A1 → A2 → A3 → V} {p : A1 → A2 → A3 → Prop} (h : ∃ x1 x2 x3, v = f x1 x2 x3 ∧ p x1 x2 x3) : ∃ x1 x2 x3, v = f x1 x2 x3 ∧ p x1 x2 x3 := h
theorem xL3 {A1 : Type} {A2 : Type} {A3 : Type} {v : List V} {f : A1 → A2 → A3 → List V} {p : A1 → A2 → A3 → Prop} (h : ∃ x1 x2 x3, v = f x1 x2 x3 ∧ p x1 x2 x3) : ∃ x1 x2 x3, v = f x1 x2 x3 ∧ p x1 x2 x3 := h
theorem xV4 {A1 : Type} {A2 : Type} {A3 : Type} {A4 : Type} {v : V} {f : A1 → A2 → A3 → A4 → V} {p : A1 → A2 → A3 → A4 → Prop} (h : ∃ x1 x2 x3 x4, v = f x1 x2 x3 x4 ∧ p x1 x2 x3 x4) : ∃ x1 x2 x3 x4, v = f x1 x2 x3 x4 ∧ p x1 x2 x3 x4 := h
theorem xL4 {A1 : Type} {A2 : Type} {A3 : Type} {A4 : Type} {v : List V} {f : A1 → A2 → A3 → A4 → List V} {p : A1 → A2 → A3 → A4 → Prop} (h : ∃ x1 x2 x3 x4, v = f x1 x2 x3 x4 ∧ p x1 x2 x3 x4) : ∃ x1 x2 x3 x4, v = f x1 x2 x3 x4 ∧ p x1 x2 x3 x4 := h
theorem xV5 {A1 : Type} {A2 : Type} {A3 : Type} {A4 : Type} {A5 : Type} {v : V} {f : A1 → A2 → A3 → A4 → A5 → V} {p : A1 → A2 → A3 → A4 → A5 → Prop} (h : ∃ x1 x2 x3 x4 x5, v = f x1 x2 x3 x4 x5 ∧ p x1 x2 x3 x4 x5) : ∃ x1 x2 x3 x4 x5, v = f x1 x2 x3 x4 x5 ∧ p x1 x2 x3 x4 x5 := h
theorem xL5 {A1 : Type} {A2 : Type} {A3 : Type} {A4 : Type} {A5 : Type} {v : List V} {f : A1 → A2 → A3 → A4 → A5 → List V} {p : A1 → A2 → A3 → A4 → A5 → Prop} (h : ∃ x1 x2 x3 x4 x5, v = f x1 x2 x3 x4 x5 ∧ p x1 x2 x3 x4 x5) : ∃ x1 x2 x3 x4 x5, v = f x1 x2 x3 x4 x5 ∧ p x1 x2 x3 x4 x5 := h
theorem xV6 {A1 : Type} {A2 : Type} {A3 : Type} {A4 : Type} {A5 : Type} {A6 : Type} {v : V} {f : A1 → A2 → A3 → A4 → A5 → A6 → V} {p : A1 → A2 → A3 → A4 → A5 → A6 → Prop} (h : ∃ x1 x2 x3 x4 x5 x6, v = f x1 x2 x3 x4 x5 x6 ∧ p x1 x2 x3 x4 x5 x6) : ∃ x1 x2 x3 x4 x5 x6, v = f x1 x2 x3 x4 x5 x6 ∧ p x1 x2 x3 x4 x5 x6 := h
theorem xL6 {A1 : Type} {A2 : Type} {A3 : Type} {A4 : Type} {A5 : Type} {A6 : Type} {v : List V} {f : A1 → A2 → A3 → A4 → A5 → A6 → List V} {p : A1 → A2 → A3 → A4 → A5 → A6 → Prop} (h : ∃ x1 x2 x3 x4 x5 x6, v = f x1 x2 x3 x4 x5 x6 ∧ p x1 x2 x3 x4 x5 x6) : ∃ x1 x2 x3 x4 x5 x6, v = f x1 x2 x3 x4 x5 x6 ∧ p x1 x2 x3 x4 x5 x6 := h
theorem xV7 {A1 : Type} {A2 : Type} {A3 : Type} {A4 : Type} {A5 : Type} {A6 : Type} {A7 : Type} {v : V} {f : A1 → A2 → A3 → A4 → A5 → A6 → A7 → V} {p : A1 → A2 → A3 → A4 → A5 → A6 → A7 → Prop} (h : ∃ x1 x2 x3 x4 x5 x6 x7, v = f x1 x2 x3 x4 x5 x6 x7 ∧ p x1 x2 x3 x4 x5 x6 x7) : ∃ x1 x2 x3 x4 x5 x6 x7, v = f x1 x2 x3 x4 x5 x6 x7 ∧ p x1 x2 x3 x4 x5 x6 x7 := h
theorem xL7 {A1 : Type} {A2 : Type} {A3 : Type} {A4 : Type} {A5 : Type} {A6 : Type} {A7 : Type} {v : List V} {f : A1 → A2 → A3 → A4 → A5 → A6 → A7 → List V} {p : A1 → A2 → A3 → A4 → A5 → A6 → A7 → Prop} (h : ∃ x1 x2 x3 x4 x5 x6 x7, v = f x1 x2 x3 x4 x5 x6 x7 ∧ p x1 x2 x3 x4 x5 x6 x7) : ∃ x1 x2 x3 x4 x5 x6 x7, v = f x1 x2 x3 x4 x5 x6 x7 ∧ p x1 x2 x3 x4 x5 x6 x7 := h
theorem iteBT {b : Bool} {A B : Prop} (hb : b = true) (h : A) : if b = true then A else B := by subst hb; exact iteT h
theorem iteBF {b : Bool} {A B : Prop} (hb : b = false) (h : B) : if b = true then A else B := by subst hb; exact iteF h
theorem xA {v u : V} {p : Prop} (h : v = u ∧ p) : v = u ∧ p := h
theorem xC {v u : Bool} {p : Prop} (h : v = u ∧ p) : v = u ∧ p := h
theorem xB {v u : List V} {p : Prop} (h : v = u ∧ p) : v = u ∧ p := h
end
section
variable {X : Cx} {σ : L2.St} {H : Hp} {Q : VK} {D : Ends} {e : Expr} {es : List Expr} {st : Stmt} {b : List Stmt} {R : Bool → Hp → Prop} {U : List V → Hp → Prop} {x y : V} {f : Value → Value → Sem Value} {g : Value} {xs : List V}
theorem is_e (h : eW X e σ H Q) : eW X e σ H Q := h
theorem is_call {n : Str} {p2 pos : Pos} {ks : List Keyword} (h : eW X (.Call (.Name n p2) es ks pos) σ H Q) : eW X (.Call (.Name n p2) es ks pos) σ H Q := h
theorem is_raise {e o : Option Expr} {pos : Pos} (h : sW X (.Raise e o pos) D σ H) : sW X (.Raise e o pos) D σ H := h
theorem is_ex {α : Type} {p : α → Prop} (h : ∃ x, p x) : ∃ x, p x := h
theorem is_and {α : Type} {a b : α} {p : Prop} (h : a = b ∧ p) : a = b ∧ p := h
theorem is_bo {op : Operator} (h : oW X (binaryOp op) x y H Q) : oW X (binaryOp op) x y H Q := h
theorem is_ixP {n : Nat} {o : OfNat Int n} (h : iW X x (.int (@OfNat.ofNat Int n o)) H Q) : iW X x (.int (@OfNat.ofNat Int n o)) H Q := h
theorem is_ixN {n : Nat} {o : OfNat Int n} (h : iW X x (.int (-(@OfNat.ofNat Int n o))) H Q) : iW X x (.int (-(@OfNat.ofNat Int n o))) H Q := h
theorem is_o (h : oW X f x y H Q) : oW X f x y H Q := h
theorem is_k (h : kW X g xs H Q) : kW X g xs H Q := h
theorem is_i (h : iW X x y H Q) : iW X x y H Q := h
theorem is_a (h : aW X es σ H U) : aW X es σ H U := h
theorem is_s (h : sW X st D σ H) : sW X st D σ H := h
theorem is_b (h : bW X b D σ H) : bW X b D σ H := h
theorem is_t (h : tW X e σ H R) : tW X e σ H R := h
theorem is_c (h : cW X e σ H R) : cW X e σ H R := h
theorem is_p {e : Option Expr} {q : Option Int → Hp → Prop} (h : pW X e σ H q) : pW X e σ H q := h
theorem is_g {v : V} {q : L2.St → Hp → Prop} (h : gW X e v σ H q) : gW X e v σ H q := h
theorem is_iteD {p : Prop} {d : Decidable p} {e : Decidable (decide p = true)} {A B : Prop} (h : @ite Prop (decide p = true) e A B) : @ite Prop (decide p = true) e A B := h
theorem is_iteND {p : Prop} {d : Decidable p} {e : Decidable ((!decide p) = true)} {A B : Prop} (h : @ite Prop ((!decide p) = true) e A B) : @ite Prop ((!decide p) = true) e A B := h
theorem iteDT {p : Prop} [Decidable p] {A B : Prop} (hp : p) (h : A) : if decide p = true then A else B := by rw [decide_eq_true hp]; exact iteT h
theorem iteDF {p : Prop} [Decidable p] {A B : Prop} (hp : ¬ p) (h : B) : if decide p = true then A else B := by rw [decide_eq_false hp]; exact iteF h
theorem iteNDT {p : Prop} [Decidable p] {A B : Prop} (hp : ¬ p) (h : A) : if (!decide p) = true then A else B := by rw [decide_eq_false hp]; exact iteT h
theorem iteNDF {p : Prop} [Decidable p] {A B : Prop} (hp : p) (h : B) : if (!decide p) = true then A else B := by rw [decide_eq_true hp]; exact iteF h
theorem ref_ne_non {a : Addr} : ¬ V.ref a = V.non := fun z => nomatch z
theorem int_ne_non {a : Int} : ¬ V.int a = V.non := fun z => nomatch z
theorem str_ne_non {a : Str} : ¬ V.str a = V.non := fun z => nomatch z
theorem bl_ne_non {a : Bool} : ¬ V.bl a = V.non := fun z => nomatch z
theorem is_ite {p : Prop} {d : Decidable p} {A B : Prop} (h : @ite Prop p d A B) : @ite Prop p d A B := h
end
end G

namespace Lw
open PySem PySem.Spec PyProof.Rows L2 TL G
local macro_rules | `(tactic| kby_none) => `(tactic| first | exact Same.refl _ | assumption | exact Same.tr' (by assumption) (by kby_none))
local macro_rules | `(tactic| ki_room) => `(tactic| first | assumption | exact Same.at' (by assumption) (by ki_room))
local macro_rules | `(tactic| kt_chr) => `(tactic| first | assumption | exact Th.non | exact Th.int _ | exact Th.bl _ | exact Same.th' (by assumption) (by kt_chr) | exact Same.thA' (by assumption) (by kt_chr))
local macro_rules | `(tactic| kpc_check) => `(tactic| first | decide +kernel | (simp only [sizeLine_eq]; omega) | omega)
local macro_rules | `(tactic| kl_some) => `(tactic| first | assumption | exact SqL.of (by ki_room) | exact Same.seq' (by assumption) (by kl_some))
local macro_rules | `(tactic| k_units) => `(tactic| first | assumption | exact SqT.of (by ki_room) | exact Same.seqT' (by assumption) (by k_units))
local macro_rules | `(tactic| kl_room) => `(tactic| first | assumption | exact SqT.of (by ki_room) | exact SqL.of (by ki_room) | kl_some | k_units)
local macro_rules | `(tactic| units_room1) => `(tactic| first | assumption | grind [Same])
local macro_rules | `(tactic| wrow_post) => `(tactic| first | assumption | (intro b9 o9 h9; grind [Same]))
local macro_rules | `(tactic| tupd_mem) => `(tactic| first | assumption | (intro h9; grind [Same]))
local macro_rules | `(tactic| wp_step) => `(tactic| repeat first | ((with_reducible refine is_ite ?_); first | (with_reducible refine iteT ?_) | (with_reducible refine iteF ?_) | ((with_reducible refine is_iteD ?_); first | refine iteDT (by first | with_reducible rfl | decide +kernel) ?_ | refine iteDF (by first | exact ref_ne_non | exact int_ne_non | exact str_ne_non | exact bl_ne_non | decide +kernel) ?_) | ((with_reducible refine is_iteND ?_); first | refine iteNDF (by first | with_reducible rfl | decide +kernel) ?_ | refine iteNDT (by first | exact ref_ne_non | exact int_ne_non | exact str_ne_non | exact bl_ne_non | decide +kernel) ?_) | ((fail_if_success (with_reducible refine is_iteD ?_)); (fail_if_success (with_reducible refine is_iteND ?_)); first | refine iteT ?_ | refine iteF ?_)) | ((fail_if_success (with_reducible refine is_ite ?_)); first | (refine is_e ?_; first | refine e_var rfl ?_ | refine e_int ?_ | refine e_str ?_ | refine e_bl ?_ | refine e_non ?_ | refine e_bin ?_ | refine e_slice ?_ | refine e_ix ?_ | refine e_isN ?_ | refine e_notN ?_ | refine e_cmp ?_ | refine e_callB ?_ | refine e_listRev ?_ | refine e_callTy ?_ | refine e_globR ?_ | refine e_globI ?_ | refine e_globS ?_ | refine e_ty ?_ | refine e_neg ?_ | refine e_not ?_ | refine e_one ?_ | refine e_ifE ?_ | refine e_tupN ?_ | refine e_lstN ?_ | refine e_dct0 ?_) | (refine is_o ?_; first | (with_reducible refine o_add ?_) | (with_reducible refine o_sub ?_) | ((with_reducible refine is_bo (op := .Mod) ?_); refine o_mod (by decide) ?_) | ((with_reducible refine is_bo (op := .FloorDiv) ?_); refine o_div ⟨by decide, by decide⟩ ?_) | (with_reducible refine o_eqI ?_) | (with_reducible refine o_neI ?_) | (with_reducible refine o_eqS ?_) | (with_reducible refine o_neS ?_) | (with_reducible refine o_lt ?_) | (with_reducible refine o_le ?_) | (with_reducible refine o_gt ?_) | (with_reducible refine o_ge ?_) | (with_reducible refine o_p60 ?_) | (with_reducible refine o_p30 ?_) | ((with_reducible refine is_bo (op := .Pow) ?_); refine o_pow ⟨by decide, by decide, by decide⟩ ?_) | (with_reducible refine o_leS ?_) | (with_reducible refine o_ltS ?_) | (with_reducible refine o_inC ?_) | (with_reducible refine o_niC ?_) | (with_reducible refine o_eqB ?_) | (with_reducible refine o_neB ?_)) | (refine is_a ?_; first | refine a_cons ?_ | refine a_nil ?_) | (refine is_b ?_; first | refine b_cons ?_ | refine b_nil ?_) | (refine is_p ?_; first | refine p_none ?_ | refine p_some ?_) | (refine is_s ?_; first | refine s_set ?_ | refine s_if ?_ | refine s_ret ?_ | refine s_expr ?_ | refine s_retN ?_ | refine s_brk ?_ | refine s_cont ?_ | refine s_pass ?_ | refine s_augA rfl ?_) | (refine is_t ?_; first | refine t_isN ?_ | refine t_notN ?_ | refine t_cmp ?_ | refine t_chain ?_ | refine t_not ?_ | refine t_and ?_ | refine t_or ?_ | refine t_val ?_) | (refine is_c ?_; first | refine c_and1 ?_ | refine c_or1 ?_ | refine c_and ?_ | refine c_or ?_) | (refine is_g ?_; first | refine g_name ?_ | refine g_tup ⟨_, _, rfl, (by k_units), (by rfl), ?_⟩ | refine g_lst ⟨_, _, rfl, (by kl_some), (by rfl), ?_⟩) | (refine is_h ?_; first | refine h_cons ?_ | refine h_nil ?_) | (refine is_k ?_; first | refine k_min ?_ | refine k_max ?_ | refine k_ordC ?_) | (refine is_and ?_; refine ⟨rfl, ?_⟩) | (refine is_ex ?_; first | refine ⟨_, rfl, ?_⟩ | refine ⟨_, _, rfl, ?_⟩ | refine ⟨_, _, _, rfl, ?_⟩ | refine ⟨_, _, rfl, rfl, ?_⟩ | refine ⟨_, _, _, rfl, rfl, rfl, ?_⟩ | refine ⟨_, _, _, _, rfl, ?_⟩ | refine ⟨_, _, _, _, _, rfl, ?_⟩ | refine ⟨_, _, _, _, _, _, rfl, ?_⟩)))
local macro_rules | `(tactic| tm_side) => `(tactic| repeat first | ((with_reducible refine is_ite ?_); first | (with_reducible refine iteT ?_) | (with_reducible refine iteF ?_) | ((with_reducible refine is_iteD ?_); first | refine iteDT (by first | with_reducible rfl | decide +kernel) ?_ | refine iteDF (by first | exact ref_ne_non | exact int_ne_non | exact str_ne_non | exact bl_ne_non | decide +kernel) ?_) | ((with_reducible refine is_iteND ?_); first | refine iteNDF (by first | with_reducible rfl | decide +kernel) ?_ | refine iteNDT (by first | exact ref_ne_non | exact int_ne_non | exact str_ne_non | exact bl_ne_non | decide +kernel) ?_) | ((fail_if_success (with_reducible refine is_iteD ?_)); (fail_if_success (with_reducible refine is_iteND ?_)); first | refine iteT ?_ | refine iteF ?_)) | ((fail_if_success (with_reducible refine is_ite ?_)); first | (refine is_e ?_; first | refine e_var rfl ?_ | refine e_int ?_ | refine e_str ?_ | refine e_bl ?_ | refine e_non ?_ | refine e_bin ?_ | refine e_slice ?_ | refine e_ix ?_ | refine e_isN ?_ | refine e_notN ?_ | refine e_cmp ?_ | refine e_callB ?_ | refine e_listRev ?_ | refine e_callTy ?_ | refine e_globR ?_ | refine e_globI ?_ | refine e_globS ?_ | refine e_ty ?_ | refine e_neg ?_ | refine e_not ?_ | refine e_one ?_ | refine e_ifE ?_ | refine e_tupN ?_ | refine e_lstN ?_ | refine e_dct0 ?_ | (refine is_call ?_; top_name) | refine e_append ?_ | refine e_and ?_ | refine e_or ?_) | (refine is_o ?_; first | (with_reducible refine o_add ?_) | (with_reducible refine o_sub ?_) | ((with_reducible refine is_bo (op := .Mod) ?_); refine o_mod (by decide) ?_) | ((with_reducible refine is_bo (op := .FloorDiv) ?_); refine o_div ⟨by decide, by decide⟩ ?_) | (with_reducible refine o_eqI ?_) | (with_reducible refine o_neI ?_) | (with_reducible refine o_eqS ?_) | (with_reducible refine o_neS ?_) | (with_reducible refine o_lt ?_) | (with_reducible refine o_le ?_) | (with_reducible refine o_gt ?_) | (with_reducible refine o_ge ?_) | (with_reducible refine o_p60 ?_) | (with_reducible refine o_p30 ?_) | ((with_reducible refine is_bo (op := .Pow) ?_); refine o_pow ⟨by decide, by decide, by decide⟩ ?_) | (with_reducible refine o_leS ?_) | (with_reducible refine o_ltS ?_) | (with_reducible refine o_inC ?_) | (with_reducible refine o_niC ?_) | (with_reducible refine o_eqB ?_) | (with_reducible refine o_neB ?_)) | (refine is_a ?_; first | refine a_cons ?_ | refine a_nil ?_) | (refine is_b ?_; first | refine b_cons ?_ | refine b_nil ?_) | (refine is_p ?_; first | refine p_none ?_ | refine p_some ?_) | (refine is_s ?_; first | refine s_set ?_ | refine s_if ?_ | refine s_ret ?_ | refine s_expr ?_ | refine s_retN ?_ | refine s_brk ?_ | refine s_cont ?_ | refine s_pass ?_ | refine s_augA rfl ?_ | refine s_asgT ?_ | (refine is_raise ?_; top_raise)) | (refine is_t ?_; first | refine t_isN ?_ | refine t_notN ?_ | refine t_cmp ?_ | refine t_chain ?_ | refine t_not ?_ | refine t_and ?_ | refine t_or ?_ | refine t_val ?_) | (refine is_c ?_; first | refine c_and1 ?_ | refine c_or1 ?_ | refine c_and ?_ | refine c_or ?_) | (refine is_g ?_; first | refine g_name ?_ | refine g_tup ⟨_, _, rfl, (by k_units), (by rfl), ?_⟩ | refine g_lst ⟨_, _, rfl, (by kl_some), (by rfl), ?_⟩) | (refine is_h ?_; first | refine h_cons ?_ | refine h_nil ?_) | (refine is_k ?_; first | refine k_min ?_ | refine k_max ?_ | refine k_ordC ?_ | refine k_lenL (by kl_some) ?_ | refine k_lenT (by k_units) ?_ | refine k_lenS (by kpc_check) ?_) | (refine is_and ?_; refine ⟨rfl, ?_⟩) | (refine is_ex ?_; first | refine ⟨_, rfl, ?_⟩ | refine ⟨_, _, rfl, ?_⟩ | refine ⟨_, _, _, rfl, ?_⟩ | refine ⟨_, _, rfl, rfl, ?_⟩ | refine ⟨_, _, _, rfl, rfl, rfl, ?_⟩ | refine ⟨_, _, _, _, rfl, ?_⟩ | refine ⟨_, _, _, _, _, rfl, ?_⟩ | refine ⟨_, _, _, _, _, _, rfl, ?_⟩) | ((first | (with_reducible refine is_ixP ?_) | (with_reducible refine is_ixN ?_)); first | refine i_tup (by k_units) rfl ?_ | refine i_lst (by kl_some) rfl ?_ | refine i_tup (by k_units) (atI_nat (by decide) rfl) ?_ | refine i_lst (by kl_some) (atI_nat (by decide) rfl) ?_) | intro (_ : Addr) _ _ _ _ _))
local macro_rules | `(tactic| kxs_still) => `(tactic| repeat first | ((with_reducible refine is_ite ?_); first | (with_reducible refine iteT ?_) | (with_reducible refine iteF ?_) | ((with_reducible refine is_iteD ?_); first | refine iteDT (by first | with_reducible rfl | decide +kernel) ?_ | refine iteDF (by first | exact ref_ne_non | exact int_ne_non | exact str_ne_non | exact bl_ne_non | decide +kernel) ?_ | refine iteDT (by omega) ?_ | refine iteDF (by omega) ?_) | ((with_reducible refine is_iteND ?_); first | refine iteNDF (by first | with_reducible rfl | decide +kernel) ?_ | refine iteNDT (by first | exact ref_ne_non | exact int_ne_non | exact str_ne_non | exact bl_ne_non | decide +kernel) ?_ | refine iteNDF (by omega) ?_ | refine iteNDT (by omega) ?_) | ((fail_if_success (with_reducible refine is_iteD ?_)); (fail_if_success (with_reducible refine is_iteND ?_)); first | refine iteBT rfl ?_ | refine iteBF rfl ?_)) | ((fail_if_success (with_reducible refine is_ite ?_)); first | (refine is_e ?_; first | refine e_var rfl ?_ | refine e_int ?_ | refine e_str ?_ | refine e_bl ?_ | refine e_non ?_ | refine e_bin ?_ | refine e_slice ?_ | refine e_ix ?_ | refine e_isN ?_ | refine e_notN ?_ | refine e_cmp ?_ | refine e_callB ?_ | refine e_listRev ?_ | refine e_callTy ?_ | refine e_globR ?_ | refine e_globI ?_ | refine e_globS ?_ | refine e_ty ?_ | refine e_neg ?_ | refine e_not ?_ | refine e_one ?_ | refine e_ifE ?_ | refine e_tupN ?_ | refine e_lstN ?_ | refine e_dct0 ?_ | (refine is_call ?_; top_name) | refine e_append ?_ | refine e_and ?_ | refine e_or ?_) | (refine is_o ?_; first | (with_reducible refine o_add ?_) | (with_reducible refine o_sub ?_) | ((with_reducible refine is_bo (op := .Mod) ?_); refine o_mod (by decide) ?_) | ((with_reducible refine is_bo (op := .FloorDiv) ?_); refine o_div ⟨by decide, by decide⟩ ?_) | (with_reducible refine o_eqI ?_) | (with_reducible refine o_neI ?_) | (with_reducible refine o_eqS ?_) | (with_reducible refine o_neS ?_) | (with_reducible refine o_lt ?_) | (with_reducible refine o_le ?_) | (with_reducible refine o_gt ?_) | (with_reducible refine o_ge ?_) | (with_reducible refine o_p60 ?_) | (with_reducible refine o_p30 ?_) | ((with_reducible refine is_bo (op := .Pow) ?_); refine o_pow ⟨by decide, by decide, by decide⟩ ?_) | (with_reducible refine o_leS ?_) | (with_reducible refine o_ltS ?_) | (with_reducible refine o_inC ?_) | (with_reducible refine o_niC ?_) | (with_reducible refine o_eqB ?_) | (with_reducible refine o_neB ?_)) | (refine is_a ?_; first | refine a_cons ?_ | refine a_nil ?_) | (refine is_b ?_; first | refine b_cons ?_ | refine b_nil ?_) | (refine is_p ?_; first | refine p_none ?_ | refine p_some ?_) | (refine is_s ?_; first | refine s_set ?_ | refine s_if ?_ | refine s_ret ?_ | refine s_expr ?_ | refine s_retN ?_ | refine s_brk ?_ | refine s_cont ?_ | refine s_pass ?_ | refine s_augA rfl ?_ | refine s_asgT ?_ | (refine is_raise ?_; top_raise)) | (refine is_t ?_; first | refine t_sg ?_ | refine t_sgE ?_ | refine t_isN ?_ | refine t_notN ?_ | refine t_cmp ?_ | refine t_chain ?_ | refine t_not ?_ | refine t_and ?_ | refine t_or ?_ | refine t_val ?_) | (refine is_c ?_; first | refine c_and1 ?_ | refine c_or1 ?_ | refine c_and ?_ | refine c_or ?_) | (refine is_g ?_; first | refine g_name ?_ | refine g_tup ⟨_, _, rfl, (by k_units), (by rfl), ?_⟩ | refine g_lst ⟨_, _, rfl, (by kl_some), (by rfl), ?_⟩) | (refine is_h ?_; first | refine h_cons ?_ | refine h_nil ?_) | (refine is_k ?_; first | refine k_min ?_ | refine k_max ?_ | refine k_ordC ?_ | refine k_lenL (by kl_some) ?_ | refine k_lenT (by k_units) ?_ | refine k_lenS (by kpc_check) ?_) | ((first | (with_reducible refine xA ?_) | (with_reducible refine xB ?_) | (with_reducible refine xC ?_)); refine ⟨rfl, ?_⟩) | (refine xV1 ?_; refine ⟨_, rfl, ?_⟩) | (refine xL1 ?_; refine ⟨_, rfl, ?_⟩) | (refine xL2 ?_; refine ⟨_, _, rfl, ?_⟩) | (refine xL3 ?_; refine ⟨_, _, _, rfl, ?_⟩) | (refine xL4 ?_; refine ⟨_, _, _, _, rfl, ?_⟩) | (refine xL5 ?_; refine ⟨_, _, _, _, _, rfl, ?_⟩) | (refine xL6 ?_; refine ⟨_, _, _, _, _, _, rfl, ?_⟩) | (refine xL7 ?_; refine ⟨_, _, _, _, _, _, _, rfl, ?_⟩) | ((first | (with_reducible refine is_ixP ?_) | (with_reducible refine is_ixN ?_)); first | refine i_tup (by k_units) rfl ?_ | refine i_lst (by kl_some) rfl ?_ | refine i_tup (by k_units) (atI_nat (by decide) rfl) ?_ | refine i_lst (by kl_some) (atI_nat (by decide) rfl) ?_) | (refine is_i ?_; first | refine i_lst (by kl_some) (atI_nat (by decide) (by assumption)) ?_ | refine i_tup (by k_units) (atI_nat (by decide) (by assumption)) ?_ | refine i_lst (by kl_some) (by assumption) ?_ | refine i_tup (by k_units) (by assumption) ?_)))
local macro_rules | `(tactic| k_here) => `(tactic| repeat first | ((with_reducible refine is_ite ?_); first | (with_reducible refine iteT ?_) | (with_reducible refine iteF ?_) | ((with_reducible refine is_iteD ?_); first | refine iteDT (by first | with_reducible rfl | decide +kernel) ?_ | refine iteDF (by first | exact ref_ne_non | exact int_ne_non | exact str_ne_non | exact bl_ne_non | decide +kernel) ?_ | refine iteDT (by omega) ?_ | refine iteDF (by omega) ?_) | ((with_reducible refine is_iteND ?_); first | refine iteNDF (by first | with_reducible rfl | decide +kernel) ?_ | refine iteNDT (by first | exact ref_ne_non | exact int_ne_non | exact str_ne_non | exact bl_ne_non | decide +kernel) ?_ | refine iteNDF (by omega) ?_ | refine iteNDT (by omega) ?_) | ((fail_if_success (with_reducible refine is_iteD ?_)); (fail_if_success (with_reducible refine is_iteND ?_)); first | refine iteBT rfl ?_ | refine iteBF rfl ?_)) | ((fail_if_success (with_reducible refine is_ite ?_)); first | (refine is_e ?_; first | refine e_var rfl ?_ | refine e_int ?_ | refine e_str ?_ | refine e_bl ?_ | refine e_non ?_ | refine e_bin ?_ | refine e_slice ?_ | refine e_ix ?_ | refine e_isN ?_ | refine e_notN ?_ | refine e_cmp ?_ | refine e_callB ?_ | refine e_listRev ?_ | refine e_callTy ?_ | refine e_globR ?_ | refine e_globI ?_ | refine e_globS ?_ | refine e_ty ?_ | refine e_neg ?_ | refine e_not ?_ | refine e_one ?_ | refine e_ifE ?_ | refine e_tupN ?_ | refine e_lstN ?_ | refine e_dct0 ?_ | (refine is_call ?_; top_name) | refine e_append ?_ | refine e_and ?_ | refine e_or ?_) | (refine is_o ?_; first | (with_reducible refine o_add ?_) | (with_reducible refine o_sub ?_) | ((with_reducible refine is_bo (op := .Mod) ?_); refine o_mod (by decide) ?_) | ((with_reducible refine is_bo (op := .FloorDiv) ?_); refine o_div ⟨by decide, by decide⟩ ?_) | (with_reducible refine o_eqI ?_) | (with_reducible refine o_neI ?_) | (with_reducible refine o_eqS ?_) | (with_reducible refine o_neS ?_) | (with_reducible refine o_lt ?_) | (with_reducible refine o_le ?_) | (with_reducible refine o_gt ?_) | (with_reducible refine o_ge ?_) | (with_reducible refine o_p60 ?_) | (with_reducible refine o_p30 ?_) | ((with_reducible refine is_bo (op := .Pow) ?_); refine o_pow ⟨by decide, by decide, by decide⟩ ?_) | (with_reducible refine o_leS ?_) | (with_reducible refine o_ltS ?_) | (with_reducible refine o_inC ?_) | (with_reducible refine o_niC ?_) | (with_reducible refine o_eqB ?_) | (with_reducible refine o_neB ?_)) | (refine is_a ?_; first | refine a_cons ?_ | refine a_nil ?_) | (refine is_b ?_; first | refine b_cons ?_ | refine b_nil ?_) | (refine is_p ?_; first | refine p_none ?_ | refine p_some ?_) | (refine is_s ?_; first | refine s_set ?_ | refine s_if ?_ | refine s_ret ?_ | refine s_expr ?_ | refine s_retN ?_ | refine s_brk ?_ | refine s_cont ?_ | refine s_pass ?_ | refine s_augA rfl ?_ | refine s_asgT ?_ | (refine is_raise ?_; top_raise)) | (refine is_t ?_; first | refine t_sg ?_ | refine t_sgE ?_ | refine t_isN ?_ | refine t_notN ?_ | refine t_cmp ?_ | refine t_chain ?_ | refine t_not ?_ | ((fail_if_success refine t_and ?_); (fail_if_success refine t_or ?_); refine t_val ?_)) | (refine is_c ?_; first | refine c_and1 ?_ | refine c_or1 ?_ | refine c_and ?_ | refine c_or ?_) | (refine is_g ?_; first | refine g_name ?_ | refine g_tup ⟨_, _, rfl, (by k_units), (by rfl), ?_⟩ | refine g_lst ⟨_, _, rfl, (by kl_some), (by rfl), ?_⟩) | (refine is_h ?_; first | refine h_cons ?_ | refine h_nil ?_) | (refine is_k ?_; first | refine k_min ?_ | refine k_max ?_ | refine k_ordC ?_ | refine k_lenL (by kl_some) ?_ | refine k_lenT (by k_units) ?_ | refine k_lenS (by kpc_check) ?_) | ((first | (with_reducible refine xA ?_) | (with_reducible refine xB ?_) | (with_reducible refine xC ?_)); refine ⟨rfl, ?_⟩) | (refine xV1 ?_; refine ⟨_, rfl, ?_⟩) | (refine xL1 ?_; refine ⟨_, rfl, ?_⟩) | (refine xL2 ?_; refine ⟨_, _, rfl, ?_⟩) | (refine xL3 ?_; refine ⟨_, _, _, rfl, ?_⟩) | (refine xL4 ?_; refine ⟨_, _, _, _, rfl, ?_⟩) | (refine xL5 ?_; refine ⟨_, _, _, _, _, rfl, ?_⟩) | (refine xL6 ?_; refine ⟨_, _, _, _, _, _, rfl, ?_⟩) | (refine xL7 ?_; refine ⟨_, _, _, _, _, _, _, rfl, ?_⟩) | ((first | (with_reducible refine is_ixP ?_) | (with_reducible refine is_ixN ?_)); first | refine i_tup (by k_units) rfl ?_ | refine i_lst (by kl_some) rfl ?_ | refine i_tup (by k_units) (atI_nat (by decide) rfl) ?_ | refine i_lst (by kl_some) (atI_nat (by decide) rfl) ?_) | (refine is_i ?_; first | refine i_lst (by kl_some) (atI_nat (by decide) (by assumption)) ?_ | refine i_tup (by k_units) (atI_nat (by decide) (by assumption)) ?_ | refine i_lst (by kl_some) (by assumption) ?_ | refine i_tup (by k_units) (by assumption) ?_)))
local macro_rules | `(tactic| kt_ktab) => `(tactic| repeat first | ((with_reducible refine is_ite ?_); first | (with_reducible refine iteT ?_) | (with_reducible refine iteF ?_) | ((with_reducible refine is_iteD ?_); first | refine iteDT (by first | with_reducible rfl | decide +kernel) ?_ | refine iteDF (by first | exact ref_ne_non | exact int_ne_non | exact str_ne_non | exact bl_ne_non | decide +kernel) ?_ | refine iteDT (by omega) ?_ | refine iteDF (by omega) ?_) | ((with_reducible refine is_iteND ?_); first | refine iteNDF (by first | with_reducible rfl | decide +kernel) ?_ | refine iteNDT (by first | exact ref_ne_non | exact int_ne_non | exact str_ne_non | exact bl_ne_non | decide +kernel) ?_ | refine iteNDF (by omega) ?_ | refine iteNDT (by omega) ?_) | ((fail_if_success (with_reducible refine is_iteD ?_)); (fail_if_success (with_reducible refine is_iteND ?_)); first | refine iteBT rfl ?_ | refine iteBF rfl ?_)) | ((fail_if_success (with_reducible refine is_ite ?_)); first | (refine is_e ?_; first | refine e_var rfl ?_ | refine e_int ?_ | refine e_str ?_ | refine e_bl ?_ | refine e_non ?_ | refine e_bin ?_ | refine e_slice ?_ | refine e_ix ?_ | refine e_isN ?_ | refine e_notN ?_ | refine e_cmp ?_ | refine e_callB ?_ | refine e_listRev ?_ | refine e_callTy ?_ | refine e_globR ?_ | refine e_globI ?_ | refine e_globS ?_ | refine e_ty ?_ | refine e_neg ?_ | refine e_not ?_ | refine e_one ?_ | refine e_ifE ?_ | refine e_tupN ?_ | refine e_lstN ?_ | refine e_dct0 ?_ | (refine is_call ?_; top_name) | refine e_append ?_ | refine e_and ?_ | refine e_or ?_) | (refine is_o ?_; first | (with_reducible refine o_add ?_) | (with_reducible refine o_sub ?_) | ((with_reducible refine is_bo (op := .Mod) ?_); refine o_mod (by decide) ?_) | ((with_reducible refine is_bo (op := .FloorDiv) ?_); refine o_div ⟨by decide, by decide⟩ ?_) | (with_reducible refine o_eqI ?_) | (with_reducible refine o_neI ?_) | (with_reducible refine o_eqS ?_) | (with_reducible refine o_neS ?_) | (with_reducible refine o_lt ?_) | (with_reducible refine o_le ?_) | (with_reducible refine o_gt ?_) | (with_reducible refine o_ge ?_) | (with_reducible refine o_p60 ?_) | (with_reducible refine o_p30 ?_) | ((with_reducible refine is_bo (op := .Pow) ?_); refine o_pow ⟨by decide, by decide, by decide⟩ ?_) | (with_reducible refine o_leS ?_) | (with_reducible refine o_ltS ?_) | (with_reducible refine o_inC ?_) | (with_reducible refine o_niC ?_) | (with_reducible refine o_eqB ?_) | (with_reducible refine o_neB ?_)) | (refine is_a ?_; first | refine a_cons ?_ | refine a_nil ?_) | (refine is_b ?_; first | refine b_cons ?_ | refine b_nil ?_) | (refine is_p ?_; first | refine p_none ?_ | refine p_some ?_) | (refine is_s ?_; first | refine s_set ?_ | refine s_if ?_ | refine s_ret ?_ | refine s_expr ?_ | refine s_retN ?_ | refine s_brk ?_ | refine s_cont ?_ | refine s_pass ?_ | refine s_augA rfl ?_ | refine s_asgT ?_ | (refine is_raise ?_; top_raise)) | (refine is_t ?_; first | refine t_sg ?_ | refine t_sgE ?_ | refine t_isN ?_ | refine t_notN ?_ | refine t_cmp ?_ | refine t_chain ?_ | refine t_not ?_ | refine t_and ?_ | refine t_or ?_ | refine t_val ?_) | (refine is_c ?_; first | refine c_and1 ?_ | refine c_or1 ?_ | refine c_and ?_ | refine c_or ?_) | (refine is_g ?_; first | refine g_name ?_ | refine g_tup ⟨_, _, rfl, (by k_units), (by rfl), ?_⟩ | refine g_lst ⟨_, _, rfl, (by kl_some), (by rfl), ?_⟩) | (refine is_h ?_; first | refine h_cons ?_ | refine h_nil ?_) | (refine is_k ?_; first | refine k_min ?_ | refine k_max ?_ | refine k_ordC ?_ | refine k_lenL (by kl_some) ?_ | refine k_lenT (by k_units) ?_ | refine k_lenS (by kpc_check) ?_) | ((first | (with_reducible refine xA ?_) | (with_reducible refine xB ?_) | (with_reducible refine xC ?_)); refine ⟨rfl, ?_⟩) | (refine xV1 ?_; refine ⟨_, rfl, ?_⟩) | (refine xL1 ?_; refine ⟨_, rfl, ?_⟩) | (refine xL2 ?_; refine ⟨_, _, rfl, ?_⟩) | (refine xL3 ?_; refine ⟨_, _, _, rfl, ?_⟩) | (refine xL4 ?_; refine ⟨_, _, _, _, rfl, ?_⟩) | (refine xL5 ?_; refine ⟨_, _, _, _, _, rfl, ?_⟩) | (refine xL6 ?_; refine ⟨_, _, _, _, _, _, rfl, ?_⟩) | (refine xL7 ?_; refine ⟨_, _, _, _, _, _, _, rfl, ?_⟩) | ((first | (with_reducible refine is_ixP ?_) | (with_reducible refine is_ixN ?_)); first | refine i_tup (by k_units) rfl ?_ | refine i_lst (by kl_some) rfl ?_ | refine i_tup (by k_units) (atI_nat (by decide) rfl) ?_ | refine i_lst (by kl_some) (atI_nat (by decide) rfl) ?_) | (refine is_i ?_; first | refine i_lst (by kl_some) (atI_nat (by decide) (by assumption)) ?_ | refine i_tup (by k_units) (atI_nat (by decide) (by assumption)) ?_ | refine i_lst (by kl_some) (by assumption) ?_ | refine i_tup (by k_units) (by assumption) ?_) | intro (_ : Addr) _ _ _ _ _))
local macro_rules | `(tactic| tm_run) => `(tactic| repeat first | ((with_reducible refine is_ite ?_); first | (with_reducible refine iteT ?_) | (with_reducible refine iteF ?_) | ((with_reducible refine is_iteD ?_); first | refine iteDT (by first | with_reducible rfl | decide +kernel) ?_ | refine iteDF (by first | exact ref_ne_non | exact int_ne_non | exact str_ne_non | exact bl_ne_non | decide +kernel) ?_) | ((with_reducible refine is_iteND ?_); first | refine iteNDF (by first | with_reducible rfl | decide +kernel) ?_ | refine iteNDT (by first | exact ref_ne_non | exact int_ne_non | exact str_ne_non | exact bl_ne_non | decide +kernel) ?_) | ((fail_if_success (with_reducible refine is_iteD ?_)); (fail_if_success (with_reducible refine is_iteND ?_)); first | refine iteT ?_ | refine iteF ?_)) | ((fail_if_success (with_reducible refine is_ite ?_)); first | (refine is_e ?_; first | refine e_var rfl ?_ | refine e_int ?_ | refine e_str ?_ | refine e_bl ?_ | refine e_non ?_ | refine e_bin ?_ | refine e_slice ?_ | refine e_ix ?_ | refine e_isN ?_ | refine e_notN ?_ | refine e_cmp ?_ | refine e_callB ?_ | refine e_listRev ?_ | refine e_callTy ?_ | refine e_globR ?_ | refine e_globI ?_ | refine e_globS ?_ | refine e_ty ?_ | refine e_neg ?_ | refine e_not ?_ | refine e_one ?_ | refine e_ifE ?_ | refine e_tupN ?_ | refine e_lstN ?_ | refine e_dct0 ?_ | (refine is_call ?_; top_name) | refine e_append ?_ | refine e_and ?_ | refine e_or ?_) | (refine is_o ?_; first | (with_reducible refine o_add ?_) | (with_reducible refine o_sub ?_) | ((with_reducible refine is_bo (op := .Mod) ?_); refine o_mod (by decide) ?_) | ((with_reducible refine is_bo (op := .FloorDiv) ?_); refine o_div ⟨by decide, by decide⟩ ?_) | (with_reducible refine o_eqI ?_) | (with_reducible refine o_neI ?_) | (with_reducible refine o_eqS ?_) | (with_reducible refine o_neS ?_) | (with_reducible refine o_lt ?_) | (with_reducible refine o_le ?_) | (with_reducible refine o_gt ?_) | (with_reducible refine o_ge ?_) | (with_reducible refine o_p60 ?_) | (with_reducible refine o_p30 ?_) | ((with_reducible refine is_bo (op := .Pow) ?_); refine o_pow ⟨by decide, by decide, by decide⟩ ?_) | (with_reducible refine o_leS ?_) | (with_reducible refine o_ltS ?_) | (with_reducible refine o_inC ?_) | (with_reducible refine o_niC ?_) | (with_reducible refine o_eqB ?_) | (with_reducible refine o_neB ?_)) | (refine is_a ?_; first | refine a_cons ?_ | refine a_nil ?_) | (refine is_b ?_; first | refine b_cons ?_ | refine b_nil ?_) | (refine is_p ?_; first | refine p_none ?_ | refine p_some ?_) | (refine is_s ?_; first | refine s_set ?_ | refine s_if ?_ | refine s_ret ?_ | refine s_expr ?_ | refine s_retN ?_ | refine s_brk ?_ | refine s_cont ?_ | refine s_pass ?_ | refine s_augA rfl ?_ | refine s_asgT ?_ | (refine is_raise ?_; top_raise)) | (refine is_t ?_; first | refine t_isN ?_ | refine t_notN ?_ | refine t_cmp ?_ | refine t_chain ?_ | refine t_not ?_ | refine t_and ?_ | refine t_or ?_ | refine t_val ?_) | (refine is_c ?_; first | refine c_and1 ?_ | refine c_or1 ?_ | refine c_and ?_ | refine c_or ?_) | (refine is_g ?_; first | refine g_name ?_ | refine g_tup ⟨_, _, rfl, (by k_units), (by rfl), ?_⟩ | refine g_lst ⟨_, _, rfl, (by kl_some), (by rfl), ?_⟩) | (refine is_h ?_; first | refine h_cons ?_ | refine h_nil ?_) | (refine is_k ?_; first | refine k_min ?_ | refine k_max ?_ | refine k_ordC ?_ | refine k_lenL (by kl_some) ?_ | refine k_lenT (by k_units) ?_ | refine k_lenS (by kpc_check) ?_) | (refine is_and ?_; refine ⟨rfl, ?_⟩) | (refine is_ex ?_; first | refine ⟨_, rfl, ?_⟩ | refine ⟨_, _, rfl, ?_⟩ | refine ⟨_, _, _, rfl, ?_⟩ | refine ⟨_, _, rfl, rfl, ?_⟩ | refine ⟨_, _, _, rfl, rfl, rfl, ?_⟩ | refine ⟨_, _, _, _, rfl, ?_⟩ | refine ⟨_, _, _, _, _, rfl, ?_⟩ | refine ⟨_, _, _, _, _, _, rfl, ?_⟩) | ((first | (with_reducible refine is_ixP ?_) | (with_reducible refine is_ixN ?_)); first | refine i_tup (by k_units) rfl ?_ | refine i_lst (by kl_some) rfl ?_ | refine i_tup (by k_units) (atI_nat (by decide) rfl) ?_ | refine i_lst (by kl_some) (atI_nat (by decide) rfl) ?_)))
def top (i : Nat) : Stmt := PySem.Challenge.pw_forestread_k13_a_row_with_it.main.body.getD i (.Pass ⟨0, 0, 0, 0⟩)
abbrev s_is_whole : Stmt := top 14
theorem sc_is_whole : FnScope ["thing"] ["thing"] (defScope s_is_whole) := ⟨rfl, rfl, rfl, by decide +kernel, rfl, by decide +kernel, by decide +kernel⟩
instance : NdN ["thing"] := ⟨sc_is_whole.nd⟩
abbrev X_is_whole (P : Program) (w : World) (K : PySem.W.Frag) (mg : Str → Option Value) (base : Heap) (f : Addr) (cdv : Value) (A : Around) (outer : List Env) (s : Shared) (H : Hp) (E : XK) : Cx := cxr P w K mg base ["thing"] "is_whole" s_is_whole f cdv A outer s H E
abbrev s_may_stand : Stmt := top 15
theorem sc_may_stand : FnScope ["sign"] ["sign"] (defScope s_may_stand) := ⟨rfl, rfl, rfl, by decide +kernel, rfl, by decide +kernel, by decide +kernel⟩
instance : NdN ["sign"] := ⟨sc_may_stand.nd⟩
abbrev X_may_stand (P : Program) (w : World) (K : PySem.W.Frag) (mg : Str → Option Value) (base : Heap) (f : Addr) (cdv : Value) (A : Around) (outer : List Env) (s : Shared) (H : Hp) (E : XK) : Cx := cxr P w K mg base ["sign"] "may_stand" s_may_stand f cdv A outer s H E
abbrev s_is_sign : Stmt := top 16
theorem sc_is_sign : FnScope ["thing"] ["thing"] (defScope s_is_sign) := ⟨rfl, rfl, rfl, by decide +kernel, rfl, by decide +kernel, by decide +kernel⟩
instance : NdN ["thing"] := ⟨sc_is_sign.nd⟩
abbrev X_is_sign (P : Program) (w : World) (K : PySem.W.Frag) (mg : Str → Option Value) (base : Heap) (f : Addr) (cdv : Value) (A : Around) (outer : List Env) (s : Shared) (H : Hp) (E : XK) : Cx := cxr P w K mg base ["thing"] "is_sign" s_is_sign f cdv A outer s H E
abbrev s_is_name : Stmt := top 17
theorem sc_is_name : FnScope ["thing", "sign"] ["thing"] (defScope s_is_name) := ⟨rfl, rfl, rfl, by decide +kernel, rfl, by decide +kernel, by decide +kernel⟩
instance : NdN ["thing", "sign"] := ⟨sc_is_name.nd⟩
abbrev X_is_name (P : Program) (w : World) (K : PySem.W.Frag) (mg : Str → Option Value) (base : Heap) (f : Addr) (cdv : Value) (A : Around) (outer : List Env) (s : Shared) (H : Hp) (E : XK) : Cx := cxr P w K mg base ["thing", "sign"] "is_name" s_is_name f cdv A outer s H E
abbrev s_are_parts : Stmt := top 22
theorem sc_are_parts : FnScope ["thing", "part"] ["thing"] (defScope s_are_parts) := ⟨rfl, rfl, rfl, by decide +kernel, rfl, by decide +kernel, by decide +kernel⟩
instance : NdN ["thing", "part"] := ⟨sc_are_parts.nd⟩
abbrev X_are_parts (P : Program) (w : World) (K : PySem.W.Frag) (mg : Str → Option Value) (base : Heap) (f : Addr) (cdv : Value) (A : Around) (outer : List Env) (s : Shared) (H : Hp) (E : XK) : Cx := cxr P w K mg base ["thing", "part"] "are_parts" s_are_parts f cdv A outer s H E
abbrev s_is_rule : Stmt := top 23
theorem sc_is_rule : FnScope ["thing"] ["thing"] (defScope s_is_rule) := ⟨rfl, rfl, rfl, by decide +kernel, rfl, by decide +kernel, by decide +kernel⟩
instance : NdN ["thing"] := ⟨sc_is_rule.nd⟩
abbrev X_is_rule (P : Program) (w : World) (K : PySem.W.Frag) (mg : Str → Option Value) (base : Heap) (f : Addr) (cdv : Value) (A : Around) (outer : List Env) (s : Shared) (H : Hp) (E : XK) : Cx := cxr P w K mg base ["thing"] "is_rule" s_is_rule f cdv A outer s H E
abbrev s_checked : Stmt := top 24
theorem sc_checked : FnScope ["thing", "rules", "rule"] ["thing"] (defScope s_checked) := ⟨rfl, rfl, rfl, by decide +kernel, rfl, by decide +kernel, by decide +kernel⟩
instance : NdN ["thing", "rules", "rule"] := ⟨sc_checked.nd⟩
abbrev X_checked (P : Program) (w : World) (K : PySem.W.Frag) (mg : Str → Option Value) (base : Heap) (f : Addr) (cdv : Value) (A : Around) (outer : List Env) (s : Shared) (H : Hp) (E : XK) : Cx := cxr P w K mg base ["thing", "rules", "rule"] "checked" s_checked f cdv A outer s H E
abbrev s_rules_by_head : Stmt := top 25
theorem sc_rules_by_head : FnScope ["rules", "by", "k", "rule"] ["rules"] (defScope s_rules_by_head) := ⟨rfl, rfl, rfl, by decide +kernel, rfl, by decide +kernel, by decide +kernel⟩
instance : NdN ["rules", "by", "k", "rule"] := ⟨sc_rules_by_head.nd⟩
abbrev X_rules_by_head (P : Program) (w : World) (K : PySem.W.Frag) (mg : Str → Option Value) (base : Heap) (f : Addr) (cdv : Value) (A : Around) (outer : List Env) (s : Shared) (H : Hp) (E : XK) : Cx := cxr P w K mg base ["rules", "by", "k", "rule"] "rules_by_head" s_rules_by_head f cdv A outer s H E
abbrev s_size_of : Stmt := top 28
theorem sc_size_of : FnScope ["parts", "sizes", "size", "part"] ["parts", "sizes"] (defScope s_size_of) := ⟨rfl, rfl, rfl, by decide +kernel, rfl, by decide +kernel, by decide +kernel⟩
instance : NdN ["parts", "sizes", "size", "part"] := ⟨sc_size_of.nd⟩
abbrev X_size_of (P : Program) (w : World) (K : PySem.W.Frag) (mg : Str → Option Value) (base : Heap) (f : Addr) (cdv : Value) (A : Around) (outer : List Env) (s : Shared) (H : Hp) (E : XK) : Cx := cxr P w K mg base ["parts", "sizes", "size", "part"] "size_of" s_size_of f cdv A outer s H E
abbrev s_least_sizes : Stmt := top 29
theorem sc_least_sizes : FnScope ["rules", "sizes", "better", "head", "parts", "worth", "size"] ["rules"] (defScope s_least_sizes) := ⟨rfl, rfl, rfl, by decide +kernel, rfl, by decide +kernel, by decide +kernel⟩
instance : NdN ["rules", "sizes", "better", "head", "parts", "worth", "size"] := ⟨sc_least_sizes.nd⟩
abbrev X_least_sizes (P : Program) (w : World) (K : PySem.W.Frag) (mg : Str → Option Value) (base : Heap) (f : Addr) (cdv : Value) (A : Around) (outer : List Env) (s : Shared) (H : Hp) (E : XK) : Cx := cxr P w K mg base ["rules", "sizes", "better", "head", "parts", "worth", "size"] "least_sizes" s_least_sizes f cdv A outer s H E
abbrev s_least : Stmt := top 30
theorem sc_least : FnScope ["grammar"] ["grammar"] (defScope s_least) := ⟨rfl, rfl, rfl, by decide +kernel, rfl, by decide +kernel, by decide +kernel⟩
instance : NdN ["grammar"] := ⟨sc_least.nd⟩
abbrev X_least (P : Program) (w : World) (K : PySem.W.Frag) (mg : Str → Option Value) (base : Heap) (f : Addr) (cdv : Value) (A : Around) (outer : List Env) (s : Shared) (H : Hp) (E : XK) : Cx := cxr P w K mg base ["grammar"] "least" s_least f cdv A outer s H E
abbrev s_least_rule : Stmt := top 31
theorem sc_least_rule : FnScope ["rules", "by", "sizes", "head", "number", "size"] ["rules", "by", "sizes", "head"] (defScope s_least_rule) := ⟨rfl, rfl, rfl, by decide +kernel, rfl, by decide +kernel, by decide +kernel⟩
instance : NdN ["rules", "by", "sizes", "head", "number", "size"] := ⟨sc_least_rule.nd⟩
abbrev X_least_rule (P : Program) (w : World) (K : PySem.W.Frag) (mg : Str → Option Value) (base : Heap) (f : Addr) (cdv : Value) (A : Around) (outer : List Env) (s : Shared) (H : Hp) (E : XK) : Cx := cxr P w K mg base ["rules", "by", "sizes", "head", "number", "size"] "least_rule" s_least_rule f cdv A outer s H E
abbrev s_least_row : Stmt := top 32
theorem sc_least_row : FnScope ["rules", "by", "sizes", "parts", "row", "waiting", "part", "number"] ["rules", "by", "sizes", "parts"] (defScope s_least_row) := ⟨rfl, rfl, rfl, by decide +kernel, rfl, by decide +kernel, by decide +kernel⟩
instance : NdN ["rules", "by", "sizes", "parts", "row", "waiting", "part", "number"] := ⟨sc_least_row.nd⟩
abbrev X_least_row (P : Program) (w : World) (K : PySem.W.Frag) (mg : Str → Option Value) (base : Heap) (f : Addr) (cdv : Value) (A : Around) (outer : List Env) (s : Shared) (H : Hp) (E : XK) : Cx := cxr P w K mg base ["rules", "by", "sizes", "parts", "row", "waiting", "part", "number"] "least_row" s_least_row f cdv A outer s H E
abbrev s_roundabouts : Stmt := top 33
theorem sc_roundabouts : FnScope ["rules", "sizes", "found", "better", "number", "rule", "size", "at", "part", "many"] ["rules", "sizes"] (defScope s_roundabouts) := ⟨rfl, rfl, rfl, by decide +kernel, rfl, by decide +kernel, by decide +kernel⟩
instance : NdN ["rules", "sizes", "found", "better", "number", "rule", "size", "at", "part", "many"] := ⟨sc_roundabouts.nd⟩
abbrev X_roundabouts (P : Program) (w : World) (K : PySem.W.Frag) (mg : Str → Option Value) (base : Heap) (f : Addr) (cdv : Value) (A : Around) (outer : List Env) (s : Shared) (H : Hp) (E : XK) : Cx := cxr P w K mg base ["rules", "sizes", "found", "better", "number", "rule", "size", "at", "part", "many"] "roundabouts" s_roundabouts f cdv A outer s H E
abbrev s_needed : Stmt := top 34
theorem sc_needed : FnScope ["grammar", "rules", "sizes", "found", "k", "rule"] ["grammar"] (defScope s_needed) := ⟨rfl, rfl, rfl, by decide +kernel, rfl, by decide +kernel, by decide +kernel⟩
instance : NdN ["grammar", "rules", "sizes", "found", "k", "rule"] := ⟨sc_needed.nd⟩
abbrev X_needed (P : Program) (w : World) (K : PySem.W.Frag) (mg : Str → Option Value) (base : Heap) (f : Addr) (cdv : Value) (A : Around) (outer : List Env) (s : Shared) (H : Hp) (E : XK) : Cx := cxr P w K mg base ["grammar", "rules", "sizes", "found", "k", "rule"] "needed" s_needed f cdv A outer s H E
abbrev s_row_with : Stmt := top 35
theorem sc_row_with : FnScope ["grammar", "number", "rules", "sizes", "found", "size", "by", "row", "place", "parts"] ["grammar", "number"] (defScope s_row_with) := ⟨rfl, rfl, rfl, by decide +kernel, rfl, by decide +kernel, by decide +kernel⟩
instance : NdN ["grammar", "number", "rules", "sizes", "found", "size", "by", "row", "place", "parts"] := ⟨sc_row_with.nd⟩
abbrev X_row_with (P : Program) (w : World) (K : PySem.W.Frag) (mg : Str → Option Value) (base : Heap) (f : Addr) (cdv : Value) (A : Around) (outer : List Env) (s : Shared) (H : Hp) (E : XK) : Cx := cxr P w K mg base ["grammar", "number", "rules", "sizes", "found", "size", "by", "row", "place", "parts"] "row_with" s_row_with f cdv A outer s H E
abbrev s_law_cell_at : Stmt := top 37
theorem sc_law_cell_at : FnScope ["_law_script", "_law_k"] ["_law_script", "_law_k"] (defScope s_law_cell_at) := ⟨rfl, rfl, rfl, by decide +kernel, rfl, by decide +kernel, by decide +kernel⟩
instance : NdN ["_law_script", "_law_k"] := ⟨sc_law_cell_at.nd⟩
abbrev X_law_cell_at (P : Program) (w : World) (K : PySem.W.Frag) (mg : Str → Option Value) (base : Heap) (f : Addr) (cdv : Value) (A : Around) (outer : List Env) (s : Shared) (H : Hp) (E : XK) : Cx := cxr P w K mg base ["_law_script", "_law_k"] "_law_cell_at" s_law_cell_at f cdv A outer s H E
abbrev s_law_mixed : Stmt := top 38
theorem sc_law_mixed : FnScope ["_law_script", "_law_k", "_law_cell"] ["_law_script", "_law_k"] (defScope s_law_mixed) := ⟨rfl, rfl, rfl, by decide +kernel, rfl, by decide +kernel, by decide +kernel⟩
instance : NdN ["_law_script", "_law_k", "_law_cell"] := ⟨sc_law_mixed.nd⟩
abbrev X_law_mixed (P : Program) (w : World) (K : PySem.W.Frag) (mg : Str → Option Value) (base : Heap) (f : Addr) (cdv : Value) (A : Around) (outer : List Env) (s : Shared) (H : Hp) (E : XK) : Cx := cxr P w K mg base ["_law_script", "_law_k", "_law_cell"] "_law_mixed" s_law_mixed f cdv A outer s H E
abbrev s_law_signs : Stmt := top 39
theorem sc_law_signs : FnScope ["_law_cell", "_law_some"] ["_law_cell"] (defScope s_law_signs) := ⟨rfl, rfl, rfl, by decide +kernel, rfl, by decide +kernel, by decide +kernel⟩
instance : NdN ["_law_cell", "_law_some"] := ⟨sc_law_signs.nd⟩
abbrev X_law_signs (P : Program) (w : World) (K : PySem.W.Frag) (mg : Str → Option Value) (base : Heap) (f : Addr) (cdv : Value) (A : Around) (outer : List Env) (s : Shared) (H : Hp) (E : XK) : Cx := cxr P w K mg base ["_law_cell", "_law_some"] "_law_signs" s_law_signs f cdv A outer s H E
abbrev s_law_names : Stmt := top 40
theorem sc_law_names : FnScope ["_law_cell", "_law_big", "_law_odd", "_law_k", "_law_base", "_law_at"] ["_law_cell"] (defScope s_law_names) := ⟨rfl, rfl, rfl, by decide +kernel, rfl, by decide +kernel, by decide +kernel⟩
instance : NdN ["_law_cell", "_law_big", "_law_odd", "_law_k", "_law_base", "_law_at"] := ⟨sc_law_names.nd⟩
abbrev X_law_names (P : Program) (w : World) (K : PySem.W.Frag) (mg : Str → Option Value) (base : Heap) (f : Addr) (cdv : Value) (A : Around) (outer : List Env) (s : Shared) (H : Hp) (E : XK) : Cx := cxr P w K mg base ["_law_cell", "_law_big", "_law_odd", "_law_k", "_law_base", "_law_at"] "_law_names" s_law_names f cdv A outer s H E
abbrev s_law_worth : Stmt := top 41
theorem sc_law_worth : FnScope ["_law_cell"] ["_law_cell"] (defScope s_law_worth) := ⟨rfl, rfl, rfl, by decide +kernel, rfl, by decide +kernel, by decide +kernel⟩
instance : NdN ["_law_cell"] := ⟨sc_law_worth.nd⟩
abbrev X_law_worth (P : Program) (w : World) (K : PySem.W.Frag) (mg : Str → Option Value) (base : Heap) (f : Addr) (cdv : Value) (A : Around) (outer : List Env) (s : Shared) (H : Hp) (E : XK) : Cx := cxr P w K mg base ["_law_cell"] "_law_worth" s_law_worth f cdv A outer s H E
abbrev s_law_parts : Stmt := top 42
theorem sc_law_parts : FnScope ["_law_cell", "_law_menu", "_law_most", "_law_size", "_law_parts_here", "_law_k"] ["_law_cell", "_law_menu", "_law_most"] (defScope s_law_parts) := ⟨rfl, rfl, rfl, by decide +kernel, rfl, by decide +kernel, by decide +kernel⟩
instance : NdN ["_law_cell", "_law_menu", "_law_most", "_law_size", "_law_parts_here", "_law_k"] := ⟨sc_law_parts.nd⟩
abbrev X_law_parts (P : Program) (w : World) (K : PySem.W.Frag) (mg : Str → Option Value) (base : Heap) (f : Addr) (cdv : Value) (A : Around) (outer : List Env) (s : Shared) (H : Hp) (E : XK) : Cx := cxr P w K mg base ["_law_cell", "_law_menu", "_law_most", "_law_size", "_law_parts_here", "_law_k"] "_law_parts" s_law_parts f cdv A outer s H E
abbrev s_law_bare : Stmt := top 43
theorem sc_law_bare : FnScope ["_law_script", "_law_many", "_law_most", "_law_names_here", "_law_signs_here", "_law_sign", "_law_menu", "_law_rules", "_law_k", "_law_cell"] ["_law_script", "_law_many", "_law_most"] (defScope s_law_bare) := ⟨rfl, rfl, rfl, by decide +kernel, rfl, by decide +kernel, by decide +kernel⟩
instance : NdN ["_law_script", "_law_many", "_law_most", "_law_names_here", "_law_signs_here", "_law_sign", "_law_menu", "_law_rules", "_law_k", "_law_cell"] := ⟨sc_law_bare.nd⟩
abbrev X_law_bare (P : Program) (w : World) (K : PySem.W.Frag) (mg : Str → Option Value) (base : Heap) (f : Addr) (cdv : Value) (A : Around) (outer : List Env) (s : Shared) (H : Hp) (E : XK) : Cx := cxr P w K mg base ["_law_script", "_law_many", "_law_most", "_law_names_here", "_law_signs_here", "_law_sign", "_law_menu", "_law_rules", "_law_k", "_law_cell"] "_law_bare" s_law_bare f cdv A outer s H E
abbrev s_law_ends : Stmt := top 44
theorem sc_law_ends : FnScope ["_law_grammar", "_law_ends_here", "_law_step", "_law_some", "_law_k", "_law_barren", "_law_part"] ["_law_grammar"] (defScope s_law_ends) := ⟨rfl, rfl, rfl, by decide +kernel, rfl, by decide +kernel, by decide +kernel⟩
instance : NdN ["_law_grammar", "_law_ends_here", "_law_step", "_law_some", "_law_k", "_law_barren", "_law_part"] := ⟨sc_law_ends.nd⟩
abbrev X_law_ends (P : Program) (w : World) (K : PySem.W.Frag) (mg : Str → Option Value) (base : Heap) (f : Addr) (cdv : Value) (A : Around) (outer : List Env) (s : Shared) (H : Hp) (E : XK) : Cx := cxr P w K mg base ["_law_grammar", "_law_ends_here", "_law_step", "_law_some", "_law_k", "_law_barren", "_law_part"] "_law_ends" s_law_ends f cdv A outer s H E
abbrev s_law_open : Stmt := top 45
theorem sc_law_open : FnScope ["_law_grammar", "_law_shorts", "_law_name", "_law_some", "_law_k", "_law_barren", "_law_part"] ["_law_grammar", "_law_shorts", "_law_name"] (defScope s_law_open) := ⟨rfl, rfl, rfl, by decide +kernel, rfl, by decide +kernel, by decide +kernel⟩
instance : NdN ["_law_grammar", "_law_shorts", "_law_name", "_law_some", "_law_k", "_law_barren", "_law_part"] := ⟨sc_law_open.nd⟩
abbrev X_law_open (P : Program) (w : World) (K : PySem.W.Frag) (mg : Str → Option Value) (base : Heap) (f : Addr) (cdv : Value) (A : Around) (outer : List Env) (s : Shared) (H : Hp) (E : XK) : Cx := cxr P w K mg base ["_law_grammar", "_law_shorts", "_law_name", "_law_some", "_law_k", "_law_barren", "_law_part"] "_law_open" s_law_open f cdv A outer s H E
abbrev s_law_row : Stmt := top 46
theorem sc_law_row : FnScope ["_law_grammar", "_law_cells", "_law_room", "_law_ends_here", "_law_waiting", "_law_row_here", "_law_name", "_law_number", "_law_some", "_law_beneath"] ["_law_grammar", "_law_cells", "_law_room"] (defScope s_law_row) := ⟨rfl, rfl, rfl, by decide +kernel, rfl, by decide +kernel, by decide +kernel⟩
instance : NdN ["_law_grammar", "_law_cells", "_law_room", "_law_ends_here", "_law_waiting", "_law_row_here", "_law_name", "_law_number", "_law_some", "_law_beneath"] := ⟨sc_law_row.nd⟩
abbrev X_law_row (P : Program) (w : World) (K : PySem.W.Frag) (mg : Str → Option Value) (base : Heap) (f : Addr) (cdv : Value) (A : Around) (outer : List Env) (s : Shared) (H : Hp) (E : XK) : Cx := cxr P w K mg base ["_law_grammar", "_law_cells", "_law_room", "_law_ends_here", "_law_waiting", "_law_row_here", "_law_name", "_law_number", "_law_some", "_law_beneath"] "_law_row" s_law_row f cdv A outer s H E
abbrev s_law_read : Stmt := top 47
theorem sc_law_read : FnScope ["_law_grammar", "_law_row_here", "_law_waiting", "_law_signs_here", "_law_at", "_law_part", "_law_beneath"] ["_law_grammar", "_law_row_here"] (defScope s_law_read) := ⟨rfl, rfl, rfl, by decide +kernel, rfl, by decide +kernel, by decide +kernel⟩
instance : NdN ["_law_grammar", "_law_row_here", "_law_waiting", "_law_signs_here", "_law_at", "_law_part", "_law_beneath"] := ⟨sc_law_read.nd⟩
abbrev X_law_read (P : Program) (w : World) (K : PySem.W.Frag) (mg : Str → Option Value) (base : Heap) (f : Addr) (cdv : Value) (A : Around) (outer : List Env) (s : Shared) (H : Hp) (E : XK) : Cx := cxr P w K mg base ["_law_grammar", "_law_row_here", "_law_waiting", "_law_signs_here", "_law_at", "_law_part", "_law_beneath"] "_law_read" s_law_read f cdv A outer s H E
abbrev s_law_whole : Stmt := top 48
theorem sc_law_whole : FnScope ["_law_found"] ["_law_found"] (defScope s_law_whole) := ⟨rfl, rfl, rfl, by decide +kernel, rfl, by decide +kernel, by decide +kernel⟩
instance : NdN ["_law_found"] := ⟨sc_law_whole.nd⟩
abbrev X_law_whole (P : Program) (w : World) (K : PySem.W.Frag) (mg : Str → Option Value) (base : Heap) (f : Addr) (cdv : Value) (A : Around) (outer : List Env) (s : Shared) (H : Hp) (E : XK) : Cx := cxr P w K mg base ["_law_found"] "_law_whole" s_law_whole f cdv A outer s H E
abbrev s_law_numbers : Stmt := top 49
theorem sc_law_numbers : FnScope ["_law_found", "_law_number"] ["_law_found"] (defScope s_law_numbers) := ⟨rfl, rfl, rfl, by decide +kernel, rfl, by decide +kernel, by decide +kernel⟩
instance : NdN ["_law_found", "_law_number"] := ⟨sc_law_numbers.nd⟩
abbrev X_law_numbers (P : Program) (w : World) (K : PySem.W.Frag) (mg : Str → Option Value) (base : Heap) (f : Addr) (cdv : Value) (A : Around) (outer : List Env) (s : Shared) (H : Hp) (E : XK) : Cx := cxr P w K mg base ["_law_found", "_law_number"] "_law_numbers" s_law_numbers f cdv A outer s H E
abbrev s_law_asked : Stmt := top 50
theorem sc_law_asked : FnScope ["_law_grammar", "_law_number", "_law_found", "_law_own", "e", "_law_other"] ["_law_grammar", "_law_number"] (defScope s_law_asked) := ⟨rfl, rfl, rfl, by decide +kernel, rfl, by decide +kernel, by decide +kernel⟩
instance : NdN ["_law_grammar", "_law_number", "_law_found", "_law_own", "e", "_law_other"] := ⟨sc_law_asked.nd⟩
abbrev X_law_asked (P : Program) (w : World) (K : PySem.W.Frag) (mg : Str → Option Value) (base : Heap) (f : Addr) (cdv : Value) (A : Around) (outer : List Env) (s : Shared) (H : Hp) (E : XK) : Cx := cxr P w K mg base ["_law_grammar", "_law_number", "_law_found", "_law_own", "e", "_law_other"] "_law_asked" s_law_asked f cdv A outer s H E
abbrev s_law_no_grammar : Stmt := top 51
theorem sc_law_no_grammar : FnScope ["_law_cell", "_law_number", "_law_bad", "_law_kept"] ["_law_cell", "_law_number"] (defScope s_law_no_grammar) := ⟨rfl, rfl, rfl, by decide +kernel, rfl, by decide +kernel, by decide +kernel⟩
instance : NdN ["_law_cell", "_law_number", "_law_bad", "_law_kept"] := ⟨sc_law_no_grammar.nd⟩
abbrev X_law_no_grammar (P : Program) (w : World) (K : PySem.W.Frag) (mg : Str → Option Value) (base : Heap) (f : Addr) (cdv : Value) (A : Around) (outer : List Env) (s : Shared) (H : Hp) (E : XK) : Cx := cxr P w K mg base ["_law_cell", "_law_number", "_law_bad", "_law_kept"] "_law_no_grammar" s_law_no_grammar f cdv A outer s H E
abbrev s_law_told : Stmt := top 52
theorem sc_law_told : FnScope ["_law_grammar", "_law_number", "_law_rows", "_law_found", "_law_row_here"] ["_law_grammar", "_law_number", "_law_rows"] (defScope s_law_told) := ⟨rfl, rfl, rfl, by decide +kernel, rfl, by decide +kernel, by decide +kernel⟩
instance : NdN ["_law_grammar", "_law_number", "_law_rows", "_law_found", "_law_row_here"] := ⟨sc_law_told.nd⟩
abbrev X_law_told (P : Program) (w : World) (K : PySem.W.Frag) (mg : Str → Option Value) (base : Heap) (f : Addr) (cdv : Value) (A : Around) (outer : List Env) (s : Shared) (H : Hp) (E : XK) : Cx := cxr P w K mg base ["_law_grammar", "_law_number", "_law_rows", "_law_found", "_law_row_here"] "_law_told" s_law_told f cdv A outer s H E
abbrev s_law_doubled : Stmt := top 53
theorem sc_law_doubled : FnScope ["_law_cell", "_law_rules", "_law_k", "_law_low"] ["_law_cell"] (defScope s_law_doubled) := ⟨rfl, rfl, rfl, by decide +kernel, rfl, by decide +kernel, by decide +kernel⟩
instance : NdN ["_law_cell", "_law_rules", "_law_k", "_law_low"] := ⟨sc_law_doubled.nd⟩
abbrev X_law_doubled (P : Program) (w : World) (K : PySem.W.Frag) (mg : Str → Option Value) (base : Heap) (f : Addr) (cdv : Value) (A : Around) (outer : List Env) (s : Shared) (H : Hp) (E : XK) : Cx := cxr P w K mg base ["_law_cell", "_law_rules", "_law_k", "_law_low"] "_law_doubled" s_law_doubled f cdv A outer s H E
abbrev s_law_great : Stmt := top 54
theorem sc_law_great : FnScope ["_law_cell", "_law_grammar", "_law_at", "_law_size", "_law_sizes", "_law_rule", "_law_found"] ["_law_cell"] (defScope s_law_great) := ⟨rfl, rfl, rfl, by decide +kernel, rfl, by decide +kernel, by decide +kernel⟩
instance : NdN ["_law_cell", "_law_grammar", "_law_at", "_law_size", "_law_sizes", "_law_rule", "_law_found"] := ⟨sc_law_great.nd⟩
abbrev X_law_great (P : Program) (w : World) (K : PySem.W.Frag) (mg : Str → Option Value) (base : Heap) (f : Addr) (cdv : Value) (A : Around) (outer : List Env) (s : Shared) (H : Hp) (E : XK) : Cx := cxr P w K mg base ["_law_cell", "_law_grammar", "_law_at", "_law_size", "_law_sizes", "_law_rule", "_law_found"] "_law_great" s_law_great f cdv A outer s H E
abbrev s_law : Stmt := top 55
theorem sc_law : FnScope ["_law_script", "_law_grammar", "_law_cell", "_law_rows", "_law_k", "_law_handed", "_law_some", "_law_number", "_law_odd"] ["_law_script"] (defScope s_law) := ⟨rfl, rfl, rfl, by decide +kernel, rfl, by decide +kernel, by decide +kernel⟩
instance : NdN ["_law_script", "_law_grammar", "_law_cell", "_law_rows", "_law_k", "_law_handed", "_law_some", "_law_number", "_law_odd"] := ⟨sc_law.nd⟩
abbrev X_law (P : Program) (w : World) (K : PySem.W.Frag) (mg : Str → Option Value) (base : Heap) (f : Addr) (cdv : Value) (A : Around) (outer : List Env) (s : Shared) (H : Hp) (E : XK) : Cx := cxr P w K mg base ["_law_script", "_law_grammar", "_law_cell", "_law_rows", "_law_k", "_law_handed", "_law_some", "_law_number", "_law_odd"] "law" s_law f cdv A outer s H E
structure Cs where
  z : Addr := 0
  ForestError : Addr
  NoGrammar : Addr
  NoText : Addr
  NoRow : Addr
  NoRule : Addr
  NoNumber : Addr
  NoCosts : Addr
  NoChange : Addr
  NoWords : Addr
  Endless : Addr
  TooGreat : Addr
  Barren : Addr
structure Txt (K : PySem.W.Frag) (mg : Str → Option Value) (cs : Cs) : Prop where
  b_ValueError : Gn mg "ValueError" none
  b_bool : Gn mg "bool" none
  b_dict : Gn mg "dict" none
  b_enumerate : Gn mg "enumerate" none
  b_int : Gn mg "int" none
  b_isinstance : Gn mg "isinstance" none
  b_len : Gn mg "len" none
  b_list : Gn mg "list" none
  b_max : Gn mg "max" none
  b_min : Gn mg "min" none
  b_ord : Gn mg "ord" none
  b_range : Gn mg "range" none
  b_reversed : Gn mg "reversed" none
  b_sorted : Gn mg "sorted" none
  b_str : Gn mg "str" none
  b_tuple : Gn mg "tuple" none
  k_MOST_RULES : ∃ t, mg "MOST_RULES" = some (.int (60) t)
  k_MOST_PARTS : ∃ t, mg "MOST_PARTS" = some (.int (6) t)
  k_MOST_WORTH : ∃ t, mg "MOST_WORTH" = some (.int (1000000000000000000000000000000000000000000000000000000000000) t)
  k_MOST_NUMBERS : ∃ t, mg "MOST_NUMBERS" = some (.int (1000) t)
  x_ForestError : ExcF K mg "ForestError" cs.ForestError
  x_NoGrammar : ExcF K mg "NoGrammar" cs.NoGrammar
  x_NoText : ExcF K mg "NoText" cs.NoText
  x_NoRow : ExcF K mg "NoRow" cs.NoRow
  x_NoRule : ExcF K mg "NoRule" cs.NoRule
  x_NoNumber : ExcF K mg "NoNumber" cs.NoNumber
  x_NoCosts : ExcF K mg "NoCosts" cs.NoCosts
  x_NoChange : ExcF K mg "NoChange" cs.NoChange
  x_NoWords : ExcF K mg "NoWords" cs.NoWords
  x_Endless : ExcF K mg "Endless" cs.Endless
  x_TooGreat : ExcF K mg "TooGreat" cs.TooGreat
  x_Barren : ExcF K mg "Barren" cs.Barren
  s_NoGrammar_ForestError : PySem.W.subIn K (.ref cs.NoGrammar) (.ref cs.ForestError) = some true
  s_NoGrammar_NoGrammar : PySem.W.subIn K (.ref cs.NoGrammar) (.ref cs.NoGrammar) = some true
  s_NoGrammar_NoText : PySem.W.subIn K (.ref cs.NoGrammar) (.ref cs.NoText) = some false
  s_NoGrammar_NoRow : PySem.W.subIn K (.ref cs.NoGrammar) (.ref cs.NoRow) = some false
  s_NoGrammar_NoRule : PySem.W.subIn K (.ref cs.NoGrammar) (.ref cs.NoRule) = some false
  s_NoGrammar_NoNumber : PySem.W.subIn K (.ref cs.NoGrammar) (.ref cs.NoNumber) = some false
  s_NoGrammar_NoCosts : PySem.W.subIn K (.ref cs.NoGrammar) (.ref cs.NoCosts) = some false
  s_NoGrammar_NoChange : PySem.W.subIn K (.ref cs.NoGrammar) (.ref cs.NoChange) = some false
  s_NoGrammar_NoWords : PySem.W.subIn K (.ref cs.NoGrammar) (.ref cs.NoWords) = some false
  s_NoGrammar_Endless : PySem.W.subIn K (.ref cs.NoGrammar) (.ref cs.Endless) = some false
  s_NoGrammar_TooGreat : PySem.W.subIn K (.ref cs.NoGrammar) (.ref cs.TooGreat) = some false
  s_NoGrammar_Barren : PySem.W.subIn K (.ref cs.NoGrammar) (.ref cs.Barren) = some false
  s_NoRow_ForestError : PySem.W.subIn K (.ref cs.NoRow) (.ref cs.ForestError) = some true
  s_NoRow_NoGrammar : PySem.W.subIn K (.ref cs.NoRow) (.ref cs.NoGrammar) = some false
  s_NoRow_NoText : PySem.W.subIn K (.ref cs.NoRow) (.ref cs.NoText) = some false
  s_NoRow_NoRow : PySem.W.subIn K (.ref cs.NoRow) (.ref cs.NoRow) = some true
  s_NoRow_NoRule : PySem.W.subIn K (.ref cs.NoRow) (.ref cs.NoRule) = some false
  s_NoRow_NoNumber : PySem.W.subIn K (.ref cs.NoRow) (.ref cs.NoNumber) = some false
  s_NoRow_NoCosts : PySem.W.subIn K (.ref cs.NoRow) (.ref cs.NoCosts) = some false
  s_NoRow_NoChange : PySem.W.subIn K (.ref cs.NoRow) (.ref cs.NoChange) = some false
  s_NoRow_NoWords : PySem.W.subIn K (.ref cs.NoRow) (.ref cs.NoWords) = some false
  s_NoRow_Endless : PySem.W.subIn K (.ref cs.NoRow) (.ref cs.Endless) = some false
  s_NoRow_TooGreat : PySem.W.subIn K (.ref cs.NoRow) (.ref cs.TooGreat) = some false
  s_NoRow_Barren : PySem.W.subIn K (.ref cs.NoRow) (.ref cs.Barren) = some false
  s_TooGreat_ForestError : PySem.W.subIn K (.ref cs.TooGreat) (.ref cs.ForestError) = some true
  s_TooGreat_NoGrammar : PySem.W.subIn K (.ref cs.TooGreat) (.ref cs.NoGrammar) = some false
  s_TooGreat_NoText : PySem.W.subIn K (.ref cs.TooGreat) (.ref cs.NoText) = some false
  s_TooGreat_NoRow : PySem.W.subIn K (.ref cs.TooGreat) (.ref cs.NoRow) = some false
  s_TooGreat_NoRule : PySem.W.subIn K (.ref cs.TooGreat) (.ref cs.NoRule) = some false
  s_TooGreat_NoNumber : PySem.W.subIn K (.ref cs.TooGreat) (.ref cs.NoNumber) = some false
  s_TooGreat_NoCosts : PySem.W.subIn K (.ref cs.TooGreat) (.ref cs.NoCosts) = some false
  s_TooGreat_NoChange : PySem.W.subIn K (.ref cs.TooGreat) (.ref cs.NoChange) = some false
  s_TooGreat_NoWords : PySem.W.subIn K (.ref cs.TooGreat) (.ref cs.NoWords) = some false
  s_TooGreat_Endless : PySem.W.subIn K (.ref cs.TooGreat) (.ref cs.Endless) = some false
  s_TooGreat_TooGreat : PySem.W.subIn K (.ref cs.TooGreat) (.ref cs.TooGreat) = some true
  s_TooGreat_Barren : PySem.W.subIn K (.ref cs.TooGreat) (.ref cs.Barren) = some false
  f_is_whole : At K mg "is_whole" "is_whole" s_is_whole ["thing"]
  f_may_stand : At K mg "may_stand" "may_stand" s_may_stand ["sign"]
  f_is_sign : At K mg "is_sign" "is_sign" s_is_sign ["thing"]
  f_is_name : At K mg "is_name" "is_name" s_is_name ["thing"]
  f_are_parts : At K mg "are_parts" "are_parts" s_are_parts ["thing"]
  f_is_rule : At K mg "is_rule" "is_rule" s_is_rule ["thing"]
  f_checked : At K mg "checked" "checked" s_checked ["thing"]
  f_rules_by_head : At K mg "rules_by_head" "rules_by_head" s_rules_by_head ["rules"]
  f_size_of : At K mg "size_of" "size_of" s_size_of ["parts", "sizes"]
  f_least_sizes : At K mg "least_sizes" "least_sizes" s_least_sizes ["rules"]
  f_least : At K mg "least" "least" s_least ["grammar"]
  f_least_rule : At K mg "least_rule" "least_rule" s_least_rule ["rules", "by", "sizes", "head"]
  f_least_row : At K mg "least_row" "least_row" s_least_row ["rules", "by", "sizes", "parts"]
  f_roundabouts : At K mg "roundabouts" "roundabouts" s_roundabouts ["rules", "sizes"]
  f_needed : At K mg "needed" "needed" s_needed ["grammar"]
  f_row_with : At K mg "row_with" "row_with" s_row_with ["grammar", "number"]
  f_law_cell_at : At K mg "_law_cell_at" "_law_cell_at" s_law_cell_at ["_law_script", "_law_k"]
  f_law_mixed : At K mg "_law_mixed" "_law_mixed" s_law_mixed ["_law_script", "_law_k"]
  f_law_signs : At K mg "_law_signs" "_law_signs" s_law_signs ["_law_cell"]
  f_law_names : At K mg "_law_names" "_law_names" s_law_names ["_law_cell"]
  f_law_worth : At K mg "_law_worth" "_law_worth" s_law_worth ["_law_cell"]
  f_law_parts : At K mg "_law_parts" "_law_parts" s_law_parts ["_law_cell", "_law_menu", "_law_most"]
  f_law_bare : At K mg "_law_bare" "_law_bare" s_law_bare ["_law_script", "_law_many", "_law_most"]
  f_law_ends : At K mg "_law_ends" "_law_ends" s_law_ends ["_law_grammar"]
  f_law_open : At K mg "_law_open" "_law_open" s_law_open ["_law_grammar", "_law_shorts", "_law_name"]
  f_law_row : At K mg "_law_row" "_law_row" s_law_row ["_law_grammar", "_law_cells", "_law_room"]
  f_law_read : At K mg "_law_read" "_law_read" s_law_read ["_law_grammar", "_law_row_here"]
  f_law_whole : At K mg "_law_whole" "_law_whole" s_law_whole ["_law_found"]
  f_law_numbers : At K mg "_law_numbers" "_law_numbers" s_law_numbers ["_law_found"]
  f_law_asked : At K mg "_law_asked" "_law_asked" s_law_asked ["_law_grammar", "_law_number"]
  f_law_no_grammar : At K mg "_law_no_grammar" "_law_no_grammar" s_law_no_grammar ["_law_cell", "_law_number"]
  f_law_told : At K mg "_law_told" "_law_told" s_law_told ["_law_grammar", "_law_number", "_law_rows"]
  f_law_doubled : At K mg "_law_doubled" "_law_doubled" s_law_doubled ["_law_cell"]
  f_law_great : At K mg "_law_great" "_law_great" s_law_great ["_law_cell"]
section
variable {P : Program} {w : World} {K : PySem.W.Frag} {mg : Str → Option Value} {base : Heap} {cs : Cs}
def okc (c : Nat) : Bool := decide (32 ≤ c) && (decide (c ≤ 126) && !decide (c = 37))
def isNameS (z : Str) : Bool := (decide (1 ≤ z.length) && decide (z.length ≤ 8)) && (tl z).all fun c => decide (65 ≤ c) && decide (c ≤ 90)
def isSignL : List Nat → Bool
  | [a, c] => decide (a = 39) && okc c
  | _ => false
def isSignS (z : Str) : Bool := isSignL (tl z)
def isNameD : PyData → Bool
  | .str z => isNameS z
  | _ => false
def isSignD : PyData → Bool
  | .str z => isSignS z
  | _ => false
def isWholeD (d : PyData) : Bool := isK d "int" && !isK d "bool"
theorem no_str {d : PyData} : (∃ z, d = .str z) ∨ (isK d "str" = false ∧ isNameD d = false ∧ isSignD d = false) := by
  cases d <;> first | exact .inl ⟨_, rfl⟩ | exact .inr ⟨rfl, rfl, rfl⟩
theorem tl_str (l : List Nat) : tl (⟨l.toArray⟩ : Str) = l := rfl
theorem str_tl (z : Str) : z = ⟨(tl z).toArray⟩ := (mk_tl z).symm
theorem lo_sp (c : Nat) : (!decide (tl (⟨#[c]⟩ : Str) < tl (Str.ofString " "))) = decide (32 ≤ c) := by
  have e : tl (Str.ofString " ") = [32] := by decide +kernel
  rw [e]
  by_cases h : 32 ≤ c
  · rw [decide_eq_true h, decide_eq_false (show ¬ ([c] < [32]) from fun q => by have := (lt1 c 32).mp q; omega)]; rfl
  · rw [decide_eq_false h, decide_eq_true (show ([c] < [32]) from (lt1 c 32).mpr (by omega))]; rfl
theorem hi_ti (c : Nat) : (!decide (tl (Str.ofString "~") < tl (⟨#[c]⟩ : Str))) = decide (c ≤ 126) := by
  have e : tl (Str.ofString "~") = [126] := by decide +kernel
  rw [e]
  by_cases h : c ≤ 126
  · rw [decide_eq_true h, decide_eq_false (show ¬ ([126] < [c]) from fun q => by have := (lt1 126 c).mp q; omega)]; rfl
  · rw [decide_eq_false h, decide_eq_true (show ([126] < [c]) from (lt1 126 c).mpr (by omega))]; rfl
theorem lo_A (c : Nat) : (!decide (tl (⟨#[c]⟩ : Str) < tl (Str.ofString "A"))) = decide (65 ≤ c) := by
  have e : tl (Str.ofString "A") = [65] := by decide +kernel
  rw [e]
  by_cases h : 65 ≤ c
  · rw [decide_eq_true h, decide_eq_false (show ¬ ([c] < [65]) from fun q => by have := (lt1 c 65).mp q; omega)]; rfl
  · rw [decide_eq_false h, decide_eq_true (show ([c] < [65]) from (lt1 c 65).mpr (by omega))]; rfl
theorem hi_Z (c : Nat) : (!decide (tl (Str.ofString "Z") < tl (⟨#[c]⟩ : Str))) = decide (c ≤ 90) := by
  have e : tl (Str.ofString "Z") = [90] := by decide +kernel
  rw [e]
  by_cases h : c ≤ 90
  · rw [decide_eq_true h, decide_eq_false (show ¬ ([90] < [c]) from fun q => by have := (lt1 90 c).mp q; omega)]; rfl
  · rw [decide_eq_false h, decide_eq_true (show ([90] < [c]) from (lt1 90 c).mpr (by omega))]; rfl
theorem one_eq (a : Nat) (l : List Nat) (t : String) (h : tl (Str.ofString t) = l) : ((⟨#[a]⟩ : Str) = Str.ofString t) ↔ [a] = l := by
  constructor
  · intro e
    rw [← h, ← e]
  · intro e
    exact ext_tl (by rw [h, ← e])
theorem is_quote (a : Nat) : decide ((⟨#[a]⟩ : Str) = Str.ofString "'") = decide (a = 39) := decide_eq_decide.mpr (by rw [one_eq a [39] "'" (by decide +kernel)]; simp)
def R_is_whole (K : PySem.W.Frag) : V → Hp → VK → XK → Prop := fun x H Q _ => ∃ d, Th K H x d ∧ Q (.bl (isWholeD d)) H
section
theorem ok_is_whole {f : Addr} {fd : FuncData} (F : Fun K "is_whole" "is_whole" s_is_whole f fd) (T : Txt K mg cs) : FnOk P w K mg base (L2.CX P w) 1 f fd ["thing"] (sp1 (R_is_whole K)) := by
  refine F.okX sc_is_whole (fun vs H Q E h => sp1_len h) (fun cdv A outer s H vs Q E hr h => ⟨_, PBw (X := X_is_whole P w K mg base f cdv A outer s H E), ?_⟩)
  obtain ⟨a0, rfl, h⟩ := h
  have ib_isinstance := T.b_isinstance
  have ib_int := T.b_int
  have ib_bool := T.b_bool
  have hr' : Room 0 (X_is_whole P w K mg base f cdv A outer s H E).A := hr
  replace hr := hr'
  clear hr'
  obtain ⟨d, hd, h⟩ := h
  wp_step
  refine e_andJ (d := !isK d "bool") ?_
  wp_step
  refine k_isInt hd ⟨_, rfl, fun _ Q' q => ?_, h⟩
  wp_step
  refine k_isBool hd ?_
  wp_step
  exact q
end
theorem df_is_whole (T : Txt K mg cs) : Df P w K mg base "is_whole" 1 ["thing"] (sp1 (R_is_whole K)) := by
  obtain ⟨f, fd, hm, F, hb⟩ := T.f_is_whole.ex
  exact ⟨f, fd, hm, F.kp, hb, ok_is_whole F T⟩
def R_may_stand : V → Hp → VK → XK → Prop := fun x H Q _ => ∃ c, x = .str ⟨#[c]⟩ ∧ Q (.bl (okc c)) H
section
theorem ok_may_stand {f : Addr} {fd : FuncData} (F : Fun K "may_stand" "may_stand" s_may_stand f fd) (T : Txt K mg cs) : FnOk P w K mg base (L2.CX P w) 1 f fd ["sign"] (sp1 (R_may_stand)) := by
  refine F.okX sc_may_stand (fun vs H Q E h => sp1_len h) (fun cdv A outer s H vs Q E hr h => ⟨_, PBw (X := X_may_stand P w K mg base f cdv A outer s H E), ?_⟩)
  obtain ⟨a0, rfl, h⟩ := h
  have ib_ord := T.b_ord
  have hr' : Room 0 (X_may_stand P w K mg base f cdv A outer s H E).A := hr
  replace hr := hr'
  clear hr'
  obtain ⟨c, rfl, h⟩ := h
  wp_step
  refine e_and ?_
  refine e_chain ?_
  wp_step
  rw [lo_sp]
  refine iteD (fun c1 => ?_) fun c1 => ?_
  · wp_step
    rw [hi_ti]
    refine iteD (fun c2 => ?_) fun c2 => ?_
    · wp_step
      have e : okc c = !decide ((c : Int) = 37) := by
        simp only [okc, decide_eq_true c1, decide_eq_true c2, Bool.true_and]
        congr 1
        exact decide_eq_decide.mpr (by omega)
      rw [e] at h
      exact h
    · have e : okc c = false := by simp only [okc, decide_eq_false c2, Bool.false_and, Bool.and_false]
      rw [e] at h
      exact h
  · wp_step
    have e : okc c = false := by simp only [okc, decide_eq_false c1, Bool.false_and]
    rw [e] at h
    exact h
end
theorem df_may_stand (T : Txt K mg cs) : Df P w K mg base "may_stand" 1 ["sign"] (sp1 (R_may_stand)) := by
  obtain ⟨f, fd, hm, F, hb⟩ := T.f_may_stand.ex
  exact ⟨f, fd, hm, F.kp, hb, ok_may_stand F T⟩
def R_is_sign (K : PySem.W.Frag) : V → Hp → VK → XK → Prop := fun x H Q _ => ∃ d, Th K H x d ∧ Q (.bl (isSignD d)) H
section
set_option hygiene false in
local macro_rules | `(tactic| top_name) => `(tactic| first | refine e_call (df_may_stand T) (hr.mono (by decide)) ?_)
theorem ok_is_sign {f : Addr} {fd : FuncData} (F : Fun K "is_sign" "is_sign" s_is_sign f fd) (T : Txt K mg cs) : FnOk P w K mg base (L2.CX P w) 2 f fd ["thing"] (sp1 (R_is_sign K)) := by
  refine F.okX sc_is_sign (fun vs H Q E h => sp1_len h) (fun cdv A outer s H vs Q E hr h => ⟨_, PBw (X := X_is_sign P w K mg base f cdv A outer s H E), ?_⟩)
  obtain ⟨a0, rfl, h⟩ := h
  have ib_isinstance := T.b_isinstance
  have ib_str := T.b_str
  have ib_len := T.b_len
  have hr' : Room 1 (X_is_sign P w K mg base f cdv A outer s H E).A := hr
  replace hr := hr'
  clear hr'
  obtain ⟨d, hd, h⟩ := h
  wp_step
  refine e_and ?_
  wp_step
  refine k_isStr hd ⟨_, rfl, ?_⟩
  rcases no_str (d := d) with ⟨z, rfl⟩ | ⟨e1, _, e2⟩
  · cases hd with
    | str _ hz =>
    wp_step
    refine e_and ?_
    wp_step
    refine k_lenS (sz1m hz) ?_
    wp_step
    generalize hl : tl z = l at *
    have hlen : z.length = l.length := by rw [len_tl, hl]
    have hs : isSignD (.str z) = isSignL l := by show isSignL (tl z) = _; rw [hl]
    rw [hs] at h
    refine iteD (fun c => ?_) fun c => ?_
    · match l, hl, hlen, h, hs with
      | [a, c'], hl, hlen, h, _ =>
        refine e_and ?_
        wp_step
        refine i_str (sz1m hz) (c := a) ?_ ?_
        · rw [show z.cps.toList = [a, c'] from hl]
          rfl
        wp_step
        rw [is_quote]
        refine iteD (fun c2 => ?_) fun c2 => ?_
        · wp_step
          refine e_call (df_may_stand T) (hr.mono (by decide)) ?_
          wp_step
          refine i_str (sz1m hz) (c := c') ?_ ?_
          · rw [show z.cps.toList = [a, c'] from hl]
            rfl
          wp_step
          have e : isSignL [a, c'] = okc c' := by simp only [isSignL, decide_eq_true c2, Bool.true_and]
          rw [e] at h
          exact h
        · have e : isSignL [a, c'] = false := by simp only [isSignL, decide_eq_false c2, Bool.false_and]
          rw [e] at h
          exact h
      | [], _, hlen, _, _ => simp at hlen; omega
      | [_], _, hlen, _, _ => simp at hlen; omega
      | _ :: _ :: _ :: _, _, hlen, _, _ => simp at hlen; omega
    · have e : isSignL l = false := by
        match l, hlen with
        | [], _ => rfl
        | [_], _ => rfl
        | [_, _], hlen => simp at hlen; omega
        | _ :: _ :: _ :: _, _ => rfl
      rw [e] at h
      exact h
  · rw [e1]
    rw [e2] at h
    exact iteF h
end
theorem df_is_sign (T : Txt K mg cs) : Df P w K mg base "is_sign" 2 ["thing"] (sp1 (R_is_sign K)) := by
  obtain ⟨f, fd, hm, F, hb⟩ := T.f_is_sign.ex
  exact ⟨f, fd, hm, F.kp, hb, ok_is_sign F T⟩
def R_is_name (K : PySem.W.Frag) : V → Hp → VK → XK → Prop := fun x H Q _ => ∃ d, Th K H x d ∧ Q (.bl (isNameD d)) H
section
theorem ok_is_name {f : Addr} {fd : FuncData} (F : Fun K "is_name" "is_name" s_is_name f fd) (T : Txt K mg cs) : FnOk P w K mg base (L2.CX P w) 1 f fd ["thing"] (sp1 (R_is_name K)) := by
  refine F.okX sc_is_name (fun vs H Q E h => sp1_len h) (fun cdv A outer s H vs Q E hr h => ⟨_, PBw (X := X_is_name P w K mg base f cdv A outer s H E), ?_⟩)
  obtain ⟨a0, rfl, h⟩ := h
  have ib_isinstance := T.b_isinstance
  have ib_str := T.b_str
  have ib_len := T.b_len
  have hr' : Room 0 (X_is_name P w K mg base f cdv A outer s H E).A := hr
  replace hr := hr'
  clear hr'
  obtain ⟨d, hd, h⟩ := h
  wp_step
  refine k_isStr hd ⟨_, rfl, ?_⟩
  rcases no_str (d := d) with ⟨z, rfl⟩ | ⟨e1, e2, _⟩
  · cases hd with
    | str _ hz =>
    wp_step
    refine k_lenS (sz1m hz) ?_
    wp_step
    have hlen : (tl z).length = z.length := (len_tl z).symm
    have hbad : ¬ (1 ≤ z.length ∧ z.length ≤ 8) → isNameD (.str z) = false := fun c => by
      show ((decide (1 ≤ z.length) && decide (z.length ≤ 8)) && _) = false
      by_cases c1 : 1 ≤ z.length <;> by_cases c2 : z.length ≤ 8 <;> simp [c1, c2]
      exact absurd ⟨c1, c2⟩ c
    refine iteD (fun c1 => ?_) fun c1 => ?_
    · wp_step
      refine iteND (fun c2 => ?_) fun c2 => ?_
      · wp_step
        rw [hbad (by omega)] at h
        exact h
      · have hgood : isNameD (.str z) = (tl z).all fun c => decide (65 ≤ c) && decide (c ≤ 90) := by
          show ((decide (1 ≤ z.length) && decide (z.length ≤ 8)) && _) = _
          rw [decide_eq_true (show 1 ≤ z.length by omega), decide_eq_true (show z.length ≤ 8 by omega)]
          rfl
        rw [hgood] at h
        wp_step
        refine s_for (j_str ?_)
        wp_step
        refine ⟨_, _, _, walk_str, fun i σ' H' => (∃ v, σ' = [some (.str z), v]) ∧ H' = H ∧ ((tl z).take i).all (fun c => decide (65 ≤ c) && decide (c ≤ 90)) = true, ⟨⟨_, rfl⟩, rfl, rfl⟩, fun _ _ _ _ _ => trivial, ?_, ?_⟩
        · rintro i x σ' H' H2 hi ⟨⟨v, rfl⟩, rfl, hall⟩ ⟨rfl, c, hc, rfl⟩
          have hc' : (tl z)[i]? = some c := by simpa [tl] using hc
          wp_step
          rw [lo_A]
          refine iteD (fun d1 => ?_) fun d1 => ?_
          · wp_step
            rw [hi_Z]
            refine iteND (fun d2 => ?_) fun d2 => ?_
            · wp_step
              rw [all_cut hc' (by simp [d2])] at h
              exact h
            · wp_step
              exact ⟨⟨_, rfl⟩, rfl, by rw [all_snoc hc', hall]; simp [d1, d2]⟩
          · wp_step
            rw [all_cut hc' (by simp [d1])] at h
            exact h
        · rintro σ' H' ⟨⟨v, rfl⟩, rfl, hall⟩
          wp_step
          rw [show z.cps.size = (tl z).length by simp [tl], List.take_length] at hall
          rw [hall] at h
          exact h
    · wp_step
      rw [hbad (by omega)] at h
      exact h
  · rw [e1]
    rw [e2] at h
    wp_step
    exact h

end
theorem df_is_name (T : Txt K mg cs) : Df P w K mg base "is_name" 1 ["thing"] (sp1 (R_is_name K)) := by
  obtain ⟨f, fd, hm, F, hb⟩ := T.f_is_name.ex
  exact ⟨f, fd, hm, F.kp, hb, ok_is_name F T⟩
abbrev top60 : Int := 1000000000000000000000000000000000000000000000000000000000000
def isPartD (d : PyData) : Bool := isSignD d || isNameD d
def arePartsD : PyData → Bool
  | .tuple ds => decide (ds.length ≤ 6) && ds.all isPartD
  | _ => false
def isWorthD : PyData → Bool
  | .int i => decide (0 ≤ i) && decide (i ≤ top60)
  | _ => false
def isRuleL : List PyData → Bool
  | [h, p, w] => (isNameD h && arePartsD p) && isWorthD w
  | _ => false
def isRuleD : PyData → Bool
  | .tuple ds => isRuleL ds
  | _ => false
theorem no_tup {d : PyData} : (∃ ds, d = .tuple ds) ∨ (isK d "tuple" = false ∧ arePartsD d = false ∧ isRuleD d = false) := by
  cases d <;> first | exact .inl ⟨_, rfl⟩ | exact .inr ⟨rfl, rfl, rfl⟩
theorem len3 {α : Type} {l : List α} (h : l.length = 3) : ∃ a b c, l = [a, b, c] := by
  match l, h with
  | [a, b, c], _ => exact ⟨a, b, c, rfl⟩
theorem rule_len {ds : List PyData} (h : ¬ ds.length = 3) : isRuleL ds = false := by
  match ds, h with
  | [], _ => rfl
  | [_], _ => rfl
  | [_, _], _ => rfl
  | [_, _, _], h => exact absurd rfl h
  | _ :: _ :: _ :: _ :: _, _ => rfl
theorem th3 {K : PySem.W.Frag} {H : Hp} {vs : List V} {a b c : PyData} (h : ThAll K H vs [a, b, c]) : ∃ x y z, vs = [x, y, z] ∧ Th K H x a ∧ Th K H y b ∧ Th K H z c := by
  cases h with
  | cons h0 h => cases h with
    | cons h1 h => cases h with
      | cons h2 h => cases h; exact ⟨_, _, _, rfl, h0, h1, h2⟩
theorem th_whole {K : PySem.W.Frag} {H : Hp} {v : V} {d : PyData} (h : Th K H v d) : (∃ n, d = .int n ∧ v = .int n) ∨ (isWholeD d = false ∧ isWorthD d = false) := by
  cases h <;> first | exact .inl ⟨_, rfl, rfl⟩ | exact .inr ⟨rfl, rfl⟩
def R_are_parts (K : PySem.W.Frag) : V → Hp → VK → XK → Prop := fun x H Q _ => ∃ d, Th K H x d ∧ Q (.bl (arePartsD d)) H
section
set_option hygiene false in
local macro_rules | `(tactic| top_name) => `(tactic| first | refine e_call (df_is_sign T) (hr.mono (by decide)) ?_ | refine e_call (df_is_name T) (hr.mono (by decide)) ?_)
theorem ok_are_parts {f : Addr} {fd : FuncData} (F : Fun K "are_parts" "are_parts" s_are_parts f fd) (T : Txt K mg cs) : FnOk P w K mg base (L2.CX P w) 3 f fd ["thing"] (sp1 (R_are_parts K)) := by
  refine F.okX sc_are_parts (fun vs H Q E h => sp1_len h) (fun cdv A outer s H vs Q E hr h => ⟨_, PBw (X := X_are_parts P w K mg base f cdv A outer s H E), ?_⟩)
  obtain ⟨a0, rfl, h⟩ := h
  obtain ⟨t_MOST_PARTS, h_MOST_PARTS⟩ := T.k_MOST_PARTS
  have ib_MOST_PARTS : Gn mg "MOST_PARTS" (some _) := ⟨h_MOST_PARTS⟩
  have ib_isinstance := T.b_isinstance
  have ib_tuple := T.b_tuple
  have ib_len := T.b_len
  have hr' : Room 2 (X_are_parts P w K mg base f cdv A outer s H E).A := hr
  replace hr := hr'
  clear hr'
  obtain ⟨d, hd, h⟩ := h
  wp_step
  refine k_isTuple hd ⟨_, rfl, ?_⟩
  rcases no_tup (d := d) with ⟨ds, rfl⟩ | ⟨e1, e2, _⟩
  · cases hd with
    | tup hs ha =>
    rename_i a vs
    wp_step
    refine k_lenT hs ?_
    wp_step
    have hlen := ha.len
    refine iteD (fun c => ?_) fun c => ?_
    · wp_step
      have e : arePartsD (.tuple ds) = false := by
        show (decide (ds.length ≤ 6) && _) = false
        rw [decide_eq_false (by omega), Bool.false_and]
      rw [e] at h
      exact h
    · wp_step
      have e : arePartsD (.tuple ds) = ds.all isPartD := by
        show (decide (ds.length ≤ 6) && _) = _
        rw [decide_eq_true (by omega), Bool.true_and]
      rw [e] at h
      refine s_for (j_tup ?_)
      wp_step
      refine ⟨⟨_, hs⟩, _, _, _, walk_tup (xs := vs), fun i σ' H' => (∃ v, σ' = [some (.ref a), v]) ∧ H' = H ∧ (ds.take i).all isPartD = true, ⟨⟨_, rfl⟩, rfl, rfl⟩, fun _ _ _ _ ⟨_, e, _⟩ => by rw [e]; exact hs, ?_, ?_⟩
      · rintro i x σ' H' H2 hi ⟨⟨v, rfl⟩, rfl, hall⟩ ⟨rfl, hx⟩
        obtain ⟨d, hd1, hd2⟩ := ha.get hx
        wp_step
        refine e_call (df_is_sign T) (hr.mono (by decide)) ?_
        wp_step
        refine ⟨d, hd2, ?_⟩
        wp_step
        cases c1 : isSignD d with
        | true =>
          wp_step
          exact ⟨⟨_, rfl⟩, rfl, by rw [all_snoc hd1, hall]; simp [isPartD, c1]⟩
        | false =>
          wp_step
          refine e_call (df_is_name T) (hr.mono (by decide)) ?_
          wp_step
          refine ⟨d, hd2, ?_⟩
          wp_step
          cases c2 : isNameD d with
          | true =>
            wp_step
            exact ⟨⟨_, rfl⟩, rfl, by rw [all_snoc hd1, hall]; simp [isPartD, c2]⟩
          | false =>
            wp_step
            rw [all_cut hd1 (by simp [isPartD, c1, c2])] at h
            exact h
      · rintro σ' H' ⟨⟨v, rfl⟩, rfl, hall⟩
        wp_step
        rw [hlen, List.take_length] at hall
        rw [hall] at h
        exact h
  · rw [e1]
    rw [e2] at h
    wp_step
    exact h
end
theorem df_are_parts (T : Txt K mg cs) : Df P w K mg base "are_parts" 3 ["thing"] (sp1 (R_are_parts K)) := by
  obtain ⟨f, fd, hm, F, hb⟩ := T.f_are_parts.ex
  exact ⟨f, fd, hm, F.kp, hb, ok_are_parts F T⟩
def R_is_rule (K : PySem.W.Frag) : V → Hp → VK → XK → Prop := fun x H Q _ => ∃ d, Th K H x d ∧ Q (.bl (isRuleD d)) H
section
set_option hygiene false in
local macro_rules | `(tactic| top_name) => `(tactic| first | refine e_call (df_is_whole T) (hr.mono (by decide)) ?_ | refine e_call (df_is_name T) (hr.mono (by decide)) ?_ | refine e_call (df_are_parts T) (hr.mono (by decide)) ?_)
theorem ok_is_rule {f : Addr} {fd : FuncData} (F : Fun K "is_rule" "is_rule" s_is_rule f fd) (T : Txt K mg cs) : FnOk P w K mg base (L2.CX P w) 4 f fd ["thing"] (sp1 (R_is_rule K)) := by
  refine F.okX sc_is_rule (fun vs H Q E h => sp1_len h) (fun cdv A outer s H vs Q E hr h => ⟨_, PBw (X := X_is_rule P w K mg base f cdv A outer s H E), ?_⟩)
  obtain ⟨a0, rfl, h⟩ := h
  obtain ⟨t_MOST_WORTH, h_MOST_WORTH⟩ := T.k_MOST_WORTH
  have ib_MOST_WORTH : Gn mg "MOST_WORTH" (some _) := ⟨h_MOST_WORTH⟩
  have ib_isinstance := T.b_isinstance
  have ib_tuple := T.b_tuple
  have ib_len := T.b_len
  have hr' : Room 3 (X_is_rule P w K mg base f cdv A outer s H E).A := hr
  replace hr := hr'
  clear hr'
  obtain ⟨d, hd, h⟩ := h
  wp_step
  refine k_isTuple hd ⟨_, rfl, ?_⟩
  rcases no_tup (d := d) with ⟨ds, rfl⟩ | ⟨e1, _, e2⟩
  · cases hd with
    | tup hs ha =>
    rename_i a vs
    wp_step
    refine k_lenT hs ?_
    wp_step
    have hlen := ha.len
    refine iteND (fun c => ?_) fun c => ?_
    · wp_step
      have e : isRuleD (.tuple ds) = false := rule_len (by omega)
      rw [e] at h
      exact h
    · obtain ⟨d0, d1, d2, rfl⟩ := len3 (l := ds) (by omega)
      obtain ⟨v0, v1, v2, rfl, h0, h1, h2⟩ := th3 ha
      wp_step
      refine e_call (df_is_name T) (hr.mono (by decide)) ?_
      wp_step
      refine i_tup hs (v := v0) rfl ?_
      wp_step
      refine ⟨d0, h0, ?_⟩
      wp_step
      cases c0 : isNameD d0 with
      | false =>
        wp_step
        have e : isRuleD (.tuple [d0, d1, d2]) = false := by simp [isRuleD, isRuleL, c0]
        rw [e] at h
        exact h
      | true =>
        wp_step
        refine e_call (df_are_parts T) (hr.mono (by decide)) ?_
        wp_step
        refine i_tup hs (v := v1) rfl ?_
        wp_step
        refine ⟨d1, h1, ?_⟩
        wp_step
        cases c1 : arePartsD d1 with
        | false =>
          wp_step
          have e : isRuleD (.tuple [d0, d1, d2]) = false := by simp [isRuleD, isRuleL, c1]
          rw [e] at h
          exact h
        | true =>
          wp_step
          have e : isRuleD (.tuple [d0, d1, d2]) = isWorthD d2 := by simp [isRuleD, isRuleL, c0, c1]
          rw [e] at h
          refine e_and ?_
          refine e_call (df_is_whole T) (hr.mono (by decide)) ?_
          wp_step
          refine i_tup hs (v := v2) rfl ?_
          wp_step
          refine ⟨d2, h2, ?_⟩
          wp_step
          rcases th_whole h2 with ⟨n, rfl, rfl⟩ | ⟨f1, f2⟩
          · wp_step
            refine e_chain ?_
            wp_step
            refine i_tup hs (v := .int n) rfl ?_
            wp_step
            refine iteD (fun c3 => ?_) fun c3 => ?_
            · wp_step
              have e : isWorthD (.int n) = decide (n ≤ top60) := by
                show (decide (0 ≤ n) && _) = _
                rw [decide_eq_true c3, Bool.true_and]
              rw [e] at h
              exact h
            · have e : isWorthD (.int n) = false := by
                show (decide (0 ≤ n) && _) = _
                rw [decide_eq_false c3, Bool.false_and]
              rw [e] at h
              exact h
          · rw [f1]
            rw [f2] at h
            exact iteF h
  · rw [e1]
    rw [e2] at h
    wp_step
    exact h

end
theorem df_is_rule (T : Txt K mg cs) : Df P w K mg base "is_rule" 4 ["thing"] (sp1 (R_is_rule K)) := by
  obtain ⟨f, fd, hm, F, hb⟩ := T.f_is_rule.ex
  exact ⟨f, fd, hm, F.kp, hb, ok_is_rule F T⟩
/-! ### rules as data; rules as texts -/
structure Rl where
  head : Str
  parts : List Str
  worth : Int
def isPartS (p : Str) : Bool := isSignS p || isNameS p
def goodR (r : Rl) : Bool := (isNameS r.head && (decide (r.parts.length ≤ 6) && r.parts.all isPartS)) && (decide (0 ≤ r.worth) && decide (r.worth ≤ top60))
def ruleD (r : Rl) : PyData := .tuple [.str r.head, .tuple (r.parts.map .str), .int r.worth]
theorem goodR_D (r : Rl) : isRuleD (ruleD r) = goodR r := by
  show ((isNameS r.head && (decide ((r.parts.map PyData.str).length ≤ 6) && (r.parts.map PyData.str).all isPartD)) && _) = _
  rw [List.length_map, List.all_map]
  rfl
/-- a rule stands at v -/
def RuleAt (H : Hp) (v : V) (r : Rl) : Prop := ∃ a b, v = .ref a ∧ H a = some (.tup [.str r.head, .ref b, .int r.worth]) ∧ H b = some (.tup (r.parts.map V.str))
theorem RuleAt.more {H H' : Hp} {v : V} {r : Rl} (s : Same H H') (h : RuleAt H v r) : RuleAt H' v r := by
  obtain ⟨a, b, e, h1, h2⟩ := h
  exact ⟨a, b, e, s _ _ h1, s _ _ h2⟩
theorem th_strs {K : PySem.W.Frag} {H : Hp} : ∀ {l : List Str}, (∀ z ∈ l, z.length ≤ 1000000) → ThAll K H (l.map V.str) (l.map PyData.str)
  | [], _ => .nil
  | z :: l, h => .cons (.str z (h z (List.mem_cons_self ..))) (th_strs fun y hy => h y (List.mem_cons_of_mem _ hy))
theorem RuleAt.th {K : PySem.W.Frag} {H : Hp} {v : V} {r : Rl} (h : RuleAt H v r) (h1 : r.head.length ≤ 1000000) (h2 : ∀ z ∈ r.parts, z.length ≤ 1000000) : Th K H v (ruleD r) := by
  obtain ⟨a, b, rfl, e1, e2⟩ := h
  exact .tup (SqT.of e1) (.cons (.str _ h1) (.cons (.tup (SqT.of e2) (th_strs h2)) (.cons (.int _) .nil)))
theorem name_len {z : Str} (h : isNameS z = true) : z.length ≤ 8 := by
  unfold isNameS at h
  simp only [Bool.and_eq_true, decide_eq_true_eq] at h
  exact h.1.2
theorem sign_len {z : Str} (h : isSignS z = true) : z.length = 2 := by
  unfold isSignS at h
  rw [len_tl]
  match tl z, h with
  | [_, _], _ => rfl
theorem part_len {z : Str} (h : isPartS z = true) : z.length ≤ 8 := by
  unfold isPartS at h
  rcases Bool.or_eq_true_iff.mp h with h | h
  · have := sign_len h
    omega
  · exact name_len h
structure GoodR (r : Rl) : Prop where
  head : isNameS r.head = true
  few : r.parts.length ≤ 6
  parts : ∀ p ∈ r.parts, isPartS p = true
  lo : 0 ≤ r.worth
  hi : r.worth ≤ top60
theorem goodR_iff {r : Rl} : goodR r = true ↔ GoodR r := by
  unfold goodR
  simp only [Bool.and_eq_true, decide_eq_true_eq, List.all_eq_true]
  exact ⟨fun ⟨⟨a, b, c⟩, d, e⟩ => ⟨a, b, c, d, e⟩, fun h => ⟨⟨h.head, h.few, h.parts⟩, h.lo, h.hi⟩⟩
theorem GoodR.th {K : PySem.W.Frag} {H : Hp} {v : V} {r : Rl} (g : GoodR r) (h : RuleAt H v r) : Th K H v (ruleD r) :=
  h.th (Nat.le_trans (name_len g.head) (by decide)) fun z hz => Nat.le_trans (part_len (g.parts z hz)) (by decide)
theorem name_free {z : Str} (h : isNameS z = true) {s : Nat} (hs : s < 65) : s ∉ tl z := fun hm => by
  unfold isNameS at h
  simp only [Bool.and_eq_true, List.all_eq_true, decide_eq_true_eq] at h
  have := h.2 s hm
  omega
theorem sign_is {z : Str} (h : isSignS z = true) : ∃ c, tl z = [39, c] ∧ okc c = true := by
  unfold isSignS at h
  match e : tl z, h with
  | [a, c], h =>
    simp only [isSignL, Bool.and_eq_true, decide_eq_true_eq] at h
    exact ⟨c, by rw [h.1], h.2⟩
theorem tl_qs : tl (Str.ofString "' ") = [39, 32] := by decide +kernel
theorem tl_q : tl (Str.ofString "'") = [39] := by decide +kernel
theorem RuleAt.dp {K : PySem.W.Frag} {H : Hp} {v : V} {r : Rl} (h : RuleAt H v r) : Dp K H v (ruleD r) := by
  obtain ⟨a, b, rfl, e1, e2⟩ := h
  exact .tup (SqT.of e1) (.cons (.str _) (.cons (.tup (SqT.of e2) (dp_strs r.parts)) (.cons (.int _) .nil)))
theorem name_codes {z : Str} (h : isNameS z = true) : ∀ c ∈ tl z, c < 1114112 := fun c hc => by
  unfold isNameS at h
  simp only [Bool.and_eq_true, List.all_eq_true, decide_eq_true_eq] at h
  have := h.2 c hc
  omega
theorem part_codes {z : Str} (h : isPartS z = true) : ∀ c ∈ tl z, c < 1114112 := by
  rcases Bool.or_eq_true_iff.mp h with h | h
  · obtain ⟨c, e, hc⟩ := sign_is h
    rw [e]
    intro d hd
    simp only [okc, Bool.and_eq_true, decide_eq_true_eq] at hc
    simp only [List.mem_cons, List.not_mem_nil, or_false] at hd
    omega
  · exact name_codes h
theorem GoodR.sh {r : Rl} (g : GoodR r) : Sh 2 (ruleD r) := .tup fun d hd => by
  simp only [List.mem_cons, List.not_mem_nil, or_false] at hd
  rcases hd with rfl | rfl | rfl
  · exact .str (name_codes g.head)
  · refine .tup fun d hd => ?_
    obtain ⟨p, hp, rfl⟩ := List.mem_map.mp hd
    exact .str (part_codes (g.parts p hp))
  · exact .int _

/-! ### grammars as data -/
structure RulesAt (H : Hp) (vs : List V) (rs : List Rl) : Prop where
  len : vs.length = rs.length
  get : ∀ (i : Nat) (v : V), vs[i]? = some v → ∃ r, rs[i]? = some r ∧ RuleAt H v r
structure GoodG (rs : List Rl) : Prop where
  few : rs.length ≤ 60
  good : ∀ r ∈ rs, GoodR r
def isGramD : PyData → Bool
  | .list ds => decide (ds.length ≤ 60) && ds.all isRuleD
  | _ => false
theorem RuleAt.ts {H H' : Hp} {v : V} {r : Rl} (s : TS H H') (h : RuleAt H v r) : RuleAt H' v r := by
  obtain ⟨a, b, e, h1, h2⟩ := h
  exact ⟨a, b, e, s _ _ h1, s _ _ h2⟩
theorem RulesAt.ts {H H' : Hp} {vs : List V} {rs : List Rl} (s : TS H H') (h : RulesAt H vs rs) : RulesAt H' vs rs := ⟨h.len, fun i v e => by
  obtain ⟨r, h1, h2⟩ := h.get i v e
  exact ⟨r, h1, h2.ts s⟩⟩
theorem RulesAt.nil {H : Hp} : RulesAt H [] [] := ⟨rfl, fun i v e => by simp at e⟩
theorem RulesAt.cons {H : Hp} {v : V} {r : Rl} {vs : List V} {rs : List Rl} (h : RuleAt H v r) (t : RulesAt H vs rs) : RulesAt H (v :: vs) (r :: rs) := ⟨by simp [t.len], fun i w e => by
  cases i with
  | zero => simp at e; subst e; exact ⟨r, rfl, h⟩
  | succ i => exact t.get i w (by simpa using e)⟩
theorem RulesAt.tail {H : Hp} {v : V} {r : Rl} {vs : List V} {rs : List Rl} (h : RulesAt H (v :: vs) (r :: rs)) : RuleAt H v r ∧ RulesAt H vs rs := by
  obtain ⟨q, h1, h2⟩ := h.get 0 v rfl
  refine ⟨?_, ⟨by have := h.len; simpa using this, fun i w e => h.get (i + 1) w (by simpa using e)⟩⟩
  have : r = q := by simpa using h1
  rw [this]
  exact h2
theorem RulesAt.app {H : Hp} : ∀ {vs ws : List V} {rs qs : List Rl}, RulesAt H vs rs → RulesAt H ws qs → RulesAt H (vs ++ ws) (rs ++ qs)
  | [], ws, rs, qs, h, t => by
    have : rs = [] := List.eq_nil_of_length_eq_zero h.len.symm
    rw [this]
    exact t
  | v :: vs, ws, [], qs, h, t => by have := h.len; simp at this
  | v :: vs, ws, r :: rs, qs, h, t => .cons h.tail.1 (RulesAt.app h.tail.2 t)
theorem RulesAt.take {H : Hp} {vs : List V} {rs : List Rl} (h : RulesAt H vs rs) (n : Nat) : RulesAt H (vs.take n) (rs.take n) := ⟨by simp [h.len], fun i v e => by
  have hi : i < n := by
    have := (List.getElem?_eq_some_iff.mp e).1
    simp at this
    omega
  rw [List.getElem?_take_of_lt hi] at e
  rw [List.getElem?_take_of_lt hi]
  exact h.get i v e⟩
theorem RulesAt.drop {H : Hp} {vs : List V} {rs : List Rl} (h : RulesAt H vs rs) (n : Nat) : RulesAt H (vs.drop n) (rs.drop n) := ⟨by simp [h.len], fun i v e => by
  rw [List.getElem?_drop] at e
  rw [List.getElem?_drop]
  exact h.get _ v e⟩
theorem RulesAt.rev {H : Hp} : ∀ {vs : List V} {rs : List Rl}, RulesAt H vs rs → RulesAt H vs.reverse rs.reverse
  | [], rs, h => by
    have : rs = [] := List.eq_nil_of_length_eq_zero h.len.symm
    rw [this]
    exact .nil
  | v :: vs, [], h => by have := h.len; simp at this
  | v :: vs, r :: rs, h => by
    rw [List.reverse_cons, List.reverse_cons]
    exact (RulesAt.rev h.tail.2).app (.cons h.tail.1 .nil)
theorem RulesAt.th {K : PySem.W.Frag} {H : Hp} : ∀ {vs : List V} {rs : List Rl}, RulesAt H vs rs → (∀ r ∈ rs, GoodR r) → ThAll K H vs (rs.map ruleD)
  | [], rs, h, _ => by
    have : rs = [] := List.eq_nil_of_length_eq_zero h.len.symm
    rw [this]
    exact .nil
  | v :: vs, [], h, _ => by have := h.len; simp at this
  | v :: vs, r :: rs, h, g => .cons ((g r (List.mem_cons_self ..)).th h.tail.1) (RulesAt.th h.tail.2 fun q hq => g q (List.mem_cons_of_mem _ hq))
theorem RulesAt.dp {K : PySem.W.Frag} {H : Hp} : ∀ {vs : List V} {rs : List Rl}, RulesAt H vs rs → DpAll K H vs (rs.map ruleD)
  | [], rs, h => by
    have : rs = [] := List.eq_nil_of_length_eq_zero h.len.symm
    rw [this]
    exact .nil
  | v :: vs, [], h => by have := h.len; simp at this
  | v :: vs, r :: rs, h => .cons h.tail.1.dp (RulesAt.dp h.tail.2)
theorem RulesAt.at' {H : Hp} {vs : List V} {rs : List Rl} {k : Nat} {r : Rl} (h : RulesAt H vs rs) (hk : rs[k]? = some r) : ∃ ra rb, vs[k]? = some (.ref ra) ∧ atI vs (k : Int) = some (.ref ra) ∧ H ra = some (.tup [.str r.head, .ref rb, .int r.worth]) ∧ H rb = some (.tup (r.parts.map V.str)) := by
  obtain ⟨v, hv⟩ : ∃ v, vs[k]? = some v := ⟨_, List.getElem?_eq_getElem (by have := (List.getElem?_eq_some_iff.mp hk).1; have := h.len; omega)⟩
  obtain ⟨r', q1, q2⟩ := h.get k v hv
  obtain rfl : r' = r := Option.some.inj (q1.symm.trans hk)
  obtain ⟨ra, rb, rfl, e1, e2⟩ := q2
  exact ⟨ra, rb, hv, atI_nat (by omega) (by rw [show ((k : Nat) : Int).toNat = k by omega]; exact hv), e1, e2⟩
def gramD (rs : List Rl) : PyData := .list (rs.map ruleD)
theorem gram_good {rs : List Rl} (g : GoodG rs) : isGramD (gramD rs) = true := by
  show (decide ((rs.map ruleD).length ≤ 60) && (rs.map ruleD).all isRuleD) = true
  rw [decide_eq_true (by rw [List.length_map]; exact g.few), Bool.true_and, List.all_map, List.all_eq_true]
  intro r hr
  show isRuleD (ruleD r) = true
  rw [goodR_D]
  exact goodR_iff.mpr (g.good r hr)
theorem gram_sh {rs : List Rl} (g : ∀ r ∈ rs, GoodR r) : Sh 3 (gramD rs) := .lst fun d hd => by
  obtain ⟨r, hr, rfl⟩ := List.mem_map.mp hd
  exact (g r hr).sh
/-- a grammar at v -/
structure GramAt (K : PySem.W.Frag) (H : Hp) (v : V) (a : Addr) (vs : List V) (rs : List Rl) : Prop where
  ref : v = .ref a
  sq : SqL K H a vs
  at_ : RulesAt H vs rs
  ok : GoodG rs
theorem GramAt.more {K : PySem.W.Frag} {H H' : Hp} {v : V} {a : Addr} {vs : List V} {rs : List Rl} (s : Same H H') (h : GramAt K H v a vs rs) : GramAt K H' v a vs rs := ⟨h.ref, s.seq h.sq, h.at_.ts (Same.ts s), h.ok⟩
theorem GramAt.dp {K : PySem.W.Frag} {H : Hp} {v : V} {a : Addr} {vs : List V} {rs : List Rl} (h : GramAt K H v a vs rs) : Dp K H v (gramD rs) := by
  rw [h.ref]
  exact .lst h.sq h.at_.dp
theorem GramAt.th {K : PySem.W.Frag} {H : Hp} {v : V} {a : Addr} {vs : List V} {rs : List Rl} (h : GramAt K H v a vs rs) : Th K H v (gramD rs) := by
  rw [h.ref]
  exact .lst h.sq (h.at_.th h.ok.good)
theorem gram_no {d : PyData} (h : isK d "list" = false) : isGramD d = false := by
  cases d <;> first | rfl | (exact Bool.noConfusion h)
theorem no_lst {K : PySem.W.Frag} {H : Hp} {v : V} {d : PyData} (h : Th K H v d) : (∃ a vs ds, v = .ref a ∧ d = .list ds ∧ SqL K H a vs ∧ ThAll K H vs ds) ∨ isK d "list" = false := by
  cases h <;> first | exact .inl ⟨_, _, _, rfl, rfl, ‹_›, ‹_›⟩ | exact .inr rfl
def R_checked (K : PySem.W.Frag) (cs : Cs) : V → Hp → VK → XK → Prop := fun x H Q E =>
  (∃ a vs rs, GramAt K H x a vs rs ∧ ∀ l H', Same H H' → H l = none → H' l = some (.lst vs) → Q (.ref l) H') ∨ (∃ d, Th K H x d ∧ isGramD d = false ∧ ∀ H', Same H H' → E (.ref cs.NoGrammar) none H')
section
set_option hygiene false in
local macro_rules | `(tactic| top_name) => `(tactic| first | refine e_call (df_is_rule T) (hr.mono (by decide)) ?_)
set_option hygiene false in
local macro_rules | `(tactic| top_raise) => `(tactic| first | refine s_raise T.x_NoGrammar ?_)
theorem ok_checked {f : Addr} {fd : FuncData} (F : Fun K "checked" "checked" s_checked f fd) (T : Txt K mg cs) : FnOk P w K mg base (L2.CX P w) 5 f fd ["thing"] (sp1 (R_checked K cs)) := by
  refine F.okX sc_checked (fun vs H Q E h => sp1_len h) (fun cdv A outer s H vs Q E hr h => ⟨_, PBw (X := X_checked P w K mg base f cdv A outer s H E), ?_⟩)
  obtain ⟨a0, rfl, h⟩ := h
  obtain ⟨t_MOST_RULES, h_MOST_RULES⟩ := T.k_MOST_RULES
  have ib_MOST_RULES : Gn mg "MOST_RULES" (some _) := ⟨h_MOST_RULES⟩
  have ib_NoGrammar : Gn mg "NoGrammar" (some _) := ⟨T.x_NoGrammar.mg⟩
  have ib_isinstance := T.b_isinstance
  have ib_list := T.b_list
  have ib_len := T.b_len
  have hr' : Room 4 (X_checked P w K mg base f cdv A outer s H E).A := hr
  replace hr := hr'
  clear hr'
  have key : (∃ a vs ds, a0 = .ref a ∧ SqL K H a vs ∧ ThAll K H vs ds ∧ (isGramD (.list ds) = true → ∀ l H', Same H H' → H l = none → H' l = some (.lst vs) → Q (.ref l) H') ∧ (isGramD (.list ds) = false → ∀ H', Same H H' → E (.ref cs.NoGrammar) none H')) ∨
      (∃ d, Th K H a0 d ∧ isK d "list" = false ∧ ∀ H', Same H H' → E (.ref cs.NoGrammar) none H') := by
    rcases h with ⟨a, vs, rs, g, q⟩ | ⟨d, hd, hb, q⟩
    · refine .inl ⟨a, vs, rs.map ruleD, g.ref, g.sq, g.at_.th g.ok.good, fun _ => q, fun z => ?_⟩
      exact absurd ((gram_good g.ok).symm.trans z) (by simp)
    · rcases no_lst hd with ⟨a, vs, ds, e1, e2, h1, h2⟩ | e
      · exact .inl ⟨a, vs, ds, e1, h1, h2, fun z => absurd (z.symm.trans (e2 ▸ hb)) (by simp), fun _ => q⟩
      · exact .inr ⟨d, hd, e, q⟩
  clear h
  wp_step
  rcases key with ⟨a, vs, ds, rfl, hs, ha, h1, h2⟩ | ⟨d, hd, hb, q⟩
  · refine k_isList (Th.lst hs ha) ⟨_, rfl, ?_⟩
    wp_step
    refine k_lenL hs ?_
    wp_step
    have hlen := ha.len
    refine iteD (fun c => ?_) fun c => ?_
    · wp_step
      refine s_raise T.x_NoGrammar ?_
      refine h2 ?_ _ (Same.refl _)
      show (decide (ds.length ≤ 60) && _) = false
      rw [decide_eq_false (by omega), Bool.false_and]
    · wp_step
      have hgood : isGramD (.list ds) = ds.all isRuleD := by
        show (decide (ds.length ≤ 60) && _) = _
        rw [decide_eq_true (by omega), Bool.true_and]
      rw [hgood] at h1 h2
      intro l H1 s1 n1 k1 e1
      wp_step
      have sam : ∀ {H' : Hp}, (∀ b, b ≠ l → H' b = H1 b) → Same H H' := fun k b o e => by
        rw [k b (ne_of_none e n1)]
        exact s1 _ _ e
      refine s_for (j_list ?_)
      wp_step
      refine ⟨⟨_, s1.seq hs⟩, _, _, _, walk_list (xs := vs), fun i σ' H' => (∃ v, σ' = [some (.ref a), some (.ref l), v]) ∧ H' l = some (.lst (vs.take i)) ∧ (∀ b, b ≠ l → H' b = H1 b) ∧ (ds.take i).all isRuleD = true, ⟨⟨_, rfl⟩, k1, fun _ _ => rfl, rfl⟩, fun _ _ _ _ ⟨_, _, e, _⟩ => (sam e).seq hs, ?_, ?_⟩
      · rintro i x σ' H' H2 hi ⟨⟨v, rfl⟩, k2, e2, hall⟩ ⟨rfl, hx⟩
        obtain ⟨d, hd1, hd2⟩ := ha.get hx
        wp_step
        refine e_call (df_is_rule T) (hr.mono (by decide)) ?_
        wp_step
        refine ⟨d, hd2.more (sam e2), ?_⟩
        wp_step
        cases c1 : isRuleD d with
        | true =>
          wp_step
          refine e_append ?_
          wp_step
          refine ⟨ty_l k2, ?_⟩
          wp_step
          refine m_append k2 (by rw [List.length_take]; omega) fun H3 k3 e3 => ?_
          wp_step
          refine ⟨⟨_, rfl⟩, ?_, fun b hb => (e3 b hb).trans (e2 b hb), by rw [all_snoc hd1, hall, c1]; rfl⟩
          rw [k3, List.take_add_one, hx]
          rfl
        | false =>
          wp_step
          refine s_raise T.x_NoGrammar ?_
          exact h2 (all_cut hd1 c1) _ (sam e2)
      · rintro σ' H' ⟨⟨v, rfl⟩, k2, e2, hall⟩
        wp_step
        rw [List.take_length] at k2
        rw [hlen, List.take_length] at hall
        exact h1 hall l _ (sam e2) n1 k2
  · refine k_isList hd ⟨_, rfl, ?_⟩
    rw [hb]
    wp_step
    refine s_raise T.x_NoGrammar ?_
    exact q _ (Same.refl _)

end
theorem df_checked (T : Txt K mg cs) : Df P w K mg base "checked" 5 ["thing"] (sp1 (R_checked K cs)) := by
  obtain ⟨f, fd, hm, F, hb⟩ := T.f_checked.ex
  exact ⟨f, fd, hm, F.kp, hb, ok_checked F T⟩
def startV : List Rl → V
  | [] => .non
  | r :: _ => .str r.head
theorem gram_nil : ∀ rs : List Rl, PyData.eqv (gramD rs) (.list []) = decide (rs = [])
  | [] => rfl
  | _ :: _ => rfl
/-- what a def of a grammar promises: the good way, or the refusal -/
def RG (K : PySem.W.Frag) (cs : Cs) (x : V) (H : Hp) (E : XK) (good : Addr → List V → List Rl → Prop) : Prop :=
  (∃ a vs rs, GramAt K H x a vs rs ∧ good a vs rs) ∨ (∃ d, Th K H x d ∧ isGramD d = false ∧ ∀ H', Same H H' → E (.ref cs.NoGrammar) none H')
def addHead (hs : List Str) (h : Str) : List Str := if h ∈ hs then hs else hs ++ [h]
def headsTo (rs : List Rl) (i : Nat) : List Str := (rs.take i).foldl (fun hs r => addHead hs r.head) []
def heads (rs : List Rl) : List Str := headsTo rs rs.length
theorem heads_step {rs : List Rl} {i : Nat} {r : Rl} (h : rs[i]? = some r) : headsTo rs (i + 1) = addHead (headsTo rs i) r.head := by
  unfold headsTo
  rw [List.take_add_one, h, Option.toList_some, List.foldl_append]
  rfl
theorem heads_le (rs : List Rl) : ∀ i, (headsTo rs i).length ≤ i
  | 0 => by simp [headsTo]
  | i + 1 => by
    cases h : rs[i]? with
    | none =>
      have e : headsTo rs (i + 1) = headsTo rs i := by
        unfold headsTo
        rw [List.take_add_one, h, Option.toList_none, List.append_nil]
      rw [e]
      exact Nat.le_succ_of_le (heads_le rs i)
    | some r =>
      rw [heads_step h]
      unfold addHead
      have := heads_le rs i
      split
      · omega
      · simp; omega
def flags (hs : List Str) : List (Key × V) := hs.map fun h => (.inr h, .bl true)
theorem flags_put (hs : List Str) (h : Str) : putK (flags hs) (.inr h) (.bl true) = flags (addHead hs h) := by
  have e : ((flags hs).any fun kv => decide (kv.1 = .inr h)) = decide (h ∈ hs) := by
    unfold flags
    rw [List.any_map, Bool.eq_iff_iff, List.any_eq_true, decide_eq_true_eq]
    constructor
    · rintro ⟨x, hx, q⟩
      have q2 : (Sum.inr x : Key) = .inr h := of_decide_eq_true q
      cases q2
      exact hx
    · intro hm
      exact ⟨h, hm, decide_eq_true rfl⟩
  unfold putK addHead
  rw [e]
  by_cases hm : h ∈ hs
  · rw [decide_eq_true hm, if_pos rfl, if_pos hm]
    unfold flags
    rw [List.map_map]
    apply List.map_congr_left
    intro x hx
    show (if (Sum.inr x : Key) = .inr h then ((Sum.inr x : Key), V.bl true) else ((Sum.inr x : Key), V.bl true)) = _
    rw [ite_self]
  · rw [decide_eq_false hm, if_neg Bool.false_ne_true, if_neg hm]
    unfold flags
    rw [List.map_append]
    rfl
theorem flags_keys (hs : List Str) : (flags hs).map (fun kv => kV kv.1) = hs.map V.str := by
  unfold flags
  rw [List.map_map]
  rfl
theorem flags_len (hs : List Str) : (flags hs).length = hs.length := List.length_map ..
/-- the numbers of a head's rules, below i -/
def numsTo (rs : List Rl) (h : Str) (i : Nat) : List Nat := (List.range i).filter fun k => decide (rs[k]?.map Rl.head = some h)
def nums (rs : List Rl) (h : Str) : List Nat := numsTo rs h rs.length
def numV (l : List Nat) : List V := l.map fun k => V.int (k : Nat)
theorem nums_step (rs : List Rl) (h : Str) (i : Nat) : numsTo rs h (i + 1) = numsTo rs h i ++ (if rs[i]?.map Rl.head = some h then [i] else []) := by
  unfold numsTo
  rw [List.range_succ, List.filter_append]
  congr 1
  by_cases q : rs[i]?.map Rl.head = some h
  · rw [if_pos q, List.filter_cons_of_pos (by rw [q]; simp), List.filter_nil]
  · rw [if_neg q, List.filter_cons_of_neg (by simpa using q), List.filter_nil]
theorem nums_le (rs : List Rl) (h : Str) (i : Nat) : (numsTo rs h i).length ≤ i := by
  have := List.length_filter_le (fun k => decide (rs[k]?.map Rl.head = some h)) (List.range i)
  rwa [List.length_range] at this
/-! ### least sizes: the plain law -/
abbrev Szs : Type := List (Str × Nat)
def szK (S : Szs) : List (Key × V) := S.map fun p => (.inr p.1, .int (p.2 : Nat))
def look : Szs → Str → Option Nat
  | [], _ => none
  | p :: S, h => if p.1 = h then some p.2 else look S h
def putS : Szs → Str → Nat → Szs
  | [], h, n => [(h, n)]
  | p :: S, h, n => if p.1 = h then (p.1, n) :: S.map (fun q => if q.1 = h then (q.1, n) else q) else p :: putS S h n
theorem valV_sz : ∀ (S : Szs) (h : Str), valV (szK S) (.inr h) = (look S h).map fun n => V.int (n : Nat)
  | [], _ => rfl
  | p :: S, h => by
    show valV ((Sum.inr p.1, V.int (p.2 : Nat)) :: szK S) (.inr h) = _
    unfold look
    by_cases e : p.1 = h
    · rw [if_pos e, valV_pos (by show (Sum.inr p.1 : Key) = .inr h; rw [e])]
      rfl
    · rw [if_neg e, valV_neg (fun q => e (Sum.inr.inj q)), valV_sz S h]
theorem any_sz (S : Szs) (h : Str) : ((szK S).any fun kv => decide (kv.1 = .inr h)) = (look S h).isSome := by
  rw [valV_any, valV_sz]
  cases look S h <;> rfl
theorem map_sz (S : Szs) (h : Str) (n : Nat) : (szK S).map (fun kv => if kv.1 = .inr h then (kv.1, V.int (n : Nat)) else kv) = szK (S.map fun q => if q.1 = h then (q.1, n) else q) := by
  unfold szK
  rw [List.map_map, List.map_map]
  apply List.map_congr_left
  intro p _
  show (if (Sum.inr p.1 : Key) = .inr h then ((Sum.inr p.1 : Key), V.int (n : Nat)) else ((Sum.inr p.1 : Key), V.int (p.2 : Nat))) = ((Sum.inr (if p.1 = h then (p.1, n) else p).1 : Key), V.int ((if p.1 = h then (p.1, n) else p).2 : Nat))
  by_cases e : p.1 = h
  · rw [if_pos e, if_pos (by rw [e])]
  · rw [if_neg e, if_neg (fun q => e (Sum.inr.inj q))]
theorem putS_some : ∀ {S : Szs} {h : Str} {n : Nat}, (look S h).isSome = true → putS S h n = S.map fun q => if q.1 = h then (q.1, n) else q
  | [], _, _, q => by cases q
  | p :: S, h, n, q => by
    unfold look at q
    unfold putS
    by_cases e : p.1 = h
    · rw [if_pos e, List.map_cons, if_pos e]
    · rw [if_neg e] at q
      rw [if_neg e, List.map_cons, if_neg e, putS_some q]
theorem putS_none : ∀ {S : Szs} {h : Str} {n : Nat}, look S h = none → putS S h n = S ++ [(h, n)]
  | [], _, _, _ => rfl
  | p :: S, h, n, q => by
    unfold look at q
    unfold putS
    by_cases e : p.1 = h
    · rw [if_pos e] at q; cases q
    · rw [if_neg e] at q
      rw [if_neg e, putS_none q]
      rfl
theorem putK_sz (S : Szs) (h : Str) (n : Nat) : putK (szK S) (.inr h) (.int (n : Nat)) = szK (putS S h n) := by
  unfold putK
  rw [any_sz]
  cases e : look S h with
  | none =>
    rw [putS_none e, if_neg (by simp)]
    unfold szK
    rw [List.map_append]
    rfl
  | some m => rw [putS_some (by rw [e]; rfl), if_pos (by simp), map_sz]
theorem look_map : ∀ (S : Szs) (h : Str) (n : Nat) (k : Str), look (S.map fun q => if q.1 = h then (q.1, n) else q) k = if k = h then (look S k).map (fun _ => n) else look S k
  | [], h, n, k => by simp [look]
  | p :: S, h, n, k => by
    rw [List.map_cons]
    by_cases e : p.1 = h
    · rw [if_pos e]
      unfold look
      by_cases e2 : p.1 = k
      · rw [if_pos e2, if_pos e2, if_pos (by rw [← e2, e])]; rfl
      · rw [if_neg e2, if_neg e2, look_map S h n k]
    · rw [if_neg e]
      unfold look
      by_cases e2 : p.1 = k
      · rw [if_pos e2, if_pos e2, if_neg (by rw [← e2]; exact e)]
      · rw [if_neg e2, if_neg e2, look_map S h n k]
theorem look_app : ∀ (S : Szs) (h : Str) (n : Nat) (k : Str), look S h = none → look (S ++ [(h, n)]) k = if k = h then some n else look S k
  | [], h, n, k, _ => by
    show (if h = k then some n else none) = _
    by_cases e : h = k
    · rw [if_pos e, if_pos e.symm]
    · rw [if_neg e, if_neg fun q => e q.symm]; rfl
  | p :: S, h, n, k, q => by
    unfold look at q
    by_cases e : p.1 = h
    · rw [if_pos e] at q; cases q
    · rw [if_neg e] at q
      rw [List.cons_append]
      unfold look
      by_cases e2 : p.1 = k
      · rw [if_pos e2, if_pos e2, if_neg (by rw [← e2]; exact e)]
      · rw [if_neg e2, if_neg e2, look_app S h n k q]
theorem look_put (S : Szs) (h : Str) (n : Nat) (k : Str) : look (putS S h n) k = if k = h then some n else look S k := by
  cases e : look S h with
  | none => rw [putS_none e, look_app S h n k e]
  | some m =>
    rw [putS_some (by rw [e]; rfl), look_map]
    by_cases e2 : k = h
    · rw [if_pos e2, if_pos e2, e2, e]; rfl
    · rw [if_neg e2, if_neg e2]
theorem look_mem : ∀ {S : Szs} {h : Str} {n : Nat}, look S h = some n → (h, n) ∈ S
  | [], _, _, q => by cases q
  | p :: S, h, n, q => by
    unfold look at q
    by_cases e : p.1 = h
    · rw [if_pos e] at q
      cases q
      rw [← e]
      exact List.mem_cons_self ..
    · rw [if_neg e] at q
      exact List.mem_cons_of_mem _ (look_mem q)
/-- the size beneath parts -/
def sizeP (S : Szs) : List Str → Option Nat
  | [] => some 0
  | p :: r => if isSg p = true then sizeP S r else (look S p).bind fun n => (sizeP S r).map (n + ·)
theorem sizeP_app (S : Szs) : ∀ (a b : List Str), sizeP S (a ++ b) = (sizeP S a).bind fun n => (sizeP S b).map (n + ·)
  | [], b => by
    show sizeP S b = _
    cases sizeP S b <;> simp [sizeP]
  | p :: a, b => by
    show (if isSg p = true then sizeP S (a ++ b) else (look S p).bind fun n => (sizeP S (a ++ b)).map (n + ·)) = (if isSg p = true then sizeP S a else (look S p).bind fun n => (sizeP S a).map (n + ·)).bind _
    rw [sizeP_app S a b]
    by_cases e : isSg p = true
    · rw [if_pos e, if_pos e]
    · rw [if_neg e, if_neg e]
      cases look S p <;> simp
      cases sizeP S a <;> simp
      cases sizeP S b <;> simp
      omega
theorem sizeP_bad {S : Szs} {ps : List Str} {p : Str} (hm : p ∈ ps) (hs : isSg p = false) (hl : look S p = none) : sizeP S ps = none := by
  obtain ⟨a, b, rfl⟩ := List.append_of_mem hm
  rw [sizeP_app]
  cases sizeP S a with
  | none => rfl
  | some n =>
    show (sizeP S (p :: b)).map _ = none
    have : sizeP S (p :: b) = none := by
      show (if isSg p = true then _ else (look S p).bind _) = none
      rw [hs, hl]
      rfl
    rw [this]
    rfl
/-- S is no worse than S' -/
def Le (S' S : Szs) : Prop := ∀ h n, look S h = some n → ∃ m, look S' h = some m ∧ m ≤ n
theorem Le.refl (S : Szs) : Le S S := fun _ n e => ⟨n, e, Nat.le_refl _⟩
theorem sizeP_le {S S' : Szs} (l : Le S' S) : ∀ {ps : List Str} {n : Nat}, sizeP S ps = some n → ∃ m, sizeP S' ps = some m ∧ m ≤ n
  | [], n, e => ⟨0, rfl, Nat.zero_le _⟩
  | p :: r, n, e => by
    have e : (if isSg p = true then sizeP S r else (look S p).bind fun n => (sizeP S r).map (n + ·)) = some n := e
    show ∃ m, (if isSg p = true then sizeP S' r else (look S' p).bind fun n => (sizeP S' r).map (n + ·)) = some m ∧ m ≤ n
    by_cases c : isSg p = true
    · rw [if_pos c] at e ⊢
      exact sizeP_le l e
    · rw [if_neg c] at e ⊢
      cases h1 : look S p with
      | none => rw [h1] at e; cases e
      | some a =>
        cases h2 : sizeP S r with
        | none => rw [h1, h2] at e; cases e
        | some b =>
          rw [h1, h2] at e
          have e : a + b = n := Option.some.inj e
          obtain ⟨a', q1, q2⟩ := l p a h1
          obtain ⟨b', q3, q4⟩ := sizeP_le l h2
          exact ⟨a' + b', by rw [q1, q3]; rfl, by omega⟩
/-- whether a rule betters a size -/
def betters (S : Szs) (r : Rl) : Option Nat :=
  match sizeP S r.parts with
  | none => none
  | some m => match look S r.head with
    | none => some (m + 1)
    | some n => if m + 1 < n then some (m + 1) else none
def stepS (S : Szs) (r : Rl) : Szs := match betters S r with
  | none => S
  | some n => putS S r.head n
def passS (rs : List Rl) (S : Szs) : Szs := rs.foldl stepS S
def iterS (rs : List Rl) : Nat → Szs
  | 0 => []
  | k + 1 => passS rs (iterS rs k)
theorem stepS_le (S : Szs) (r : Rl) : Le (stepS S r) S := by
  unfold stepS betters
  cases sizeP S r.parts with
  | none => exact Le.refl _
  | some m =>
    cases hl : look S r.head with
    | none =>
      intro h n e
      refine ⟨n, ?_, Nat.le_refl _⟩
      rw [look_put, if_neg (fun q => by rw [q, hl] at e; cases e)]
      exact e
    | some k =>
      show Le (match if m + 1 < k then some (m + 1) else none with | none => S | some n => putS S r.head n) S
      by_cases c : m + 1 < k
      · rw [if_pos c]
        intro h n e
        show ∃ x, look (putS S r.head (m + 1)) h = some x ∧ x ≤ n
        rw [look_put]
        by_cases q : h = r.head
        · rw [if_pos q]
          rw [q, hl] at e
          cases e
          exact ⟨_, rfl, by omega⟩
        · rw [if_neg q]
          exact ⟨n, e, Nat.le_refl _⟩
      · rw [if_neg c]
        exact Le.refl _
/-- what holds all along -/
structure Grow (rs : List Rl) (S : Szs) : Prop where
  nd : (S.map (·.1)).Nodup
  why : ∀ h n, look S h = some n → ∃ r ∈ rs, r.head = h ∧ ∃ m, sizeP S r.parts = some m ∧ m + 1 ≤ n
  cap : ∀ h n, look S h = some n → n ≤ 7 ^ S.length
theorem Grow.nil (rs : List Rl) : Grow rs [] := ⟨List.nodup_nil, (by intro h n e; cases e), (by intro h n e; cases e)⟩
theorem keys_put (S : Szs) (h : Str) (n : Nat) : (putS S h n).map (·.1) = if (look S h).isSome = true then S.map (·.1) else S.map (·.1) ++ [h] := by
  cases e : look S h with
  | none => rw [putS_none e, List.map_append, if_neg (by simp)]; rfl
  | some m =>
    rw [putS_some (by rw [e]; rfl), if_pos (by simp), List.map_map]
    apply List.map_congr_left
    intro p _
    show (if p.1 = h then (p.1, n) else p).1 = p.1
    split <;> rfl
theorem look_none {S : Szs} {h : Str} (e : look S h = none) : h ∉ S.map (·.1) := by
  induction S with
  | nil => simp
  | cons p S ih =>
    unfold look at e
    by_cases c : p.1 = h
    · rw [if_pos c] at e; cases e
    · rw [if_neg c] at e
      rw [List.map_cons, List.mem_cons]
      rintro (q | q)
      · exact c q.symm
      · exact ih e q
theorem mem_look {S : Szs} {h : Str} (e : h ∈ S.map (·.1)) : ∃ n, look S h = some n := by
  cases q : look S h with
  | none => exact absurd e (look_none q)
  | some n => exact ⟨n, rfl⟩
theorem sizeP_cap {S : Szs} {B : Nat} (c : ∀ h n, look S h = some n → n ≤ B) : ∀ {ps : List Str} {m : Nat}, sizeP S ps = some m → m ≤ ps.length * B
  | [], m, e => by cases e; exact Nat.zero_le _
  | p :: r, m, e => by
    have e : (if isSg p = true then sizeP S r else (look S p).bind fun n => (sizeP S r).map (n + ·)) = some m := e
    rw [List.length_cons, Nat.succ_mul]
    by_cases q : isSg p = true
    · rw [if_pos q] at e
      have := sizeP_cap c e
      omega
    · rw [if_neg q] at e
      cases h1 : look S p with
      | none => rw [h1] at e; cases e
      | some a =>
        cases h2 : sizeP S r with
        | none => rw [h1, h2] at e; cases e
        | some b =>
          rw [h1, h2] at e
          have e : a + b = m := Option.some.inj e
          have := sizeP_cap c h2
          have := c p a h1
          omega
theorem Grow.step {rs : List Rl} {S : Szs} {r : Rl} (g : Grow rs S) (hr : r ∈ rs) (h6 : r.parts.length ≤ 6) : Grow rs (stepS S r) := by
  have le := stepS_le S r
  cases hb : betters S r with
  | none =>
    have e : stepS S r = S := by unfold stepS; rw [hb]
    rw [e]
    exact g
  | some k =>
    have e : stepS S r = putS S r.head k := by unfold stepS; rw [hb]
    rw [e] at le ⊢
    obtain ⟨m, hm, hk, hlow⟩ : ∃ m, sizeP S r.parts = some m ∧ k = m + 1 ∧ ∀ n, look S r.head = some n → m + 1 < n := by
      unfold betters at hb
      cases hm : sizeP S r.parts with
      | none => rw [hm] at hb; cases hb
      | some m =>
        rw [hm] at hb
        cases hl : look S r.head with
        | none =>
          rw [hl] at hb
          cases hb
          exact ⟨m, rfl, rfl, fun n q => by cases q⟩
        | some n =>
          rw [hl] at hb
          have hb : (if m + 1 < n then some (m + 1) else none) = some k := hb
          by_cases c : m + 1 < n
          · rw [if_pos c] at hb
            cases hb
            exact ⟨m, rfl, rfl, fun n' q => by cases q; exact c⟩
          · rw [if_neg c] at hb; cases hb
    have hk7 : k ≤ 7 ^ (S.length + 1) ∧ (∀ n, look S r.head = some n → k ≤ 7 ^ S.length) := by
      refine ⟨?_, fun n q => ?_⟩
      · have h1 := sizeP_cap g.cap hm
        have h2 : r.parts.length * 7 ^ S.length ≤ 6 * 7 ^ S.length := Nat.mul_le_mul_right _ h6
        have h3 : 0 < 7 ^ S.length := Nat.pow_pos (by decide)
        rw [Nat.pow_succ]
        omega
      · have := g.cap _ _ q
        have := hlow n q
        omega
    have hlen : S.length ≤ (putS S r.head k).length ∧ (look S r.head = none → (putS S r.head k).length = S.length + 1) ∧ ((look S r.head).isSome = true → (putS S r.head k).length = S.length) := by
      have e := keys_put S r.head k
      have l1 : (putS S r.head k).length = ((putS S r.head k).map (·.1)).length := (List.length_map ..).symm
      rw [l1, e]
      cases look S r.head with
      | none => simp
      | some n => simp
    refine ⟨?_, fun h n q => ?_, fun h n q => ?_⟩
    · rw [keys_put]
      cases hl : look S r.head with
      | some n => rw [if_pos (by simp)]; exact g.nd
      | none =>
        rw [if_neg (by simp)]
        exact List.nodup_append.mpr ⟨g.nd, by simp, fun a ha b hb => by
          rw [List.mem_singleton.mp hb]
          exact fun z => look_none hl (by rw [← z]; exact ha)⟩
    · rw [look_put] at q
      by_cases c : h = r.head
      · rw [if_pos c] at q
        cases q
        obtain ⟨m', q1, q2⟩ := sizeP_le le hm
        exact ⟨r, hr, c.symm, m', q1, by omega⟩
      · rw [if_neg c] at q
        obtain ⟨r', h1, h2, m', h3, h4⟩ := g.why h n q
        obtain ⟨m'', q1, q2⟩ := sizeP_le le h3
        exact ⟨r', h1, h2, m'', q1, by omega⟩
    · rw [look_put] at q
      by_cases c : h = r.head
      · rw [if_pos c] at q
        cases q
        cases hl : look S r.head with
        | none => rw [hlen.2.1 hl]; exact hk7.1
        | some n' => rw [hlen.2.2 (by rw [hl]; rfl)]; exact hk7.2 n' hl
      · rw [if_neg c] at q
        exact Nat.le_trans (g.cap h n q) (Nat.pow_le_pow_right (by decide) hlen.1)
theorem nodup_len {α : Type} [DecidableEq α] : ∀ {l m : List α}, l.Nodup → (∀ x ∈ l, x ∈ m) → l.length ≤ m.length
  | [], _, _, _ => Nat.zero_le _
  | a :: l, m, nd, h => by
    have ha := h a (List.mem_cons_self ..)
    have nd' := List.nodup_cons.mp nd
    have := nodup_len (l := l) (m := m.erase a) nd'.2 fun x hx => (List.mem_erase_of_ne (fun z => nd'.1 (by rw [← z]; exact hx))).mpr (h x (List.mem_cons_of_mem _ hx))
    rw [List.length_erase_of_mem ha] at this
    have : 0 < m.length := List.length_pos_of_mem ha
    rw [List.length_cons]
    omega
theorem Grow.few {rs : List Rl} {S : Szs} (g : Grow rs S) : S.length ≤ rs.length := by
  have := nodup_len (m := rs.map Rl.head) g.nd fun x hx => by
    obtain ⟨n, hn⟩ := mem_look hx
    obtain ⟨r, h1, h2, _⟩ := g.why x n hn
    exact List.mem_map.mpr ⟨r, h1, h2⟩
  simpa using this
/-- what is left to better -/
def left (S : Szs) : Nat := (60 - S.length) * (7 ^ 60 + 1) + (S.map (·.2)).sum
theorem sum_put : ∀ {S : Szs} {h : Str} {n k : Nat}, (S.map (·.1)).Nodup → look S h = some n → k < n → ((putS S h k).map (·.2)).sum < (S.map (·.2)).sum
  | [], _, _, _, _, e, _ => by cases e
  | p :: S, h, n, k, nd, e, lt => by
    have nd' := List.nodup_cons.mp nd
    unfold look at e
    unfold putS
    by_cases c : p.1 = h
    · rw [if_pos c] at e ⊢
      cases e
      have same : (S.map fun q => if q.1 = h then (q.1, k) else q) = S := by
        have e2 : ∀ q ∈ S, (if q.1 = h then (q.1, k) else q) = id q := fun q hq => if_neg fun z => nd'.1 (by show p.1 ∈ _; rw [c, ← z]; exact List.mem_map.mpr ⟨q, hq, rfl⟩)
        rw [List.map_congr_left e2, List.map_id]
      rw [same]
      simp only [List.map_cons, List.sum_cons]
      omega
    · rw [if_neg c] at e ⊢
      have := sum_put nd'.2 e lt
      simp only [List.map_cons, List.sum_cons]
      omega
theorem left_step {rs : List Rl} {S : Szs} {r : Rl} {k : Nat} (g : Grow rs S) (hr : r ∈ rs) (h6 : r.parts.length ≤ 6) (h60 : rs.length ≤ 60) (hb : betters S r = some k) : left (stepS S r) < left S := by
  have g2 := g.step hr h6
  have e : stepS S r = putS S r.head k := by unfold stepS; rw [hb]
  have f2 := g2.few
  rw [e] at f2 g2 ⊢
  cases hl : look S r.head with
  | none =>
    have hp := putS_none (n := k) hl
    rw [hp] at f2 g2 ⊢
    have hk : k ≤ 7 ^ 60 := by
      have := g2.cap r.head k (by rw [← hp, look_put, if_pos rfl])
      exact Nat.le_trans this (Nat.pow_le_pow_right (by decide) (by omega))
    unfold left
    rw [List.map_append, List.sum_append, List.length_append]
    rw [List.length_append] at f2
    simp only [List.length_cons, List.length_nil, List.map_cons, List.map_nil, List.sum_cons, List.sum_nil] at f2 ⊢
    have : 60 - S.length = (60 - (S.length + 1)) + 1 := by omega
    rw [this, Nat.succ_mul]
    omega
  | some n =>
    have lt : k < n := by
      unfold betters at hb
      cases hm : sizeP S r.parts with
      | none => rw [hm] at hb; cases hb
      | some m =>
        rw [hm, hl] at hb
        have hb : (if m + 1 < n then some (m + 1) else none) = some k := hb
        by_cases c : m + 1 < n
        · rw [if_pos c] at hb; cases hb; exact c
        · rw [if_neg c] at hb; cases hb
    have s := sum_put g.nd hl lt
    have l1 : (putS S r.head k).length = S.length := by
      have e := keys_put S r.head k
      rw [hl, if_pos (by rfl)] at e
      have := congrArg List.length e
      simpa using this
    unfold left
    rw [l1]
    omega
/-- where no rule betters any more -/
structure Done (rs : List Rl) (S : Szs) : Prop where
  g : Grow rs S
  it : ∃ k, S = iterS rs k
  no : ∀ r ∈ rs, betters S r = none
theorem Done.low {rs : List Rl} {S : Szs} (d : Done rs S) {r : Rl} {m : Nat} (hr : r ∈ rs) (hm : sizeP S r.parts = some m) : ∃ n, look S r.head = some n ∧ n ≤ m + 1 := by
  have := d.no r hr
  unfold betters at this
  rw [hm] at this
  cases hl : look S r.head with
  | none => rw [hl] at this; cases this
  | some n =>
    rw [hl] at this
    have this : (if m + 1 < n then some (m + 1) else none) = none := this
    by_cases c : m + 1 < n
    · rw [if_pos c] at this; cases this
    · exact ⟨n, rfl, by omega⟩
theorem Done.pass {rs : List Rl} {S : Szs} (d : Done rs S) : passS rs S = S := by
  have : ∀ l : List Rl, (∀ r ∈ l, r ∈ rs) → l.foldl stepS S = S := by
    intro l
    induction l with
    | nil => intro _; rfl
    | cons r l ih =>
      intro h
      have e : stepS S r = S := by unfold stepS; rw [d.no r (h r (List.mem_cons_self ..))]
      rw [List.foldl_cons, e]
      exact ih fun x hx => h x (List.mem_cons_of_mem _ hx)
  exact this rs fun _ h => h
theorem Done.one {rs : List Rl} {S S' : Szs} (d : Done rs S) (d' : Done rs S') : S = S' := by
  obtain ⟨k, hk⟩ := d.it
  obtain ⟨k', hk'⟩ := d'.it
  have stay : ∀ {k : Nat} {S : Szs}, S = iterS rs k → passS rs S = S → ∀ j, iterS rs (k + j) = S := by
    intro k S e p j
    induction j with
    | zero => exact e.symm
    | succ j ih =>
      show passS rs (iterS rs (k + j)) = S
      rw [ih, p]
  have a := stay hk d.pass k'
  have b := stay hk' d'.pass k
  rw [Nat.add_comm] at b
  exact a.symm.trans b
/-- a size is the least one over the rules -/
theorem Done.why {rs : List Rl} {S : Szs} (d : Done rs S) {h : Str} {n : Nat} (e : look S h = some n) : ∃ r ∈ rs, r.head = h ∧ sizeP S r.parts = some (n - 1) ∧ 1 ≤ n := by
  obtain ⟨r, h1, h2, m, h3, h4⟩ := d.g.why h n e
  obtain ⟨n', q1, q2⟩ := d.low h1 h3
  rw [h2, e] at q1
  cases q1
  exact ⟨r, h1, h2, by rw [h3]; congr 1; omega, by omega⟩
def natV : Option Nat → V
  | none => .non
  | some n => .int (n : Nat)
theorem dget_sz {H : Hp} {d : Addr} {S : Szs} {h : Str} (e : H d = some (.dK (szK S))) : DGet H d (.str h) ((look S h).map fun n => V.int (n : Nat)) := by
  have := DGet.k (k := .inr h) e
  rw [valV_sz] at this
  exact this
theorem part_first {q : Str} (h : isPartS q = true) : ∃ c l, tl q = c :: l ∧ isSg q = decide (c = 39) := by
  rcases Bool.or_eq_true_iff.mp h with h | h
  · obtain ⟨c, e, _⟩ := sign_is h
    exact ⟨39, [c], e, by unfold isSg; rw [e]; rfl⟩
  · have hf := name_free h (s := 39) (by decide)
    cases e : tl q with
    | nil =>
      unfold isNameS at h
      simp only [Bool.and_eq_true, decide_eq_true_eq] at h
      have := h.1.1
      rw [len_tl, e] at this
      simp at this
    | cons c l =>
      refine ⟨c, l, rfl, ?_⟩
      unfold isSg
      rw [e]
      rw [e] at hf
      have : c ≠ 39 := fun z => hf (by rw [z]; exact List.mem_cons_self ..)
      rw [decide_eq_false this]
      simp [this]
theorem part_sg {p : Str} (h : isPartS p = true) : (∃ c l, tl p = c :: l) ∧ p.length ≤ 1000000 := by
  obtain ⟨c, l, e, _⟩ := part_first h
  exact ⟨⟨c, l, e⟩, Nat.le_trans (part_len h) (by decide)⟩
theorem take_snoc {α : Type} {l : List α} {i : Nat} {x : α} (h : l[i]? = some x) : l.take (i + 1) = l.take i ++ [x] := by
  have hl := (List.getElem?_eq_some_iff.mp h).1
  rw [← List.take_append_getElem hl, (List.getElem?_eq_some_iff.mp h).2]
theorem map_get {α : Type} {f : α → V} {l : List α} {i : Nat} {x : V} (h : (l.map f)[i]? = some x) : ∃ y, l[i]? = some y ∧ x = f y := by
  rw [List.getElem?_map] at h
  cases e : l[i]? with
  | none => rw [e] at h; cases h
  | some y => rw [e] at h; exact ⟨y, rfl, (Option.some.inj h).symm⟩
def R_size_of (K : PySem.W.Frag) : V → V → Hp → VK → XK → Prop := fun x y H Q _ => ∃ (p : Addr) (ps : List Str) (d : Addr) (S : Szs), x = .ref p ∧ SqT K H p (ps.map V.str) ∧ (∀ q ∈ ps, isPartS q = true) ∧ y = .ref d ∧ H d = some (.dK (szK S)) ∧ Q (natV (sizeP S ps)) H
section
theorem ok_size_of {f : Addr} {fd : FuncData} (F : Fun K "size_of" "size_of" s_size_of f fd) (T : Txt K mg cs) : FnOk P w K mg base (L2.CX P w) 1 f fd ["parts", "sizes"] (sp2 (R_size_of K)) := by
  refine F.okX sc_size_of (fun vs H Q E h => sp2_len h) (fun cdv A outer s H vs Q E hr h => ⟨_, PBw (X := X_size_of P w K mg base f cdv A outer s H E), ?_⟩)
  obtain ⟨a0, a1, rfl, h⟩ := h
  have hr' : Room 0 (X_size_of P w K mg base f cdv A outer s H E).A := hr
  replace hr := hr'
  clear hr'
  obtain ⟨p, ps, d, S, rfl, hp, hps, rfl, hd, h⟩ := h
  tm_run
  refine s_for (j_tup ?_)
  tm_run
  refine ⟨⟨_, hp⟩, _, _, _, walk_tup (xs := ps.map V.str), fun i σ' H' => ∃ (n : Nat) (v : Option V), σ' = [some (.ref p), some (.ref d), some (.int (n : Nat)), v] ∧ H' = H ∧ sizeP S (ps.take i) = some n, ⟨0, none, rfl, rfl, rfl⟩, ?_, ?_, ?_⟩
  · rintro i σ' H' hi ⟨_, _, _, rfl, _⟩
    exact hp
  · rintro i x σ' H' H2 hi ⟨n, v, rfl, rfl, hn⟩ ⟨rfl, hx⟩
    obtain ⟨q, hq, rfl⟩ := map_get hx
    have hm := List.mem_of_getElem? hq
    obtain ⟨c, l, e, hsg⟩ := part_first (hps q hm)
    have hql := part_len (hps q hm)
    have one : ∀ k, sizeP S [q] = some k → sizeP S (ps.take (i + 1)) = some (n + k) := fun k hk => by
      rw [take_snoc hq, sizeP_app, hn, Option.bind_some, hk]
      rfl
    tm_run
    refine i_str (by kpc_check) (c := c) (by rw [show q.cps.toList = c :: l from e]; exact atI_nat (by decide) rfl) ?_
    tm_run
    rw [is_quote, ← hsg]
    cases hs : isSg q with
    | true =>
      tm_run
      exact (one 0 (by show (if isSg q = true then _ else _) = _; rw [hs]; rfl))
    | false =>
      tm_run
      refine o_dni (rm1 hr) (dget_sz hd) ?_
      cases hl : look S q with
      | none =>
        tm_run
        have e2 : sizeP S ps = none := sizeP_bad hm hs hl
        rw [e2] at h
        exact h
      | some k =>
        tm_run
        refine i_dget (rm1 hr) (v := .int (k : Nat)) (by have := dget_sz (h := q) hd; rw [hl] at this; exact this) ?_
        tm_run
        refine one k ?_
        show (if isSg q = true then _ else (look S q).bind _) = _
        rw [hs, hl]
        rfl
  · rintro σ' H' ⟨n, v, rfl, rfl, hn⟩
    rw [List.length_map, List.take_length] at hn
    tm_run
    rw [hn] at h
    exact h
end
theorem df_size_of (T : Txt K mg cs) : Df P w K mg base "size_of" 1 ["parts", "sizes"] (sp2 (R_size_of K)) := by
  obtain ⟨f, fd, hm, F, hb⟩ := T.f_size_of.ex
  exact ⟨f, fd, hm, F.kp, hb, ok_size_of F T⟩
def R_least_sizes (K : PySem.W.Frag) : V → Hp → VK → XK → Prop := fun x H Q _ => ∃ (a : Addr) (vs : List V) (rs : List Rl), x = .ref a ∧ SqL K H a vs ∧ RulesAt H vs rs ∧ GoodG rs ∧ ∀ d S H', Same H H' → H d = none → H' d = some (.dK (szK S)) → Done rs S → Q (.ref d) H'
section
set_option hygiene false in
local macro_rules | `(tactic| top_name) => `(tactic| first | refine e_call (df_size_of T) (hr.mono (by decide)) ?_)
theorem ok_least_sizes {f : Addr} {fd : FuncData} (F : Fun K "least_sizes" "least_sizes" s_least_sizes f fd) (T : Txt K mg cs) : FnOk P w K mg base (L2.CX P w) 2 f fd ["rules"] (sp1 (R_least_sizes K)) := by
  refine F.okX sc_least_sizes (fun vs H Q E h => sp1_len h) (fun cdv A outer s H vs Q E hr h => ⟨_, PBw (X := X_least_sizes P w K mg base f cdv A outer s H E), ?_⟩)
  obtain ⟨a0, rfl, h⟩ := h
  have hr' : Room 1 (X_least_sizes P w K mg base f cdv A outer s H E).A := hr
  replace hr := hr'
  clear hr'
  obtain ⟨a, vs, rs, rfl, hS, hR, hG, h⟩ := h
  have h6 : ∀ r ∈ rs, r.parts.length ≤ 6 := fun r hr => (hG.good r hr).few
  tm_run
  intro d H1 s1 n1 k1 e1
  tm_run
  refine s_while (fun m σ' H' => ∃ (S : Szs) (b : Bool) (v3 v4 v5 v6 : Option V), σ' = [some (.ref a), some (.ref d), some (.bl b), v3, v4, v5, v6] ∧ Same H H' ∧ H' d = some (.dK (szK S)) ∧ Grow rs S ∧ (∃ k, S = iterS rs k) ∧ (b = false → ∀ r ∈ rs, betters S r = none) ∧ m = 2 * left S + (if b = true then 1 else 0)) _ ⟨[], true, none, none, none, none, rfl, s1, k1, Grow.nil rs, ⟨0, rfl⟩, (by simp), rfl⟩ ?_
  rintro m σ' H' ⟨S, b, v3, v4, v5, v6, rfl, s2, k2, hg, ⟨k, hk⟩, hb, rfl⟩
  tm_run
  refine iteB (fun hb1 => ?_) fun hb1 => ?_
  · subst hb1
    tm_run
    refine s_for (j_list ?_)
    tm_run
    refine ⟨⟨_, s2.seq hS⟩, _, _, _, walk_list (xs := vs), fun i σ'' H'' => ∃ (S' : Szs) (b : Bool) (v3 v4 v5 v6 : Option V), σ'' = [some (.ref a), some (.ref d), some (.bl b), v3, v4, v5, v6] ∧ Same H H'' ∧ H'' d = some (.dK (szK S')) ∧ Grow rs S' ∧ S' = (rs.take i).foldl stepS S ∧ (if b = true then left S' < left S else S' = S ∧ ∀ r ∈ rs.take i, betters S r = none), ⟨S, false, v3, v4, v5, v6, rfl, s2, k2, hg, rfl, by simp⟩, ?_, ?_, ?_⟩
    · rintro i σ'' H'' hi ⟨_, _, _, _, _, _, _, s3, _⟩
      exact s3.seq hS
    · rintro i x σ'' H'' H3 hi ⟨S', b, v3, v4, v5, v6, rfl, s3, k3, hg', hS', hbb⟩ ⟨rfl, hx⟩
      obtain ⟨r, hr1, hr2⟩ := hR.get i x hx
      have hrm := List.mem_of_getElem? hr1
      obtain ⟨ra, rb, rfl, e1', e2'⟩ := hr2.more s3
      have go : ∀ (S2 : Szs) (b2 : Bool) (H4 : Hp) (w3 w4 w5 w6 : Option V), Same H H4 → H4 d = some (.dK (szK S2)) → Grow rs S2 → S2 = stepS S' r → (if b2 = true then left S2 < left S else S2 = S ∧ betters S' r = none ∧ b = false) →
          ∃ (S3 : Szs) (b : Bool) (v3 v4 v5 v6 : Option V), [some (V.ref a), some (V.ref d), some (V.bl b2), w3, w4, w5, w6] = [some (.ref a), some (.ref d), some (.bl b), v3, v4, v5, v6] ∧ Same H H4 ∧ H4 d = some (.dK (szK S3)) ∧ Grow rs S3 ∧ S3 = (rs.take (i + 1)).foldl stepS S ∧ (if b = true then left S3 < left S else S3 = S ∧ ∀ r ∈ rs.take (i + 1), betters S r = none) := by
        intro S2 b2 H4 w3 w4 w5 w6 q1 q2 q3 q4 q5
        refine ⟨S2, b2, w3, w4, w5, w6, rfl, q1, q2, q3, by rw [take_snoc hr1, List.foldl_append, ← hS', q4]; rfl, ?_⟩
        cases b2 with
        | true => exact q5
        | false =>
          obtain ⟨p1, p2, p3⟩ := q5
          subst p3
          refine ⟨p1, fun x hx => ?_⟩
          rw [take_snoc hr1] at hx
          rcases List.mem_append.mp hx with hx | hx
          · exact hbb.2 x hx
          · rw [List.mem_singleton.mp hx, ← hbb.1]; exact p2
      have stay : betters S' r = none → stepS S' r = S' := fun e => by unfold stepS; rw [e]
      have keep : betters S' r = none → ∀ (w3 w4 w5 w6 : Option V), ∃ (S3 : Szs) (b' : Bool) (v3 v4 v5 v6 : Option V), [some (V.ref a), some (V.ref d), some (V.bl b), w3, w4, w5, w6] = [some (.ref a), some (.ref d), some (.bl b'), v3, v4, v5, v6] ∧ Same H H3 ∧ H3 d = some (.dK (szK S3)) ∧ Grow rs S3 ∧ S3 = (rs.take (i + 1)).foldl stepS S ∧ (if b' = true then left S3 < left S else S3 = S ∧ ∀ r ∈ rs.take (i + 1), betters S r = none) := fun e w3 w4 w5 w6 =>
        go S' b H3 w3 w4 w5 w6 s3 k3 hg' (stay e).symm (by
          cases b with
          | true => exact hbb
          | false => exact ⟨hbb.1, e, rfl⟩)
      have better : ∀ n, betters S' r = some n → ∀ (H4 : Hp), H4 d = some (.dK (putK (szK S') (.inr r.head) (.int ((n : Nat) : Int)))) → (∀ b, b ≠ d → H4 b = H3 b) → ∀ (w3 w4 w5 w6 : Option V), ∃ (S3 : Szs) (b' : Bool) (v3 v4 v5 v6 : Option V), [some (V.ref a), some (V.ref d), some (V.bl true), w3, w4, w5, w6] = [some (.ref a), some (.ref d), some (.bl b'), v3, v4, v5, v6] ∧ Same H H4 ∧ H4 d = some (.dK (szK S3)) ∧ Grow rs S3 ∧ S3 = (rs.take (i + 1)).foldl stepS S ∧ (if b' = true then left S3 < left S else S3 = S ∧ ∀ r ∈ rs.take (i + 1), betters S r = none) := fun n e H4 k4 e4 w3 w4 w5 w6 => by
        have lt := left_step hg' hrm (h6 r hrm) hG.few e
        have es : stepS S' r = putS S' r.head n := by unfold stepS; rw [e]
        rw [putK_sz] at k4
        refine go (putS S' r.head n) true H4 w3 w4 w5 w6 (fun b o q => ?_) k4 (by rw [← es]; exact hg'.step hrm (h6 r hrm)) es.symm ?_
        · rw [e4 b (ne_of_none q n1)]
          exact s3 _ _ q
        · rw [← es]
          show left (stepS S' r) < left S
          cases b with
          | true => exact Nat.lt_trans lt hbb
          | false => rw [hbb.1] at lt; rw [hbb.1]; exact lt
      have hrg := hG.good r hrm
      tm_run
      refine ⟨rb, r.parts, d, S', rfl, SqT.of e2', hrg.parts, rfl, k3, ?_⟩
      cases hm : sizeP S' r.parts with
      | none =>
        have e : betters S' r = none := by unfold betters; rw [hm]
        tm_run
        exact keep e _ _ _ _
      | some m =>
        have few : (szK S').length ≤ 100000 := by
          have := hg'.few
          have := hG.few
          unfold szK
          rw [List.length_map]
          omega
        rw [show natV (some m) = V.int (m : Nat) from rfl]
        tm_run
        refine o_dni (rm1 hr) (dget_sz k3) ?_
        cases hl : look S' r.head with
        | none =>
          have e : betters S' r = some (m + 1) := by unfold betters; rw [hm, hl]
          tm_run
          refine s_asg ?_
          tm_run
          refine g_setD (rm1 hr) ?_
          tm_run
          refine ⟨d, _, .inr r.head, rfl, k3, rfl, few, fun H4 k4 e4 => ?_⟩
          tm_run
          exact better (m + 1) e H4 k4 e4 _ _ _ _
        | some n =>
          tm_run
          refine i_dget (rm1 hr) (v := .int (n : Nat)) (by have := dget_sz (h := r.head) k3; rw [hl] at this; exact this) ?_
          tm_run
          refine iteD (fun c => ?_) fun c => ?_
          · have e : betters S' r = some (m + 1) := by unfold betters; rw [hm, hl]; exact if_pos (by omega)
            tm_run
            refine s_asg ?_
            tm_run
            refine g_setD (rm1 hr) ?_
            tm_run
            refine ⟨d, _, .inr r.head, rfl, k3, rfl, few, fun H4 k4 e4 => ?_⟩
            tm_run
            exact better (m + 1) e H4 k4 e4 _ _ _ _
          · have e : betters S' r = none := by unfold betters; rw [hm, hl]; exact if_neg (by omega)
            tm_run
            exact keep e _ _ _ _
    · rintro σ'' H'' ⟨S', b, v3, v4, v5, v6, rfl, s3, k3, hg', hS', hbb⟩
      have hlen := hR.len
      rw [hlen, List.take_length] at hS' hbb
      have it' : ∃ k, S' = iterS rs k := ⟨k + 1, by rw [hS', hk]; rfl⟩
      tm_run
      cases b with
      | true => exact ⟨_, by have : left S' < left S := hbb; show 2 * left S' + 1 < 2 * left S + 1; omega, S', true, v3, v4, v5, v6, rfl, s3, k3, hg', it', (by simp), rfl⟩
      | false => exact ⟨_, by rw [hbb.1]; show 2 * left S + 0 < 2 * left S + 1; omega, S', false, v3, v4, v5, v6, rfl, s3, k3, hg', it', (fun _ r hr => by rw [hbb.1]; exact hbb.2 r hr), rfl⟩
  · subst hb1
    tm_run
    exact h d S _ s2 n1 k2 ⟨hg, ⟨k, hk⟩, hb rfl⟩
end
theorem df_least_sizes (T : Txt K mg cs) : Df P w K mg base "least_sizes" 2 ["rules"] (sp1 (R_least_sizes K)) := by
  obtain ⟨f, fd, hm, F, hb⟩ := T.f_least_sizes.ex
  exact ⟨f, fd, hm, F.kp, hb, ok_least_sizes F T⟩
def R_least (K : PySem.W.Frag) (cs : Cs) : V → Hp → VK → XK → Prop := fun x H Q E => RG K cs x H E fun a vs rs => ∀ d S H', Same H H' → H d = none → H' d = some (.dK (szK S)) → Done rs S → Q (.ref d) H'
section
set_option hygiene false in
local macro_rules | `(tactic| top_name) => `(tactic| first | refine e_call (df_least_sizes T) (hr.mono (by decide)) ?_ | refine e_call (df_checked T) (hr.mono (by decide)) ?_)
theorem ok_least {f : Addr} {fd : FuncData} (F : Fun K "least" "least" s_least f fd) (T : Txt K mg cs) : FnOk P w K mg base (L2.CX P w) 6 f fd ["grammar"] (sp1 (R_least K cs)) := by
  refine F.okX sc_least (fun vs H Q E h => sp1_len h) (fun cdv A outer s H vs Q E hr h => ⟨_, PBw (X := X_least P w K mg base f cdv A outer s H E), ?_⟩)
  obtain ⟨a0, rfl, h⟩ := h
  have hr' : Room 5 (X_least P w K mg base f cdv A outer s H E).A := hr
  replace hr := hr'
  clear hr'
  tm_run
  rcases h with ⟨a, vs, rs, g, q⟩ | ⟨d, hd, hb, q⟩
  · refine .inl ⟨a, vs, rs, g, fun l H1 s1 n1 k1 => ?_⟩
    tm_run
    refine ⟨l, vs, rs, rfl, SqL.of k1, g.at_.ts (Same.ts s1), g.ok, fun d S H2 s2 n2 k2 hD => ?_⟩
    exact q d S H2 (s1.trans s2) (by
      cases e : H d with
      | none => rfl
      | some o => rw [s1 _ _ e] at n2; cases n2) k2 hD
  · exact .inr ⟨d, hd, hb, q⟩

end
theorem df_least (T : Txt K mg cs) : Df P w K mg base "least" 6 ["grammar"] (sp1 (R_least K cs)) := by
  obtain ⟨f, fd, hm, F, hb⟩ := T.f_least.ex
  exact ⟨f, fd, hm, F.kp, hb, ok_least F T⟩
def abcL : List Nat := [65, 66, 67, 68, 69, 70, 71, 72, 73, 74, 75, 76, 77, 78, 79, 80, 81, 82, 83, 84, 85, 86, 87, 88, 89, 90]
theorem abc_at {i : Int} (h0 : 0 ≤ i) (h1 : i < 26) {L : List Nat} (hL : L = abcL) : ∃ c, atI L i = some c ∧ 65 ≤ c ∧ c ≤ 90 := by
  subst hL
  exact atI_all (P := fun c => 65 ≤ c ∧ c ≤ 90) h0 (by simpa [abcL] using h1) (by decide)
theorem abc_tl : tl (Str.ofString "ABCDEFGHIJKLMNOPQRSTUVWXYZ") = abcL := by decide +kernel
/-- n letters -/
structure Letters (n : Nat) (z : Str) : Prop where
  len : z.length = n
  all : ∀ c ∈ tl z, 65 ≤ c ∧ c ≤ 90
theorem Letters.name {n : Nat} {z : Str} (h : Letters n z) (h1 : 1 ≤ n) (h2 : n ≤ 8) : isNameS z = true := by
  unfold isNameS
  rw [h.len, decide_eq_true h1, decide_eq_true h2]
  simp only [Bool.and_self, Bool.true_and, List.all_eq_true, Bool.and_eq_true, decide_eq_true_eq]
  exact h.all
theorem Letters.snoc {n : Nat} {z : Str} {c : Nat} (h : Letters n z) (h1 : 65 ≤ c) (h2 : c ≤ 90) : Letters (n + 1) (z ++ ⟨#[c]⟩) := by
  refine ⟨?_, fun d hd => ?_⟩
  · rw [len_tl, tl_append, List.length_append, ← len_tl, h.len]
    rfl
  · rw [tl_append] at hd
    rcases List.mem_append.mp hd with q | q
    · exact h.all d q
    · have : d = c := by simpa [tl] using q
      rw [this]
      exact ⟨h1, h2⟩
theorem lenA (x y : Str) : (x ++ y).length = x.length + y.length := by rw [len_tl, tl_append, List.length_append, ← len_tl, ← len_tl]
theorem Letters.zero : Letters 0 (Str.ofString "") := ⟨by decide +kernel, by
  have e : tl (Str.ofString "") = [] := by decide +kernel
  rw [e]
  simp⟩
theorem Letters.one {c : Nat} (h1 : 65 ≤ c) (h2 : c ≤ 90) : Letters 1 ⟨#[c]⟩ := ⟨rfl, fun d hd => by
  have : d = c := by simpa [tl] using hd
  rw [this]
  exact ⟨h1, h2⟩⟩
theorem Letters.app {n m : Nat} {a b : Str} (h : Letters n a) (k : Letters m b) : Letters (n + m) (a ++ b) := ⟨by rw [lenA, h.len, k.len], fun c hc => by
  rw [tl_append] at hc
  rcases List.mem_append.mp hc with q | q
  · exact h.all c q
  · exact k.all c q⟩
theorem Letters.to {n : Nat} {z : Str} {i : Int} (h : Letters n z) (h0 : 0 ≤ i) (h1 : i ≤ n) : Letters i.toNat (cutS z none (some i)) := ⟨by
  rw [len_tl, cutS_to z h0, List.length_take, ← len_tl, h.len]
  omega, fun c hc => by
  rw [cutS_to z h0] at hc
  exact h.all c (List.mem_of_mem_take hc)⟩
theorem Letters.from {n : Nat} {z : Str} {i : Int} (h : Letters n z) (h0 : 0 ≤ i) (h1 : i ≤ n) : Letters (n - i.toNat) (cutS z (some i) none) := ⟨by
  rw [len_tl, cutS_from z h0, List.length_drop, ← len_tl, h.len], fun c hc => by
  rw [cutS_from z h0] at hc
  exact h.all c (List.mem_of_mem_drop hc)⟩
theorem Letters.rep {n k : Nat} {z y : Str} (h : Letters n z) (e : tl y = (List.replicate k (tl z)).flatten) : Letters (k * n) y := ⟨by
  rw [len_tl, e, List.length_flatten, List.map_replicate, List.sum_replicate_nat, ← len_tl, h.len], fun c hc => by
  rw [e] at hc
  obtain ⟨l, hl, hc2⟩ := List.mem_flatten.mp hc
  rw [List.eq_of_mem_replicate hl] at hc2
  exact h.all c hc2⟩
theorem strs_of {ys : List V} {P : Str → Prop} (h : ∀ y ∈ ys, ∃ p, y = .str p ∧ P p) : ∃ ps : List Str, ys = ps.map V.str ∧ ∀ p ∈ ps, P p := by
  induction ys with
  | nil => exact ⟨[], rfl, by simp⟩
  | cons y ys ih =>
    obtain ⟨p, rfl, hp⟩ := h y (List.mem_cons_self ..)
    obtain ⟨ps, rfl, hps⟩ := ih fun z hz => h z (List.mem_cons_of_mem _ hz)
    exact ⟨p :: ps, rfl, fun q hq => by
      rcases List.mem_cons.mp hq with rfl | hq
      · exact hp
      · exact hps q hq⟩
theorem ix_any {H : Hp} {p : Addr} {xs : List V} {i : Int} (k : H p = some (.lst xs)) (P : V → Prop) (hP : ∀ x ∈ xs, P x) (h0 : 0 ≤ i) (h1 : i < xs.length) : ∃ v, atI xs i = some v ∧ P v := atI_all (P := P) h0 h1 hP

def cellAt (ns : List Int) (i : Int) : Int := ns.getD i.toNat 0
theorem get_ints {ns : List Int} {i : Int} (h0 : 0 ≤ i) (h1 : i < ns.length) : atI (ns.map V.int) i = some (.int (cellAt ns i)) := by
  refine atI_nat h0 ?_
  rw [List.getElem?_map, List.getElem?_eq_getElem (by omega)]
  show some (V.int _) = _
  rw [show cellAt ns i = ns[i.toNat] from by unfold cellAt; rw [List.getD_eq_getElem?_getD, List.getElem?_eq_getElem (by omega)]; rfl]
def R_law_cell_at (K : PySem.W.Frag) : V → V → Hp → VK → XK → Prop := fun x y H Q _ => ∃ (a : Addr) (ns : List Int) (i : Int), x = .ref a ∧ SqL K H a (ns.map V.int) ∧ y = .int i ∧ 0 ≤ i ∧ Q (.int (cellAt ns i)) H
section
theorem ok_law_cell_at {f : Addr} {fd : FuncData} (F : Fun K "_law_cell_at" "_law_cell_at" s_law_cell_at f fd) (T : Txt K mg cs) : FnOk P w K mg base (L2.CX P w) 1 f fd ["_law_script", "_law_k"] (sp2 (R_law_cell_at K)) := by
  refine F.okX sc_law_cell_at (fun vs H Q E h => sp2_len h) (fun cdv A outer s H vs Q E hr h => ⟨_, PBw (X := X_law_cell_at P w K mg base f cdv A outer s H E), ?_⟩)
  obtain ⟨a0, a1, rfl, h⟩ := h
  have ib_len := T.b_len
  have hr' : Room 0 (X_law_cell_at P w K mg base f cdv A outer s H E).A := hr
  replace hr := hr'
  clear hr'
  obtain ⟨a, ns, i, rfl, hS, rfl, h0, h⟩ := h
  wp_step
  refine k_lenL hS ?_
  wp_step
  rw [List.length_map]
  refine iteD (fun c => ?_) fun c => ?_
  · wp_step
    refine i_lst hS (get_ints h0 c) ?_
    exact h
  · wp_step
    have e : cellAt ns i = 0 := by
      unfold cellAt
      rw [List.getD_eq_getElem?_getD, List.getElem?_eq_none (by omega)]
      rfl
    rw [e] at h
    exact h
end
theorem df_law_cell_at (T : Txt K mg cs) : Df P w K mg base "_law_cell_at" 1 ["_law_script", "_law_k"] (sp2 (R_law_cell_at K)) := by
  obtain ⟨f, fd, hm, F, hb⟩ := T.f_law_cell_at.ex
  exact ⟨f, fd, hm, F.kp, hb, ok_law_cell_at F T⟩
def R_law_whole (K : PySem.W.Frag) : V → Hp → VK → XK → Prop := fun x H Q _ => ∃ d, Th K H x d ∧ Q (.bl (isWholeD d)) H
section
theorem ok_law_whole {f : Addr} {fd : FuncData} (F : Fun K "_law_whole" "_law_whole" s_law_whole f fd) (T : Txt K mg cs) : FnOk P w K mg base (L2.CX P w) 1 f fd ["_law_found"] (sp1 (R_law_whole K)) := by
  refine F.okX sc_law_whole (fun vs H Q E h => sp1_len h) (fun cdv A outer s H vs Q E hr h => ⟨_, PBw (X := X_law_whole P w K mg base f cdv A outer s H E), ?_⟩)
  obtain ⟨a0, rfl, h⟩ := h
  have ib_isinstance := T.b_isinstance
  have ib_int := T.b_int
  have ib_bool := T.b_bool
  have hr' : Room 0 (X_law_whole P w K mg base f cdv A outer s H E).A := hr
  replace hr := hr'
  clear hr'
  obtain ⟨d, hd, h⟩ := h
  wp_step
  refine e_andJ (d := !isK d "bool") ?_
  wp_step
  refine k_isInt hd ⟨_, rfl, fun _ Q' q => ?_, h⟩
  wp_step
  refine k_isBool hd ?_
  wp_step
  exact q

end
theorem df_law_whole (T : Txt K mg cs) : Df P w K mg base "_law_whole" 1 ["_law_found"] (sp1 (R_law_whole K)) := by
  obtain ⟨f, fd, hm, F, hb⟩ := T.f_law_whole.ex
  exact ⟨f, fd, hm, F.kp, hb, ok_law_whole F T⟩
def someS : Str := (Str.ofString " !\"#$&'()*+,-./0123456789:;<=>?@ABCDEFGHIJKLMNOPQRSTUVWXYZ[\\]^_`") ++ (Str.ofString "abcdefghijklmnopqrstuvwxyz{|}~")
theorem some_len : someS.length = 94 := by decide +kernel
theorem some_ok : (tl someS).all okc = true := by decide +kernel
theorem some_at {i : Int} (h0 : 0 ≤ i) (h1 : i < 94) : ∃ c, atI (tl someS) i = some c ∧ okc c = true :=
  atI_all (P := fun c => okc c = true) h0 (by rw [← len_tl, some_len]; exact h1) fun c hc => List.all_eq_true.mp some_ok c hc
theorem mem_some (c : Nat) : decide (c ∈ tl someS) = okc c := by
  by_cases h : c < 127
  · exact (by decide +kernel : ∀ m : Fin 127, decide ((m : Nat) ∈ tl someS) = okc m) ⟨c, h⟩
  · have e1 : okc c = false := by
      show (decide (32 ≤ c) && (decide (c ≤ 126) && _)) = false
      rw [decide_eq_false (show ¬ c ≤ 126 by omega), Bool.false_and, Bool.and_false]
    rw [e1]
    exact decide_eq_false fun q => h ((by decide +kernel : ∀ x ∈ tl someS, x < 127) c q)
theorem one_len (c : Nat) : (⟨#[c]⟩ : Str).length = 1 := rfl
theorem cutS_to_len (z : Str) {i : Int} (h : 0 ≤ i) : (cutS z none (some i)).length ≤ z.length := by
  rw [len_tl, cutS_to z h, len_tl]
  exact List.length_take_le' ..
theorem cutS_from_len (z : Str) {i : Int} (h : 0 ≤ i) : (cutS z (some i) none).length ≤ z.length := by
  rw [len_tl, cutS_from z h, len_tl, List.length_drop]
  omega
def R_law_mixed (K : PySem.W.Frag) : V → V → Hp → VK → XK → Prop := fun x y H Q _ => ∃ (a : Addr) (ns : List Int) (i : Int), x = .ref a ∧ SqL K H a (ns.map V.int) ∧ y = .int i ∧ 0 ≤ i ∧ i ≤ 1000 ∧ ∀ j, 0 ≤ j → j < 2147483647 → Q (.int j) H
section
set_option hygiene false in
local macro_rules | `(tactic| top_name) => `(tactic| first | refine e_call (df_law_cell_at T) (hr.mono (by decide)) ?_)
theorem ok_law_mixed {f : Addr} {fd : FuncData} (F : Fun K "_law_mixed" "_law_mixed" s_law_mixed f fd) (T : Txt K mg cs) : FnOk P w K mg base (L2.CX P w) 2 f fd ["_law_script", "_law_k"] (sp2 (R_law_mixed K)) := by
  refine F.okX sc_law_mixed (fun vs H Q E h => sp2_len h) (fun cdv A outer s H vs Q E hr h => ⟨_, PBw (X := X_law_mixed P w K mg base f cdv A outer s H E), ?_⟩)
  obtain ⟨a0, a1, rfl, h⟩ := h
  have hr' : Room 1 (X_law_mixed P w K mg base f cdv A outer s H E).A := hr
  replace hr := hr'
  clear hr'
  obtain ⟨a, ns, i, rfl, hS, rfl, h0, h1, h⟩ := h
  tm_run
  refine ⟨_, _, _, rfl, hS, rfl, h0, ?_⟩
  generalize hj : cellAt ns i = j
  have m0 : 0 ≤ j % 2147483629 := Int.emod_nonneg _ (by decide)
  have m1 : j % 2147483629 < 2147483629 := Int.emod_lt_of_pos _ (by decide)
  tm_run
  refine o_mulS (.inl ⟨by omega, by omega⟩) ?_
  tm_run
  refine o_mulS (.inl ⟨by omega, by omega⟩) ?_
  tm_run
  refine o_mulS (.inl ⟨by omega, by omega⟩) ?_
  tm_run
  refine o_mulS (.inr ⟨by omega, by omega⟩) ?_
  tm_run
  exact h _ (Int.emod_nonneg _ (by decide)) (Int.emod_lt_of_pos _ (by decide))
end
theorem df_law_mixed (T : Txt K mg cs) : Df P w K mg base "_law_mixed" 2 ["_law_script", "_law_k"] (sp2 (R_law_mixed K)) := by
  obtain ⟨f, fd, hm, F, hb⟩ := T.f_law_mixed.ex
  exact ⟨f, fd, hm, F.kp, hb, ok_law_mixed F T⟩
theorem len_to (z : Str) {i : Int} (h : 0 ≤ i) : (cutS z none (some i)).length = min i.toNat z.length := by rw [len_tl, cutS_to z h, List.length_take, ← len_tl]
theorem len_from (z : Str) {i : Int} (h : 0 ≤ i) : (cutS z (some i) none).length = z.length - i.toNat := by rw [len_tl, cutS_from z h, List.length_drop, ← len_tl]

def R_law_names (K : PySem.W.Frag) : V → Hp → VK → XK → Prop := fun x H Q _ => ∃ i, x = .int i ∧ 0 ≤ i ∧ i < 2147483647 ∧ ∀ (l : Addr) (H' : Hp) (ns : List Str), Same H H' → H' l = some (.lst (ns.map V.str)) → ns.length = 4 → (∀ z ∈ ns, isNameS z = true) → Q (.ref l) H'
section
theorem ok_law_names {f : Addr} {fd : FuncData} (F : Fun K "_law_names" "_law_names" s_law_names f fd) (T : Txt K mg cs) : FnOk P w K mg base (L2.CX P w) 1 f fd ["_law_cell"] (sp1 (R_law_names K)) := by
  refine F.okX sc_law_names (fun vs H Q E h => sp1_len h) (fun cdv A outer s H vs Q E hr h => ⟨_, PBw (X := X_law_names P w K mg base f cdv A outer s H E), ?_⟩)
  obtain ⟨a0, rfl, h⟩ := h
  have ib_range := T.b_range
  have ib_len := T.b_len
  have hr' : Room 0 (X_law_names P w K mg base f cdv A outer s H E).A := hr
  replace hr := hr'
  clear hr'
  obtain ⟨i, rfl, h0, h1, h⟩ := h
  have fin : ∀ (l : Addr) (H' : Hp) (ys : List V), Same H H' → H l = none → H' l = some (.lst ys) → ys.length = 4 → (∀ (i : Nat) (y : V), ys[i]? = some y → ∃ z, y = .str z ∧ isNameS z = true) → Q (.ref l) H' := fun l H' ys s n k e hy => by
    obtain ⟨ps, rfl, hps⟩ := strs_of (P := fun z => isNameS z = true) fun y hm => by
      obtain ⟨j, hj⟩ := List.mem_iff_getElem?.mp hm
      exact hy j y hj
    rw [List.length_map] at e
    exact h l H' ps s k e hps
  wp_step
  refine iteD (fun c => ?_) fun c => ?_
  · wp_step
    refine e_lcP (blkOk_by (sc := defScope s_law_names) (own := [("_law_k", 3)]) (by decide +kernel)) (fun _ y => ∃ z, y = .str z ∧ isNameS z = true) (j_rng1 ?_)
    wp_step
    refine ⟨by decide, by decide, _, _, _, walk_range, by decide, fun _ _ => trivial, ?_, fin⟩
    rintro n x H' H2 hn s' ⟨rfl, rfl⟩
    have hn4 : n < 4 := hn
    refine ⟨Same.refl _, fun _ _ _ _ _ => ?_⟩
    wp_step
    refine ⟨Same.refl _, fun _ _ _ _ _ => ?_⟩
    wp_step
    obtain ⟨ch, e1, e2, e3⟩ := abc_at (i := i % 23) (by omega) (by omega) abc_tl
    refine i_str (by decide +kernel) e1 ?_
    wp_step
    refine o_mulS (.inl ⟨by decide, by decide⟩) ?_
    wp_step
    refine o_repS (by omega) (by omega) (by show 1 ≤ 100; decide) fun y hy => ?_
    have L := (Letters.one e2 e3).rep hy
    rw [Nat.mul_one] at L
    exact ⟨⟨y, rfl, L.name (by omega) (by omega)⟩, Same.refl _⟩
  · wp_step
    refine s_for (j_rng1 ?_)
    wp_step
    refine ⟨by omega, by omega, _, _, _, walk_range, fun n σ' H' => ∃ (z : Str) (v : Option V), σ' = [some (.int (i / 23)), some (.str "ABCDEFGHIJKLMNOPQRSTUVWXYZ"), some (.int (i % 23)), v, some (.str z), none] ∧ H' = H ∧ Letters n z, ⟨_, _, rfl, rfl, Letters.zero⟩, fun _ _ _ _ _ => trivial, ?_, ?_⟩
    · rintro n x σ' H' H2 hn ⟨z, v, rfl, rfl, hz⟩ ⟨rfl, rfl⟩
      wp_step
      refine o_mulS (.inl ⟨by omega, by omega⟩) ?_
      wp_step
      obtain ⟨ch, e1, e2, e3⟩ := abc_at (i := i / 23 * (0 + (n : Int) + 3) / 7 % 26) (by omega) (by omega) abc_tl
      refine i_str (by decide +kernel) e1 ?_
      refine o_cat (by
        have : (⟨#[ch]⟩ : Str).length = 1 := rfl
        rw [hz.len, this, sizeLine_eq]
        omega) ?_
      wp_step
      first | exact hz.snoc e2 e3 | exact ⟨_, _, rfl, rfl, hz.snoc e2 e3⟩
    · rintro σ' H' ⟨z, v, rfl, rfl, hz⟩
      have hzl := hz.len
      wp_step
      refine k_lenS (by rw [sizeLine_eq]; omega) ?_
      wp_step
      refine o_mod (by omega) ?_
      have a0 : 0 ≤ i / 23 / 32 % ((z.length : Int) + 1) := Int.emod_nonneg _ (by omega)
      have a1 : i / 23 / 32 % ((z.length : Int) + 1) < (z.length : Int) + 1 := Int.emod_lt_of_pos _ (by omega)
      generalize i / 23 / 32 % ((z.length : Int) + 1) = at' at *
      wp_step
      refine e_lcP (blkOk_by (sc := defScope s_law_names) (own := [("_law_k", 3)]) (by decide +kernel)) (fun _ y => ∃ z, y = .str z ∧ isNameS z = true) (j_rng1 ?_)
      wp_step
      refine ⟨by decide, by decide, _, _, _, walk_range, by decide, fun _ _ => trivial, ?_, fin⟩
      rintro n x H' H2 hn s' ⟨rfl, rfl⟩
      have hn4 : n < 4 := hn
      refine ⟨Same.refl _, fun _ _ _ _ _ => ?_⟩
      wp_step
      refine ⟨Same.refl _, fun _ _ _ _ _ => ?_⟩
      wp_step
      refine n_str (by rw [sizeLine_eq]; omega) ?_
      wp_step
      obtain ⟨ch, e1, e2, e3⟩ := abc_at (i := i % 23 + (0 + (n : Int))) (by omega) (by omega) abc_tl
      refine i_str (by decide +kernel) e1 ?_
      have L1 := hz.to a0 (by omega)
      have L2 := L1.app (Letters.one e2 e3)
      have L3 := L2.app (hz.from a0 (by omega))
      refine o_cat (by
        have : (⟨#[ch]⟩ : Str).length = 1 := rfl
        rw [L1.len, this, sizeLine_eq]
        omega) ?_
      wp_step
      refine n_str (by rw [sizeLine_eq]; omega) ?_
      refine o_cat (by rw [L2.len, (hz.from a0 (by omega)).len, sizeLine_eq]; omega) ?_
      exact ⟨⟨_, rfl, L3.name (by omega) (by omega)⟩, Same.refl _⟩

end
theorem df_law_names (T : Txt K mg cs) : Df P w K mg base "_law_names" 1 ["_law_cell"] (sp1 (R_law_names K)) := by
  obtain ⟨f, fd, hm, F, hb⟩ := T.f_law_names.ex
  exact ⟨f, fd, hm, F.kp, hb, ok_law_names F T⟩
theorem inV_str (h : Str) : ∀ hs : List Str, inV (.str h) (hs.map V.str) = decide (h ∈ hs)
  | [] => rfl
  | a :: hs => by
    have ih := inV_str h hs
    unfold inV at ih ⊢
    rw [List.map_cons, List.any_cons, ih]
    have e : eqV (.str a) (.str h) = decide (a = h) := by
      by_cases q : a = h
      · subst q
        rw [decide_eq_true rfl]
        simp [eqV]
      · rw [decide_eq_false q]
        simp [eqV, q]
    rw [e]
    by_cases q : a = h
    · subst q; simp
    · have q2 : ¬ h = a := fun z => q z.symm
      simp [q, q2]
theorem o_niL {X : Cx} {H : Hp} {Q : VK} {p : Addr} {h : Str} {hs : List Str} (k : SqL X.K H p (hs.map V.str)) (q : Q (.bl (!decide (h ∈ hs))) H) : oW X (compareOp .NotIn) (.str h) (.ref p) H Q :=
  oI op_notIn_seq ⟨p, _, rfl, .inl k, rfl, by
    rw [List.all_map]
    exact List.all_eq_true.mpr fun _ _ => rfl, by
    rw [if_pos rfl, inV_str]
    exact q⟩

def R_law_signs (K : PySem.W.Frag) : V → Hp → VK → XK → Prop := fun x H Q _ => ∃ i, x = .int i ∧ 0 ≤ i ∧ ∀ (l : Addr) (H' : Hp) (cs : List Nat), Same H H' → H l = none → H' l = some (.lst (cs.map fun c => V.str ⟨#[c]⟩)) → cs.length = 3 → (∀ c ∈ cs, okc c = true) → Q (.ref l) H'
section
theorem ok_law_signs {f : Addr} {fd : FuncData} (F : Fun K "_law_signs" "_law_signs" s_law_signs f fd) (T : Txt K mg cs) : FnOk P w K mg base (L2.CX P w) 1 f fd ["_law_cell"] (sp1 (R_law_signs K)) := by
  refine F.okX sc_law_signs (fun vs H Q E h => sp1_len h) (fun cdv A outer s H vs Q E hr h => ⟨_, PBw (X := X_law_signs P w K mg base f cdv A outer s H E), ?_⟩)
  obtain ⟨a0, rfl, h⟩ := h
  have hr' : Room 0 (X_law_signs P w K mg base f cdv A outer s H E).A := hr
  replace hr := hr'
  clear hr'
  obtain ⟨i, rfl, h0, h⟩ := h
  tm_run
  refine o_cat (by decide +kernel) ?_
  tm_run
  obtain ⟨c1, e1, q1⟩ := some_at (i := i % 94) (Int.emod_nonneg _ (by decide)) (Int.emod_lt_of_pos _ (by decide))
  refine i_str (z := someS) (by decide +kernel) e1 ?_
  tm_run
  obtain ⟨c2, e2, q2⟩ := some_at (i := (i + 1 + i / 94 % 46) % 94) (Int.emod_nonneg _ (by decide)) (Int.emod_lt_of_pos _ (by decide))
  refine i_str (z := someS) (by decide +kernel) e2 ?_
  tm_run
  obtain ⟨c3, e3, q3⟩ := some_at (i := (i + 47 + i / 4324 % 46) % 94) (Int.emod_nonneg _ (by decide)) (Int.emod_lt_of_pos _ (by decide))
  refine i_str (z := someS) (by decide +kernel) e3 ?_
  tm_run
  intro l H1 s1 n1 k1 _
  exact h l H1 [c1, c2, c3] s1 n1 k1 rfl (by simp [q1, q2, q3])
end
theorem df_law_signs (T : Txt K mg cs) : Df P w K mg base "_law_signs" 1 ["_law_cell"] (sp1 (R_law_signs K)) := by
  obtain ⟨f, fd, hm, F, hb⟩ := T.f_law_signs.ex
  exact ⟨f, fd, hm, F.kp, hb, ok_law_signs F T⟩
def R_law_worth : V → Hp → VK → XK → Prop := fun x H Q _ => ∃ i, x = .int i ∧ ∀ n, 0 ≤ n → n ≤ top60 → Q (.int n) H
section
theorem ok_law_worth {f : Addr} {fd : FuncData} (F : Fun K "_law_worth" "_law_worth" s_law_worth f fd) (T : Txt K mg cs) : FnOk P w K mg base (L2.CX P w) 1 f fd ["_law_cell"] (sp1 (R_law_worth)) := by
  refine F.okX sc_law_worth (fun vs H Q E h => sp1_len h) (fun cdv A outer s H vs Q E hr h => ⟨_, PBw (X := X_law_worth P w K mg base f cdv A outer s H E), ?_⟩)
  obtain ⟨a0, rfl, h⟩ := h
  have hr' : Room 0 (X_law_worth P w K mg base f cdv A outer s H E).A := hr
  replace hr := hr'
  clear hr'
  obtain ⟨i, rfl, h⟩ := h
  have z : ∀ n, 0 ≤ n → n ≤ (1000000000000000000000000000000000000000000000000000000000000 : Int) → Q (.int n) H := h
  tm_run
  refine iteD (fun c => ?_) fun c => ?_
  · tm_run
    exact z _ (by omega) (by omega)
  · tm_run
    exact z _ (by omega) (by omega)
end
theorem df_law_worth (T : Txt K mg cs) : Df P w K mg base "_law_worth" 1 ["_law_cell"] (sp1 (R_law_worth)) := by
  obtain ⟨f, fd, hm, F, hb⟩ := T.f_law_worth.ex
  exact ⟨f, fd, hm, F.kp, hb, ok_law_worth F T⟩
def R_law_parts (K : PySem.W.Frag) : V → V → V → Hp → VK → XK → Prop := fun x y z H Q _ => ∃ (i m : Int) (l : Addr) (ps : List Str), x = .int i ∧ y = .ref l ∧ H l = some (.lst (ps.map V.str)) ∧ z = .int m ∧ 0 ≤ m ∧ m ≤ 6 ∧ 0 ≤ i ∧ 0 < ps.length ∧ ps.length ≤ 1000 ∧ ∀ (t : Addr) (H' : Hp) (qs : List Str), Same H H' → H' t = some (.tup (qs.map V.str)) → qs.length ≤ 6 → (qs.length : Int) ≤ m → (∀ q ∈ qs, q ∈ ps) → Q (.ref t) H'
section
theorem ok_law_parts {f : Addr} {fd : FuncData} (F : Fun K "_law_parts" "_law_parts" s_law_parts f fd) (T : Txt K mg cs) : FnOk P w K mg base (L2.CX P w) 1 f fd ["_law_cell", "_law_menu", "_law_most"] (sp3 (R_law_parts K)) := by
  refine F.okX sc_law_parts (fun vs H Q E h => sp3_len h) (fun cdv A outer s H vs Q E hr h => ⟨_, PBw (X := X_law_parts P w K mg base f cdv A outer s H E), ?_⟩)
  obtain ⟨a0, a1, a2, rfl, h⟩ := h
  have ib_range := T.b_range
  have ib_tuple := T.b_tuple
  have ib_len := T.b_len
  have hr' : Room 0 (X_law_parts P w K mg base f cdv A outer s H E).A := hr
  replace hr := hr'
  clear hr'
  obtain ⟨i, m, l, ps, rfl, rfl, hl, rfl, m0, m6, i0, hp, hp2, h⟩ := h
  tm_run
  refine o_mod (by omega) ?_
  tm_run
  have a0 : 0 ≤ i % (m + 1) := Int.emod_nonneg _ (by omega)
  have a1 : i % (m + 1) < m + 1 := Int.emod_lt_of_pos _ (by omega)
  generalize i % (m + 1) = sz at *
  refine o_div ⟨by omega, by omega⟩ ?_
  tm_run
  intro l1 H1 s1 n1 k1 e1
  tm_run
  refine s_for (j_rng1 ?_)
  tm_run
  have d0 : 0 ≤ i / (m + 1) := Int.ediv_nonneg i0 (by omega)
  generalize i / (m + 1) = j0 at *
  refine ⟨by omega, by omega, _, _, _, walk_range, fun n σ' H' => ∃ (j : Int) (qs : List Str) (v : Option V), σ' = [some (.int j), some (.ref l), some (.int m), some (.int sz), some (.ref l1), v] ∧ 0 ≤ j ∧ Same H H' ∧ H' l1 = some (.lst (qs.map V.str)) ∧ qs.length = n ∧ (∀ q ∈ qs, q ∈ ps), ⟨j0, [], none, rfl, d0, s1, k1, rfl, by simp⟩, fun _ _ _ _ _ => trivial, ?_, ?_⟩
  · rintro n x σ' H' H2 hn ⟨j, qs, v, rfl, hj, s2, k2, hq, hqs⟩ ⟨rfl, rfl⟩
    tm_run
    refine ⟨ty_l k2, ?_⟩
    tm_run
    refine o_mod (by simp only [List.length_map]; omega) ?_
    simp only [List.length_map]
    have b0 : 0 ≤ j % (ps.length : Int) := Int.emod_nonneg _ (by omega)
    have b1 : j % (ps.length : Int) < ps.length := Int.emod_lt_of_pos _ (by omega)
    obtain ⟨v, hv, q, rfl, hqm⟩ := ix_any (i := j % (ps.length : Int)) (s2 _ _ hl) (fun v => ∃ q, v = .str q ∧ q ∈ ps) (fun x hx => by
      obtain ⟨q, h1, h2⟩ := List.mem_map.mp hx
      exact ⟨q, h2.symm, h1⟩) b0 (by rw [List.length_map]; exact b1)
    refine i_lst (SqL.of (s2 _ _ hl)) hv ?_
    tm_run
    refine m_append k2 (by rw [List.length_map]; omega) fun H3 k3 e3 => ?_
    tm_run
    have s3 : Same H H3 := fun b o e => by
      rw [e3 b (ne_of_none e n1)]
      exact s2 _ _ e
    refine k_lenL (SqL.of (s3 _ _ hl)) ?_
    refine o_div ⟨by simp only [List.length_map]; omega, by simp only [List.length_map]; omega⟩ ?_
    tm_run
    rw [List.length_map]
    exact ⟨_, qs ++ [q], _, rfl, Int.ediv_nonneg hj (by omega), s3, by rw [k3, List.map_append]; rfl, by rw [List.length_append, hq]; rfl, fun y hy => by
      rcases List.mem_append.mp hy with z | z
      · exact hqs y z
      · rw [List.mem_singleton.mp z]; exact hqm⟩
  · rintro σ' H' ⟨j, qs, v, rfl, hj, s2, k2, hq, hqs⟩
    tm_run
    refine k_tupL (SqL.of k2) fun t H3 s3 n3 k3 _ => ?_
    exact h t H3 qs (s2.trans s3) k3 (by omega) (by omega) hqs

end
theorem df_law_parts (T : Txt K mg cs) : Df P w K mg base "_law_parts" 1 ["_law_cell", "_law_menu", "_law_most"] (sp3 (R_law_parts K)) := by
  obtain ⟨f, fd, hm, F, hb⟩ := T.f_law_parts.ex
  exact ⟨f, fd, hm, F.kp, hb, ok_law_parts F T⟩
theorem rule_part {c : Nat} (h : okc c = true) : isPartS (Str.ofString "'" ++ ⟨#[c]⟩) = true := by
  have e : tl (Str.ofString "'" ++ ⟨#[c]⟩) = [39, c] := by rw [tl_append, tl_q]; rfl
  show (isSignL (tl _) || _) = true
  rw [e]
  simp [isSignL, h]
theorem bare_part {c : Nat} (h : okc c = true) : isPartS (Str.ofString "'" ++ ⟨#[c]⟩) = true ∧ isSg (Str.ofString "'" ++ ⟨#[c]⟩) = true := by
  refine ⟨rule_part h, ?_⟩
  have e : tl (Str.ofString "'" ++ ⟨#[c]⟩) = [39, c] := by rw [tl_append, tl_q]; rfl
  unfold isSg
  rw [e]
  rfl
theorem q1len : (Str.ofString "'").length = 1 := by decide +kernel
def R_law_bare (K : PySem.W.Frag) : V → V → V → Hp → VK → XK → Prop := fun x y z H Q _ => ∃ (a : Addr) (ns : List Int) (i m : Int), x = .ref a ∧ SqL K H a (ns.map V.int) ∧ ns.length ≤ 63 ∧ y = .int i ∧ 0 ≤ i ∧ i ≤ 60 ∧ z = .int m ∧ 0 ≤ m ∧ m ≤ 6 ∧ ∀ l vs rs H', Same H H' → H' l = some (.lst vs) → RulesAt H' vs rs → GoodG rs → (∃ nms : List Str, nms.length ≤ 4 ∧ (∀ r ∈ rs, r.head ∈ nms) ∧ (∀ r ∈ rs, ∀ p ∈ r.parts, isSg p = false → p ∈ nms) ∧ ∀ r ∈ rs, (r.parts.length : Int) ≤ m) → Q (.ref l) H'
section
set_option hygiene false in
local macro_rules | `(tactic| top_name) => `(tactic| first | refine e_call (df_law_names T) (hr.mono (by decide)) ?_ | refine e_call (df_law_mixed T) (hr.mono (by decide)) ?_ | refine e_call (df_law_signs T) (hr.mono (by decide)) ?_ | refine e_call (df_law_parts T) (hr.mono (by decide)) ?_ | refine e_call (df_law_worth T) (hr.mono (by decide)) ?_ | refine e_call (df_law_cell_at T) (hr.mono (by decide)) ?_)
theorem ok_law_bare {f : Addr} {fd : FuncData} (F : Fun K "_law_bare" "_law_bare" s_law_bare f fd) (T : Txt K mg cs) : FnOk P w K mg base (L2.CX P w) 3 f fd ["_law_script", "_law_many", "_law_most"] (sp3 (R_law_bare K)) := by
  refine F.okX sc_law_bare (fun vs H Q E h => sp3_len h) (fun cdv A outer s H vs Q E hr h => ⟨_, PBw (X := X_law_bare P w K mg base f cdv A outer s H E), ?_⟩)
  obtain ⟨a0, a1, a2, rfl, h⟩ := h
  have ib_range := T.b_range
  have ib_min := T.b_min
  have ib_max := T.b_max
  have ib_len := T.b_len
  have hr' : Room 2 (X_law_bare P w K mg base f cdv A outer s H E).A := hr
  replace hr := hr'
  clear hr'
  obtain ⟨a, ns, i, m, rfl, hS, hlen, rfl, i0, i60, rfl, m0, m6, h⟩ := h
  tm_run
  refine ⟨_, _, _, rfl, hS, rfl, by decide, by decide, fun j j0 j1 => ?_⟩
  tm_run
  refine ⟨j0, j1, fun l1 H1 nms s1 k1 hn hnm => ?_⟩
  tm_run
  refine s_setLcP (blkOk_by (sc := defScope s_law_bare) (own := [("_law_sign", 5)]) (by decide +kernel)) (fun _ y => ∃ p, y = .str p ∧ isPartS p = true ∧ isSg p = true) (j_list ?_)
  tm_run
  refine ⟨_, _, _, rfl, s1.seq hS, rfl, by decide, by decide, fun jj jj0 jj1 => ?_⟩
  tm_run
  refine ⟨jj0, fun l2 H2 cs s2 n2 k2 hc hcs => ?_⟩
  tm_run
  refine ⟨⟨_, SqL.of k2⟩, _, _, _, walk_list (xs := cs.map fun c => V.str ⟨#[c]⟩), by rw [List.length_map]; omega, fun H' s' => SqL.of (s' _ _ k2), ?_, ?_⟩
  · rintro n x H' H2 hn s' ⟨rfl, hx⟩
    obtain ⟨c, hc1, rfl⟩ := map_get hx
    refine ⟨Same.refl _, fun _ _ _ _ _ => ?_⟩
    tm_run
    refine ⟨Same.refl _, fun _ _ _ _ _ => ?_⟩
    tm_run
    refine o_cat (by rw [q1len, one_len, sizeLine_eq]; decide) ?_
    exact ⟨⟨_, rfl, bare_part (hcs c (List.mem_of_getElem? hc1))⟩, Same.refl _⟩
  intro l3 H3 ys s3 n3 k3 e3 hy
  obtain ⟨ps, rfl, hps⟩ := strs_of (P := fun p => isPartS p = true ∧ isSg p = true) fun y hm => by
    obtain ⟨j, hj⟩ := List.mem_iff_getElem?.mp hm
    exact hy j y hj
  rw [List.length_map, List.length_map, hc] at e3
  have k1' := s3 _ _ (s2 _ _ k1)
  tm_run
  refine o_catL k1' k3 (by simp only [List.length_map]; omega) fun l4 H4 s4 n4 k4 _ => ?_
  tm_run
  obtain ⟨p0, hp0⟩ : ∃ p0, ps[0]? = some p0 := ⟨_, List.getElem?_eq_getElem (by omega)⟩
  refine i_lst (SqL.of (s4 _ _ k3)) (v := .str p0) (atI_nat (by decide) (by show (ps.map V.str)[0]? = _; rw [List.getElem?_map, hp0]; rfl)) ?_
  tm_run
  intro l5 H5 s5 n5 k5 _
  tm_run
  refine o_catL (s5 _ _ k4) k5 (by simp only [List.length_append, List.length_map, List.length_cons, List.length_nil]; omega) fun l6 H6 s6 n6 k6 _ => ?_
  obtain ⟨mn, emn, hmn, lmn⟩ : ∃ mn : List Str, (nms.map V.str ++ ps.map V.str ++ [V.str p0]) = mn.map V.str ∧ (∀ p ∈ mn, isPartS p = true ∧ (isSg p = false → p ∈ nms)) ∧ mn.length = 8 := ⟨nms ++ ps ++ [p0], by simp, fun p hp => by
    rcases List.mem_append.mp hp with hp | hp
    · rcases List.mem_append.mp hp with hp | hp
      · exact ⟨by rw [isPartS, hnm p hp, Bool.or_true], fun _ => hp⟩
      · exact ⟨(hps p hp).1, fun q => by rw [(hps p hp).2] at q; cases q⟩
    · rw [List.mem_singleton.mp hp]
      have := hps p0 (List.mem_of_getElem? hp0)
      exact ⟨this.1, fun q => by rw [this.2] at q; cases q⟩, by simp; omega⟩
  rw [emn] at k6
  tm_run
  intro l7 H7 s7 n7 k7 _
  have s17 : Same H1 H7 := by kby_none
  have sH7 : Same H H7 := s1.trans s17
  have nn : H l7 = none := by
    cases e : H l7 with
    | none => rfl
    | some o => rw [(s1.trans (s2.trans (s3.trans (s4.trans (s5.trans s6))))) _ _ e] at n7; cases n7
  have k17 : H7 l1 = some (.lst (nms.map V.str)) := s17 _ _ k1
  have k67 : H7 l6 = some (.lst (mn.map V.str)) := s7 _ _ k6
  have ne1 : l1 ≠ l7 := fun z => by rw [z] at k1; rw [(s2.trans (s3.trans (s4.trans (s5.trans s6)))) _ _ k1] at n7; cases n7
  have ne6 : l6 ≠ l7 := fun z => by rw [z, n7] at k6; cases k6
  tm_run
  refine s_for (j_rng1 ?_)
  tm_run
  have hb : (if (if (((List.map V.int ns).length : Int) - 2) > 0 then (((List.map V.int ns).length : Int) - 2) else 0) < i then (if (((List.map V.int ns).length : Int) - 2) > 0 then (((List.map V.int ns).length : Int) - 2) else 0) else i) ≤ 60 ∧ 0 ≤ (if (if (((List.map V.int ns).length : Int) - 2) > 0 then (((List.map V.int ns).length : Int) - 2) else 0) < i then (if (((List.map V.int ns).length : Int) - 2) > 0 then (((List.map V.int ns).length : Int) - 2) else 0) else i) := by
    constructor
    · split
      · omega
      · omega
    · split
      · split <;> omega
      · omega
  generalize (if (if (((List.map V.int ns).length : Int) - 2) > 0 then (((List.map V.int ns).length : Int) - 2) else 0) < i then (if (((List.map V.int ns).length : Int) - 2) > 0 then (((List.map V.int ns).length : Int) - 2) else 0) else i) = M at *
  refine ⟨by omega, by omega, _, _, _, walk_range, fun n σ' H' => ∃ (vs : List V) (rs : List Rl) (v5 v8 v9 : Option V), σ' = [some (.ref a), some (.int i), some (.int m), some (.ref l1), some (.ref l3), v5, some (.ref l6), some (.ref l7), v8, v9] ∧ Same H H' ∧ (∀ b o, b ≠ l7 → H7 b = some o → H' b = some o) ∧ H' l7 = some (.lst vs) ∧ RulesAt H' vs rs ∧ rs.length = n ∧ (∀ r ∈ rs, GoodR r) ∧ (∀ r ∈ rs, r.head ∈ nms) ∧ (∀ r ∈ rs, (∀ p ∈ r.parts, isSg p = false → p ∈ nms) ∧ (r.parts.length : Int) ≤ m), ⟨[], [], none, none, none, rfl, sH7, fun _ _ _ e => e, k7, RulesAt.nil, rfl, by simp, by simp, by simp⟩, fun _ _ _ _ _ => trivial, ?_, ?_⟩
  · rintro n x σ' H' H8 hn ⟨vs, rs, v5, v8, v9, rfl, s8, e8, k8, hR, hl, hg, hm4, hm5⟩ ⟨rfl, rfl⟩
    have hvl := hR.len
    tm_run
    refine ⟨_, _, _, rfl, s8.seq hS, rfl, by omega, by omega, fun c c0 c1 => ?_⟩
    tm_run
    refine ⟨ty_l k8, ?_⟩
    tm_run
    obtain ⟨v, hv, h', rfl, hh⟩ := ix_any (i := c % 5 % 4) (e8 _ _ ne1 k17) (fun v => ∃ h, v = .str h ∧ h ∈ nms) (fun x hx => by
      obtain ⟨q, q1, q2⟩ := List.mem_map.mp hx
      exact ⟨q, q2.symm, q1⟩) (by omega) (by rw [List.length_map]; omega)
    refine i_lst (SqL.of (e8 _ _ ne1 k17)) hv ?_
    tm_run
    refine ⟨c / 5, m, l6, mn, rfl, rfl, e8 _ _ ne6 k67, rfl, m0, m6, by omega, by omega, by omega, fun t H9 qs s9 k9 hq hqm hqs => ?_⟩
    tm_run
    refine ⟨_, _, _, rfl, (s8.trans s9).seq hS, rfl, by omega, ?_⟩
    tm_run
    intro wo w0 w1
    tm_run
    intro t2 H10 s10 n10 k10 _
    tm_run
    refine m_append (s10 _ _ (s9 _ _ k8)) (by omega) fun H11 k11 e11 => ?_
    have t11 : TS H10 H11 := TS.butL (s10 _ _ (s9 _ _ k8)) e11
    have hR' : RulesAt H11 vs rs := hR.ts (TS.trans (Same.ts (s9.trans s10)) t11)
    tm_run
    refine ⟨_, rs ++ [⟨h', qs, wo⟩], _, _, _, rfl, fun b o e => ?_, fun b o hb e => ?_, k11, hR'.app (RulesAt.cons ⟨t2, t, rfl, t11 _ _ k10, t11 _ _ (s10 _ _ k9)⟩ RulesAt.nil), by rw [List.length_append, hl]; rfl, fun r hr => ?_, fun r hr => ?_, fun r hr => ?_⟩
    · rw [e11 b (ne_of_none e nn)]
      exact s10 _ _ (s9 _ _ (s8 _ _ e))
    · rw [e11 b hb]
      exact s10 _ _ (s9 _ _ (e8 b o hb e))
    · rcases List.mem_append.mp hr with q | q
      · exact hg r q
      · rw [List.mem_singleton.mp q]
        exact ⟨hnm _ hh, hq, fun p hp => (hmn p (hqs p hp)).1, w0, w1⟩
    · rcases List.mem_append.mp hr with q | q
      · exact hm4 r q
      · rw [List.mem_singleton.mp q]
        exact hh
    · rcases List.mem_append.mp hr with q | q
      · exact hm5 r q
      · rw [List.mem_singleton.mp q]
        exact ⟨fun p hp => (hmn p (hqs p hp)).2, hqm⟩
  · rintro σ' H' ⟨vs, rs, v5, v8, v9, rfl, s8, e8, k8, hR, hl, hg, hm4, hm5⟩
    tm_run
    exact h l7 vs rs _ s8 k8 hR ⟨by omega, hg⟩ ⟨nms, by omega, hm4, fun r hr => (hm5 r hr).1, fun r hr => (hm5 r hr).2⟩
end
theorem df_law_bare (T : Txt K mg cs) : Df P w K mg base "_law_bare" 3 ["_law_script", "_law_many", "_law_most"] (sp3 (R_law_bare K)) := by
  obtain ⟨f, fd, hm, F, hb⟩ := T.f_law_bare.ex
  exact ⟨f, fd, hm, F.kp, hb, ok_law_bare F T⟩
def barren (S : Szs) (ps : List Str) : List Str := ps.filter fun p => !isSg p && (look S p).isNone
theorem barren_iff (S : Szs) : ∀ ps : List Str, barren S ps = [] ↔ (sizeP S ps).isSome = true
  | [] => by simp [barren, sizeP]
  | p :: r => by
    have ih := barren_iff S r
    unfold barren at ih ⊢
    show _ ↔ (if isSg p = true then sizeP S r else (look S p).bind fun n => (sizeP S r).map (n + ·)).isSome = true
    rw [List.filter_cons]
    by_cases c : isSg p = true
    · rw [if_pos c, c]
      simpa using ih
    · have c' : isSg p = false := by simpa using c
      rw [if_neg c, c']
      cases hl : look S p with
      | none => simp
      | some n =>
        simp only [Bool.not_false, Option.isNone_some, Bool.and_false, Bool.false_eq_true, if_false, Option.bind_some]
        rw [ih]
        cases sizeP S r <;> simp
theorem strs_nil : ∀ l : List Str, PyData.eqv (.list (l.map .str)) (.list []) = decide (l = [])
  | [] => rfl
  | _ :: _ => rfl
theorem strs_sh {l : List Str} (h : ∀ p ∈ l, ∀ c ∈ tl p, c < 1114112) : Sh 1 (.list (l.map .str)) := .lst fun d hd => by
  obtain ⟨p, hp, rfl⟩ := List.mem_map.mp hd
  exact .str (h p hp)
theorem size_sum {S : Szs} : ∀ {ps : List Str} {m : Nat}, sizeP S ps = some m → ((ps.filter fun p => !isSg p).map fun p => (((look S p).getD 0 : Nat) : Int)).sum = (m : Int)
  | [], m, e => by cases e; rfl
  | p :: r, m, e => by
    have e : (if isSg p = true then sizeP S r else (look S p).bind fun n => (sizeP S r).map (n + ·)) = some m := e
    by_cases c : isSg p = true
    · rw [if_pos c] at e
      rw [List.filter_cons_of_neg (by rw [c]; simp)]
      exact size_sum e
    · rw [if_neg c] at e
      have c' : isSg p = false := by simpa using c
      rw [List.filter_cons_of_pos (by rw [c']; rfl), List.map_cons, List.sum_cons]
      cases hl : look S p with
      | none => rw [hl] at e; cases e
      | some n =>
        cases hr : sizeP S r with
        | none => rw [hl, hr] at e; cases e
        | some k =>
          rw [hl, hr] at e
          have e : n + k = m := Option.some.inj e
          rw [size_sum hr]
          simp only [Option.getD_some]
          omega
theorem look_of : ∀ {S : Szs} {h : Str} {n : Nat}, (S.map (·.1)).Nodup → (h, n) ∈ S → look S h = some n
  | [], _, _, _, q => by cases q
  | p :: S, h, n, nd, q => by
    have nd' := List.nodup_cons.mp nd
    unfold look
    rcases List.mem_cons.mp q with q | q
    · rw [← q, if_pos rfl]
    · rw [if_neg fun z => nd'.1 (by show p.1 ∈ _; rw [z]; exact List.mem_map.mpr ⟨_, q, rfl⟩)]
      exact look_of nd'.2 q

def namesOf (r : Rl) : List Str := r.parts.filter fun p => !isSg p
theorem barren_names {S : Szs} {r : Rl} : barren S r.parts = [] ↔ ∀ p ∈ namesOf r, (look S p).isSome = true := by
  unfold barren namesOf
  rw [List.filter_eq_nil_iff]
  constructor
  · intro h p hp
    obtain ⟨h1, h2⟩ := List.mem_filter.mp hp
    have := h p h1
    cases e : look S p with
    | some n => rfl
    | none => exact absurd (by rw [e, h2]; rfl) this
  · intro h p hp q
    simp only [Bool.and_eq_true] at q
    have := h p (List.mem_filter.mpr ⟨hp, q.1⟩)
    cases e : look S p with
    | none => rw [e] at this; cases this
    | some n => rw [e] at q; cases q.2

/-! ### rows and the texts that they give: the plain side -/
theorem atI_last {α : Type} {xs : List α} {y : α} : atI (xs ++ [y]) (-1) = some y := by
  unfold atI ixN
  rw [if_neg (by decide), List.length_append]
  have e : (-1 + ((xs.length + [y].length : Nat) : Int)).toNat = xs.length := by simp only [List.length_cons, List.length_nil]; omega
  rw [if_pos (by simp only [List.length_cons, List.length_nil]; omega)]
  simp only [e]
  show (xs ++ [y])[xs.length]? = some y
  rw [List.getElem?_append_right (Nat.le_refl _), Nat.sub_self]
  rfl
theorem takeWhile_ok {α : Type} {p : α → Bool} : ∀ {l : List α} {x : α}, x ∈ l.takeWhile p → p x = true
  | a :: l, x, h => by
    by_cases c : p a = true
    · rw [List.takeWhile_cons_of_pos c] at h
      rcases List.mem_cons.mp h with h | h
      · rw [h]; exact c
      · exact takeWhile_ok h
    · rw [List.takeWhile_cons_of_neg c] at h
      cases h
  | [], x, h => by cases h
def codeOf (p : Str) : Nat := (tl p).getD 1 0
def sgV (c : Nat) : V := .str ⟨#[c]⟩
theorem sign_tl {p : Str} (h : isPartS p = true) (hs : isSg p = true) : tl p = [39, codeOf p] ∧ okc (codeOf p) = true := by
  rcases Bool.or_eq_true_iff.mp h with h | h
  · obtain ⟨c, e, hc⟩ := sign_is h
    unfold codeOf
    rw [e]
    exact ⟨rfl, hc⟩
  · have := name_free h (s := 39) (by decide)
    unfold isSg at hs
    cases q : tl p with
    | nil => rw [q] at hs; cases hs
    | cons x t =>
      rw [q] at hs this
      have hs : (some x == some 39) = true := hs
      have : x ≠ 39 := fun z => this (by rw [z]; exact List.mem_cons_self ..)
      simp [this] at hs
/-- a number takes the place of the name that waits first -/
def stp (rs : List Rl) (d : PyData) (ps : List Str) : Option (List Str) := match d, ps with
  | .int i, p :: ps => if 0 ≤ i then (rs[i.toNat]?).bind fun r => if r.head = p then some (r.parts ++ ps) else none else none
  | _, _ => none
structure Rst where
  ps : List Str
  cs : List Nat
  bg : List Nat
def rowStep (rs : List Rl) (s : Rst) (d : PyData) : Option Rst := (stp rs d s.ps).map fun q => ⟨q.dropWhile isSg, s.cs ++ (q.takeWhile isSg).map codeOf, s.bg ++ [s.cs.length]⟩
def rowGo (rs : List Rl) : List PyData → Rst → Option Rst
  | [], s => some s
  | d :: ds, s => (rowStep rs s d).bind (rowGo rs ds)
def rowEnd : Option Rst → Option (List Nat × List Nat)
  | some ⟨[], cs, bg⟩ => some (cs, bg)
  | _ => none
def rowRead (rs : List Rl) (ds : List PyData) : Option (List Nat × List Nat) := match rs[0]? with
  | none => none
  | some r => rowEnd (rowGo rs ds ⟨[r.head], [], []⟩)
theorem rowGo_app (rs : List Rl) : ∀ (a b : List PyData) (s : Rst), rowGo rs (a ++ b) s = (rowGo rs a s).bind (rowGo rs b)
  | [], b, s => rfl
  | d :: a, b, s => by
    show (rowStep rs s d).bind (rowGo rs (a ++ b)) = ((rowStep rs s d).bind (rowGo rs a)).bind (rowGo rs b)
    cases rowStep rs s d with
    | none => rfl
    | some s' => exact rowGo_app rs a b s'
/-- what holds of a state -/
structure RstOk (rs : List Rl) (n : Nat) (s : Rst) : Prop where
  parts : ∀ p ∈ s.ps, isPartS p = true
  room : s.ps.length + s.cs.length ≤ 1 + 6 * n
  bl : s.bg.length = n
  oks : ∀ c ∈ s.cs, okc c = true
theorem stp_parts {rs : List Rl} (g : GoodG rs) {d : PyData} {ps q : List Str} (h : stp rs d ps = some q) (hp : ∀ p ∈ ps, isPartS p = true) : (∀ p ∈ q, isPartS p = true) ∧ q.length + 1 ≤ ps.length + 6 := by
  unfold stp at h
  split at h
  · rename_i i p ps'
    by_cases c : 0 ≤ i
    · rw [if_pos c] at h
      cases e : rs[i.toNat]? with
      | none => rw [e] at h; cases h
      | some r =>
        rw [e] at h
        have h : (if r.head = p then some (r.parts ++ ps') else none) = some q := h
        by_cases c2 : r.head = p
        · rw [if_pos c2] at h
          cases h
          have hg := g.good r (List.mem_of_getElem? e)
          have := hg.few
          refine ⟨fun x hx => ?_, by rw [List.length_append, List.length_cons]; omega⟩
          rcases List.mem_append.mp hx with hx | hx
          · exact hg.parts x hx
          · exact hp x (List.mem_cons_of_mem _ hx)
        · rw [if_neg c2] at h; cases h
    · rw [if_neg c] at h; cases h
  · cases h
theorem RstOk.step {rs : List Rl} (g : GoodG rs) {n : Nat} {s s' : Rst} {d : PyData} (h : RstOk rs n s) (e : rowStep rs s d = some s') : RstOk rs (n + 1) s' := by
  unfold rowStep at e
  cases q : stp rs d s.ps with
  | none => rw [q] at e; cases e
  | some ps =>
    rw [q] at e
    have e : (⟨ps.dropWhile isSg, s.cs ++ (ps.takeWhile isSg).map codeOf, s.bg ++ [s.cs.length]⟩ : Rst) = s' := Option.some.inj e
    subst e
    obtain ⟨h1, h2⟩ := stp_parts g q h.parts
    have h3 : (ps.takeWhile isSg).length + (ps.dropWhile isSg).length = ps.length := by rw [← List.length_append, List.takeWhile_append_dropWhile]
    have := h.room
    refine ⟨fun p hp => h1 p ((List.dropWhile_suffix isSg).subset hp), ?_, by simp [h.bl], fun c hc => ?_⟩
    · show (ps.dropWhile isSg).length + (s.cs ++ (ps.takeWhile isSg).map codeOf).length ≤ _
      rw [List.length_append, List.length_map]
      omega
    · rcases List.mem_append.mp hc with hc | hc
      · exact h.oks c hc
      · obtain ⟨p, hp, rfl⟩ := List.mem_map.mp hc
        exact (sign_tl (h1 p ((List.takeWhile_prefix isSg).subset hp)) (takeWhile_ok hp)).2
/-! ### a grammar whose heads have a short rule each -/
structure Gr4 (rs : List Rl) : Prop where
  nms : ∃ nms : List Str, nms.length = 4 ∧ (∀ n ∈ nms, isNameS n = true) ∧ ∀ r ∈ rs, r.head ∈ nms ∧ ∀ p ∈ r.parts, isSg p = false → p ∈ nms
  short : ∀ r ∈ rs, ∃ r' ∈ rs, r'.head = r.head ∧ r'.parts.length < 3 ∧ ∀ p ∈ r'.parts, isSg p = true
  pos : 0 < rs.length
  few : rs.length ≤ 7
theorem quote_part {c : Nat} (h : okc c = true) : isPartS (Str.ofString "'" ++ ⟨#[c]⟩) = true ∧ isSg (Str.ofString "'" ++ ⟨#[c]⟩) = true := by
  refine ⟨rule_part h, ?_⟩
  have e : tl (Str.ofString "'" ++ ⟨#[c]⟩) = [39, c] := by rw [tl_append, tl_q]; rfl
  unfold isSg
  rw [e]
  rfl
theorem name_sg {n : Str} (h : isNameS n = true) : isSg n = false := by
  have := name_free h (s := 39) (by decide)
  unfold isSg
  cases q : tl n with
  | nil => rfl
  | cons x t =>
    rw [q] at this
    have : x ≠ 39 := fun z => this (by rw [z]; exact List.mem_cons_self ..)
    show (some x == some 39) = false
    simp [this]
/-! ### rows and signs: the plain law -/
/-- what a row reads from the parts that wait -/
def rg (rs : List Rl) : List PyData → List Str → Option (List Nat)
  | [], ps => if ps.all isSg = true then some (ps.map codeOf) else none
  | d :: ds, ps => (stp rs d (ps.dropWhile isSg)).bind fun q => (rg rs ds q).map ((ps.takeWhile isSg).map codeOf ++ ·)
theorem rg_sign {rs : List Rl} {p : Str} {ps : List Str} (h : isSg p = true) : ∀ (ds : List PyData), rg rs ds (p :: ps) = (rg rs ds ps).map (codeOf p :: ·)
  | [] => by
    show (if (isSg p && ps.all isSg) = true then some ((p :: ps).map codeOf) else none) = Option.map _ (if ps.all isSg = true then some (ps.map codeOf) else none)
    rw [h, Bool.true_and]
    by_cases c : ps.all isSg = true
    · rw [if_pos c, if_pos c]; rfl
    · rw [if_neg c, if_neg c]; rfl
  | d :: ds => by
    show (stp rs d ((p :: ps).dropWhile isSg)).bind _ = Option.map _ ((stp rs d (ps.dropWhile isSg)).bind _)
    rw [List.dropWhile_cons_of_pos h, List.takeWhile_cons_of_pos h]
    cases stp rs d (ps.dropWhile isSg) with
    | none => rfl
    | some q =>
      show Option.map _ (rg rs ds q) = Option.map _ (Option.map _ (rg rs ds q))
      cases rg rs ds q with
      | none => rfl
      | some z => rfl
theorem rg_name0 {rs : List Rl} {p : Str} {ps : List Str} (h : isSg p = false) : rg rs [] (p :: ps) = none := by
  show (if (isSg p && ps.all isSg) = true then _ else none) = none
  rw [h, Bool.false_and]
  rfl
theorem rg_name {rs : List Rl} {p : Str} {ps : List Str} (h : isSg p = false) (d : PyData) (ds : List PyData) : rg rs (d :: ds) (p :: ps) = (stp rs d (p :: ps)).bind (rg rs ds) := by
  show (stp rs d ((p :: ps).dropWhile isSg)).bind _ = _
  rw [List.dropWhile_cons_of_neg (by rw [h]; simp), List.takeWhile_cons_of_neg (by rw [h]; simp)]
  congr 1
  funext q
  cases rg rs ds q with
  | none => rfl
  | some z => rfl
theorem stp_nil (rs : List Rl) (d : PyData) : stp rs d [] = none := by
  unfold stp
  split <;> first | rfl | (rename_i e; cases e)
theorem rg_nil (rs : List Rl) : ∀ ds, rg rs ds [] = if ds = [] then some [] else none
  | [] => rfl
  | d :: ds => by
    show (stp rs d []).bind _ = _
    rw [stp_nil, if_neg (by simp)]
    rfl
theorem stp_int (rs : List Rl) (i : Int) (p : Str) (ps : List Str) : stp rs (.int i) (p :: ps) = if 0 ≤ i then (rs[i.toNat]?).bind fun r => if r.head = p then some (r.parts ++ ps) else none else none := rfl
theorem stp_nat {rs : List Rl} {k : Nat} {r : Rl} (h : rs[k]? = some r) (ps : List Str) : stp rs (.int (k : Nat)) (r.head :: ps) = some (r.parts ++ ps) := by
  rw [stp_int, if_pos (by omega), show ((k : Nat) : Int).toNat = k by omega, h]
  show (if r.head = r.head then _ else _) = _
  rw [if_pos rfl]
theorem rg_num {rs : List Rl} {k : Nat} {r : Rl} (h : rs[k]? = some r) (hs : isSg r.head = false) (ds : List PyData) (ps : List Str) : rg rs (.int (k : Nat) :: ds) (r.head :: ps) = rg rs ds (r.parts ++ ps) := by
  rw [rg_name hs, stp_nat h]
  rfl
theorem dropAll {α : Type} {f : α → Bool} : ∀ (l : List α), l.dropWhile f = [] ↔ l.all f = true
  | [] => by simp
  | a :: l => by
    by_cases c : f a = true
    · rw [List.dropWhile_cons_of_pos c, List.all_cons, c, Bool.true_and]; exact dropAll l
    · rw [List.dropWhile_cons_of_neg c, List.all_cons]
      simp [c]
theorem takeAll {α : Type} {f : α → Bool} : ∀ {l : List α}, l.all f = true → l.takeWhile f = l
  | [], _ => rfl
  | a :: l, h => by
    rw [List.all_cons, Bool.and_eq_true] at h
    rw [List.takeWhile_cons_of_pos h.1, takeAll h.2]
theorem rowGo_rg (rs : List Rl) : ∀ (ds : List PyData) (q : List Str) (c0 bg : List Nat), (rowEnd (rowGo rs ds ⟨q.dropWhile isSg, c0 ++ (q.takeWhile isSg).map codeOf, bg⟩)).map (·.1) = (rg rs ds q).map (c0 ++ ·)
  | [], q, c0, bg => by
    show (rowEnd (some _)).map _ = Option.map _ (if q.all isSg = true then some (q.map codeOf) else none)
    by_cases c : q.all isSg = true
    · rw [if_pos c, (dropAll q).mpr c, takeAll c]
      rfl
    · rw [if_neg c]
      cases e : q.dropWhile isSg with
      | nil => exact absurd ((dropAll q).mp e) c
      | cons x t => rfl
  | d :: ds, q, c0, bg => by
    show (rowEnd ((rowStep rs _ d).bind (rowGo rs ds))).map _ = Option.map _ ((stp rs d (q.dropWhile isSg)).bind _)
    unfold rowStep
    cases stp rs d (q.dropWhile isSg) with
    | none => rfl
    | some q' =>
      have ih := rowGo_rg rs ds q' (c0 ++ (q.takeWhile isSg).map codeOf) (bg ++ [(c0 ++ (q.takeWhile isSg).map codeOf).length])
      refine Eq.trans ih ?_
      show _ = Option.map _ (Option.map _ (rg rs ds q'))
      cases rg rs ds q' with
      | none => rfl
      | some z => simp
theorem rowRead_rg {rs : List Rl} {r0 : Rl} (h : rs[0]? = some r0) (hs : isSg r0.head = false) (ds : List PyData) : (rowRead rs ds).map (·.1) = rg rs ds [r0.head] := by
  have e := rowGo_rg rs ds [r0.head] [] []
  rw [List.dropWhile_cons_of_neg (by rw [hs]; simp), List.takeWhile_cons_of_neg (by rw [hs]; simp)] at e
  unfold rowRead
  rw [h]
  refine Eq.trans e ?_
  cases rg rs ds [r0.head] with
  | none => rfl
  | some z => rfl
theorem rowRead_none {rs : List Rl} (hg : ∀ r ∈ rs, isSg r.head = false) {ds : List PyData} : rowRead rs ds = none ↔ ∀ r0, rs[0]? = some r0 → rg rs ds [r0.head] = none := by
  constructor
  · intro h r0 h0
    rw [← rowRead_rg h0 (hg r0 (List.mem_of_getElem? h0)), h]
    rfl
  · intro h
    cases h0 : rs[0]? with
    | none => unfold rowRead; rw [h0]
    | some r0 =>
      have := rowRead_rg h0 (hg r0 (List.mem_of_getElem? h0)) ds
      rw [h r0 h0] at this
      cases e : rowRead rs ds with
      | none => rfl
      | some z => rw [e] at this; cases this
theorem stp_some {rs : List Rl} {d : PyData} {ps q : List Str} (h : stp rs d ps = some q) : ∃ (k : Nat) (r : Rl) (qs : List Str), d = .int (k : Nat) ∧ rs[k]? = some r ∧ ps = r.head :: qs ∧ q = r.parts ++ qs := by
  unfold stp at h
  split at h
  · rename_i i p ps'
    by_cases c : 0 ≤ i
    · rw [if_pos c] at h
      cases e : rs[i.toNat]? with
      | none => rw [e] at h; cases h
      | some r =>
        rw [e] at h
        have h : (if r.head = p then some (r.parts ++ ps') else none) = some q := h
        by_cases c2 : r.head = p
        · rw [if_pos c2] at h
          cases h
          exact ⟨i.toNat, r, ps', by rw [show ((i.toNat : Nat) : Int) = i by omega], e, by rw [c2], rfl⟩
        · rw [if_neg c2] at h; cases h
    · rw [if_neg c] at h; cases h
  · cases h
/-- a row that is read: each thing is the number of a rule -/
theorem rg_nums {rs : List Rl} : ∀ {ds : List PyData} {ps : List Str} {zs : List Nat}, rg rs ds ps = some zs → ∀ d ∈ ds, ∃ (k : Nat) (r : Rl), d = .int (k : Nat) ∧ rs[k]? = some r
  | [], _, _, _, d, hd => by cases hd
  | d :: ds, ps, zs, h, x, hx => by
    have h : (stp rs d (ps.dropWhile isSg)).bind (fun q => (rg rs ds q).map ((ps.takeWhile isSg).map codeOf ++ ·)) = some zs := h
    cases e : stp rs d (ps.dropWhile isSg) with
    | none => rw [e] at h; cases h
    | some q =>
      rw [e] at h
      obtain ⟨k, r, qs, e1, e2, _, _⟩ := stp_some e
      rcases List.mem_cons.mp hx with hx | hx
      · exact ⟨k, r, hx.trans e1, e2⟩
      · cases e3 : rg rs ds q with
        | none => rw [Option.bind_some, e3] at h; cases h
        | some z => exact rg_nums e3 x hx
theorem rg_ne {rs : List Rl} {p : Str} {zs : List Nat} {ds : List PyData} (hs : isSg p = false) (h : rg rs ds [p] = some zs) : ds ≠ [] := fun z => by
  rw [z, rg_name0 hs] at h
  cases h
def rowD (row : List Nat) : List PyData := row.map fun k => .int (k : Nat)
def strOf (zs : List Nat) : Str := ⟨zs.toArray⟩
theorem tl_strOf (zs : List Nat) : tl (strOf zs) = zs := by unfold tl strOf; simp
theorem strOf_app (a b : List Nat) : strOf a ++ strOf b = strOf (a ++ b) := by
  apply ext_tl
  rw [tl_append, tl_strOf, tl_strOf, tl_strOf]
theorem strOf_len (zs : List Nat) : (strOf zs).length = zs.length := by rw [len_tl, tl_strOf]
theorem strOf_nil : strOf [] = Str.ofString "" := by decide +kernel
/-! ### short rules -/
def isShort (r : Rl) : Prop := namesOf r = [] ∧ r.parts.length < 3
instance (r : Rl) : Decidable (isShort r) := inferInstanceAs (Decidable (_ ∧ _))
def shK (rs : List Rl) (E : Szs) (k : Nat) : Szs := match rs[k]? with
  | none => E
  | some r => if isShort r ∧ look E r.head = none then putS E r.head k else E
def shTo (rs : List Rl) (i : Nat) : Szs := (List.range i).foldl (shK rs) []
theorem shTo_step (rs : List Rl) (i : Nat) : shTo rs (i + 1) = shK rs (shTo rs i) i := by
  unfold shTo
  rw [List.range_succ, List.foldl_append]
  rfl
structure ShOk (rs : List Rl) (i : Nat) (E : Szs) : Prop where
  why : ∀ h k, look E h = some k → ∃ r, rs[k]? = some r ∧ r.head = h ∧ isShort r
  all : ∀ k r, k < i → rs[k]? = some r → isShort r → (look E r.head).isSome = true
  len : E.length ≤ i
theorem shTo_ok (rs : List Rl) : ∀ i, ShOk rs i (shTo rs i)
  | 0 => ⟨fun h k e => (nomatch e), fun k r h => absurd h (by omega), Nat.le_refl _⟩
  | i + 1 => by
    have ih := shTo_ok rs i
    rw [shTo_step]
    unfold shK
    cases hr : rs[i]? with
    | none =>
      refine ⟨ih.why, fun k r h1 h2 h3 => ?_, Nat.le_succ_of_le ih.len⟩
      by_cases c : k = i
      · rw [c, hr] at h2; cases h2
      · exact ih.all k r (by omega) h2 h3
    | some r =>
      show ShOk rs (i + 1) (if isShort r ∧ look (shTo rs i) r.head = none then putS (shTo rs i) r.head i else shTo rs i)
      by_cases c : isShort r ∧ look (shTo rs i) r.head = none
      · rw [if_pos c]
        refine ⟨fun h k e => ?_, fun k r' h1 h2 h3 => ?_, ?_⟩
        · rw [look_put] at e
          by_cases q : h = r.head
          · rw [if_pos q] at e
            cases e
            exact ⟨r, hr, q.symm, c.1⟩
          · rw [if_neg q] at e
            exact ih.why h k e
        · rw [look_put]
          by_cases q : r'.head = r.head
          · rw [if_pos q]; rfl
          · rw [if_neg q]
            by_cases c2 : k = i
            · rw [c2, hr] at h2; cases h2; exact absurd rfl q
            · exact ih.all k r' (by omega) h2 h3
        · rw [putS_none c.2, List.length_append]
          have := ih.len
          simp
          omega
      · rw [if_neg c]
        refine ⟨ih.why, fun k r' h1 h2 h3 => ?_, Nat.le_succ_of_le ih.len⟩
        by_cases c2 : k = i
        · rw [c2, hr] at h2
          cases h2
          cases e : look (shTo rs i) r.head with
          | some n => rfl
          | none => exact absurd ⟨h3, e⟩ c
        · exact ih.all k r' (by omega) h2 h3
/-- the short rules of all heads -/
def shorts (rs : List Rl) : Szs := shTo rs rs.length
theorem shorts_all {rs : List Rl} (g : Gr4 rs) : ∀ r ∈ rs, (look (shorts rs) r.head).isSome = true := fun r hr => by
  obtain ⟨r', h1, h2, h3, h4⟩ := g.short r hr
  obtain ⟨k, hk⟩ := List.mem_iff_getElem?.mp h1
  rw [← h2]
  refine (shTo_ok rs rs.length).all k r' (List.getElem?_eq_some_iff.mp hk).1 hk ⟨?_, h3⟩
  unfold namesOf
  rw [List.filter_eq_nil_iff]
  intro p hp
  rw [h4 p hp]
  simp
def needS (ps : List Str) : Nat := (ps.map fun p => if isSg p = true then 1 else 2).sum
theorem needS_app (a b : List Str) : needS (a ++ b) = needS a + needS b := by unfold needS; rw [List.map_append, List.sum_append]
theorem needS_cons (p : Str) (b : List Str) : needS (p :: b) = (if isSg p = true then 1 else 2) + needS b := by unfold needS; rw [List.map_cons, List.sum_cons]
theorem needS_len : ∀ (a : List Str), a.length ≤ needS a
  | [] => Nat.le_refl _
  | p :: a => by
    have := needS_len a
    rw [needS_cons, List.length_cons]
    split <;> omega
theorem needS_rev (a : List Str) : needS a.reverse = needS a := by unfold needS; rw [List.map_reverse, List.sum_reverse]
theorem needS_sg : ∀ {a : List Str}, (∀ p ∈ a, isSg p = true) → needS a = a.length
  | [], _ => rfl
  | p :: a, h => by
    rw [needS_cons, if_pos (h p (List.mem_cons_self ..)), needS_sg fun q hq => h q (List.mem_cons_of_mem _ hq), List.length_cons]
    omega
theorem isShort.sg {r : Rl} (h : isShort r) : ∀ p ∈ r.parts, isSg p = true := fun p hp => by
  have := List.filter_eq_nil_iff.mp h.1 p hp
  simpa using this
def wtS (ps : List Str) : Nat := (ps.map fun p => if isSg p = true then 1 else 3).sum
theorem wtS_app (a b : List Str) : wtS (a ++ b) = wtS a + wtS b := by unfold wtS; rw [List.map_append, List.sum_append]
theorem wtS_one (p : Str) : wtS [p] = if isSg p = true then 1 else 3 := by unfold wtS; simp
theorem wtS_rev (a : List Str) : wtS a.reverse = wtS a := by unfold wtS; rw [List.map_reverse, List.sum_reverse]
theorem wtS_le : ∀ (a : List Str), wtS a ≤ 3 * a.length
  | [] => Nat.le_refl _
  | p :: a => by
    have := wtS_le a
    have e : wtS (p :: a) = (if isSg p = true then 1 else 3) + wtS a := by unfold wtS; rw [List.map_cons, List.sum_cons]
    rw [e, List.length_cons]
    split <;> omega
theorem wtS_sg : ∀ {a : List Str}, (∀ p ∈ a, isSg p = true) → wtS a = a.length
  | [], _ => rfl
  | p :: a, h => by
    have e : wtS (p :: a) = (if isSg p = true then 1 else 3) + wtS a := by unfold wtS; rw [List.map_cons, List.sum_cons]
    rw [e, if_pos (h p (List.mem_cons_self ..)), wtS_sg fun q hq => h q (List.mem_cons_of_mem _ hq), List.length_cons]
    omega
theorem list_by {α : Type} {ys : List V} {xs : List α} {f : α → V} (hl : ys.length = xs.length) (h : ∀ (i : Nat) (y : V), ys[i]? = some y → ∃ x, xs[i]? = some x ∧ y = f x) : ys = xs.map f := by
  apply List.ext_getElem?
  intro i
  rw [List.getElem?_map]
  cases e : ys[i]? with
  | none =>
    rw [List.getElem?_eq_none (by have := List.getElem?_eq_none_iff.mp e; omega)]
    rfl
  | some y =>
    obtain ⟨x, h1, h2⟩ := h i y e
    rw [h1, h2]
    rfl
def wOf (rs : List Rl) : PyData → Int
  | .int i => ((rs[i.toNat]?).map Rl.worth).getD 0
  | _ => 0
def wsum (rs : List Rl) (ds : List PyData) : Int := (ds.map (wOf rs)).sum
theorem wsum_nat (rs : List Rl) (row : List Nat) : wsum rs (rowD row) = (row.map fun k => ((rs[k]?).map Rl.worth).getD 0).sum := by
  unfold wsum rowD
  rw [List.map_map]
  rfl
theorem tl_join0 (ms : List Str) : tl (Txt.join (Str.ofString "") ms) = ms.flatMap tl := by
  have e : tl (Str.ofString "") = [] := by decide +kernel
  have q : ∀ l : List (List Nat), joinL [] l = l.flatten := by
    intro l
    induction l with
    | nil => rfl
    | cons a l ih =>
      cases l with
      | nil => simp [joinL]
      | cons b l =>
        show a ++ ([] ++ joinL [] (b :: l)) = _
        rw [ih]
        simp
  rw [join_eq, tl_join, e, q, List.flatMap_def]
theorem join_ones (zs : List Nat) : Txt.join (Str.ofString "") (zs.map fun c => (⟨#[c]⟩ : Str)) = strOf zs := by
  apply ext_tl
  rw [tl_join0, tl_strOf, List.flatMap_map]
  induction zs with
  | nil => rfl
  | cons c zs ih => rw [List.flatMap_cons, ih]; rfl
/-- a row that can be read, or a thing that cannot -/
def RR (K : PySem.W.Frag) (cs : Cs) (x y : V) (H : Hp) (E : XK) (good : List Rl → List PyData → Rl → List Nat → Prop) : Prop :=
  RG K cs x H E fun _ _ rs => ∃ d, Th K H y d ∧ (∀ ds, d = .list ds → ds.length ≤ 100000) ∧
    (∀ ds r0 zs, d = .list ds → rs[0]? = some r0 → rg rs ds [r0.head] = some zs → good rs ds r0 zs) ∧
    ((∀ ds r0, d = .list ds → rs[0]? = some r0 → rg rs ds [r0.head] = none) → ∀ H', Same H H' → E (.ref cs.NoRow) none H')
theorem th_row {K : PySem.W.Frag} {H : Hp} {l : Addr} {row : List Nat} (h : SqL K H l (row.map fun k => V.int ((k : Nat) : Int))) : Th K H (.ref l) (.list (rowD row)) := .lst h (th_nats row)
theorem RR.yes {K : PySem.W.Frag} {cs : Cs} {x : V} {H : Hp} {E : XK} {good : List Rl → List PyData → Rl → List Nat → Prop} {a l : Addr} {vs : List V} {rs : List Rl} {row : List Nat} {r0 : Rl} {zs : List Nat} (g : GramAt K H x a vs rs) (hl : SqL K H l (row.map fun k => V.int ((k : Nat) : Int))) (hn : row.length ≤ 100000) (h0 : rs[0]? = some r0) (hz : rg rs (rowD row) [r0.head] = some zs) (k : good rs (rowD row) r0 zs) : RR K cs x (.ref l) H E good := by
  refine .inl ⟨a, vs, rs, g, _, th_row hl, fun ds e => ?_, fun ds r0' zs' e e0 ez => ?_, fun q => ?_⟩
  · cases e
    unfold rowD
    rw [List.length_map]
    exact hn
  · cases e
    rw [h0] at e0
    cases e0
    rw [hz] at ez
    cases ez
    exact k
  · have := q _ _ rfl h0
    rw [hz] at this
    cases this
theorem RR.no {K : PySem.W.Frag} {cs : Cs} {x y : V} {H : Hp} {E : XK} {good : List Rl → List PyData → Rl → List Nat → Prop} {a : Addr} {vs : List V} {rs : List Rl} {d : PyData} (g : GramAt K H x a vs rs) (hd : Th K H y d) (hn : ∀ ds, d = .list ds → ds.length ≤ 100000) (hz : ∀ ds r0, d = .list ds → rs[0]? = some r0 → rg rs ds [r0.head] = none) (k : ∀ H', Same H H' → E (.ref cs.NoRow) none H') : RR K cs x y H E good := by
  refine .inl ⟨a, vs, rs, g, d, hd, hn, fun ds r0 zs e e0 ez => ?_, fun _ => k⟩
  rw [hz ds r0 e e0] at ez
  cases ez
theorem GoodG.hsg {rs : List Rl} (g : GoodG rs) : ∀ r ∈ rs, isSg r.head = false := fun r hr => name_sg (g.good r hr).head
theorem read_some {rs : List Rl} (g : GoodG rs) {ds : List PyData} {zs bg : List Nat} (h : rowRead rs ds = some (zs, bg)) : ∃ r0, rs[0]? = some r0 ∧ rg rs ds [r0.head] = some zs := by
  cases h0 : rs[0]? with
  | none => unfold rowRead at h; rw [h0] at h; cases h
  | some r0 =>
    refine ⟨r0, rfl, ?_⟩
    rw [← rowRead_rg h0 (g.hsg r0 (List.mem_of_getElem? h0)), h]
    rfl
theorem read_none {rs : List Rl} (g : GoodG rs) {d : PyData} (h : ∀ ds, d = .list ds → rowRead rs ds = none) : ∀ ds r0, d = .list ds → rs[0]? = some r0 → rg rs ds [r0.head] = none := fun ds r0 e h0 => (rowRead_none g.hsg).mp (h ds e) r0 h0
theorem row_get {rs : List Rl} {row : List Nat} {ps : List Str} {zs : List Nat} (h : rg rs (rowD row) ps = some zs) {k : Nat} (hk : k ∈ row) : ∃ r, rs[k]? = some r := by
  obtain ⟨k', r, e, hr⟩ := rg_nums h (.int (k : Nat)) (List.mem_map.mpr ⟨k, hk, rfl⟩)
  have : k = k' := by
    have := PyData.int.inj e
    omega
  subst this
  exact ⟨r, hr⟩
theorem rowD_ints (row : List Nat) : (row.map fun k => V.int ((k : Nat) : Int)) = (row.map fun k => ((k : Nat) : Int)).map V.int ∧ rowD row = (row.map fun k => ((k : Nat) : Int)).map PyData.int := by
  unfold rowD
  rw [List.map_map, List.map_map]
  exact ⟨rfl, rfl⟩
def R_law_read (K : PySem.W.Frag) : V → V → Hp → VK → XK → Prop := fun x y H Q _ => ∃ (a : Addr) (vs : List V) (rs : List Rl) (l : Addr) (row : List Int), GramAt K H x a vs rs ∧ y = .ref l ∧ SqL K H l (row.map V.int) ∧ row.length ≤ 100000 ∧
  (∀ r0 zs, rs[0]? = some r0 → rg rs (row.map .int) [r0.head] = some zs → ∀ H', Same H H' → Q (.str (strOf zs)) H') ∧ ((∀ r0, rs[0]? = some r0 → rg rs (row.map .int) [r0.head] = none) → ∀ H', Same H H' → Q .non H')
section
theorem ok_law_read {f : Addr} {fd : FuncData} (F : Fun K "_law_read" "_law_read" s_law_read f fd) (T : Txt K mg cs) : FnOk P w K mg base (L2.CX P w) 1 f fd ["_law_grammar", "_law_row_here"] (sp2 (R_law_read K)) := by
  refine F.okX sc_law_read (fun vs H Q E h => sp2_len h) (fun cdv A outer s H vs Q E hr h => ⟨_, PBw (X := X_law_read P w K mg base f cdv A outer s H E), ?_⟩)
  obtain ⟨a0, a1, rfl, h⟩ := h
  have ib_len := T.b_len
  have ib_reversed := T.b_reversed
  have hr' : Room 0 (X_law_read P w K mg base f cdv A outer s H E).A := hr
  replace hr := hr'
  clear hr'
  obtain ⟨a, vs, rs, l, row, g, rfl, hl, hlen, h1, h2⟩ := h
  have hvl := g.at_.len
  have h60 := g.ok.few
  obtain rfl := g.ref
  have hS := g.sq
  kxs_still
  intro lz Hz sz nz kz _
  refine o_eqD hr.units (g.more sz).dp (.lst (SqL.of kz) .nil) (gram_sh g.ok.good).ok rfl ?_
  rw [gram_nil]
  kxs_still
  refine iteD (fun c0 => ?_) fun c0 => ?_
  · kxs_still
    exact h2 (fun r0 e => by rw [c0] at e; cases e) _ sz
  obtain ⟨r0, hr0⟩ : ∃ r0, rs[0]? = some r0 := ⟨rs[0]'(by cases rs with | nil => exact absurd rfl c0 | cons => simp), List.getElem?_eq_getElem _⟩
  obtain ⟨ra, rb, hv0, hvk0, e10, e20⟩ := g.at_.at' hr0
  have e11 := sz _ _ e10
  have hS1 := sz.seq hS
  kxs_still
  intro lw H3 s3 n3 k3 _
  have nlw : H lw = none := sz.none n3
  have sH3 := sz.trans s3
  have n3' := nlw
  kxs_still
  refine s_while (fun m σ' H' => ∃ (st : List Str) (cs : List Nat) (at' : Nat) (v5 v6 : Option V), σ' = [some (.ref a), some (.ref l), some (.ref lw), some (.str (strOf cs)), some (.int (at' : Nat)), v5, v6] ∧ (∀ b o, b ≠ lw → H b = some o → H' b = some o) ∧ H' lw = some (.lst (st.map V.str)) ∧ (∀ p ∈ st, isPartS p = true) ∧ at' ≤ row.length ∧ rg rs (row.map .int) [r0.head] = (rg rs ((row.drop at').map .int) st.reverse).map (cs ++ ·) ∧ m = (row.length - at') * 7 + st.length ∧ cs.length + m ≤ 1000000) _
    ⟨[r0.head], [], 0, none, none, by rw [strOf_nil]; rfl, fun b o hb q => sH3 _ _ q, k3, fun p hp => ?_, Nat.zero_le _, ?_, rfl, ?_⟩ ?_
  · rw [List.mem_singleton.mp hp, isPartS, (g.ok.good r0 (List.mem_of_getElem? hr0)).head, Bool.or_true]
  · show _ = (rg rs (row.map .int) [r0.head]).map ([] ++ ·)
    cases rg rs (row.map .int) [r0.head] <;> rfl
  · simp only [List.length_nil, List.length_cons]; omega
  rintro m σ' H' ⟨st, cs, at', v5, v6, rfl, sO, kw, hP, hat, hT, rfl, hM⟩
  kxs_still
  intro l5 H5 s5 n5 k5 _
  have kw5 := s5 _ _ kw
  have shst : Sh 1 (.list (st.map .str)) := strs_sh fun p hp => part_codes (hP p hp)
  refine o_neD hr.units (.lst (SqL.of kw5) (dp_strs _)) (.lst (SqL.of k5) .nil) shst.ok rfl ?_
  rw [strs_nil]
  refine ⟨_, rfl, ?_⟩
  have sO5 : ∀ b o, b ≠ lw → H b = some o → H5 b = some o := fun b o hb q => s5 _ _ (sO b o hb q)
  have sH5 : Same H H5 := fun b o q => sO5 b o (ne_of_none q nlw) q
  have fail : (∀ z, rg rs (row.map .int) [r0.head] ≠ some z) → ∀ H', Same H H' → Q .non H' := fun q => h2 fun r1 e => by
    rw [hr0] at e
    cases e
    cases e : rg rs (row.map .int) [r0.head] with
    | none => rfl
    | some z => exact absurd e (q z)
  refine iteND (fun cst => ?_) fun cst => ?_
  · obtain ⟨st', p, rfl⟩ : ∃ st' n, st = st' ++ [n] := ⟨st.dropLast, st.getLast cst, (List.dropLast_concat_getLast cst).symm⟩
    rw [List.map_append] at kw5
    have hpp := hP p (List.mem_append_right _ (List.mem_singleton.mpr rfl))
    have hP' : ∀ q ∈ st', isPartS q = true := fun q hq => hP q (List.mem_append_left _ hq)
    rw [List.reverse_append, List.reverse_singleton, List.singleton_append] at hT
    rw [List.length_append, List.length_singleton] at hM ⊢
    kxs_still
    refine e_pop ?_
    kxs_still
    refine ⟨ty_l kw5, ?_⟩
    refine m_pop kw5 fun H6 k6 e6 => ?_
    have sO6 : ∀ b o, b ≠ lw → H b = some o → H6 b = some o := fun b o hb q => by rw [e6 b hb]; exact sO5 b o hb q
    have sH6 : Same H H6 := fun b o q => sO6 b o (ne_of_none q nlw) q
    have hS6 := sH6.seq hS
    have hl6 := sH6.seq hl
    kxs_still
    refine ⟨part_sg hpp, ?_⟩
    cases hs : isSg p with
    | true =>
      obtain ⟨et, eo⟩ := sign_tl hpp hs
      kxs_still
      refine i_str (c := codeOf p) (by have := part_len hpp; rw [sizeLine_eq]; omega) (by rw [show p.cps.toList = [39, codeOf p] from et]; exact atI_nat (by decide) rfl) ?_
      have e1 : strOf cs ++ (⟨#[codeOf p]⟩ : Str) = strOf (cs ++ [codeOf p]) := strOf_app cs [codeOf p]
      refine o_cat (by rw [strOf_len, one_len, sizeLine_eq]; omega) ?_
      rw [e1]
      kxs_still
      refine ⟨_, ?_, st', cs ++ [codeOf p], at', _, _, rfl, sO6, k6, hP', hat, ?_, rfl, ?_⟩
      · omega
      · rw [hT, rg_sign hs]
        cases rg rs ((row.drop at').map .int) st'.reverse with
        | none => rfl
        | some z => simp
      · rw [List.length_append, List.length_singleton]; omega
    | false =>
      kxs_still
      refine iteD (fun ca => ?_) fun ca => ?_
      · rw [List.length_map] at ca
        kxs_still
        refine fail (fun z e => ?_) _ sH6
        rw [hT, List.drop_of_length_le (by omega), List.map_nil, rg_name0 hs] at e
        cases e
      · rw [List.length_map] at ca
        obtain ⟨i, hi⟩ : ∃ i, row[at']? = some i := ⟨_, List.getElem?_eq_getElem (by omega)⟩
        have hat' : atI (row.map V.int) ((at' : Nat) : Int) = some (.int i) := atI_nat (by omega) (by rw [show ((at' : Nat) : Int).toNat = at' by omega, List.getElem?_map, hi]; rfl)
        have ed : row.drop at' = i :: row.drop (at' + 1) := by rw [List.drop_eq_getElem_cons (List.getElem?_eq_some_iff.mp hi).1, (List.getElem?_eq_some_iff.mp hi).2]
        rw [ed, List.map_cons, rg_name hs] at hT
        have bad : stp rs (.int i) (p :: st'.reverse) = none → Q .non H6 := fun e => by
          refine fail (fun z e2 => ?_) _ sH6
          rw [hT, e] at e2
          cases e2
        rw [stp_int] at hT bad
        kxs_still
        refine iteD (fun ci => ?_) fun ci => ?_
        · rw [if_pos ci] at hT bad
          kxs_still
          refine iteND (fun cj => ?_) fun cj => ?_
          · kxs_still
            exact bad (by rw [List.getElem?_eq_none (by omega)]; rfl)
          · obtain ⟨r, hr1⟩ : ∃ r, rs[i.toNat]? = some r := ⟨_, List.getElem?_eq_getElem (by omega)⟩
            obtain ⟨rra, rrb, hv, hvk, e1', e2'⟩ := g.at_.at' hr1
            rw [show ((i.toNat : Nat) : Int) = i by omega] at hvk
            have e11 := sH6 _ _ e1'
            have hrg := g.ok.good r (List.mem_of_getElem? hr1)
            rw [hr1] at hT bad
            have hT : _ = Option.map (fun x => cs ++ x) ((if r.head = p then some (r.parts ++ st'.reverse) else none).bind (rg rs ((row.drop (at' + 1)).map .int))) := hT
            have bad : (if r.head = p then some (r.parts ++ st'.reverse) else none) = none → Q .non H6 := bad
            kxs_still
            refine iteND (fun c2 => ?_) fun c2 => ?_
            · kxs_still
              exact bad (if_neg c2)
            · rw [if_pos c2] at hT
              have hT : _ = Option.map (fun x => cs ++ x) (rg rs ((row.drop (at' + 1)).map .int) (r.parts ++ st'.reverse)) := hT
              kxs_still
              refine s_for (j_revT ?_)
              kxs_still
              have e22 := sH6 _ _ e2'
              have h6 := hrg.few
              refine ⟨rrb, _, rfl, SqT.of e22, _, _, _, walk_revT (xs := r.parts.map V.str), fun i' σ' H' => ∃ (v : Option V), σ' = [some (.ref a), some (.ref l), some (.ref lw), some (.str (strOf cs)), some (.int (at' : Nat)), some (.str p), v] ∧ (∀ b o, b ≠ lw → H b = some o → H' b = some o) ∧ H' lw = some (.lst ((st' ++ r.parts.reverse.take i').map V.str)), ⟨v6, rfl, sO6, by rw [List.take_zero, List.append_nil]; exact k6⟩, ?_, ?_, ?_⟩
              · rintro i' σ' H' hi' ⟨_, _, f, _⟩
                exact SqT.of (f _ _ (ne_of_none e2' nlw) e2')
              · rintro i' x σ' H3 H4 hi' ⟨v, rfl, f3, kw3⟩ ⟨rfl, hx⟩
                rw [List.length_map] at hi' hx
                obtain ⟨q, hq, rfl⟩ := map_get hx
                have hqr : r.parts.reverse[i']? = some q := by rw [List.getElem?_reverse hi']; exact hq
                kxs_still
                refine ⟨ty_l kw3, ?_⟩
                kxs_still
                refine m_append kw3 (by simp only [List.length_map, List.length_append, List.length_take, List.length_reverse]; omega) fun H5 k5 e5 => ?_
                kxs_still
                refine ⟨_, rfl, fun b o hb q => by rw [e5 b hb]; exact f3 b o hb q, ?_⟩
                rw [k5, take_snoc hqr, ← List.append_assoc, List.map_append (l₂ := [q])]
                rfl
              · rintro σ' H3 ⟨v, rfl, f3, kw3⟩
                rw [List.length_map, List.take_of_length_le (by rw [List.length_reverse]; exact Nat.le_refl _)] at kw3
                kxs_still
                refine ⟨_, ?_, st' ++ r.parts.reverse, cs, at' + 1, _, _, rfl, f3, kw3, fun q hq => ?_, by omega, ?_, rfl, ?_⟩
                · rw [List.length_append, List.length_reverse]; omega
                · rcases List.mem_append.mp hq with hq | hq
                  · exact hP' q hq
                  · exact hrg.parts q (List.mem_reverse.mp hq)
                · rw [hT, List.reverse_append, List.reverse_reverse]
                · rw [List.length_append, List.length_reverse]; omega
        · rw [if_neg ci] at bad
          kxs_still
          exact bad rfl
  · subst cst
    rw [List.reverse_nil, rg_nil] at hT
    kxs_still
    refine iteD (fun ca => ?_) fun ca => ?_
    · rw [List.length_map] at ca
      kxs_still
      refine fail (fun z e => ?_) _ sH5
      rw [hT, if_neg (by
        intro q
        have := congrArg List.length q
        rw [List.length_map, List.length_drop] at this
        simp only [List.length_nil] at this
        omega)] at e
      cases e
    · rw [List.length_map] at ca
      kxs_still
      refine h1 r0 cs hr0 ?_ H5 sH5
      rw [hT, if_pos (by rw [List.drop_of_length_le (by omega)]; rfl)]
      simp

end
theorem df_law_read (T : Txt K mg cs) : Df P w K mg base "_law_read" 1 ["_law_grammar", "_law_row_here"] (sp2 (R_law_read K)) := by
  obtain ⟨f, fd, hm, F, hb⟩ := T.f_law_read.ex
  exact ⟨f, fd, hm, F.kp, hb, ok_law_read F T⟩
/-! ### rows drawn by the law -/
/-- row is the forest of the names that wait, the first one first -/
inductive Wt (rs : List Rl) : List Nat → List Str → Prop
  | nil : Wt rs [] []
  | cons {k : Nat} {r : Rl} {row : List Nat} {ns : List Str} : rs[k]? = some r → Wt rs row (namesOf r ++ ns) → Wt rs (k :: row) (r.head :: ns)
/-- a name that ends within t steps by the told rules -/
inductive Pd (rs : List Rl) (E : Szs) : Nat → Str → Prop
  | mk {t k : Nat} {h : Str} {r : Rl} : look E h = some k → rs[k]? = some r → r.head = h → (∀ p ∈ namesOf r, Pd rs E t p) → Pd rs E (t + 1) h
theorem Pd.more {rs : List Rl} {E : Szs} {t : Nat} {h : Str} (p : Pd rs E t h) : ∀ {E' : Szs}, (∀ h k, look E h = some k → look E' h = some k) → ∀ {t' : Nat}, t ≤ t' → Pd rs E' t' h := by
  induction p with
  | @mk t k h r h1 h2 h3 _ ih =>
    intro E' hE t' ht
    cases t' with
    | zero => omega
    | succ t' => exact .mk (hE _ _ h1) h2 h3 fun q hq => ih q hq hE (by omega)
theorem Pd.known {rs : List Rl} {E : Szs} {t : Nat} {h : Str} (p : Pd rs E t h) : ∃ k r, look E h = some k ∧ rs[k]? = some r ∧ r.head = h := by
  cases p with
  | mk h1 h2 h3 _ => exact ⟨_, _, h1, h2, h3⟩
def endK (rs : List Rl) (E0 : Szs) (E : Szs) (k : Nat) : Szs := match rs[k]? with
  | none => E
  | some r => if barren E0 r.parts = [] ∧ look E r.head = none then putS E r.head k else E
def endTo (rs : List Rl) (E0 : Szs) (i : Nat) : Szs := (List.range i).foldl (endK rs E0) E0
def ends (rs : List Rl) : Nat → Szs
  | 0 => []
  | t + 1 => endTo rs (ends rs t) rs.length
theorem endTo_step (rs : List Rl) (E0 : Szs) (i : Nat) : endTo rs E0 (i + 1) = endK rs E0 (endTo rs E0 i) i := by
  unfold endTo
  rw [List.range_succ, List.foldl_append]
  rfl
/-- what a round keeps -/
structure EndOk (rs : List Rl) (t : Nat) (E : Szs) : Prop where
  nd : (E.map (·.1)).Nodup
  pd : ∀ h, (look E h).isSome = true → Pd rs E t h
theorem EndOk.nil (rs : List Rl) : EndOk rs 0 [] := ⟨List.nodup_nil, fun h e => by cases e⟩
theorem endK_keep (rs : List Rl) (E0 E : Szs) (i : Nat) : ∀ h k, look E h = some k → look (endK rs E0 E i) h = some k := by
  intro h k e
  unfold endK
  cases rs[i]? with
  | none => exact e
  | some r =>
    show look (if barren E0 r.parts = [] ∧ look E r.head = none then putS E r.head i else E) h = some k
    by_cases c : barren E0 r.parts = [] ∧ look E r.head = none
    · rw [if_pos c, look_put, if_neg fun q => by rw [q, c.2] at e; cases e]
      exact e
    · rw [if_neg c]
      exact e
theorem endTo_keep (rs : List Rl) (E0 : Szs) : ∀ i h k, look E0 h = some k → look (endTo rs E0 i) h = some k
  | 0, _, _, e => e
  | i + 1, h, k, e => by
    rw [endTo_step]
    exact endK_keep rs E0 _ i h k (endTo_keep rs E0 i h k e)
theorem endTo_ok {rs : List Rl} {t : Nat} {E0 : Szs} (h0 : EndOk rs t E0) : ∀ i, EndOk rs (t + 1) (endTo rs E0 i)
  | 0 => ⟨h0.nd, fun h e => (h0.pd h e).more (fun _ _ q => q) (Nat.le_succ _)⟩
  | i + 1 => by
    have ih := endTo_ok h0 i
    rw [endTo_step]
    have keep := endK_keep rs E0 (endTo rs E0 i) i
    cases hr : rs[i]? with
    | none =>
      have e : endK rs E0 (endTo rs E0 i) i = endTo rs E0 i := by unfold endK; rw [hr]
      rw [e]
      exact ih
    | some r =>
      by_cases c : barren E0 r.parts = [] ∧ look (endTo rs E0 i) r.head = none
      · have e : endK rs E0 (endTo rs E0 i) i = putS (endTo rs E0 i) r.head i := by unfold endK; rw [hr]; exact if_pos c
        rw [e] at keep ⊢
        refine ⟨?_, fun h q => ?_⟩
        · rw [keys_put, c.2, if_neg (by simp)]
          exact List.nodup_append.mpr ⟨ih.nd, by simp, fun a ha b hb => by
            rw [List.mem_singleton.mp hb]
            exact fun z => look_none c.2 (by rw [← z]; exact ha)⟩
        · by_cases z : h = r.head
          · refine .mk (k := i) (by rw [look_put, if_pos z]) hr z.symm fun p hp => ?_
            have := barren_names.mp c.1 p hp
            exact (h0.pd p this).more (fun h k q => keep h k (endTo_keep rs E0 i h k q)) (Nat.le_refl _)
          · rw [look_put, if_neg z] at q
            exact (ih.pd h q).more keep (Nat.le_refl _)
      · have e : endK rs E0 (endTo rs E0 i) i = endTo rs E0 i := by unfold endK; rw [hr]; exact if_neg c
        rw [e]
        exact ih
theorem ends_ok (rs : List Rl) : ∀ t, EndOk rs t (ends rs t)
  | 0 => EndOk.nil rs
  | t + 1 => endTo_ok (ends_ok rs t) rs.length
theorem endTo_len (rs : List Rl) (E0 : Szs) : ∀ i, E0.length ≤ (endTo rs E0 i).length ∧ ((endTo rs E0 i).length = E0.length → endTo rs E0 i = E0)
  | 0 => ⟨Nat.le_refl _, fun _ => rfl⟩
  | i + 1 => by
    obtain ⟨h1, h2⟩ := endTo_len rs E0 i
    rw [endTo_step]
    cases hr : rs[i]? with
    | none =>
      have e : endK rs E0 (endTo rs E0 i) i = endTo rs E0 i := by unfold endK; rw [hr]
      rw [e]
      exact ⟨h1, h2⟩
    | some r =>
      by_cases c : barren E0 r.parts = [] ∧ look (endTo rs E0 i) r.head = none
      · have e : endK rs E0 (endTo rs E0 i) i = putS (endTo rs E0 i) r.head i := by unfold endK; rw [hr]; exact if_pos c
        have l : (putS (endTo rs E0 i) r.head i).length = (endTo rs E0 i).length + 1 := by
          rw [putS_none c.2, List.length_append]
          rfl
        rw [e, l]
        exact ⟨by omega, fun q => by omega⟩
      · have e : endK rs E0 (endTo rs E0 i) i = endTo rs E0 i := by unfold endK; rw [hr]; exact if_neg c
        rw [e]
        exact ⟨h1, h2⟩
theorem endTo_hit {rs : List Rl} {E0 : Szs} : ∀ {i k : Nat} {r : Rl}, k < i → rs[k]? = some r → barren E0 r.parts = [] → (look (endTo rs E0 i) r.head).isSome = true
  | 0, _, _, h, _, _ => by omega
  | i + 1, k, r, h, hr, hb => by
    rw [endTo_step]
    by_cases c : k < i
    · have := endTo_hit c hr hb
      obtain ⟨n, hn⟩ := Option.isSome_iff_exists.mp this
      rw [endK_keep rs E0 _ i _ _ hn]
      rfl
    · obtain rfl : k = i := by omega
      cases e : look (endTo rs E0 k) r.head with
      | some n => rw [endK_keep rs E0 _ k _ _ e]; rfl
      | none =>
        unfold endK
        rw [hr]
        show (look (if barren E0 r.parts = [] ∧ look (endTo rs E0 k) r.head = none then putS (endTo rs E0 k) r.head k else endTo rs E0 k) r.head).isSome = true
        rw [if_pos ⟨hb, e⟩, look_put, if_pos rfl]
        rfl
/-- the names that end, all of them found in five rounds where there are four heads -/
structure Ends (rs : List Rl) (E : Szs) : Prop where
  ok : EndOk rs 5 E
  all : ∀ r ∈ rs, barren E r.parts = [] → (look E r.head).isSome = true
theorem ends_all {rs : List Rl} {nms : List Str} (h4 : nms.length ≤ 4) (hn : ∀ r ∈ rs, r.head ∈ nms) : Ends rs (ends rs 5) := by
  have cap : ∀ t, (ends rs t).length ≤ 4 := fun t => by
    have := nodup_len (m := nms) (ends_ok rs t).nd fun x hx => by
      obtain ⟨n, e⟩ := mem_look hx
      obtain ⟨k, r, h1, h2, h3⟩ := ((ends_ok rs t).pd x (by rw [e]; rfl)).known
      rw [← h3]
      exact hn r (List.mem_of_getElem? h2)
    rw [List.length_map] at this
    omega
  have grow : ∀ t, t ≤ (ends rs t).length ∨ ends rs (t + 1) = ends rs t ∧ ∃ j, j ≤ t ∧ True := fun t => by
    induction t with
    | zero => exact .inl (Nat.zero_le _)
    | succ t ih =>
      rcases ih with ih | ⟨ih, _⟩
      · obtain ⟨h1, h2⟩ := endTo_len rs (ends rs t) rs.length
        have h1 : (ends rs t).length ≤ (ends rs (t + 1)).length := h1
        by_cases c : (ends rs (t + 1)).length = (ends rs t).length
        · have e : ends rs (t + 1) = ends rs t := h2 c
          refine .inr ⟨?_, 0, Nat.zero_le _, trivial⟩
          show endTo rs (ends rs (t + 1)) rs.length = ends rs (t + 1)
          rw [e]
          exact e
        · exact .inl (by omega)
      · refine .inr ⟨?_, 0, Nat.zero_le _, trivial⟩
        show endTo rs (ends rs (t + 1)) rs.length = ends rs (t + 1)
        rw [ih]
        exact ih
  have fix : ends rs 6 = ends rs 5 := by
    rcases grow 5 with h | ⟨h, _⟩
    · have := cap 5
      omega
    · exact h
  refine ⟨ends_ok rs 5, fun r hr hb => ?_⟩
  obtain ⟨k, hk⟩ := List.mem_iff_getElem?.mp hr
  have := endTo_hit (List.getElem?_eq_some_iff.mp hk).1 hk hb
  have e : endTo rs (ends rs 5) rs.length = ends rs 5 := fix
  rw [e] at this
  exact this
theorem part_le {S : Szs} : ∀ {ps : List Str} {m k : Nat} {p : Str}, p ∈ ps → isSg p = false → look S p = some k → sizeP S ps = some m → k ≤ m
  | [], _, _, _, h, _, _, _ => by cases h
  | a :: r, m, k, p, h, hs, hl, e => by
    have e : (if isSg a = true then sizeP S r else (look S a).bind fun n => (sizeP S r).map (n + ·)) = some m := e
    by_cases c : isSg a = true
    · rw [if_pos c] at e
      rcases List.mem_cons.mp h with h | h
      · rw [h, c] at hs; cases hs
      · exact part_le h hs hl e
    · rw [if_neg c] at e
      cases h1 : look S a with
      | none => rw [h1] at e; cases e
      | some x =>
        cases h2 : sizeP S r with
        | none => rw [h1, h2] at e; cases e
        | some y =>
          rw [h1, h2] at e
          have e : x + y = m := Option.some.inj e
          rcases List.mem_cons.mp h with h | h
          · rw [← h, hl] at h1
            cases h1
            omega
          · have := part_le h hs hl h2
            omega
/-- where names end is where they have a least size -/
theorem Ends.sized {rs : List Rl} {E S : Szs} (e : Ends rs E) (d : Done rs S) (h : Str) : (look E h).isSome = (look S h).isSome := by
  have a : ∀ {t : Nat} {h : Str}, Pd rs E t h → (look S h).isSome = true := by
    intro t h p
    induction p with
    | @mk t k h r h1 h2 h3 _ ih =>
      have hb : barren S r.parts = [] := barren_names.mpr ih
      obtain ⟨m, hm⟩ := Option.isSome_iff_exists.mp ((barren_iff S r.parts).mp hb)
      obtain ⟨n, q, _⟩ := d.low (List.mem_of_getElem? h2) hm
      rw [← h3, q]
      rfl
  have b : ∀ (n : Nat) (h : Str), look S h = some n → (look E h).isSome = true := by
    intro n
    induction n using Nat.strongRecOn with
    | _ n ih =>
      intro h q
      obtain ⟨r, h1, h2, h3, h4⟩ := d.why q
      rw [← h2]
      refine e.all r h1 (barren_names.mpr fun p hp => ?_)
      obtain ⟨hp1, hp2⟩ := List.mem_filter.mp hp
      cases hl : look S p with
      | none => rw [sizeP_bad hp1 (by simpa using hp2) hl] at h3; cases h3
      | some k =>
        refine ih k ?_ p hl
        have := part_le hp1 (by simpa using hp2) hl h3
        omega
  cases h1 : look S h with
  | some n => rw [b n h h1]; rfl
  | none =>
    cases h2 : look E h with
    | none => rfl
    | some k =>
      have := a (e.ok.pd h (by rw [h2]; rfl))
      rw [h1] at this
      cases this
def R_law_open (K : PySem.W.Frag) : V → V → V → Hp → VK → XK → Prop := fun x y z H Q _ => ∃ (a : Addr) (vs : List V) (rs : List Rl) (d : Addr) (E : Szs) (n : Str), x = .ref a ∧ SqL K H a vs ∧ RulesAt H vs rs ∧ GoodG rs ∧ y = .ref d ∧ H d = some (.dK (szK E)) ∧ z = .str n ∧
  ∀ (l : Addr) (H' : Hp) (ks : List Nat), Same H H' → H l = none → H' l = some (.lst (ks.map fun k => V.int (k : Nat))) → ks.length ≤ 60 → (∀ k, k ∈ ks ↔ ∃ r, rs[k]? = some r ∧ r.head = n ∧ barren E r.parts = []) → Q (.ref l) H'
section
theorem ok_law_open {f : Addr} {fd : FuncData} (F : Fun K "_law_open" "_law_open" s_law_open f fd) (T : Txt K mg cs) : FnOk P w K mg base (L2.CX P w) 1 f fd ["_law_grammar", "_law_shorts", "_law_name"] (sp3 (R_law_open K)) := by
  refine F.okX sc_law_open (fun vs H Q E h => sp3_len h) (fun cdv A outer s H vs Q E hr h => ⟨_, PBw (X := X_law_open P w K mg base f cdv A outer s H E), ?_⟩)
  obtain ⟨a0, a1, a2, rfl, h⟩ := h
  have ib_range := T.b_range
  have ib_len := T.b_len
  have hr' : Room 0 (X_law_open P w K mg base f cdv A outer s H E).A := hr
  replace hr := hr'
  clear hr'
  obtain ⟨a, vs, rs, d, E, n, rfl, hS, hR, hG, rfl, hk, rfl, h⟩ := h
  have hvl := hR.len
  have h60 := hG.few
  tm_run
  intro l1 H1 s1 n1 k1 _
  tm_run
  refine s_for (j_rng1 ?_)
  tm_run
  refine ⟨by omega, by omega, _, _, _, walk_range, fun i σ' H' => ∃ (ks : List Nat) (v4 v5 v6 : Option V), σ' = [some (.ref a), some (.ref d), some (.str n), some (.ref l1), v4, v5, v6] ∧ Same H H' ∧ H' l1 = some (.lst (ks.map fun k => V.int (k : Nat))) ∧ ks.length ≤ i ∧ (∀ k, k ∈ ks ↔ k < i ∧ ∃ r, rs[k]? = some r ∧ r.head = n ∧ barren E r.parts = []), ⟨[], none, none, none, rfl, s1, k1, Nat.zero_le _, by simp⟩, fun _ _ _ _ _ => trivial, ?_, ?_⟩
  · rintro i x σ' H' H2 hi ⟨ks, v4, v5, v6, rfl, s2, k2, hl, hks⟩ ⟨rfl, rfl⟩
    have hi' : i < rs.length := by omega
    obtain ⟨r, hr1⟩ : ∃ r, rs[i]? = some r := ⟨_, List.getElem?_eq_getElem hi'⟩
    have hrg := hG.good r (List.mem_of_getElem? hr1)
    obtain ⟨v, hv⟩ : ∃ v, vs[i]? = some v := ⟨_, List.getElem?_eq_getElem (by omega)⟩
    obtain ⟨r', q1, q2⟩ := hR.get i v hv
    obtain rfl : r' = r := Option.some.inj (q1.symm.trans hr1)
    obtain ⟨ra, rb, rfl, e1, e2⟩ := q2.more s2
    have hvi : atI vs (0 + (i : Int)) = some (.ref ra) := atI_nat (by omega) (by rw [show (0 + (i : Int)).toNat = i by omega]; exact hv)
    tm_run
    refine s_setLcF (blkOk_by (sc := defScope s_law_open) (own := [("_law_part", 6)]) (by decide +kernel)) (fun i => (r'.parts[i]?.map fun p => !isSg p && (look E p).isNone).getD false) (fun i => (r'.parts[i]?.map V.str).getD .non) (j_tup ?_)
    tm_run
    refine i_lst (s2.seq hS) hvi ?_
    tm_run
    refine ⟨⟨_, SqT.of e2⟩, _, _, _, walk_tup (xs := r'.parts.map V.str), by rw [List.length_map]; have := hrg.few; omega, fun H' s' => SqT.of (s' _ _ e2), ?_, ?_⟩
    · rintro m x H' H3 hn s' ⟨rfl, hx⟩
      obtain ⟨p, hp, rfl⟩ := map_get hx
      have hpm := List.mem_of_getElem? hp
      obtain ⟨c, l, ec, hsg⟩ := part_first (hrg.parts p hpm)
      have hpl := part_len (hrg.parts p hpm)
      refine ⟨Same.refl _, fun _ _ _ _ _ => ?_⟩
      tm_run
      refine ⟨Same.refl _, fun _ _ _ _ _ => ?_⟩
      tm_run
      refine i_str (by kpc_check) (c := c) (by rw [show p.cps.toList = c :: l from ec]; exact atI_nat (by decide) rfl) ?_
      tm_run
      rw [is_quote, ← hsg]
      cases hs : isSg p with
      | true =>
        tm_run
        exact ⟨Same.refl _, (by rw [hp]; show false = (!isSg p && _); rw [hs]; rfl), fun z => nomatch z⟩
      | false =>
        tm_run
        refine o_dni (rm1 hr) (dget_sz (s' _ _ (s2 _ _ hk))) ?_
        refine ⟨_, rfl, Same.refl _, (by rw [hp]; show _ = (!isSg p && _); rw [hs]; cases look E p <;> rfl), fun _ _ _ _ _ _ => ?_⟩
        tm_run
        first | exact ⟨by rw [hp]; rfl, Same.refl _⟩ | exact Same.refl _
    · intro l3 H3 s3 n3 k3
      rw [List.length_map, filter_ix V.str] at k3
      have k3 : H3 l3 = some (.lst ((barren E r'.parts).map V.str)) := k3
      have put : ∀ (ks' : List Nat) (w4 w5 w6 : Option V) (H4 : Hp), Same H H4 → H4 l1 = some (.lst (ks'.map fun k => V.int (k : Nat))) → ks'.length ≤ i + 1 → (∀ k, k ∈ ks' ↔ k < i + 1 ∧ ∃ r, rs[k]? = some r ∧ r.head = n ∧ barren E r.parts = []) →
          ∃ (ks : List Nat) (v4 v5 v6 : Option V), [some (V.ref a), some (V.ref d), some (V.str n), some (V.ref l1), w4, w5, w6] = [some (.ref a), some (.ref d), some (.str n), some (.ref l1), v4, v5, v6] ∧ Same H H4 ∧ H4 l1 = some (.lst (ks.map fun k => V.int (k : Nat))) ∧ ks.length ≤ i + 1 ∧ (∀ k, k ∈ ks ↔ k < i + 1 ∧ ∃ r, rs[k]? = some r ∧ r.head = n ∧ barren E r.parts = []) := fun ks' w4 w5 w6 H4 q1 q2 q3 q4 => ⟨ks', _, _, _, rfl, q1, q2, q3, q4⟩
      have nope : ¬ (r'.head = n ∧ barren E r'.parts = []) → ∀ k, k ∈ ks ↔ k < i + 1 ∧ ∃ r, rs[k]? = some r ∧ r.head = n ∧ barren E r.parts = [] := fun q k => by
        rw [hks]
        constructor
        · rintro ⟨z, w⟩; exact ⟨by omega, w⟩
        · rintro ⟨z, r, w1, w2⟩
          refine ⟨?_, r, w1, w2⟩
          by_cases c : k = i
          · rw [c, q1] at w1; cases w1; exact absurd w2 q
          · omega
      tm_run
      refine i_lst ((s2.trans s3).seq hS) hvi ?_
      tm_run
      refine iteD (fun ch => ?_) fun ch => ?_
      · tm_run
        intro l4 H4 s4 n4 k4 _
        tm_run
        have sh : Sh 1 (.list ((barren E r'.parts).map .str)) := strs_sh fun p hp => part_codes (hrg.parts p (List.mem_filter.mp hp).1)
        refine o_eqD hr.units (.lst (SqL.of (s4 _ _ k3)) (dp_strs _)) (.lst (SqL.of k4) .nil) sh.ok rfl ?_
        rw [strs_nil]
        tm_run
        refine iteD (fun cb => ?_) fun cb => ?_
        · tm_run
          refine ⟨ty_l (s4 _ _ (s3 _ _ k2)), ?_⟩
          tm_run
          refine m_append (s4 _ _ (s3 _ _ k2)) (by rw [List.length_map]; omega) fun H5 k5 e5 => ?_
          tm_run
          refine put (ks ++ [i]) _ _ _ H5 (fun b o e => ?_) (by rw [k5, List.map_append]; simp) (by rw [List.length_append]; simp; omega) fun k => ?_
          · rw [e5 b (ne_of_none e n1)]
            exact s4 _ _ (s3 _ _ (s2 _ _ e))
          · rw [List.mem_append, List.mem_singleton, hks]
            constructor
            · rintro (⟨z, w⟩ | z)
              · exact ⟨by omega, w⟩
              · exact ⟨by omega, r', by rw [z]; exact q1, ch, cb⟩
            · rintro ⟨z, w⟩
              by_cases c : k = i
              · exact .inr c
              · exact .inl ⟨by omega, w⟩
        · tm_run
          exact put ks _ _ _ _ (s2.trans (s3.trans s4)) (s4 _ _ (s3 _ _ k2)) (by omega) (nope fun q => cb q.2)
      · tm_run
        exact put ks _ _ _ _ (s2.trans s3) (s3 _ _ k2) (by omega) (nope fun q => ch q.1)
  · rintro σ' H' ⟨ks, v4, v5, v6, rfl, s2, k2, hl, hks⟩
    tm_run
    refine h l1 _ ks s2 n1 k2 (by omega) fun k => ?_
    rw [hks]
    exact ⟨fun q => q.2, fun ⟨r, q, z⟩ => ⟨by have := (List.getElem?_eq_some_iff.mp q).1; omega, r, q, z⟩⟩
end
theorem df_law_open (T : Txt K mg cs) : Df P w K mg base "_law_open" 1 ["_law_grammar", "_law_shorts", "_law_name"] (sp3 (R_law_open K)) := by
  obtain ⟨f, fd, hm, F, hb⟩ := T.f_law_open.ex
  exact ⟨f, fd, hm, F.kp, hb, ok_law_open F T⟩
theorem endTo_cap (rs : List Rl) (E0 : Szs) {B : Nat} (h : E0.length ≤ B) : ∀ i, (endTo rs E0 i).length ≤ B + i
  | 0 => h
  | i + 1 => by
    have ih := endTo_cap rs E0 h i
    rw [endTo_step]
    unfold endK
    cases rs[i]? with
    | none => show (endTo rs E0 i).length ≤ _; omega
    | some r =>
      show (if barren E0 r.parts = [] ∧ look (endTo rs E0 i) r.head = none then putS (endTo rs E0 i) r.head i else endTo rs E0 i).length ≤ _
      by_cases c : barren E0 r.parts = [] ∧ look (endTo rs E0 i) r.head = none
      · rw [if_pos c, putS_none c.2, List.length_append]
        simp
        omega
      · rw [if_neg c]
        omega
theorem ends_cap (rs : List Rl) (t : Nat) : (ends rs t).length ≤ rs.length := by
  have := nodup_len (m := rs.map Rl.head) (ends_ok rs t).nd fun x hx => by
    obtain ⟨n, e⟩ := mem_look hx
    obtain ⟨k, r, h1, h2, h3⟩ := ((ends_ok rs t).pd x (by rw [e]; rfl)).known
    rw [← h3]
    exact List.mem_map.mpr ⟨r, List.mem_of_getElem? h2, rfl⟩
  simpa using this
def R_law_ends (K : PySem.W.Frag) : V → Hp → VK → XK → Prop := fun x H Q _ => ∃ (a : Addr) (vs : List V) (rs : List Rl), x = .ref a ∧ SqL K H a vs ∧ RulesAt H vs rs ∧ GoodG rs ∧ ∀ (d : Addr) (H' : Hp), Same H H' → H d = none → H' d = some (.dK (szK (ends rs 5))) → Q (.ref d) H'
section
theorem ok_law_ends {f : Addr} {fd : FuncData} (F : Fun K "_law_ends" "_law_ends" s_law_ends f fd) (T : Txt K mg cs) : FnOk P w K mg base (L2.CX P w) 1 f fd ["_law_grammar"] (sp1 (R_law_ends K)) := by
  refine F.okX sc_law_ends (fun vs H Q E h => sp1_len h) (fun cdv A outer s H vs Q E hr h => ⟨_, PBw (X := X_law_ends P w K mg base f cdv A outer s H E), ?_⟩)
  obtain ⟨a0, rfl, h⟩ := h
  have ib_range := T.b_range
  have ib_dict := T.b_dict
  have ib_len := T.b_len
  have hr' : Room 0 (X_law_ends P w K mg base f cdv A outer s H E).A := hr
  replace hr := hr'
  clear hr'
  obtain ⟨a, vs, rs, rfl, hS, hR, hG, h⟩ := h
  have hvl := hR.len
  have h60 := hG.few
  tm_run
  intro d H1 s1 n1 k1 e1
  tm_run
  refine s_for (j_rng1 ?_)
  tm_run
  refine ⟨by decide, by decide, _, _, _, walk_range, fun t σ' H' => ∃ (v2 v3 v4 v5 v6 : Option V), σ' = [some (.ref a), some (.ref d), v2, v3, v4, v5, v6] ∧ Same H H' ∧ H' d = some (.dK (szK (ends rs t))), ⟨none, none, none, none, none, rfl, s1, k1⟩, fun _ _ _ _ _ => trivial, ?_, ?_⟩
  · rintro t x σ' H' H2 ht ⟨v2, v3, v4, v5, v6, rfl, s2, k2⟩ ⟨rfl, rfl⟩
    tm_run
    refine k_dictD (.inl k2) fun d2 H3 s3 n3 k3 _ => ?_
    have k3' := s3 _ _ k2
    have nd : d2 ≠ d := fun z => by rw [z, k2] at n3; cases n3
    tm_run
    refine s_for (j_rng1 ?_)
    tm_run
    refine ⟨by omega, by omega, _, _, _, walk_range, fun i σ' H' => ∃ (v4 v5 v6 : Option V), σ' = [some (.ref a), some (.ref d), some (.int (0 + (t : Int))), some (.ref d2), v4, v5, v6] ∧ Same H H' ∧ H' d2 = some (.dK (szK (ends rs t))) ∧ H' d = some (.dK (szK (endTo rs (ends rs t) i))), ⟨v4, v5, v6, rfl, s2.trans s3, k3, k3'⟩, fun _ _ _ _ _ => trivial, ?_, ?_⟩
    · rintro i x σ'' H'' H4 hi ⟨w4, w5, w6, rfl, s4, k4, q4⟩ ⟨rfl, rfl⟩
      have hi' : i < rs.length := by omega
      obtain ⟨r, hr1⟩ : ∃ r, rs[i]? = some r := ⟨_, List.getElem?_eq_getElem hi'⟩
      have hrg := hG.good r (List.mem_of_getElem? hr1)
      obtain ⟨v, hv⟩ : ∃ v, vs[i]? = some v := ⟨_, List.getElem?_eq_getElem (by omega)⟩
      obtain ⟨r', q1, q2⟩ := hR.get i v hv
      obtain rfl : r' = r := Option.some.inj (q1.symm.trans hr1)
      obtain ⟨ra, rb, rfl, e1', e2'⟩ := q2.more s4
      have hvi : atI vs (0 + (i : Int)) = some (.ref ra) := atI_nat (by omega) (by rw [show (0 + (i : Int)).toNat = i by omega]; exact hv)
      have stepE := endTo_step rs (ends rs t) i
      have few : (szK (endTo rs (ends rs t) i)).length ≤ 100000 := by
        have := endTo_cap rs (ends rs t) (ends_cap rs t) i
        unfold szK
        rw [List.length_map]
        omega
      tm_run
      refine s_setLcF (blkOk_by (sc := defScope s_law_ends) (own := [("_law_part", 6)]) (by decide +kernel)) (fun i => (r'.parts[i]?.map fun p => !isSg p && (look (ends rs t) p).isNone).getD false) (fun i => (r'.parts[i]?.map V.str).getD .non) (j_tup ?_)
      tm_run
      refine i_lst (s4.seq hS) hvi ?_
      tm_run
      refine ⟨⟨_, SqT.of e2'⟩, _, _, _, walk_tup (xs := r'.parts.map V.str), by rw [List.length_map]; have := hrg.few; omega, fun H' s' => SqT.of (s' _ _ e2'), ?_, ?_⟩
      · rintro m x H5 H6 hn s' ⟨rfl, hx⟩
        obtain ⟨p, hp, rfl⟩ := map_get hx
        have hpm := List.mem_of_getElem? hp
        obtain ⟨c, l, ec, hsg⟩ := part_first (hrg.parts p hpm)
        have hpl := part_len (hrg.parts p hpm)
        refine ⟨Same.refl _, fun _ _ _ _ _ => ?_⟩
        tm_run
        refine ⟨Same.refl _, fun _ _ _ _ _ => ?_⟩
        tm_run
        refine i_str (by kpc_check) (c := c) (by rw [show p.cps.toList = c :: l from ec]; exact atI_nat (by decide) rfl) ?_
        tm_run
        rw [is_quote, ← hsg]
        cases hs : isSg p with
        | true =>
          tm_run
          exact ⟨Same.refl _, (by rw [hp]; show false = (!isSg p && _); rw [hs]; rfl), fun z => nomatch z⟩
        | false =>
          tm_run
          refine o_dni (rm1 hr) (dget_sz (s' _ _ k4)) ?_
          refine ⟨_, rfl, Same.refl _, (by rw [hp]; show _ = (!isSg p && _); rw [hs]; cases look (ends rs t) p <;> rfl), fun _ _ _ _ _ _ => ?_⟩
          tm_run
          first | exact ⟨by rw [hp]; rfl, Same.refl _⟩ | exact Same.refl _
      · intro l3 H5 s5 n5 k5
        rw [List.length_map, filter_ix V.str] at k5
        have k5 : H5 l3 = some (.lst ((barren (ends rs t) r'.parts).map V.str)) := k5
        have put : ∀ (H6 : Hp), Same H H6 → H6 d2 = some (.dK (szK (ends rs t))) → H6 d = some (.dK (szK (endK rs (ends rs t) (endTo rs (ends rs t) i) i))) → Same H H6 ∧ H6 d2 = some (.dK (szK (ends rs t))) ∧ H6 d = some (.dK (szK (endTo rs (ends rs t) (i + 1)))) := fun H6 p1 p2 p3 => ⟨p1, p2, by rw [stepE]; exact p3⟩
        have nope : ¬ (barren (ends rs t) r'.parts = [] ∧ look (endTo rs (ends rs t) i) r'.head = none) → endK rs (ends rs t) (endTo rs (ends rs t) i) i = endTo rs (ends rs t) i := fun q => by unfold endK; rw [hr1]; exact if_neg q
        have sh : Sh 1 (.list ((barren (ends rs t) r'.parts).map .str)) := strs_sh fun p hp => part_codes (hrg.parts p (List.mem_filter.mp hp).1)
        tm_run
        intro l6 H6 s6 n6 k6 _
        tm_run
        refine o_eqD hr.units (.lst (SqL.of (s6 _ _ k5)) (dp_strs _)) (.lst (SqL.of k6) .nil) sh.ok rfl ?_
        rw [strs_nil]
        have s46 := s5.trans s6
        tm_run
        refine iteD (fun cb => ?_) fun cb => ?_
        · tm_run
          refine i_lst ((s4.trans s46).seq hS) hvi ?_
          tm_run
          refine o_dni (rm1 hr) (dget_sz (s46 _ _ q4)) ?_
          cases hl : look (endTo rs (ends rs t) i) r'.head with
          | some k =>
            tm_run
            exact put _ (s4.trans s46) (s46 _ _ k4) (by rw [nope fun q => by rw [hl] at q; cases q.2]; exact s46 _ _ q4)
          | none =>
            tm_run
            refine s_asg ?_
            tm_run
            refine g_setD (rm1 hr) ?_
            tm_run
            refine i_lst ((s4.trans s46).seq hS) hvi ?_
            tm_run
            refine ⟨d, _, .inr r'.head, rfl, s46 _ _ q4, rfl, few, fun H7 k7 e7 => ?_⟩
            tm_run
            have k7 : H7 d = some (.dK (putK (szK (endTo rs (ends rs t) i)) (.inr r'.head) (.int (0 + (i : Int))))) := k7
            rw [show (0 + (i : Int)) = ((i : Nat) : Int) by omega, putK_sz] at k7
            refine put H7 (fun b o e => ?_) (by rw [e7 d2 nd]; exact s46 _ _ k4) ?_
            · rw [e7 b (ne_of_none e n1)]
              exact s46 _ _ (s4 _ _ e)
            · have : endK rs (ends rs t) (endTo rs (ends rs t) i) i = putS (endTo rs (ends rs t) i) r'.head i := by unfold endK; rw [hr1]; exact if_pos ⟨cb, hl⟩
              rw [this]
              exact k7
        · tm_run
          exact put _ (s4.trans s46) (s46 _ _ k4) (by rw [nope fun q => cb q.1]; exact s46 _ _ q4)
    · rintro σ'' H'' ⟨w4, w5, w6, rfl, s4, k4, q4⟩
      have e : endTo rs (ends rs t) vs.length = ends rs (t + 1) := by rw [hvl]; rfl
      tm_run
      first | exact ⟨s4, by rw [← e]; exact q4⟩ | exact ⟨_, _, _, _, _, rfl, s4, by rw [← e]; exact q4⟩
  · rintro σ' H' ⟨v2, v3, v4, v5, v6, rfl, s2, k2⟩
    tm_run
    exact h d H' s2 n1 k2
end
theorem df_law_ends (T : Txt K mg cs) : Df P w K mg base "_law_ends" 1 ["_law_grammar"] (sp1 (R_law_ends K)) := by
  obtain ⟨f, fd, hm, F, hb⟩ := T.f_law_ends.ex
  exact ⟨f, fd, hm, F.kp, hb, ok_law_ends F T⟩
def bigW : Nat := 6 * 7 ^ 5 + 1
def wts (ts : List Nat) : Nat := (ts.map fun t => 7 ^ t).sum
theorem wts_app (a b : List Nat) : wts (a ++ b) = wts a + wts b := by unfold wts; rw [List.map_append, List.sum_append]
theorem all2_snoc {α β : Type} {R : α → β → Prop} {a : List α} {x : α} {b : List β} (h : All2 R (a ++ [x]) b) : ∃ b' y, b = b' ++ [y] ∧ All2 R a b' ∧ R x y := by
  induction a generalizing b with
  | nil =>
    cases h with
    | cons h t => cases t; exact ⟨[], _, rfl, .nil, h⟩
  | cons z a ih =>
    cases h with
    | cons h t =>
      obtain ⟨b', y, e, q1, q2⟩ := ih t
      exact ⟨_ :: b', y, by rw [e]; rfl, .cons h q1, q2⟩
theorem all2_const {α : Type} {R : α → Nat → Prop} {c : Nat} : ∀ {l : List α}, (∀ x ∈ l, R x c) → All2 R l (List.replicate l.length c)
  | [], _ => .nil
  | a :: l, h => .cons (h a (List.mem_cons_self ..)) (all2_const fun x hx => h x (List.mem_cons_of_mem _ hx))
theorem wts_rep (n c : Nat) : wts (List.replicate n c) = n * 7 ^ c := by unfold wts; rw [List.map_replicate, List.sum_replicate_nat]
theorem wts_pos {ts : List Nat} : ts.length ≤ wts ts := by
  induction ts with
  | nil => exact Nat.zero_le _
  | cons t ts ih =>
    have : 0 < 7 ^ t := Nat.pow_pos (by decide)
    unfold wts at ih ⊢
    simp only [List.map_cons, List.sum_cons, List.length_cons]
    omega
theorem wts_rev (ts : List Nat) : wts ts.reverse = wts ts := by
  unfold wts
  rw [List.map_reverse, List.sum_reverse]
theorem names_few {r : Rl} (g : GoodR r) : (namesOf r).length ≤ 6 := Nat.le_trans (List.length_filter_le ..) g.few
def R_law_row (K : PySem.W.Frag) : V → V → V → Hp → VK → XK → Prop := fun x y z H Q _ => ∃ (a : Addr) (vs : List V) (rs : List Rl) (c : Addr) (cells : List Int) (room : Int) (nms : List Str), GramAt K H x a vs rs ∧ y = .ref c ∧ SqL K H c (cells.map V.int) ∧ cells.length ≤ 63 ∧ z = .int room ∧ nms.length ≤ 4 ∧ (∀ r ∈ rs, r.head ∈ nms) ∧
  ((rs = [] ∨ ∃ r, rs[0]? = some r ∧ look (ends rs 5) r.head = none) → ∀ H', Same H H' → Q .non H') ∧
  (∀ r, rs[0]? = some r → (look (ends rs 5) r.head).isSome = true → ∀ (l : Addr) (row : List Nat) (H' : Hp), Same H H' → H' l = some (.lst (row.map fun k => V.int (k : Nat))) → row.length ≤ 10000000 → Wt rs row [r.head] → Q (.ref l) H')
section
set_option hygiene false in
local macro_rules | `(tactic| top_name) => `(tactic| first | refine e_call (df_law_ends T) (hr.mono (by decide)) ?_ | refine e_call (df_law_open T) (hr.mono (by decide)) ?_)
theorem ok_law_row {f : Addr} {fd : FuncData} (F : Fun K "_law_row" "_law_row" s_law_row f fd) (T : Txt K mg cs) : FnOk P w K mg base (L2.CX P w) 2 f fd ["_law_grammar", "_law_cells", "_law_room"] (sp3 (R_law_row K)) := by
  refine F.okX sc_law_row (fun vs H Q E h => sp3_len h) (fun cdv A outer s H vs Q E hr h => ⟨_, PBw (X := X_law_row P w K mg base f cdv A outer s H E), ?_⟩)
  obtain ⟨a0, a1, a2, rfl, h⟩ := h
  have ib_reversed := T.b_reversed
  have ib_len := T.b_len
  have hr' : Room 1 (X_law_row P w K mg base f cdv A outer s H E).A := hr
  replace hr := hr'
  clear hr'
  obtain ⟨a, vs, rs, c, cells, room, nms, g, rfl, hc, hcl, rfl, h4, hn, hno, hyes⟩ := h
  have hE := ends_all h4 hn
  have hvl := g.at_.len
  have h60 := g.ok.few
  obtain rfl := g.ref
  tm_run
  refine ⟨a, vs, rs, rfl, g.sq, g.at_, g.ok, fun d H1 s1 n1 k1 => ?_⟩
  tm_run
  intro l2 H2 s2 n2 k2 _
  tm_run
  refine o_eqD hr.units (g.more (s1.trans s2)).dp (.lst (SqL.of k2) .nil) (gram_sh g.ok.good).ok rfl ?_
  rw [gram_nil]
  tm_run
  refine iteD (fun c0 => ?_) fun c0 => ?_
  · tm_run
    exact hno (.inl c0) _ (s1.trans s2)
  obtain ⟨r0, hr0⟩ : ∃ r, rs[0]? = some r := by
    cases rs with
    | nil => exact absurd rfl c0
    | cons r rs => exact ⟨r, rfl⟩
  obtain ⟨v0, hv0⟩ : ∃ v, vs[0]? = some v := ⟨_, List.getElem?_eq_getElem (by have := (List.getElem?_eq_some_iff.mp hr0).1; omega)⟩
  obtain ⟨r0', q1, q2⟩ := g.at_.get 0 v0 hv0
  obtain rfl : r0' = r0 := Option.some.inj (q1.symm.trans hr0)
  obtain ⟨ra, rb, rfl, e1, e2⟩ := q2.more (s1.trans s2)
  tm_run
  refine i_lst ((s1.trans s2).seq g.sq) (atI_nat (by decide) hv0) ?_
  tm_run
  refine o_dni (rm1 hr) (dget_sz (s2 _ _ k1)) ?_
  cases hl0 : look (ends rs 5) r0'.head with
  | none =>
    tm_run
    exact hno (.inr ⟨r0', hr0, hl0⟩) _ (s1.trans s2)
  | some k0 =>
    tm_run
    refine i_lst ((s1.trans s2).seq g.sq) (atI_nat (by decide) hv0) ?_
    tm_run
    intro lw H3 s3 n3 k3 _
    tm_run
    intro lr H4 s4 n4 k4 _
    tm_run
    have s24 := s3.trans s4
    have sH4 : Same H H4 := s1.trans (s2.trans s24)
    have nwr : lw ≠ lr := fun z => by rw [← z, k3] at n4; cases n4
    have nnw : ∀ b o, H b = some o → b ≠ lw := fun b o q z => by rw [z] at q; rw [(s1.trans s2) _ _ q] at n3; cases n3
    have nnr : ∀ b o, H b = some o → b ≠ lr := fun b o q z => by rw [z] at q; rw [(s1.trans (s2.trans s3)) _ _ q] at n4; cases n4
    have ndw : d ≠ lw := fun z => by rw [← z, s2 _ _ k1] at n3; cases n3
    have ndr : d ≠ lr := fun z => by rw [← z, s3 _ _ (s2 _ _ k1)] at n4; cases n4
    have kd4 : H4 d = some (.dK (szK (ends rs 5))) := s24 _ _ (s2 _ _ k1)
    have e7 : (7 : Nat) ^ 5 = 16807 := by decide
    have hB : bigW = 100843 := by decide
    have head_codes : ∀ {t : Nat} {n : Str}, Pd rs (ends rs 5) t n → (∀ c ∈ tl n, c < 1114112) ∧ ∃ k r, look (ends rs 5) n = some k ∧ rs[k]? = some r ∧ r.head = n := fun q => by
      obtain ⟨k, r, h1, h2, h3⟩ := q.known
      exact ⟨by rw [← h3]; exact name_codes (g.ok.good r (List.mem_of_getElem? h2)).head, k, r, h1, h2, h3⟩
    refine s_while (fun m σ' H' => ∃ (row : List Nat) (st : List Str) (ts : List Nat) (v6 v7 v8 v9 : Option V), σ' = [some (.ref a), some (.ref c), some (.int room), some (.ref d), some (.ref lw), some (.ref lr), v6, v7, v8, v9] ∧ (∀ b o, b ≠ lw → b ≠ lr → H4 b = some o → H' b = some o) ∧ H' lw = some (.lst (st.map V.str)) ∧ H' lr = some (.lst (row.map fun k => V.int (k : Nat))) ∧ All2 (fun n t => Pd rs (ends rs 5) t n) st ts ∧ (∀ suf, Wt rs suf st.reverse → Wt rs (row ++ suf) [r0'.head]) ∧ m = (cells.length - row.length) * bigW + wts ts ∧ row.length + m ≤ 63 * bigW + 7 ^ 5) _
      ⟨[], [r0'.head], [5], none, none, none, none, rfl, fun _ _ _ _ q => q, s4 _ _ k3, k4, .cons (hE.ok.pd _ (by rw [hl0]; rfl)) .nil, fun suf q => q, rfl, by
        have := Nat.mul_le_mul_right bigW hcl
        show 0 + ((cells.length - 0) * bigW + (7 ^ 5 + 0)) ≤ _
        rw [Nat.sub_zero]
        omega⟩ ?_
    rintro m σ' H' ⟨row, st, ts, v6, v7, v8, v9, rfl, sO, kw, kr, hP, hW, rfl, hM⟩
    have sH' : Same H H' := fun b o q => sO b o (nnw b o q) (nnr b o q) (sH4 _ _ q)
    have hst := hP.len
    have htl := wts_pos (ts := ts)
    tm_run
    intro l5 H5 s5 n5 k5 _
    tm_run
    have shst : Sh 1 (.list (st.map .str)) := strs_sh fun p hp => by
      obtain ⟨i, hi⟩ := List.mem_iff_getElem?.mp hp
      obtain ⟨t, _, ht⟩ := hP.get hi
      exact (head_codes ht).1
    refine o_neD hr.units (.lst (SqL.of (s5 _ _ kw)) (dp_strs _)) (.lst (SqL.of k5) .nil) shst.ok rfl ?_
    rw [strs_nil]
    tm_run
    refine iteND (fun cst => ?_) fun cst => ?_
    · obtain ⟨st', n, rfl⟩ : ∃ st' n, st = st' ++ [n] := ⟨st.dropLast, st.getLast cst, (List.dropLast_concat_getLast cst).symm⟩
      obtain ⟨ts', t, rfl, hP', hPn⟩ := all2_snoc hP
      rw [wts_app] at hM ⊢
      have hwt : wts [t] = 7 ^ t := by unfold wts; simp
      rw [hwt] at hM ⊢
      obtain ⟨_, kn, rn, hln, hrn, hhn⟩ := head_codes hPn
      tm_run
      refine e_pop ?_
      tm_run
      refine ⟨ty_l (s5 _ _ kw), ?_⟩
      rw [List.map_append] at kw
      refine m_pop (s5 _ _ kw) fun H6 k6 e6 => ?_
      have sO6 : ∀ b o, b ≠ lw → b ≠ lr → H4 b = some o → H6 b = some o := fun b o h1 h2 q => by rw [e6 b h1]; exact s5 _ _ (sO b o h1 h2 q)
      have kr6 : H6 lr = some (.lst (row.map fun k => V.int (k : Nat))) := by rw [e6 lr nwr.symm]; exact s5 _ _ kr
      have sH6 : Same H H6 := fun b o q => sO6 b o (nnw b o q) (nnr b o q) (sH4 _ _ q)
      have hc6 := sH6.seq hc
      have kd6 : H6 d = some (.dK (szK (ends rs 5))) := sO6 _ _ ndw ndr kd4
      have hln6 := dget_sz (h := n) kd6
      rw [hln] at hln6
      tm_run
      refine i_dget (rm1 hr) (v := .int (kn : Nat)) hln6 ?_
      refine b_cons (sMono (fun σ' H' => ∃ (k : Nat) (r : Rl) (ts2 : List Nat) (w8 : Option V), σ' = [some (.ref a), some (.ref c), some (.int room), some (.ref d), some (.ref lw), some (.ref lr), some (.str n), some (.int (k : Nat)), w8, v9] ∧ (∀ b o, b ≠ lw → b ≠ lr → H4 b = some o → H' b = some o) ∧ H' lw = some (.lst (st'.map V.str)) ∧ H' lr = some (.lst (row.map fun k => V.int (k : Nat))) ∧ rs[k]? = some r ∧ r.head = n ∧ All2 (fun n t => Pd rs (ends rs 5) t n) (namesOf r) ts2 ∧ (cells.length - (row.length + 1)) * bigW + (wts ts' + wts ts2) < (cells.length - row.length) * bigW + (wts ts' + 7 ^ t)) ?_ ?_)
      · have els : ∃ (k : Nat) (r : Rl) (ts2 : List Nat) (w8 : Option V), [some (V.ref a), some (V.ref c), some (V.int room), some (V.ref d), some (V.ref lw), some (V.ref lr), some (V.str n), some (V.int (kn : Nat)), v8, v9] = [some (.ref a), some (.ref c), some (.int room), some (.ref d), some (.ref lw), some (.ref lr), some (.str n), some (.int (k : Nat)), w8, v9] ∧ (∀ b o, b ≠ lw → b ≠ lr → H4 b = some o → H6 b = some o) ∧ H6 lw = some (.lst (st'.map V.str)) ∧ H6 lr = some (.lst (row.map fun k => V.int (k : Nat))) ∧ rs[k]? = some r ∧ r.head = n ∧ All2 (fun n t => Pd rs (ends rs 5) t n) (namesOf r) ts2 ∧ (cells.length - (row.length + 1)) * bigW + (wts ts' + wts ts2) < (cells.length - row.length) * bigW + (wts ts' + 7 ^ t) := by
          cases hPn with
          | @mk t' k' h' r' p1 p2 p3 p4 =>
            obtain rfl : k' = kn := Option.some.inj (p1.symm.trans hln)
            refine ⟨k', r', List.replicate (namesOf r').length t', v8, rfl, sO6, k6, kr6, p2, p3, all2_const p4, ?_⟩
            have h6 := names_few (g.ok.good r' (List.mem_of_getElem? p2))
            have := Nat.mul_le_mul_right (7 ^ t') h6
            have h0 : 0 < 7 ^ t' := Nat.pow_pos (by decide)
            have := Nat.mul_le_mul_right bigW (show cells.length - (row.length + 1) ≤ cells.length - row.length by omega)
            rw [wts_rep, Nat.pow_succ]
            omega
        tm_run
        refine iteD (fun cl => ?_) fun cl => ?_
        · tm_run
          refine iteD (fun cm => ?_) fun cm => ?_
          · tm_run
            refine ⟨a, vs, rs, d, ends rs 5, n, rfl, sH6.seq g.sq, g.at_.ts (Same.ts sH6), g.ok, rfl, kd6, rfl, fun l7 H7 ks s7 n7 k7 hks1 hks => ?_⟩
            tm_run
            obtain ⟨cv, hcv⟩ : ∃ cv, atI (cells.map V.int) (((row.map fun k => V.int (k : Nat)).length : Nat) : Int) = some (.int cv) := by
              have hlt : row.length < cells.length := by simpa using cl
              refine ⟨cells[row.length], atI_nat (by omega) ?_⟩
              rw [List.length_map, show ((row.length : Nat) : Int).toNat = row.length by omega, List.getElem?_map, List.getElem?_eq_getElem hlt]
              rfl
            refine i_lst (s7.seq hc6) hcv ?_
            have hkm : kn ∈ ks := (hks kn).mpr ⟨rn, hrn, hhn, barren_names.mpr (by
              cases hPn with
              | @mk t' k' h' r' p1 p2 p3 p4 =>
                obtain rfl : k' = kn := Option.some.inj (p1.symm.trans hln)
                obtain rfl : r' = rn := Option.some.inj (p2.symm.trans hrn)
                intro p hp
                obtain ⟨x, _, q, _⟩ := (p4 p hp).known
                rw [q]
                rfl)⟩
            have hkl : 0 < ks.length := List.length_pos_of_mem hkm
            tm_run
            refine o_mod (by rw [List.length_map]; omega) ?_
            rw [List.length_map]
            have b0 : 0 ≤ cv % (ks.length : Int) := Int.emod_nonneg _ (by omega)
            have b1 : cv % (ks.length : Int) < ks.length := Int.emod_lt_of_pos _ (by omega)
            obtain ⟨v, hv, k, rfl, hkk⟩ := ix_any (i := cv % (ks.length : Int)) k7 (fun v => ∃ k : Nat, v = .int (k : Nat) ∧ k ∈ ks) (fun x hx => by
              obtain ⟨q, h1, h2⟩ := List.mem_map.mp hx
              exact ⟨q, h2.symm, h1⟩) b0 (by rw [List.length_map]; exact b1)
            refine i_lst (SqL.of k7) hv ?_
            obtain ⟨r, p1, p2, p3⟩ := (hks k).mp hkk
            have sO7 : ∀ b o, b ≠ lw → b ≠ lr → H4 b = some o → H7 b = some o := fun b o h1 h2 q => s7 _ _ (sO6 b o h1 h2 q)
            have h6 := names_few (g.ok.good r (List.mem_of_getElem? p1))
            refine b_nil ⟨k, r, List.replicate (namesOf r).length 5, _, rfl, sO7, s7 _ _ k6, s7 _ _ kr6, p1, p2, all2_const fun p hp => hE.ok.pd p (barren_names.mp p3 p hp), ?_⟩
            have hlt : row.length < cells.length := by simpa using cl
            have := Nat.mul_le_mul_right (7 ^ 5) h6
            have h0 : 0 < 7 ^ t := Nat.pow_pos (by decide)
            have e : cells.length - row.length = (cells.length - (row.length + 1)) + 1 := by omega
            rw [wts_rep, e, Nat.succ_mul]
            rw [hB]
            rw [e7] at *
            omega
          · tm_run
            exact els
        · tm_run
          exact els
      · rintro σ' H' ⟨k, r, ts2, w8, rfl, sO', kw', kr', hk, hh, hP2, hlt⟩
        have sHs : Same H H' := fun b o q => sO' b o (nnw b o q) (nnr b o q) (sH4 _ _ q)
        have hrg := g.ok.good r (List.mem_of_getElem? hk)
        have hlt10 : row.length < 16000000 := by rw [hB, e7] at hM; omega
        tm_run
        refine ⟨ty_l kr', ?_⟩
        tm_run
        refine m_append kr' (by rw [List.length_map]; exact hlt10) fun H7 k7 e7' => ?_
        have kw7 : H7 lw = some (.lst (st'.map V.str)) := by rw [e7' lw nwr]; exact kw'
        have sO7 : ∀ b o, b ≠ lw → b ≠ lr → H4 b = some o → H7 b = some o := fun b o h1 h2 q => by rw [e7' b h2]; exact sO' b o h1 h2 q
        have sH7 : Same H H7 := fun b o q => sO7 b o (nnw b o q) (nnr b o q) (sH4 _ _ q)
        obtain ⟨v, hv⟩ : ∃ v, vs[k]? = some v := ⟨_, List.getElem?_eq_getElem (by have := (List.getElem?_eq_some_iff.mp hk).1; omega)⟩
        obtain ⟨r', q1, q2⟩ := g.at_.get k v hv
        obtain rfl : r' = r := Option.some.inj (q1.symm.trans hk)
        obtain ⟨rra, rrb, rfl, f1, f2⟩ := q2.more sH7
        have hvk : atI vs (k : Int) = some (.ref rra) := atI_nat (by omega) (by rw [show ((k : Nat) : Int).toNat = k by omega]; exact hv)
        tm_run
        refine s_for (j_revT ?_)
        tm_run
        refine i_lst (sH7.seq g.sq) hvk ?_
        tm_run
        obtain ⟨xa, xb, xe, x1, x2⟩ := q2
        cases xe
        obtain rfl : xb = rrb := by
          have := sH7 _ _ x1
          rw [f1] at this
          cases this
          rfl
        have hstl : st'.length ≤ 7000000 := by
          have h1 := hP'.len
          have h2 := wts_pos (ts := ts')
          rw [hB, e7] at hM
          omega
        have k7' : H7 lr = some (.lst ((row ++ [k]).map fun k => V.int (k : Nat))) := by rw [k7, List.map_append]; rfl
        refine ⟨xb, _, rfl, SqT.of f2, _, _, _, walk_revT (xs := r'.parts.map V.str), fun i σ' H' => ∃ (v9 : Option V), σ' = [some (.ref a), some (.ref c), some (.int room), some (.ref d), some (.ref lw), some (.ref lr), some (.str n), some (.int (k : Nat)), w8, v9] ∧ (∀ b o, b ≠ lw → b ≠ lr → H4 b = some o → H' b = some o) ∧ H' lw = some (.lst ((st' ++ (r'.parts.reverse.take i).filter fun p => !isSg p).map V.str)) ∧ H' lr = some (.lst ((row ++ [k]).map fun k => V.int (k : Nat))), ⟨v9, rfl, sO7, by rw [List.take_zero]; simpa using kw7, k7'⟩, ?_, ?_, ?_⟩
        · rintro i σ' H' hi ⟨_, _, q, _⟩
          exact SqT.of (q _ _ (nnw _ _ x2) (nnr _ _ x2) (sH4 _ _ x2))
        · rintro i x σ' H8 H9 hi ⟨v9, rfl, sO8, kw8, kr8⟩ ⟨rfl, hx⟩
          rw [List.length_map] at hi hx
          obtain ⟨p, hp, rfl⟩ := map_get hx
          have hpr : r'.parts.reverse[i]? = some p := by rw [List.getElem?_reverse hi]; exact hp
          have hpm := List.mem_of_getElem? hp
          obtain ⟨c', l', ec, hsg⟩ := part_first (hrg.parts p hpm)
          have hpl := part_len (hrg.parts p hpm)
          have hfl : ((r'.parts.reverse.take i).filter fun p => !isSg p).length ≤ 6 := by
            have h1 := List.length_filter_le (fun p => !isSg p) (r'.parts.reverse.take i)
            rw [List.length_take, List.length_reverse] at h1
            have := hrg.few
            omega
          tm_run
          refine i_str (by kpc_check) (c := c') (by rw [show p.cps.toList = c' :: l' from ec]; exact atI_nat (by decide) rfl) ?_
          tm_run
          rw [is_quote, ← hsg]
          cases hs : isSg p with
          | true =>
            tm_run
            refine ⟨sO8, ?_, kr8⟩
            rw [take_snoc hpr, List.filter_append, List.filter_cons_of_neg (by rw [hs]; simp), List.filter_nil, List.append_nil]
            exact kw8
          | false =>
            tm_run
            refine ⟨ty_l kw8, ?_⟩
            tm_run
            refine m_append kw8 (by simp only [List.length_map, List.length_append]; omega) fun H10 k10 e10 => ?_
            tm_run
            refine ⟨fun b o h1 h2 q => by rw [e10 b h1]; exact sO8 b o h1 h2 q, ?_, by rw [e10 lr nwr.symm]; exact kr8⟩
            rw [take_snoc hpr, List.filter_append, List.filter_cons_of_pos (by rw [hs]; rfl), List.filter_nil, k10]
            simp
        · rintro σ' H8 ⟨v9, rfl, sO8, kw8, kr8⟩
          rw [List.length_map] at kw8
          have ef : (r'.parts.reverse.take r'.parts.length).filter (fun p => !isSg p) = (namesOf r').reverse := by
            rw [List.take_of_length_le (by rw [List.length_reverse]; exact Nat.le_refl _), List.filter_reverse]
            rfl
          rw [ef] at kw8
          tm_run
          refine ⟨_, ?_, row ++ [k], st' ++ (namesOf r').reverse, ts' ++ ts2.reverse, _, _, _, _, rfl, sO8, kw8, kr8, hP'.app hP2.rev, fun suf q => ?_, rfl, ?_⟩
          · rw [wts_app, wts_rev, List.length_append]
            exact hlt
          · rw [List.append_assoc]
            refine hW _ ?_
            rw [List.reverse_append, List.reverse_reverse] at q
            rw [List.reverse_append, List.reverse_cons, List.reverse_nil, List.nil_append, ← hh]
            exact .cons hk q
          · rw [wts_app, wts_rev, List.length_append]
            show row.length + 1 + ((cells.length - (row.length + 1)) * bigW + (wts ts' + wts ts2)) ≤ _
            omega
    · subst cst
      tm_run
      refine hyes r0' hr0 (by rw [hl0]; rfl) lr row H5 (sH'.trans s5) (s5 _ _ kr) ?_ ?_
      · rw [hB, e7] at hM
        omega
      · have := hW [] .nil
        rw [List.append_nil] at this
        exact this

end
theorem df_law_row (T : Txt K mg cs) : Df P w K mg base "_law_row" 2 ["_law_grammar", "_law_cells", "_law_room"] (sp3 (R_law_row K)) := by
  obtain ⟨f, fd, hm, F, hb⟩ := T.f_law_row.ex
  exact ⟨f, fd, hm, F.kp, hb, ok_law_row F T⟩
/-! ### maps as lists; dicts whose values stand for data -/
section
variable {κ α : Type} [DecidableEq κ]
def lk : List (κ × α) → κ → Option α
  | [], _ => none
  | p :: F, k => if p.1 = k then some p.2 else lk F k
def pt (F : List (κ × α)) (k : κ) (a : α) : List (κ × α) := if (lk F k).isSome = true then F.map (fun q => if q.1 = k then (q.1, a) else q) else F ++ [(k, a)]
theorem lk_map : ∀ (F : List (κ × α)) (h : κ) (a : α) (k : κ), lk (F.map fun q => if q.1 = h then (q.1, a) else q) k = if k = h then (lk F k).map (fun _ => a) else lk F k
  | [], h, a, k => by simp [lk]
  | p :: F, h, a, k => by
    rw [List.map_cons]
    by_cases e : p.1 = h
    · rw [if_pos e]
      unfold lk
      by_cases e2 : p.1 = k
      · rw [if_pos e2, if_pos e2, if_pos (by rw [← e2, e])]; rfl
      · rw [if_neg e2, if_neg e2, lk_map F h a k]
    · rw [if_neg e]
      unfold lk
      by_cases e2 : p.1 = k
      · rw [if_pos e2, if_pos e2, if_neg (by rw [← e2]; exact e)]
      · rw [if_neg e2, if_neg e2, lk_map F h a k]
theorem lk_app : ∀ (F : List (κ × α)) (h : κ) (a : α) (k : κ), lk F h = none → lk (F ++ [(h, a)]) k = if k = h then some a else lk F k
  | [], h, a, k, _ => by
    show (if h = k then some a else none) = _
    by_cases e : h = k
    · rw [if_pos e, if_pos e.symm]
    · rw [if_neg e, if_neg fun q => e q.symm]; rfl
  | p :: F, h, a, k, q => by
    unfold lk at q
    by_cases e : p.1 = h
    · rw [if_pos e] at q; cases q
    · rw [if_neg e] at q
      rw [List.cons_append]
      unfold lk
      by_cases e2 : p.1 = k
      · rw [if_pos e2, if_pos e2, if_neg (by rw [← e2]; exact e)]
      · rw [if_neg e2, if_neg e2, lk_app F h a k q]
theorem lk_pt (F : List (κ × α)) (h : κ) (a : α) (k : κ) : lk (pt F h a) k = if k = h then some a else lk F k := by
  unfold pt
  cases e : lk F h with
  | none => rw [if_neg (by simp), lk_app F h a k e]
  | some m =>
    rw [if_pos (by rfl), lk_map]
    by_cases e2 : k = h
    · rw [if_pos e2, if_pos e2, e2, e]; rfl
    · rw [if_neg e2, if_neg e2]
theorem lk_mem : ∀ {F : List (κ × α)} {k : κ} {a : α}, lk F k = some a → (k, a) ∈ F
  | [], _, _, q => by cases q
  | p :: F, k, a, q => by
    unfold lk at q
    by_cases e : p.1 = k
    · rw [if_pos e] at q
      cases q
      rw [← e]
      exact List.mem_cons_self ..
    · rw [if_neg e] at q
      exact List.mem_cons_of_mem _ (lk_mem q)
theorem lk_none : ∀ {F : List (κ × α)} {k : κ}, lk F k = none ↔ k ∉ F.map (·.1)
  | [], k => by simp [lk]
  | p :: F, k => by
    unfold lk
    rw [List.map_cons, List.mem_cons]
    by_cases e : p.1 = k
    · rw [if_pos e]
      simp [e.symm]
    · rw [if_neg e, lk_none (F := F)]
      constructor
      · rintro h (q | q)
        · exact e q.symm
        · exact h q
      · intro h q
        exact h (.inr q)
theorem lk_some {F : List (κ × α)} {k : κ} (h : k ∈ F.map (·.1)) : ∃ a, lk F k = some a := by
  cases q : lk F k with
  | none => exact absurd h (lk_none.mp q)
  | some a => exact ⟨a, rfl⟩
theorem lk_isSome {F : List (κ × α)} {k : κ} : (lk F k).isSome = true ↔ k ∈ F.map (·.1) := by
  cases q : lk F k with
  | none => simp [lk_none.mp q]
  | some a => simp only [Option.isSome_some, true_iff]; exact List.mem_map.mpr ⟨_, lk_mem q, rfl⟩
theorem lk_of : ∀ {F : List (κ × α)} {p : κ × α}, (F.map (·.1)).Nodup → p ∈ F → lk F p.1 = some p.2
  | [], _, _, h => by cases h
  | q :: F, p, nd, h => by
    have nd' := List.nodup_cons.mp nd
    unfold lk
    rcases List.mem_cons.mp h with h | h
    · rw [← h, if_pos rfl]
    · rw [if_neg fun e => nd'.1 (by show q.1 ∈ _; rw [e]; exact List.mem_map.mpr ⟨p, h, rfl⟩)]
      exact lk_of nd'.2 h
theorem pt_keys (F : List (κ × α)) (k : κ) (a : α) : (pt F k a).map (·.1) = if (lk F k).isSome = true then F.map (·.1) else F.map (·.1) ++ [k] := by
  unfold pt
  cases e : lk F k with
  | none => rw [if_neg (by simp), if_neg (by simp), List.map_append]; rfl
  | some m =>
    rw [if_pos (by rfl), if_pos (by rfl), List.map_map]
    apply List.map_congr_left
    intro p _
    show (if p.1 = k then (p.1, a) else p).1 = p.1
    split <;> rfl
theorem pt_nd {F : List (κ × α)} {k : κ} {a : α} (nd : (F.map (·.1)).Nodup) : ((pt F k a).map (·.1)).Nodup := by
  rw [pt_keys]
  cases e : lk F k with
  | some m => rw [if_pos (by rfl)]; exact nd
  | none =>
    rw [if_neg (by simp)]
    exact List.nodup_append.mpr ⟨nd, by simp, fun x hx b hb => by
      rw [List.mem_singleton.mp hb]
      exact fun z => lk_none.mp e (by rw [← z]; exact hx)⟩
theorem pt_len (F : List (κ × α)) (k : κ) (a : α) : (pt F k a).length = if (lk F k).isSome = true then F.length else F.length + 1 := by
  have e := congrArg List.length (pt_keys F k a)
  rw [List.length_map] at e
  rw [e]
  split <;> simp
theorem pt_sum {f : α → Nat} {k : κ} {a b : α} : ∀ {F : List (κ × α)}, (F.map (·.1)).Nodup → lk F k = some b → f a < f b → ((F.map fun q => if q.1 = k then (q.1, a) else q).map fun q => f q.2).sum < (F.map fun q => f q.2).sum
  | [], _, e, _ => by cases e
  | p :: F, nd, e, lt => by
    have nd' := List.nodup_cons.mp nd
    unfold lk at e
    rw [List.map_cons]
    by_cases c : p.1 = k
    · rw [if_pos c] at e ⊢
      cases e
      have same : (F.map fun q => if q.1 = k then (q.1, a) else q) = F := by
        have e2 : ∀ q ∈ F, (if q.1 = k then (q.1, a) else q) = id q := fun q hq => if_neg fun z => nd'.1 (by show p.1 ∈ _; rw [c, ← z]; exact List.mem_map.mpr ⟨q, hq, rfl⟩)
        rw [List.map_congr_left e2, List.map_id]
      rw [same]
      simp only [List.map_cons, List.sum_cons]
      omega
    · rw [if_neg c] at e ⊢
      have := pt_sum nd'.2 e lt
      simp only [List.map_cons, List.sum_cons]
      omega
/-- a dict's rows stand for a map -/
def DAt (R : V → α → Prop) (kvs : List (κ × V)) (F : List (κ × α)) : Prop := All2 (fun kv f => kv.1 = f.1 ∧ R kv.2 f.2) kvs F
theorem DAt.mono {R R' : V → α → Prop} (i : ∀ v a, R v a → R' v a) {kvs : List (κ × V)} {F : List (κ × α)} (h : DAt R kvs F) : DAt R' kvs F := All2.mono (fun _ _ q => ⟨q.1, i _ _ q.2⟩) h
theorem DAt.val {R : V → α → Prop} : ∀ {kvs : List (κ × V)} {F : List (κ × α)} (k : κ), DAt R kvs F → (lk F k = none → valV kvs k = none) ∧ ∀ a, lk F k = some a → ∃ v, valV kvs k = some v ∧ R v a
  | _, _, k, .nil => ⟨fun _ => rfl, fun _ e => nomatch e⟩
  | kv :: kvs, f :: F, k, .cons h t => by
    have ih := DAt.val (R := R) k t
    unfold lk
    by_cases e : f.1 = k
    · rw [if_pos e, valV_pos (by rw [h.1]; exact e)]
      exact ⟨fun q => (nomatch q), fun a q => ⟨_, rfl, by cases q; exact h.2⟩⟩
    · rw [if_neg e, valV_neg (by rw [h.1]; exact e)]
      exact ih
theorem DAt.any {R : V → α → Prop} {kvs : List (κ × V)} {F : List (κ × α)} (k : κ) (h : DAt R kvs F) : (kvs.any fun kv => decide (kv.1 = k)) = (lk F k).isSome := by
  rw [valV_any]
  obtain ⟨h1, h2⟩ := h.val k
  cases e : lk F k with
  | none => rw [h1 e]; rfl
  | some a => obtain ⟨v, q, _⟩ := h2 a e; rw [q]; rfl
theorem DAt.put {R : V → α → Prop} {kvs : List (κ × V)} {F : List (κ × α)} {k : κ} {v : V} {a : α} (h : DAt R kvs F) (hv : R v a) : DAt R (putK kvs k v) (pt F k a) := by
  unfold putK pt
  rw [h.any k]
  split
  · have go : ∀ {kvs : List (κ × V)} {F : List (κ × α)}, DAt R kvs F → DAt R (kvs.map fun kv => if kv.1 = k then (kv.1, v) else kv) (F.map fun q => if q.1 = k then (q.1, a) else q) := by
      intro kvs F h
      induction h with
      | nil => exact .nil
      | @cons kv f kvs F q t ih =>
        rw [List.map_cons, List.map_cons]
        refine .cons ?_ ih
        by_cases e : f.1 = k
        · rw [if_pos e, if_pos (by rw [q.1]; exact e)]; exact ⟨q.1, hv⟩
        · rw [if_neg e, if_neg (by rw [q.1]; exact e)]; exact q
    exact go h
  · exact All2.snoc h ⟨rfl, hv⟩
theorem DAt.len {R : V → α → Prop} {kvs : List (κ × V)} {F : List (κ × α)} (h : DAt R kvs F) : kvs.length = F.length := All2.len h
end
theorem DAt.dget {α : Type} {R : V → α → Prop} {kvs : List (Key × V)} {F : List (Key × α)} {H : Hp} {d : Addr} (k : Key) (h : DAt R kvs F) (e : H d = some (.dK kvs)) : (lk F k = none → DGet H d (kV k) none) ∧ ∀ a, lk F k = some a → ∃ v, DGet H d (kV k) (some v) ∧ R v a := by
  have g := DGet.k (k := k) e
  obtain ⟨h1, h2⟩ := h.val k
  refine ⟨fun q => by rw [h1 q] at g; exact g, fun a q => ?_⟩
  obtain ⟨v, e1, e2⟩ := h2 a q
  rw [e1] at g
  exact ⟨v, g, e2⟩

/-! ### roundabouts: the plain law -/
abbrev Fv : Type := Nat × Option (Nat × Nat)
abbrev Fnd : Type := List (Key × Fv)
def ptr1 : Option (Nat × Nat) → V
  | none => .non
  | some p => .int (p.1 : Nat)
def ptr2 : Option (Nat × Nat) → V
  | none => .non
  | some p => .int (p.2 : Nat)
def FvAt (H : Hp) (v : V) (f : Fv) : Prop := ∃ t, v = .ref t ∧ H t = some (.tup [.int (f.1 : Nat), ptr1 f.2, ptr2 f.2])
theorem FvAt.ts {H H' : Hp} (s : TS H H') {v : V} {f : Fv} (h : FvAt H v f) : FvAt H' v f := by
  obtain ⟨t, e, q⟩ := h
  exact ⟨t, e, s _ _ q⟩
def bigF : Nat := 6 * 7 ^ 60 + 1
/-- a step from a rule to one of its names -/
def Stp (rs : List Rl) (S : Szs) (F : Fnd) (nu at' : Nat) (p : Str) (many : Nat) : Prop := ∃ r mh ph sz sp, rs[nu]? = some r ∧ r.parts[at']? = some p ∧ isSg p = false ∧ lk F (.inr r.head) = some (mh, ph) ∧ sizeP S r.parts = some sz ∧ look S p = some sp ∧ many + sp = mh + 1 + sz
structure RInv (rs : List Rl) (S : Szs) (F : Fnd) : Prop where
  nd : (F.map (·.1)).Nodup
  st : ∃ r0, rs[0]? = some r0 ∧ lk F (.inr r0.head) = some (0, none) ∧ (look S r0.head).isSome = true
  key : ∀ k f, lk F k = some f → ∃ p, k = .inr p
  why : ∀ p m ptr, lk F (.inr p) = some (m, ptr) → (ptr = none ∧ m = 0 ∧ ∃ r0, rs[0]? = some r0 ∧ p = r0.head) ∨ ∃ nu at' many, ptr = some (nu, at') ∧ Stp rs S F nu at' p many ∧ many ≤ m
  cap : ∀ k f, lk F k = some f → f.1 ≤ F.length * bigF
def leftF (F : Fnd) : Nat := (361 - F.length) * (361 * bigF + 1) + (F.map fun q => q.2.1).sum
def bet (F : Fnd) (p : Str) (many : Nat) : Bool := match lk F (.inr p) with
  | none => true
  | some f => decide (many < f.1)
theorem Stp.pos {rs : List Rl} {S : Szs} {F : Fnd} {nu at' : Nat} {p : Str} {many : Nat} (h : Stp rs S F nu at' p many) : ∃ r mh ph, rs[nu]? = some r ∧ lk F (.inr r.head) = some (mh, ph) ∧ mh < many := by
  obtain ⟨r, mh, ph, sz, sp, h1, h2, h3, h4, h5, h6, h7⟩ := h
  have := part_le (List.mem_of_getElem? h2) h3 h6 h5
  exact ⟨r, mh, ph, h1, h4, by omega⟩
theorem RInv.few {rs : List Rl} {S : Szs} {F : Fnd} (h : RInv rs S F) (h6 : ∀ r ∈ rs, r.parts.length ≤ 6) (h60 : rs.length ≤ 60) : F.length ≤ 361 := by
  obtain ⟨r0, hr0, _, _⟩ := h.st
  have fl : ∀ l : List Rl, (∀ r ∈ l, r.parts.length ≤ 6) → (l.flatMap fun r => r.parts).length ≤ l.length * 6 := by
    intro l
    induction l with
    | nil => intro _; exact Nat.le_refl _
    | cons a l ih =>
      intro q
      have := ih fun r hr => q r (List.mem_cons_of_mem _ hr)
      have := q a (List.mem_cons_self ..)
      rw [List.flatMap_cons, List.length_append, List.length_cons]
      omega
  have := nodup_len (m := (r0.head :: rs.flatMap fun r => r.parts).map (fun p => (.inr p : Key))) h.nd fun k hk => by
    obtain ⟨f, hf⟩ := lk_some hk
    obtain ⟨p, rfl⟩ := h.key k f hf
    refine List.mem_map.mpr ⟨p, ?_, rfl⟩
    rcases h.why p f.1 f.2 hf with ⟨_, _, r1, q1, q2⟩ | ⟨nu, at', many, _, ⟨r, _, _, _, _, q1, q2, _⟩, _⟩
    · rw [hr0] at q1
      cases q1
      rw [q2]
      exact List.mem_cons_self ..
    · exact List.mem_cons_of_mem _ (List.mem_flatMap.mpr ⟨r, List.mem_of_getElem? q1, List.mem_of_getElem? q2⟩)
  rw [List.length_map, List.length_map, List.length_cons] at this
  have := fl rs h6
  omega
theorem RInv.step {rs : List Rl} {S : Szs} {F : Fnd} {nu at' : Nat} {p : Str} {many : Nat} (h : RInv rs S F) (g : Grow rs S) (h6 : ∀ r ∈ rs, r.parts.length ≤ 6) (h60 : rs.length ≤ 60) (s : Stp rs S F nu at' p many) (b : bet F p many = true) :
    RInv rs S (pt F (.inr p) (many, some (nu, at'))) ∧ leftF (pt F (.inr p) (many, some (nu, at'))) < leftF F := by
  obtain ⟨rp, mhp, php, hp1, hp2, hp3⟩ := s.pos
  have hb : ∀ f, lk F (.inr p) = some f → many < f.1 := fun f e => by
    unfold bet at b
    rw [e] at b
    simpa using b
  have hne : rp.head ≠ p := fun z => by
    rw [z] at hp2
    have := hb _ hp2
    omega
  obtain ⟨r0, hr0, hl0, hs0⟩ := h.st
  have hne0 : r0.head ≠ p := fun z => by
    rw [z] at hl0
    have := hb _ hl0
    omega
  have hmany : many ≤ (F.length + 1) * bigF := by
    obtain ⟨r, mh, ph, sz, sp, q1, q2, q3, q4, q5, q6, q7⟩ := s
    have c1 := h.cap _ _ q4
    have c2 := sizeP_cap (B := 7 ^ 60) (fun h n e => Nat.le_trans (g.cap h n e) (Nat.pow_le_pow_right (by decide) (Nat.le_trans g.few h60))) q5
    have c3 : r.parts.length * 7 ^ 60 ≤ 6 * 7 ^ 60 := Nat.mul_le_mul_right _ (h6 r (List.mem_of_getElem? q1))
    have c1 : mh ≤ F.length * bigF := c1
    rw [Nat.succ_mul]
    unfold bigF at *
    omega
  have keep : ∀ (q : Str) (m : Nat) (ptr : Option (Nat × Nat)), lk F (.inr q) = some (m, ptr) → ∃ m' ptr', lk (pt F (.inr p) (many, some (nu, at'))) (.inr q) = some (m', ptr') ∧ m' ≤ m := fun q m ptr e => by
    rw [lk_pt]
    by_cases c : (Sum.inr q : Key) = .inr p
    · rw [if_pos c]
      rw [c] at e
      have := hb _ e
      exact ⟨_, _, rfl, Nat.le_of_lt this⟩
    · rw [if_neg c]
      exact ⟨_, _, e, Nat.le_refl _⟩
  have stp : ∀ {nu' at2 : Nat} {q : Str} {m : Nat}, Stp rs S F nu' at2 q m → ∃ m', Stp rs S (pt F (.inr p) (many, some (nu, at'))) nu' at2 q m' ∧ m' ≤ m := fun {nu' at2 q m} e => by
    obtain ⟨r, mh, ph, sz, sp, q1, q2, q3, q4, q5, q6, q7⟩ := e
    obtain ⟨m', ptr', k1, k2⟩ := keep _ _ _ q4
    have := part_le (List.mem_of_getElem? q2) q3 q6 q5
    exact ⟨m' + 1 + sz - sp, ⟨r, m', ptr', sz, sp, q1, q2, q3, k1, q5, q6, by omega⟩, by omega⟩
  have hlen := pt_len F (.inr p) ((many, some (nu, at')) : Fv)
  have R : RInv rs S (pt F (.inr p) (many, some (nu, at'))) := by
    refine ⟨pt_nd h.nd, ⟨r0, hr0, by rw [lk_pt, if_neg fun z => hne0 (Sum.inr.inj z)]; exact hl0, hs0⟩, fun k f e => ?_, fun q m ptr e => ?_, fun k f e => ?_⟩
    · rw [lk_pt] at e
      by_cases c : k = .inr p
      · exact ⟨p, c⟩
      · rw [if_neg c] at e; exact h.key k f e
    · rw [lk_pt] at e
      by_cases c : (Sum.inr q : Key) = .inr p
      · rw [if_pos c] at e
        cases e
        obtain rfl := Sum.inr.inj c
        obtain ⟨m', k1, k2⟩ := stp s
        exact .inr ⟨nu, at', m', rfl, k1, k2⟩
      · rw [if_neg c] at e
        rcases h.why q m ptr e with w | ⟨nu', at2, many', w1, w2, w3⟩
        · exact .inl w
        · obtain ⟨m', k1, k2⟩ := stp w2
          exact .inr ⟨nu', at2, m', w1, k1, Nat.le_trans k2 w3⟩
    · rw [lk_pt] at e
      rw [hlen]
      by_cases c : k = .inr p
      · rw [if_pos c] at e
        cases e
        cases hl : lk F (.inr p) with
        | none => rw [if_neg (by simp)]; exact hmany
        | some f0 =>
          rw [if_pos (by rfl)]
          have := hb _ hl
          have := h.cap _ _ hl
          show many ≤ _
          omega
      · rw [if_neg c] at e
        have := h.cap k f e
        split
        · exact this
        · rw [Nat.succ_mul]
          exact Nat.le_trans this (Nat.le_add_right _ _)
  refine ⟨R, ?_⟩
  have few2 := R.few h6 h60
  rw [hlen] at few2
  unfold leftF
  rw [hlen]
  cases hl : lk F (.inr p) with
  | none =>
    rw [hl, if_neg (by simp)] at few2
    rw [if_neg (by simp)]
    have e1 : pt F (.inr p) ((many, some (nu, at')) : Fv) = F ++ [(.inr p, (many, some (nu, at')))] := by
      unfold pt
      rw [hl, if_neg (by simp)]
    rw [e1, List.map_append, List.sum_append]
    simp only [List.map_cons, List.map_nil, List.sum_cons, List.sum_nil]
    have e2 : 361 - F.length = (361 - (F.length + 1)) + 1 := by omega
    have e3 : (F.length + 1) * bigF ≤ 361 * bigF := Nat.mul_le_mul_right _ few2
    rw [e2, Nat.succ_mul (361 - (F.length + 1)) (361 * bigF + 1)]
    have e4 : many ≤ 361 * bigF := Nat.le_trans hmany e3
    omega
  | some f0 =>
    rw [if_pos (by rfl)]
    have e1 : pt F (.inr p) ((many, some (nu, at')) : Fv) = F.map (fun q => if q.1 = .inr p then (q.1, (many, some (nu, at'))) else q) := by
      unfold pt
      rw [hl, if_pos (by rfl)]
    have := pt_sum (F := F) (f := fun f : Fv => f.1) (k := .inr p) (a := (many, some (nu, at'))) h.nd hl (hb _ hl)
    rw [e1]
    have t : (F.map fun q => q.2.1).sum = (F.map fun q => (fun f : Fv => f.1) q.2).sum := rfl
    exact Nat.add_lt_add_left this _
/-- no step betters a way any more -/
def Clo (rs : List Rl) (S : Szs) (F : Fnd) : Prop := ∀ nu at' p many, Stp rs S F nu at' p many → bet F p many = false
structure Rnd (rs : List Rl) (S : Szs) (F : Fnd) : Prop where
  inv : RInv rs S F ∨ (F = [] ∧ ∀ r0, rs[0]? = some r0 → look S r0.head = none)
  clo : Clo rs S F
def R_roundabouts (K : PySem.W.Frag) : V → V → Hp → VK → XK → Prop := fun x y H Q _ => ∃ (a : Addr) (vs : List V) (rs : List Rl) (d : Addr) (S : Szs), x = .ref a ∧ SqL K H a vs ∧ RulesAt H vs rs ∧ GoodG rs ∧ y = .ref d ∧ H d = some (.dK (szK S)) ∧ Done rs S ∧
  ∀ (f : Addr) (kvs : List (Key × V)) (F : Fnd) (H' : Hp), Same H H' → H f = none → H' f = some (.dK kvs) → DAt (FvAt H') kvs F → Rnd rs S F → Q (.ref f) H'
section
set_option hygiene false in
local macro_rules | `(tactic| top_name) => `(tactic| first | refine e_call (df_size_of T) (hr.mono (by decide)) ?_)
theorem ok_roundabouts {f : Addr} {fd : FuncData} (F : Fun K "roundabouts" "roundabouts" s_roundabouts f fd) (T : Txt K mg cs) : FnOk P w K mg base (L2.CX P w) 2 f fd ["rules", "sizes"] (sp2 (R_roundabouts K)) := by
  refine F.okX sc_roundabouts (fun vs H Q E h => sp2_len h) (fun cdv A outer s H vs Q E hr h => ⟨_, PBw (X := X_roundabouts P w K mg base f cdv A outer s H E), ?_⟩)
  obtain ⟨a0, a1, rfl, h⟩ := h
  have ib_enumerate := T.b_enumerate
  have hr' : Room 1 (X_roundabouts P w K mg base f cdv A outer s H E).A := hr
  replace hr := hr'
  clear hr'
  obtain ⟨a, vs, rs, d, S, rfl, hS, hR, hG, rfl, hd, hD, h⟩ := h
  have h6 : ∀ r ∈ rs, r.parts.length ≤ 6 := fun r hr => (hG.good r hr).few
  tm_run
  intro l1 H1 s1 n1 k1 e1
  tm_run
  refine o_eqD hr.units (.lst (s1.seq hS) (hR.ts (Same.ts s1)).dp) (.lst (SqL.of k1) .nil) (gram_sh hG.good).ok rfl ?_
  rw [show PyData.eqv (.list (rs.map ruleD)) (.list []) = decide (rs = []) from gram_nil rs]
  by_cases c0 : rs = []
  · rw [decide_eq_true c0]
    kxs_still
    intro f H2 s2 n2 k2 _
    exact h f [] [] H2 (s1.trans s2) (by units_room1) k2 .nil ⟨.inr ⟨rfl, fun r0 e => by rw [c0] at e; cases e⟩, fun nu at' p many ⟨r, _, _, _, _, e, _⟩ => by rw [c0] at e; cases e⟩
  rw [decide_eq_false c0]
  obtain ⟨r0, hr0⟩ : ∃ r0, rs[0]? = some r0 := ⟨rs[0]'(by cases rs with | nil => exact absurd rfl c0 | cons => simp), List.getElem?_eq_getElem _⟩
  obtain ⟨ra0, rb0, hv0, _, e10, e20⟩ := hR.at' hr0
  have hS1 := s1.seq hS
  have e11 := s1 _ _ e10
  have hd1 := s1 _ _ hd
  kxs_still
  refine o_dni (rm1 hr) (dget_sz hd1) ?_
  cases hl0 : look S r0.head with
  | none =>
    kxs_still
    intro f H2 s2 n2 k2 _
    exact h f [] [] H2 (s1.trans s2) (by units_room1) k2 .nil ⟨.inr ⟨rfl, fun r1 e => by rw [hr0] at e; cases e; exact hl0⟩, fun nu at' p many ⟨r, _, _, _, _, _, _, _, e, _⟩ => nomatch e⟩
  | some n0 =>
    kxs_still
    refine e_dct1 fun f H2 s2 n2 k2 e2 => ?_
    kxs_still
    intro t3 H3 s3 n3 k3 e3
    refine ⟨by units_room1, .inr r0.head, rfl, fun H4 k4 e4 => ?_⟩
    kxs_still
    have nf : H f = none := by grind [Same]
    have tf : t3 ≠ f := by grind [Same]
    have s4 : Same H H4 := by wrow_post
    have F0 : DAt (FvAt H4) [((Sum.inr r0.head : Key), V.ref t3)] [((Sum.inr r0.head : Key), ((0, none) : Fv))] := .cons ⟨rfl, t3, rfl, show H4 t3 = some (.tup [.int 0, .non, .non]) by units_room1⟩ .nil
    have R0 : RInv rs S [((Sum.inr r0.head : Key), ((0, none) : Fv))] := by
      have one : ∀ (k : Key) (f : Fv), lk [((Sum.inr r0.head : Key), ((0, none) : Fv))] k = some f → k = .inr r0.head ∧ f = (0, none) := fun k f e => by
        have e : (if (Sum.inr r0.head : Key) = k then some ((0, none) : Fv) else none) = some f := e
        by_cases c : (Sum.inr r0.head : Key) = k
        · rw [if_pos c] at e; cases e; exact ⟨c.symm, rfl⟩
        · rw [if_neg c] at e; cases e
      refine ⟨by simp, ⟨r0, hr0, by show (if _ then _ else _) = _; rw [if_pos rfl], by rw [hl0]; rfl⟩, fun k f e => ⟨_, (one k f e).1⟩, fun p m ptr e => .inl ?_, fun k f e => by rw [(one k f e).2]; exact Nat.zero_le _⟩
      obtain ⟨q1, q2⟩ := one _ _ e
      cases q2
      exact ⟨rfl, rfl, r0, hr0, Sum.inr.inj q1⟩
    refine s_while (fun m σ' H' => ∃ (F : Fnd) (kvs : List (Key × V)) (b : Bool) (v4 v5 v6 v7 v8 v9 : Option V), σ' = [some (.ref a), some (.ref d), some (.ref f), some (.bl b), v4, v5, v6, v7, v8, v9] ∧ Same H H' ∧ H' f = some (.dK kvs) ∧ DAt (FvAt H') kvs F ∧ RInv rs S F ∧ (b = false → Clo rs S F) ∧ m = 2 * leftF F + (if b = true then 1 else 0)) _ ⟨_, _, true, none, none, none, none, none, none, rfl, s4, k4, F0, R0, (by simp), rfl⟩ ?_
    rintro m σ' H' ⟨F, kvs, b, v4, v5, v6, v7, v8, v9, rfl, s5, k5, hF, hI, hb, rfl⟩
    kxs_still
    refine iteB (fun hb1 => ?_) fun hb1 => ?_
    · subst hb1
      kxs_still
      refine s_for (j_enum ?_)
      kxs_still
      refine ⟨a, vs, rfl, s5.seq hS, _, _, _, walk_enumL (xs := vs), fun i σ'' H'' => ∃ (F' : Fnd) (kvs' : List (Key × V)) (b : Bool) (v4 v5 v6 v7 v8 v9 : Option V), σ'' = [some (.ref a), some (.ref d), some (.ref f), some (.bl b), v4, v5, v6, v7, v8, v9] ∧ Same H H'' ∧ H'' f = some (.dK kvs') ∧ DAt (FvAt H'') kvs' F' ∧ RInv rs S F' ∧ (if b = true then leftF F' < leftF F else F' = F ∧ ∀ nu at' p many, nu < i → Stp rs S F nu at' p many → bet F p many = false), ⟨F, kvs, false, v4, v5, v6, v7, v8, v9, rfl, s5, k5, hF, hI, (by simp)⟩, ?_, ?_, ?_⟩
      · rintro i σ'' H'' hi ⟨_, _, _, _, _, _, _, _, _, _, s6, _⟩
        exact s6.seq hS
      · rintro i x σ'' H'' H6 hi ⟨F', kvs', b, w4, w5, w6, w7, w8, w9, rfl, s6, k6, hF', hI', hbb⟩ ⟨T1, x1, rfl, nT1, rfl, hx⟩
        have kT1 : (upd H'' T1 (.tup [V.int (i : Nat), x1])) T1 = some (.tup [V.int (i : Nat), x1]) := upd_same
        have sT1 := sameU (o := .tup [V.int (i : Nat), x1]) nT1
        generalize upd H'' T1 (.tup [V.int (i : Nat), x1]) = H7 at kT1 sT1
        have hi' : i < rs.length := by have := hR.len; omega
        obtain ⟨r, hr1⟩ : ∃ r, rs[i]? = some r := ⟨_, List.getElem?_eq_getElem hi'⟩
        obtain ⟨ra, rb, hv, _, e1', e2'⟩ := hR.at' hr1
        rw [hx] at hv
        obtain rfl := Option.some.inj hv
        have hrg := hG.good r (List.mem_of_getElem? hr1)
        have s07 := s6.trans sT1
        have e17 := s07 _ _ e1'
        have e27 := s07 _ _ e2'
        have hd7 := s07 _ _ hd
        have k67 := sT1 _ _ k6
        have hF7 := hF'.mono (R' := FvAt H7) fun _ _ q => q.ts (Same.ts sT1)
        kxs_still
        refine ⟨rb, r.parts, d, S, rfl, SqT.of e27, hrg.parts, rfl, hd7, ?_⟩
        obtain ⟨vn, vh⟩ := hF7.dget (.inr r.head) k67
        have skip : (∀ at' p many, Stp rs S F i at' p many → F' = F → bet F p many = false) → ∀ (w4 w5 w6 w7 w8 w9 : Option V), ∃ (F2 : Fnd) (kvs2 : List (Key × V)) (b2 : Bool) (v4 v5 v6 v7 v8 v9 : Option V), [some (V.ref a), some (V.ref d), some (V.ref f), some (V.bl b), w4, w5, w6, w7, w8, w9] = [some (.ref a), some (.ref d), some (.ref f), some (.bl b2), v4, v5, v6, v7, v8, v9] ∧ Same H H7 ∧ H7 f = some (.dK kvs2) ∧ DAt (FvAt H7) kvs2 F2 ∧ RInv rs S F2 ∧ (if b2 = true then leftF F2 < leftF F else F2 = F ∧ ∀ nu at' p many, nu < i + 1 → Stp rs S F nu at' p many → bet F p many = false) := fun no w4 w5 w6 w7 w8 w9 =>
          ⟨F', kvs', b, w4, w5, w6, w7, w8, w9, rfl, s07, k67, hF7, hI', by
            cases b with
            | true => exact hbb
            | false =>
              obtain ⟨q1, q2⟩ := hbb
              refine ⟨q1, fun nu at' p many hnu st => ?_⟩
              by_cases c : nu = i
              · subst c
                exact no at' p many st q1
              · exact q2 nu at' p many (by omega) st⟩
        kxs_still
        cases hl : lk F' (.inr r.head) with
        | none =>
          refine o_din (rm1 hr) (vn hl) ?_
          kxs_still
          exact skip (fun at' p many ⟨r', mh, ph, sz, sp, q1, q2, q3, q4, _⟩ z => by rw [hr1] at q1; cases q1; rw [← z, hl] at q4; cases q4) _ _ _ _ _ _
        | some fh =>
          obtain ⟨mh, ph⟩ := fh
          obtain ⟨vf, gf, th, rfl, eth⟩ := vh _ hl
          refine o_din (rm1 hr) gf ?_
          cases hz : sizeP S r.parts with
          | none =>
            kxs_still
            exact skip (fun at' p many ⟨r', mh, ph, sz, sp, q1, q2, q3, q4, q5, _⟩ z => by rw [hr1] at q1; cases q1; rw [hz] at q5; cases q5) _ _ _ _ _ _
          | some sz =>
            rw [show natV (some sz) = V.int (sz : Nat) from rfl]
            kxs_still
            refine s_for (j_enumT ?_)
            kxs_still
            refine ⟨rb, _, rfl, SqT.of e27, _, _, _, walk_enumT (xs := r.parts.map V.str), fun j σ2 H2 => ∃ (F2 : Fnd) (kvs2 : List (Key × V)) (b : Bool) (v7 v8 v9 : Option V), σ2 = [some (.ref a), some (.ref d), some (.ref f), some (.bl b), some (.int (i : Nat)), some (.ref ra), some (.int (sz : Nat)), v7, v8, v9] ∧ Same H H2 ∧ H2 f = some (.dK kvs2) ∧ DAt (FvAt H2) kvs2 F2 ∧ RInv rs S F2 ∧ (∃ mh2 ph2, lk F2 (.inr r.head) = some (mh2, ph2)) ∧ (if b = true then leftF F2 < leftF F else F2 = F ∧ ∀ nu at' p many, nu < i ∨ nu = i ∧ at' < j → Stp rs S F nu at' p many → bet F p many = false), ⟨F', kvs', b, w7, w8, w9, rfl, s07, k67, hF7, hI', ⟨mh, ph, hl⟩, ?_⟩, ?_, ?_, ?_⟩
            · cases b with
              | true => exact hbb
              | false => exact ⟨hbb.1, fun nu at' p many c => hbb.2 nu at' p many (by omega)⟩
            · rintro j σ2 H2 hj ⟨_, _, _, _, _, _, _, s8, _⟩
              exact SqT.of (s8 _ _ e2')
            · rintro j x2 σ2 H2 H8 hj ⟨F2, kvs2, b2, u7, u8, u9, rfl, s8, k8, hF2, hI2, ⟨mh2, ph2, hl2⟩, hb2⟩ ⟨T2, x2, rfl, nT2, rfl, hx2⟩
              obtain ⟨p, hp, rfl⟩ := map_get hx2
              have kT2 : (upd H2 T2 (.tup [V.int (j : Nat), V.str p])) T2 = some (.tup [V.int (j : Nat), V.str p]) := upd_same
              have sT2 := sameU (o := .tup [V.int (j : Nat), V.str p]) nT2
              generalize upd H2 T2 (.tup [V.int (j : Nat), V.str p]) = H9 at kT2 sT2
              have hpm := List.mem_of_getElem? hp
              have s09 := s8.trans sT2
              have k9 := sT2 _ _ k8
              have hF9 := hF2.mono (R' := FvAt H9) fun _ _ q => q.ts (Same.ts sT2)
              have hd9 := s09 _ _ hd
              have e19 := s09 _ _ e1'
              kxs_still
              refine ⟨part_sg (hrg.parts p hpm), ?_⟩
              have stay : (∀ many, Stp rs S F i j p many → F2 = F → bet F p many = false) → ∀ (u7 u8 u9 : Option V), ∃ (F3 : Fnd) (kvs3 : List (Key × V)) (b3 : Bool) (v7 v8 v9 : Option V), [some (V.ref a), some (V.ref d), some (V.ref f), some (V.bl b2), some (V.int (i : Nat)), some (V.ref ra), some (V.int (sz : Nat)), u7, u8, u9] = [some (.ref a), some (.ref d), some (.ref f), some (.bl b3), some (.int (i : Nat)), some (.ref ra), some (.int (sz : Nat)), v7, v8, v9] ∧ Same H H9 ∧ H9 f = some (.dK kvs3) ∧ DAt (FvAt H9) kvs3 F3 ∧ RInv rs S F3 ∧ (∃ mh2 ph2, lk F3 (.inr r.head) = some (mh2, ph2)) ∧ (if b3 = true then leftF F3 < leftF F else F3 = F ∧ ∀ nu at' p many, nu < i ∨ nu = i ∧ at' < j + 1 → Stp rs S F nu at' p many → bet F p many = false) := fun no u7 u8 u9 =>
                ⟨F2, kvs2, b2, u7, u8, u9, rfl, s09, k9, hF9, hI2, ⟨mh2, ph2, hl2⟩, by
                  cases b2 with
                  | true => exact hb2
                  | false =>
                    obtain ⟨q1, q2⟩ := hb2
                    refine ⟨q1, fun nu at' p' many hnu st => ?_⟩
                    by_cases c : nu = i ∧ at' = j
                    · obtain ⟨rfl, rfl⟩ := c
                      obtain rfl : p' = p := by
                        obtain ⟨r', _, _, _, _, z1, z2, _⟩ := st
                        rw [hr1] at z1
                        cases z1
                        rw [hp] at z2
                        exact (Option.some.inj z2).symm
                      exact no many st q1
                    · exact q2 nu at' p' many (by omega) st⟩
              kxs_still
              cases hsg : isSg p with
              | true =>
                kxs_still
                exact stay (fun many ⟨r', _, _, _, _, z1, z2, z3, _⟩ _ => by rw [hr1] at z1; cases z1; rw [hp] at z2; cases z2; rw [hsg] at z3; cases z3) _ _ _
              | false =>
                obtain ⟨v2, g2, t2, rfl, et2⟩ := (hF9.dget (.inr r.head) k9).2 _ hl2
                obtain ⟨sp, hsp⟩ : ∃ sp, look S p = some sp := by
                  cases q : look S p with
                  | some sp => exact ⟨sp, rfl⟩
                  | none => rw [sizeP_bad hpm hsg q] at hz; cases hz
                have hle := part_le hpm hsg hsp hz
                have hst : Stp rs S F2 i j p (mh2 + 1 + sz - sp) := ⟨r, mh2, ph2, sz, sp, hr1, hp, hsg, hl2, hz, hsp, by omega⟩
                have gsp := dget_sz (h := p) hd9
                rw [hsp] at gsp
                kxs_still
                refine i_dget (rm1 hr) g2 ?_
                kxs_still
                refine i_dget (rm1 hr) gsp ?_
                kxs_still
                rw [show (mh2 : Int) + 1 + (sz : Int) - (sp : Int) = ((mh2 + 1 + sz - sp : Nat) : Int) by omega]
                generalize hmany : mh2 + 1 + sz - sp = many at hst
                have uniq : ∀ many', Stp rs S F2 i j p many' → many' = many := fun many' ⟨r', _, _, _, _, z1, z2, z3, z4, z5, z6, z7⟩ => by
                  rw [hr1] at z1
                  cases z1
                  rw [hl2] at z4
                  rw [hz] at z5
                  rw [hsp] at z6
                  cases z4
                  cases z5
                  cases z6
                  omega
                have better : bet F2 p many = true → ∀ (t : Addr) (H10 : Hp), H10 f = some (.dK (putK kvs2 (.inr p) (.ref t))) → H10 t = some (.tup [.int (many : Nat), .int (i : Nat), .int (j : Nat)]) → Same H H10 → (TS H9 H10) → ∀ (u7 u8 u9 : Option V), ∃ (F3 : Fnd) (kvs3 : List (Key × V)) (b3 : Bool) (v7 v8 v9 : Option V), [some (V.ref a), some (V.ref d), some (V.ref f), some (V.bl true), some (V.int (i : Nat)), some (V.ref ra), some (V.int (sz : Nat)), u7, u8, u9] = [some (.ref a), some (.ref d), some (.ref f), some (.bl b3), some (.int (i : Nat)), some (.ref ra), some (.int (sz : Nat)), v7, v8, v9] ∧ Same H H10 ∧ H10 f = some (.dK kvs3) ∧ DAt (FvAt H10) kvs3 F3 ∧ RInv rs S F3 ∧ (∃ mh2 ph2, lk F3 (.inr r.head) = some (mh2, ph2)) ∧ (if b3 = true then leftF F3 < leftF F else F3 = F ∧ ∀ nu at' p many, nu < i ∨ nu = i ∧ at' < j + 1 → Stp rs S F nu at' p many → bet F p many = false) := fun hbt t H10 k10 kt s10 ts u7 u8 u9 => by
                  obtain ⟨w1, w2⟩ := hI2.step hD.g h6 hG.few hst hbt
                  refine ⟨_, _, true, u7, u8, u9, rfl, s10, k10, (hF9.mono (R' := FvAt H10) fun _ _ q => q.ts ts).put ⟨t, rfl, kt⟩, w1, ?_, ?_⟩
                  · rw [lk_pt]
                    split
                    · exact ⟨_, _, rfl⟩
                    · exact ⟨_, _, hl2⟩
                  · show leftF _ < leftF F
                    cases b2 with
                    | true => exact Nat.lt_trans w2 hb2
                    | false => rw [hb2.1] at w2 ⊢; exact w2
                kxs_still
                obtain ⟨vnp, vhp⟩ := hF9.dget (.inr p) k9
                have few : kvs2.length ≤ 100000 := by
                  have := hI2.few h6 hG.few
                  have := hF2.len
                  omega
                cases hlp : lk F2 (.inr p) with
                | none =>
                  refine o_dni (rm1 hr) (vnp hlp) ?_
                  kxs_still
                  refine s_asg ?_
                  kxs_still
                  intro t10 H10 s10 n10 k10 e10
                  refine g_setD (rm1 hr) ?_
                  kxs_still
                  refine ⟨f, kvs2, .inr p, rfl, by units_room1, rfl, few, fun H11 k11 e11 => ?_⟩
                  kxs_still
                  have t10f : t10 ≠ f := by grind
                  refine better (by unfold bet; rw [hlp]) t10 H11 k11 ((e11 _ t10f).trans k10) (by wrow_post) (fun b xs q => ?_) _ _ _
                  have : b ≠ f := fun z => by rw [z, k9] at q; cases q
                  rw [e11 b this]
                  exact s10 _ _ q
                | some fp =>
                  obtain ⟨v3, g3, t3, rfl, et3⟩ := vhp _ hlp
                  refine o_dni (rm1 hr) g3 ?_
                  kxs_still
                  refine i_dget (rm1 hr) g3 ?_
                  kxs_still
                  refine iteD (fun cl => ?_) fun cl => ?_
                  · kxs_still
                    refine s_asg ?_
                    kxs_still
                    intro t10 H10 s10 n10 k10 e10
                    refine g_setD (rm1 hr) ?_
                    kxs_still
                    refine ⟨f, kvs2, .inr p, rfl, by units_room1, rfl, few, fun H11 k11 e11 => ?_⟩
                    kxs_still
                    have t10f : t10 ≠ f := by grind
                    refine better (by unfold bet; rw [hlp]; exact decide_eq_true (by omega)) t10 H11 k11 ((e11 _ t10f).trans k10) (by wrow_post) (fun b xs q => ?_) _ _ _
                    have : b ≠ f := fun z => by rw [z, k9] at q; cases q
                    rw [e11 b this]
                    exact s10 _ _ q
                  · kxs_still
                    exact stay (fun many' hst' z => by
                      rw [← z] at hst' ⊢
                      rw [uniq many' hst']
                      unfold bet
                      rw [hlp]
                      exact decide_eq_false (by omega)) _ _ _
            · rintro σ2 H2 ⟨F2, kvs2, b2, u7, u8, u9, rfl, s8, k8, hF2, hI2, _, hb2⟩
              kxs_still
              refine ⟨F2, kvs2, b2, _, _, _, _, _, _, rfl, s8, k8, hF2, hI2, ?_⟩
              cases b2 with
              | true => exact hb2
              | false =>
                obtain ⟨q1, q2⟩ := hb2
                refine ⟨q1, fun nu at' p many hnu st => q2 nu at' p many ?_ st⟩
                by_cases c : nu = i
                · refine .inr ⟨c, ?_⟩
                  obtain ⟨r', _, _, _, _, z1, z2, _⟩ := st
                  rw [c, hr1] at z1
                  cases z1
                  rw [List.length_map]
                  exact (List.getElem?_eq_some_iff.mp z2).1
                · exact .inl (by omega)
      · rintro σ'' H'' ⟨F', kvs', b, w4, w5, w6, w7, w8, w9, rfl, s6, k6, hF', hI', hbb⟩
        kxs_still
        refine ⟨_, ?_, F', kvs', b, _, _, _, _, _, _, rfl, s6, k6, hF', hI', fun z => ?_, rfl⟩
        · cases b with
          | true =>
            have hbb : leftF F' < leftF F := hbb
            show 2 * leftF F' + 1 < 2 * leftF F + 1
            omega
          | false =>
            rw [hbb.1]
            show 2 * leftF F + 0 < 2 * leftF F + 1
            omega
        · subst z
          obtain ⟨q1, q2⟩ := hbb
          subst q1
          exact fun nu at' p many st => q2 nu at' p many (by
            obtain ⟨r', _, _, _, _, z1, _⟩ := st
            rw [hR.len]
            exact (List.getElem?_eq_some_iff.mp z1).1) st
    · kxs_still
      exact h f kvs F H' s5 nf k5 hF ⟨.inl hI, hb hb1⟩
end
theorem df_roundabouts (T : Txt K mg cs) : Df P w K mg base "roundabouts" 2 ["rules", "sizes"] (sp2 (R_roundabouts K)) := by
  obtain ⟨f, fd, hm, F, hb⟩ := T.f_roundabouts.ex
  exact ⟨f, fd, hm, F.kp, hb, ok_roundabouts F T⟩
def needK (rs : List Rl) (S : Szs) (F : Fnd) (i : Nat) : Bool := (rs[i]?.map fun r => (lk F (.inr r.head)).isSome && (sizeP S r.parts).isSome).getD false
def needL (rs : List Rl) (S : Szs) (F : Fnd) : List Nat := (List.range rs.length).filter (needK rs S F)
def R_needed (K : PySem.W.Frag) (cs : Cs) : V → Hp → VK → XK → Prop := fun x H Q E => RG K cs x H E fun a vs rs => ∀ (l : Addr) (S : Szs) (F : Fnd) (H' : Hp), Same H H' → H l = none → H' l = some (.lst ((needL rs S F).map fun k => V.int (k : Nat))) → Done rs S → Rnd rs S F → Q (.ref l) H'
section
set_option hygiene false in
local macro_rules | `(tactic| top_name) => `(tactic| first | refine e_call (df_checked T) (hr.mono (by decide)) ?_ | refine e_call (df_least_sizes T) (hr.mono (by decide)) ?_ | refine e_call (df_roundabouts T) (hr.mono (by decide)) ?_ | refine e_call (df_size_of T) (hr.mono (by decide)) ?_)
theorem ok_needed {f : Addr} {fd : FuncData} (F : Fun K "needed" "needed" s_needed f fd) (T : Txt K mg cs) : FnOk P w K mg base (L2.CX P w) 6 f fd ["grammar"] (sp1 (R_needed K cs)) := by
  refine F.okX sc_needed (fun vs H Q E h => sp1_len h) (fun cdv A outer s H vs Q E hr h => ⟨_, PBw (X := X_needed P w K mg base f cdv A outer s H E), ?_⟩)
  obtain ⟨a0, rfl, h⟩ := h
  have ib_enumerate := T.b_enumerate
  have hr' : Room 5 (X_needed P w K mg base f cdv A outer s H E).A := hr
  replace hr := hr'
  clear hr'
  kxs_still
  rcases h with ⟨a, vs, rs, g, q⟩ | ⟨d, hd, hb, q⟩
  · refine .inl ⟨a, vs, rs, g, fun l H1 s1 n1 k1 => ?_⟩
    kxs_still
    have hR1 := g.at_.ts (Same.ts s1)
    refine ⟨l, vs, rs, rfl, SqL.of k1, hR1, g.ok, fun d S H2 s2 n2 k2 hD => ?_⟩
    kxs_still
    have hR2 := hR1.ts (Same.ts s2)
    refine ⟨l, vs, rs, d, S, rfl, SqL.of (s2 _ _ k1), hR2, g.ok, rfl, k2, hD, fun f kvs F H3 s3 n3 k3 hF hRn => ?_⟩
    kxs_still
    have hR3 := hR2.ts (Same.ts s3)
    refine e_lcF (blkOk_by (sc := defScope s_needed) (own := [("k", 4), ("rule", 5)]) (by decide +kernel)) (needK rs S F) (fun i => V.int (i : Nat)) (j_enum ?_)
    kxs_still
    refine ⟨l, vs, rfl, SqL.of (s3 _ _ (s2 _ _ k1)), _, _, _, walk_enumL (xs := vs), by have := g.ok.few; have := hR1.len; omega, fun H' s' => SqL.of (s' _ _ (s3 _ _ (s2 _ _ k1))), ?_, ?_⟩
    · rintro i x H' H4 hi s' ⟨T1, x1, rfl, nT1, rfl, hx⟩
      have kT1 : (upd H' T1 (.tup [V.int (i : Nat), x1])) T1 = some (.tup [V.int (i : Nat), x1]) := upd_same
      have sT1 := sameU (o := .tup [V.int (i : Nat), x1]) nT1
      generalize upd H' T1 (.tup [V.int (i : Nat), x1]) = H7 at kT1 sT1
      obtain ⟨r, hr1⟩ : ∃ r, rs[i]? = some r := ⟨_, List.getElem?_eq_getElem (by have := hR1.len; omega)⟩
      obtain ⟨ra, rb, hv, _, e1, e2⟩ := hR3.at' hr1
      rw [hx] at hv
      obtain rfl := Option.some.inj hv
      have hrg := g.ok.good r (List.mem_of_getElem? hr1)
      have s37 := s'.trans sT1
      have e17 := s37 _ _ e1
      have e27 := s37 _ _ e2
      have k37 := s37 _ _ k3
      have k27 := s37 _ _ (s3 _ _ k2)
      refine ⟨sT1, fun _ _ _ _ _ => ?_⟩
      kxs_still
      refine ⟨rfl, Same.refl _, fun _ _ _ _ _ => ?_⟩
      obtain ⟨vn, vh⟩ := (hF.mono (R' := FvAt H7) fun _ _ q => q.ts (Same.ts s37)).dget (.inr r.head) k37
      kxs_still
      cases hl : lk F (.inr r.head) with
      | none =>
        refine o_din (rm1 hr) (vn hl) ?_
        kxs_still
        exact ⟨Same.refl _, by unfold needK; rw [hr1]; show false = ((lk F (.inr r.head)).isSome && _); rw [hl]; rfl, fun z => nomatch z⟩
      | some fh =>
        obtain ⟨vf, gf, _⟩ := vh _ hl
        refine o_din (rm1 hr) gf ?_
        kxs_still
        refine ⟨rb, r.parts, d, S, rfl, SqT.of e27, hrg.parts, rfl, k27, ?_⟩
        have hk : ∀ b, (sizeP S r.parts).isSome = b → b = needK rs S F i := fun b e => by
          unfold needK
          rw [hr1]
          show b = ((lk F (.inr r.head)).isSome && (sizeP S r.parts).isSome)
          rw [hl, e]
          rfl
        cases hz : sizeP S r.parts with
        | none =>
          kxs_still
          exact ⟨Same.refl _, hk false (by rw [hz]; rfl), fun z => nomatch z⟩
        | some m =>
          rw [show natV (some m) = V.int (m : Nat) from rfl]
          kxs_still
          refine ⟨Same.refl _, hk true (by rw [hz]; rfl), fun _ _ _ _ _ _ => ?_⟩
          kxs_still
          exact Same.refl _
    · intro l4 H4 s4 n4 k4
      rw [hR1.len] at k4
      kxs_still
      exact q l4 S F H4 (by wrow_post) (by
        cases e : H l4 with
        | none => rfl
        | some o => have : H3 l4 = some o := by units_room1
                    rw [this] at n4; cases n4) (by rw [k4]; rfl) hD hRn
  · exact .inr ⟨d, hd, hb, q⟩

end
theorem df_needed (T : Txt K mg cs) : Df P w K mg base "needed" 6 ["grammar"] (sp1 (R_needed K cs)) := by
  obtain ⟨f, fd, hm, F, hb⟩ := T.f_needed.ex
  exact ⟨f, fd, hm, F.kp, hb, ok_needed F T⟩
theorem needL_rise (rs : List Rl) (S : Szs) (F : Fnd) : (needL rs S F).Pairwise (· < ·) := List.Pairwise.filter _ List.pairwise_lt_range
theorem needL_rule {rs : List Rl} {S : Szs} {F : Fnd} {k : Nat} : k ∈ needL rs S F ↔ ∃ r, rs[k]? = some r ∧ (lk F (.inr r.head)).isSome = true ∧ (sizeP S r.parts).isSome = true := by
  unfold needL
  rw [List.mem_filter, List.mem_range]
  unfold needK
  constructor
  · rintro ⟨h1, h2⟩
    rw [List.getElem?_eq_getElem h1] at h2 ⊢
    refine ⟨_, rfl, ?_⟩
    have h2 : ((lk F (.inr rs[k].head)).isSome && (sizeP S rs[k].parts).isSome) = true := h2
    simpa using h2
  · rintro ⟨r, h1, h2, h3⟩
    refine ⟨(List.getElem?_eq_some_iff.mp h1).1, ?_⟩
    rw [h1]
    show ((lk F (.inr r.head)).isSome && (sizeP S r.parts).isSome) = true
    rw [h2, h3]; rfl
theorem Rnd.le {rs : List Rl} {S : Szs} {F F' : Fnd} (c : Rnd rs S F) (c' : Rnd rs S F') : ∀ (m : Nat) (p : Str) (ptr : Option (Nat × Nat)), lk F (.inr p) = some (m, ptr) → (lk F' (.inr p)).isSome = true := by
  intro m
  induction m using Nat.strongRecOn with
  | _ m ih =>
    intro p ptr e
    rcases c.inv with inv | ⟨q, _⟩
    · obtain ⟨r0, hr0, hl0, hs0⟩ := inv.st
      rcases c'.inv with inv' | ⟨_, q⟩
      · rcases inv.why p m ptr e with ⟨_, _, r1, q1, q2⟩ | ⟨nu, at', many, _, ⟨r, mh, ph, sz, sp, w1, w2, w3, w4, w5, w6, w7⟩, w8⟩
        · obtain ⟨r2, z1, z2, _⟩ := inv'.st
          rw [z1] at q1
          cases q1
          rw [q2, z2]
          rfl
        · have := part_le (List.mem_of_getElem? w2) w3 w6 w5
          have k := ih mh (by omega) r.head ph w4
          obtain ⟨f, hf⟩ := Option.isSome_iff_exists.mp k
          have := c'.clo nu at' p (f.1 + 1 + sz - sp) ⟨r, f.1, f.2, sz, sp, w1, w2, w3, hf, w5, w6, by omega⟩
          unfold bet at this
          cases e : lk F' (.inr p) with
          | none => rw [e] at this; cases this
          | some x => rfl
      · rw [q r0 hr0] at hs0; cases hs0
    · rw [q] at e; cases e
theorem Rnd.same {rs : List Rl} {S : Szs} {F F' : Fnd} (c : Rnd rs S F) (c' : Rnd rs S F') : needL rs S F = needL rs S F' := by
  have : needK rs S F = needK rs S F' := by
    funext i
    unfold needK
    cases rs[i]? with
    | none => rfl
    | some r =>
      show ((lk F (.inr r.head)).isSome && _) = ((lk F' (.inr r.head)).isSome && _)
      congr 1
      cases e : lk F (.inr r.head) with
      | some f => rw [c.le c' f.1 r.head f.2 e]; rfl
      | none =>
        cases e' : lk F' (.inr r.head) with
        | none => rfl
        | some f =>
          have := c'.le c f.1 r.head f.2 e'
          rw [e] at this
          cases this
  unfold needL
  rw [this]
def R_law_numbers (K : PySem.W.Frag) : V → Hp → VK → XK → Prop := fun x H Q _ => ∃ (a : Addr) (ks : List Nat), x = .ref a ∧ SqL K H a (ks.map fun k => V.int (k : Nat)) ∧ Q (.bl true) H
section
set_option hygiene false in
local macro_rules | `(tactic| top_name) => `(tactic| first | refine e_call (df_law_whole T) (hr.mono (by decide)) ?_)
theorem ok_law_numbers {f : Addr} {fd : FuncData} (F : Fun K "_law_numbers" "_law_numbers" s_law_numbers f fd) (T : Txt K mg cs) : FnOk P w K mg base (L2.CX P w) 2 f fd ["_law_found"] (sp1 (R_law_numbers K)) := by
  refine F.okX sc_law_numbers (fun vs H Q E h => sp1_len h) (fun cdv A outer s H vs Q E hr h => ⟨_, PBw (X := X_law_numbers P w K mg base f cdv A outer s H E), ?_⟩)
  obtain ⟨a0, rfl, h⟩ := h
  have ib_isinstance := T.b_isinstance
  have ib_list := T.b_list
  have hr' : Room 1 (X_law_numbers P w K mg base f cdv A outer s H E).A := hr
  replace hr := hr'
  clear hr'
  obtain ⟨a, ks, rfl, hS, h⟩ := h
  kxs_still
  refine k_isList (.lst hS (th_nats ks)) ⟨_, rfl, ?_⟩
  kxs_still
  refine s_for (j_list ?_)
  kxs_still
  refine ⟨⟨_, hS⟩, _, _, _, walk_list (xs := ks.map fun k => V.int (k : Nat)), fun i σ' H' => ∃ v, σ' = [some (.ref a), v] ∧ H' = H, ⟨none, rfl, rfl⟩, fun _ _ _ _ ⟨_, _, e⟩ => by rw [e]; exact hS, ?_, ?_⟩
  · rintro i x σ' H' H2 hi ⟨v, rfl, rfl⟩ ⟨rfl, hx⟩
    obtain ⟨k, hk, rfl⟩ := map_get hx
    kxs_still
    refine ⟨_, .int _, ?_⟩
    kxs_still
    exact ⟨_, rfl, rfl⟩
  · rintro σ' H' ⟨v, rfl, rfl⟩
    kxs_still
    exact h

end
theorem df_law_numbers (T : Txt K mg cs) : Df P w K mg base "_law_numbers" 2 ["_law_found"] (sp1 (R_law_numbers K)) := by
  obtain ⟨f, fd, hm, F, hb⟩ := T.f_law_numbers.ex
  exact ⟨f, fd, hm, F.kp, hb, ok_law_numbers F T⟩
/-! ### a least row with a rule -/
/-- a dict from each head to the numbers of its rules -/
structure ByAt (H : Hp) (d : Addr) (kvs : List (Key × V)) (rs : List Rl) (L : Str → Option Addr) (i : Nat) : Prop where
  val : ∀ h, valV kvs (.inr h) = (L h).map V.ref
  inj : ∀ h h' l, L h = some l → L h' = some l → h = h'
  at_ : ∀ h l, L h = some l → l ≠ d ∧ H l = some (.lst (numV (numsTo rs h i)))
  non : ∀ h, L h = none → numsTo rs h i = []
  len : kvs.length ≤ i
def R_rules_by_head (K : PySem.W.Frag) : V → Hp → VK → XK → Prop := fun x H Q _ => ∃ (a : Addr) (vs : List V) (rs : List Rl), x = .ref a ∧ SqL K H a vs ∧ RulesAt H vs rs ∧ GoodG rs ∧ ∀ (d : Addr) (kvs : List (Key × V)) (L : Str → Option Addr) (H' : Hp), Same H H' → H d = none → H' d = some (.dK kvs) → ByAt H' d kvs rs L rs.length → Q (.ref d) H'
section
theorem ok_rules_by_head {f : Addr} {fd : FuncData} (F : Fun K "rules_by_head" "rules_by_head" s_rules_by_head f fd) (T : Txt K mg cs) : FnOk P w K mg base (L2.CX P w) 1 f fd ["rules"] (sp1 (R_rules_by_head K)) := by
  refine F.okX sc_rules_by_head (fun vs H Q E h => sp1_len h) (fun cdv A outer s H vs Q E hr h => ⟨_, PBw (X := X_rules_by_head P w K mg base f cdv A outer s H E), ?_⟩)
  obtain ⟨a0, rfl, h⟩ := h
  have ib_enumerate := T.b_enumerate
  have hr' : Room 0 (X_rules_by_head P w K mg base f cdv A outer s H E).A := hr
  replace hr := hr'
  clear hr'
  obtain ⟨a, vs, rs, rfl, hS, hR, hG, h⟩ := h
  have hvl := hR.len
  have h60 := hG.few
  kxs_still
  intro d H1 s1 n1 k1 _
  have hS1 := s1.seq hS
  kxs_still
  refine s_for (j_enum ?_)
  kxs_still
  refine ⟨a, vs, rfl, hS1, _, _, _, walk_enumL (xs := vs), fun i σ' H' => ∃ (kvs : List (Key × V)) (L : Str → Option Addr) (v2 v3 : Option V), σ' = [some (.ref a), some (.ref d), v2, v3] ∧ Same H H' ∧ H' d = some (.dK kvs) ∧ ByAt H' d kvs rs L i ∧ (∀ h l, L h = some l → H l = none), ⟨[], fun _ => none, none, none, rfl, s1, k1, ⟨fun _ => rfl, (fun _ _ _ e => nomatch e), (fun _ _ e => nomatch e), fun _ _ => rfl, Nat.le_refl _⟩, (fun _ _ e => nomatch e)⟩, ?_, ?_, ?_⟩
  · rintro i σ' H' hi ⟨_, _, _, _, _, s, _⟩
    exact s.seq hS
  · rintro i x σ' H' H2 hi ⟨kvs, L, v2, v3, rfl, s2, k2, hby, hfr⟩ ⟨T1, x1, rfl, nT1, rfl, hx⟩
    have kT1 : (upd H' T1 (.tup [V.int (i : Nat), x1])) T1 = some (.tup [V.int (i : Nat), x1]) := upd_same
    have sT1 := sameU (o := .tup [V.int (i : Nat), x1]) nT1
    generalize upd H' T1 (.tup [V.int (i : Nat), x1]) = H7 at kT1 sT1
    obtain ⟨r, hr1⟩ : ∃ r, rs[i]? = some r := ⟨_, List.getElem?_eq_getElem (by omega)⟩
    obtain ⟨ra, rb, hv, _, e1, e2⟩ := hR.at' hr1
    rw [hx] at hv
    obtain rfl := Option.some.inj hv
    have s07 := s2.trans sT1
    have e17 := s07 _ _ e1
    have k27 := sT1 _ _ k2
    kxs_still
    refine e_dsetd ?_
    kxs_still
    refine ⟨.inl ⟨_, .inl k27⟩, ?_⟩
    kxs_still
    intro l0 H8 s8 n8 k8 e8
    have k28 := s8 _ _ k27
    have n0d : l0 ≠ d := fun z => by rw [z, k27] at n8; cases n8
    have s08 := s07.trans s8
    have n0 : H l0 = none := s07.none n8
    have h38 : ∀ {l : Addr} {xs : List V}, H' l = some (.lst xs) → H8 l = some (.lst xs) := fun q => s8 _ _ (sT1 _ _ q)
    have nl0 : ∀ {l : Addr} {o : HO}, H' l = some o → l ≠ l0 := fun {l o} q z => by rw [← z] at n8; rw [sT1 _ _ q] at n8; cases n8
    have step : ∀ h, numsTo rs h (i + 1) = numsTo rs h i ++ (if r.head = h then [i] else []) := fun h => by
      rw [nums_step, hr1]
      congr 1
      by_cases q : r.head = h
      · rw [if_pos q]; exact if_pos (show some r.head = some h by rw [q])
      · rw [if_neg q]; exact if_neg fun z => q (Option.some.inj z)
    have hlen := hby.len
    refine ⟨kvs, .inr r.head, k28, rfl, by omega, fun v hv => ?_, fun hn H9 k9 e9 => ?_⟩
    · rw [hby.val] at hv
      cases hL : L r.head with
      | none => rw [hL] at hv; cases hv
      | some l =>
        rw [hL] at hv
        cases hv
        obtain ⟨q1, q2⟩ := hby.at_ _ _ hL
        have q8 := h38 q2
        kxs_still
        refine ⟨ty_l q8, ?_⟩
        kxs_still
        refine m_append q8 (by unfold numV numsTo; rw [List.length_map]; have := List.length_filter_le (fun k => decide (rs[k]?.map Rl.head = some r.head)) (List.range i); rw [List.length_range] at this; omega) fun H10 k10 e10 => ?_
        kxs_still
        refine ⟨kvs, L, _, _, rfl, fun b o q => ?_, ?_, ⟨hby.val, hby.inj, fun h' l' hl' => ?_, fun h' hl' => ?_, by omega⟩, hfr⟩
        · rw [e10 b (ne_of_none q (hfr _ _ hL))]
          exact s08 _ _ q
        · rw [e10 d q1.symm]
          exact k28
        · obtain ⟨w1, w2⟩ := hby.at_ _ _ hl'
          refine ⟨w1, ?_⟩
          rw [step]
          by_cases q : r.head = h'
          · subst q
            rw [hL] at hl'
            cases hl'
            rw [if_pos rfl, k10]
            unfold numV
            rw [List.map_append]
            rfl
          · rw [if_neg q, List.append_nil, e10 l' (fun z => q (hby.inj _ _ l hL (by rw [← z]; exact hl')))]
            exact h38 w2
        · rw [step, if_neg (fun q => by rw [q] at hL; rw [hL] at hl'; cases hl'), List.append_nil]
          exact hby.non _ hl'
    · rw [hby.val] at hn
      have hL : L r.head = none := by
        cases q : L r.head with
        | none => rfl
        | some l => rw [q] at hn; cases hn
      have k09 : H9 l0 = some (.lst []) := by rw [e9 l0 n0d]; exact k8
      kxs_still
      refine ⟨ty_l k09, ?_⟩
      kxs_still
      refine m_append k09 (by decide) fun H10 k10 e10 => ?_
      kxs_still
      refine ⟨putK kvs (.inr r.head) (V.ref l0), fun h => if h = r.head then some l0 else L h, _, _, rfl, fun b o q => ?_, ?_, ⟨fun h' => ?_, fun h1 h2 l q1 q2 => ?_, fun h' l' hl' => ?_, fun h' hl' => ?_, ?_⟩, fun h' l' hl' => ?_⟩
      · rw [e10 b (ne_of_none q n0), e9 b (ne_of_none q n1)]
        exact s08 _ _ q
      · rw [e10 d n0d.symm]
        exact k9
      · rw [valV_put, hby.val]
        by_cases q : h' = r.head
        · rw [if_pos q, if_pos (by rw [q])]; rfl
        · rw [if_neg q, if_neg fun z => q (Sum.inr.inj z)]
      · have no : ∀ h, L h = some l → l ≠ l0 := fun h q => nl0 (hby.at_ _ _ q).2
        by_cases c1 : h1 = r.head
        · by_cases c2 : h2 = r.head
          · rw [c1, c2]
          · simp only [if_pos c1] at q1
            simp only [if_neg c2] at q2
            exact absurd (Option.some.inj q1).symm (no _ q2)
        · by_cases c2 : h2 = r.head
          · simp only [if_neg c1] at q1
            simp only [if_pos c2] at q2
            exact absurd (Option.some.inj q2).symm (no _ q1)
          · simp only [if_neg c1] at q1
            simp only [if_neg c2] at q2
            exact hby.inj _ _ _ q1 q2
      · by_cases c1 : h' = r.head
        · simp only [if_pos c1] at hl'
          cases hl'
          refine ⟨n0d, ?_⟩
          rw [step, if_pos c1.symm, c1, hby.non _ hL, k10]
          rfl
        · simp only [if_neg c1] at hl'
          obtain ⟨w1, w2⟩ := hby.at_ _ _ hl'
          refine ⟨w1, ?_⟩
          rw [step, if_neg fun z => c1 z.symm, List.append_nil, e10 l' (nl0 w2), e9 l' w1]
          exact h38 w2
      · by_cases c1 : h' = r.head
        · simp only [if_pos c1] at hl'
          cases hl'
        · simp only [if_neg c1] at hl'
          rw [step, if_neg fun z => c1 z.symm, List.append_nil]
          exact hby.non _ hl'
      · have := length_putK kvs (.inr r.head) (V.ref l0)
        omega
      · by_cases c1 : h' = r.head
        · simp only [if_pos c1] at hl'
          cases hl'
          exact n0
        · simp only [if_neg c1] at hl'
          exact hfr _ _ hl'
  · rintro σ' H' ⟨kvs, L, v2, v3, rfl, s2, k2, hby, hfr⟩
    kxs_still
    rw [hvl] at hby
    exact h d kvs L H' s2 n1 k2 hby
end
theorem df_rules_by_head (T : Txt K mg cs) : Df P w K mg base "rules_by_head" 1 ["rules"] (sp1 (R_rules_by_head K)) := by
  obtain ⟨f, fd, hm, F, hb⟩ := T.f_rules_by_head.ex
  exact ⟨f, fd, hm, F.kp, hb, ok_rules_by_head F T⟩
def R_least_rule (K : PySem.W.Frag) : V → V → V → V → Hp → VK → XK → Prop := fun x y z u H Q _ => ∃ (a : Addr) (vs : List V) (rs : List Rl) (b : Addr) (kvs : List (Key × V)) (L : Str → Option Addr) (d : Addr) (S : Szs) (h : Str) (n : Nat), x = .ref a ∧ SqL K H a vs ∧ RulesAt H vs rs ∧ GoodG rs ∧ y = .ref b ∧ H b = some (.dK kvs) ∧ ByAt H b kvs rs L rs.length ∧ z = .ref d ∧ H d = some (.dK (szK S)) ∧ Done rs S ∧ u = .str h ∧ look S h = some n ∧
  ∀ (k : Nat) (r : Rl) (m : Nat), rs[k]? = some r → r.head = h → sizeP S r.parts = some m → m + 1 = n → Q (.int (k : Nat)) H
section
set_option hygiene false in
local macro_rules | `(tactic| top_name) => `(tactic| first | refine e_call (df_size_of T) (hr.mono (by decide)) ?_)
theorem ok_least_rule {f : Addr} {fd : FuncData} (F : Fun K "least_rule" "least_rule" s_least_rule f fd) (T : Txt K mg cs) : FnOk P w K mg base (L2.CX P w) 2 f fd ["rules", "by", "sizes", "head"] (sp4 (R_least_rule K)) := by
  refine F.okX sc_least_rule (fun vs H Q E h => sp4_len h) (fun cdv A outer s H vs Q E hr h => ⟨_, PBw (X := X_least_rule P w K mg base f cdv A outer s H E), ?_⟩)
  obtain ⟨a0, a1, a2, a3, rfl, h⟩ := h
  have hr' : Room 1 (X_least_rule P w K mg base f cdv A outer s H E).A := hr
  replace hr := hr'
  clear hr'
  obtain ⟨a, vs, rs, b, kvs, L, d, S, h', n, rfl, hS, hR, hG, rfl, hb, hby, rfl, hd, hD, rfl, hl, h⟩ := h
  have hvl := hR.len
  obtain ⟨r0, hr0, hh0, hz0, hn1⟩ := hD.why hl
  obtain ⟨k0, hk0⟩ := List.mem_iff_getElem?.mp hr0
  have hmem : k0 ∈ nums rs h' := by
    refine List.mem_filter.mpr ⟨List.mem_range.mpr (List.getElem?_eq_some_iff.mp hk0).1, decide_eq_true ?_⟩
    rw [hk0]
    exact congrArg some hh0
  obtain ⟨l, hL⟩ : ∃ l, L h' = some l := by
    cases q : L h' with
    | some l => exact ⟨l, rfl⟩
    | none =>
      have := hby.non _ q
      rw [show numsTo rs h' rs.length = nums rs h' from rfl] at this
      rw [this] at hmem
      cases hmem
  obtain ⟨_, kl⟩ := hby.at_ _ _ hL
  have kl : H l = some (.lst ((nums rs h').map fun k => V.int ((k : Nat) : Int))) := kl
  have gb := DGet.k (k := .inr h') hb
  rw [hby.val, hL] at gb
  have gs := dget_sz (h := h') hd
  rw [hl] at gs
  have nl : (nums rs h').length ≤ 60 := by
    have := List.length_filter_le (fun k => decide (rs[k]?.map Rl.head = some h')) (List.range rs.length)
    rw [List.length_range] at this
    exact Nat.le_trans this hG.few
  kxs_still
  refine s_for (j_list ?_)
  kxs_still
  refine i_dget (rm1 hr) gb ?_
  refine ⟨l, rfl, ⟨_, SqL.of kl⟩, _, _, _, walk_list (xs := (nums rs h').map fun k => V.int ((k : Nat) : Int)), fun i σ' H' => ∃ (v4 v5 : Option V), σ' = [some (.ref a), some (.ref b), some (.ref d), some (.str h'), v4, v5] ∧ H' = H ∧ ∀ k ∈ (nums rs h').take i, ∀ r, rs[k]? = some r → sizeP S r.parts ≠ some (n - 1), ⟨none, none, rfl, rfl, by simp⟩, fun _ _ _ _ ⟨_, _, _, e, _⟩ => by rw [e]; exact SqL.of kl, ?_, ?_⟩
  · rintro i x σ' H' H2 hi ⟨v4, v5, rfl, rfl, hno⟩ ⟨rfl, hx⟩
    obtain ⟨k, hk, rfl⟩ := map_get hx
    obtain ⟨hk1, hk2⟩ := List.mem_filter.mp (List.mem_of_getElem? hk)
    have hk2 := of_decide_eq_true hk2
    obtain ⟨r, hr1⟩ : ∃ r, rs[k]? = some r := by
      cases q : rs[k]? with
      | none => rw [q] at hk2; cases hk2
      | some r => exact ⟨r, rfl⟩
    rw [hr1] at hk2
    have hh : r.head = h' := Option.some.inj hk2
    obtain ⟨ra, rb, hv, hvk, e1, e2⟩ := hR.at' hr1
    have hrg := hG.good r (List.mem_of_getElem? hr1)
    have next : sizeP S r.parts ≠ some (n - 1) → ∀ k' ∈ (nums rs h').take (i + 1), ∀ r', rs[k']? = some r' → sizeP S r'.parts ≠ some (n - 1) := fun q k' hk' r' hr' => by
      rw [take_snoc hk] at hk'
      rcases List.mem_append.mp hk' with hk' | hk'
      · exact hno k' hk' r' hr'
      · rw [List.mem_singleton.mp hk', hr1] at hr'
        cases hr'
        exact q
    kxs_still
    refine ⟨rb, r.parts, d, S, rfl, SqT.of e2, hrg.parts, rfl, hd, ?_⟩
    cases hz : sizeP S r.parts with
    | none =>
      rw [show natV none = V.non from rfl]
      kxs_still
      exact ⟨_, _, rfl, rfl, next (by rw [hz]; simp)⟩
    | some m =>
      rw [show natV (some m) = V.int (m : Nat) from rfl]
      kxs_still
      refine i_dget (rm1 hr) gs ?_
      kxs_still
      refine iteD (fun c => ?_) fun c => ?_
      · kxs_still
        exact h k r m hr1 hh hz (by omega)
      · kxs_still
        exact ⟨_, _, rfl, rfl, next (by rw [hz]; intro q; have := Option.some.inj q; omega)⟩
  rintro σ' H' ⟨v4, v5, rfl, rfl, hno⟩
  rw [List.length_map, List.take_length] at hno
  exact absurd hz0 (hno k0 hmem r0 hk0)
end
theorem df_least_rule (T : Txt K mg cs) : Df P w K mg base "least_rule" 2 ["rules", "by", "sizes", "head"] (sp4 (R_least_rule K)) := by
  obtain ⟨f, fd, hm, F, hb⟩ := T.f_least_rule.ex
  exact ⟨f, fd, hm, F.kp, hb, ok_least_rule F T⟩
theorem size_names (S : Szs) : ∀ ps : List Str, sizeP S (ps.filter fun p => !isSg p) = sizeP S ps
  | [] => rfl
  | p :: ps => by
    have ih := size_names S ps
    have e : sizeP S (p :: ps) = if isSg p = true then sizeP S ps else (look S p).bind fun n => (sizeP S ps).map (n + ·) := rfl
    cases hs : isSg p with
    | true =>
      rw [List.filter_cons_of_neg (by rw [hs]; simp), ih, e, hs, if_pos rfl]
    | false =>
      rw [List.filter_cons_of_pos (by rw [hs]; rfl), e, hs, if_neg Bool.false_ne_true]
      show (if isSg p = true then _ else (look S p).bind fun n => (sizeP S _).map (n + ·)) = _
      rw [hs, if_neg Bool.false_ne_true, ih]
theorem size_cons {S : Szs} {p : Str} {ps : List Str} {x : Nat} (hs : isSg p = false) (e : sizeP S (p :: ps) = some x) : ∃ n y, look S p = some n ∧ sizeP S ps = some y ∧ n + y = x := by
  have e : (if isSg p = true then sizeP S ps else (look S p).bind fun n => (sizeP S ps).map (n + ·)) = some x := e
  rw [hs, if_neg Bool.false_ne_true] at e
  cases h1 : look S p with
  | none => rw [h1] at e; cases e
  | some n =>
    cases h2 : sizeP S ps with
    | none => rw [h1, h2] at e; cases e
    | some y =>
      rw [h1, h2] at e
      exact ⟨n, y, rfl, rfl, Option.some.inj e⟩
theorem size_join {S : Szs} : ∀ {a b : List Str} {x y : Nat}, sizeP S a = some x → sizeP S b = some y → sizeP S (a ++ b) = some (x + y)
  | [], b, x, y, h, k => by cases h; rw [Nat.zero_add]; exact k
  | p :: a, b, x, y, h, k => by
    cases hs : isSg p with
    | true =>
      have h : (if isSg p = true then sizeP S a else _) = some x := h
      rw [hs, if_pos rfl] at h
      show (if isSg p = true then sizeP S (a ++ b) else _) = _
      rw [hs, if_pos rfl]
      exact size_join h k
    | false =>
      obtain ⟨n, z, h1, h2, h3⟩ := size_cons hs h
      show (if isSg p = true then _ else (look S p).bind fun n => (sizeP S (a ++ b)).map (n + ·)) = _
      rw [hs, if_neg Bool.false_ne_true, h1, Option.bind_some, size_join h2 k]
      show some (n + (z + y)) = _
      rw [← h3, Nat.add_assoc]
theorem filter_rev (ps : List Str) : ps.reverse.filter (fun p => !isSg p) = (ps.filter fun p => !isSg p).reverse := List.filter_reverse ..
def R_least_row (K : PySem.W.Frag) : V → V → V → V → Hp → VK → XK → Prop := fun x y z u H Q _ => ∃ (a : Addr) (vs : List V) (rs : List Rl) (b : Addr) (kvs : List (Key × V)) (L : Str → Option Addr) (d : Addr) (S : Szs) (p : Addr) (ps : List Str) (m : Nat), x = .ref a ∧ SqL K H a vs ∧ RulesAt H vs rs ∧ GoodG rs ∧ y = .ref b ∧ H b = some (.dK kvs) ∧ ByAt H b kvs rs L rs.length ∧ z = .ref d ∧ H d = some (.dK (szK S)) ∧ Done rs S ∧ u = .ref p ∧ SqT K H p (ps.map V.str) ∧ ps.length ≤ 6 ∧ (∀ q ∈ ps, isPartS q = true) ∧ sizeP S ps = some m ∧ m ≤ 1000 ∧
  ∀ (l : Addr) (row : List Nat) (H' : Hp), Same H H' → H l = none → H' l = some (.lst (row.map fun k => V.int (k : Nat))) → row.length = m → Wt rs row (ps.filter fun p => !isSg p) → Q (.ref l) H'
section
set_option hygiene false in
local macro_rules | `(tactic| top_name) => `(tactic| first | refine e_call (df_least_rule T) (hr.mono (by decide)) ?_)
theorem ok_least_row {f : Addr} {fd : FuncData} (F : Fun K "least_row" "least_row" s_least_row f fd) (T : Txt K mg cs) : FnOk P w K mg base (L2.CX P w) 3 f fd ["rules", "by", "sizes", "parts"] (sp4 (R_least_row K)) := by
  refine F.okX sc_least_row (fun vs H Q E h => sp4_len h) (fun cdv A outer s H vs Q E hr h => ⟨_, PBw (X := X_least_row P w K mg base f cdv A outer s H E), ?_⟩)
  obtain ⟨a0, a1, a2, a3, rfl, h⟩ := h
  have ib_reversed := T.b_reversed
  have hr' : Room 2 (X_least_row P w K mg base f cdv A outer s H E).A := hr
  replace hr := hr'
  clear hr'
  obtain ⟨a, vs, rs, b, kvs, L, d, S, p, ps, m, rfl, hS, hR, hG, rfl, hb, hby, rfl, hd, hD, rfl, hp, hpl, hps, hm, hm1, h⟩ := h
  have hvl := hR.len
  kxs_still
  intro l1 H1 s1 n1 k1 _
  have hp1 := Same.seqT' s1 hp
  kxs_still
  refine s_setLcF (blkOk_by (sc := defScope s_least_row) (own := [("part", 6)]) (by decide +kernel)) (fun i => (ps.reverse[i]?.map fun p => !isSg p).getD false) (fun i => (ps.reverse[i]?.map V.str).getD .non) (j_revT ?_)
  kxs_still
  refine ⟨p, _, rfl, hp1, _, _, _, walk_revT (xs := ps.map V.str), by rw [List.length_map]; omega, fun H' s' => Same.seqT' s' hp1, ?_, ?_⟩
  · rintro i x H' H2 hi s' ⟨rfl, hx⟩
    rw [List.length_map] at hi hx
    obtain ⟨q, hq, rfl⟩ := map_get hx
    have hqr : ps.reverse[i]? = some q := by rw [List.getElem?_reverse hi]; exact hq
    refine ⟨Same.refl _, fun _ _ _ _ _ => ?_⟩
    kxs_still
    refine ⟨rfl, Same.refl _, fun _ _ _ _ _ => ?_⟩
    kxs_still
    refine ⟨part_sg (hps q (List.mem_of_getElem? hq)), ?_⟩
    refine ⟨Same.refl _, ?_, fun _ _ _ _ _ _ => ?_⟩
    · show _ = (Option.map _ ps.reverse[i]?).getD false
      rw [hqr]
      rfl
    kxs_still
    exact ⟨by show _ = (Option.map _ ps.reverse[i]?).getD V.non; rw [hqr]; rfl, Same.refl _⟩
  intro l2 H2 s2 n2 k2
  rw [List.length_map, ← List.length_reverse (as := ps), filter_ix V.str, filter_rev] at k2
  have k12 := s2 _ _ k1
  have s02 := s1.trans s2
  have n12 : l1 ≠ l2 := fun z => by rw [← z, k1] at n2; cases n2
  have n2H : H l2 = none := s1.none n2
  have f1 : ∀ b o, H b = some o → b ≠ l1 := fun b o q => ne_of_none q n1
  have f2 : ∀ b o, H b = some o → b ≠ l2 := fun b o q => ne_of_none q n2H
  kxs_still
  refine s_while (fun mm σ' H' => ∃ (row : List Nat) (st : List Str) (v6 v7 : Option V), σ' = [some (.ref a), some (.ref b), some (.ref d), some (.ref p), some (.ref l1), some (.ref l2), v6, v7] ∧ (∀ b o, b ≠ l1 → b ≠ l2 → H b = some o → H' b = some o) ∧ H' l1 = some (.lst (row.map fun k => V.int ((k : Nat) : Int))) ∧ H' l2 = some (.lst (st.map V.str)) ∧ (∀ q ∈ st, isPartS q = true ∧ isSg q = false) ∧ (∀ suf, Wt rs suf st.reverse → Wt rs (row ++ suf) (ps.filter fun p => !isSg p)) ∧ sizeP S st.reverse = some mm ∧ row.length + mm = m ∧ st.length ≤ 6 + 6 * row.length) _
    ⟨[], _, none, none, rfl, fun b o _ _ q => s02 _ _ q, k12, k2, fun q hq => ?_, fun suf q => by rw [List.reverse_reverse] at q; exact q, by rw [List.reverse_reverse, size_names]; exact hm, by simp, by rw [List.length_reverse]; have := List.length_filter_le (fun p => !isSg p) ps; simp; omega⟩ ?_
  · obtain ⟨w1, w2⟩ := List.mem_filter.mp (List.mem_reverse.mp hq)
    exact ⟨hps q w1, by simpa using w2⟩
  rintro mm σ' H' ⟨row, st, v6, v7, rfl, sO, kr, kw, hst, hW, hz, hrm, hsl⟩
  kxs_still
  intro l5 H5 s5 n5 k5 _
  have kw5 := s5 _ _ kw
  have shst : Sh 1 (.list (st.map .str)) := strs_sh fun p hp => part_codes (hst p hp).1
  refine o_neD hr.units (.lst (SqL.of kw5) (dp_strs _)) (.lst (SqL.of k5) .nil) shst.ok rfl ?_
  rw [strs_nil]
  refine ⟨_, rfl, ?_⟩
  have sO5 : ∀ b o, b ≠ l1 → b ≠ l2 → H b = some o → H5 b = some o := fun b o h1 h2 q => s5 _ _ (sO b o h1 h2 q)
  refine iteND (fun cst => ?_) fun cst => ?_
  · obtain ⟨st', nm, rfl⟩ : ∃ st' n, st = st' ++ [n] := ⟨st.dropLast, st.getLast cst, (List.dropLast_concat_getLast cst).symm⟩
    rw [List.map_append] at kw5
    obtain ⟨hnp, hns⟩ := hst nm (List.mem_append_right _ (List.mem_singleton.mpr rfl))
    rw [List.reverse_append, List.reverse_singleton, List.singleton_append] at hz hW
    obtain ⟨n, y0, hl, hy, hsum⟩ := size_cons hns hz
    kxs_still
    refine e_pop ?_
    kxs_still
    refine ⟨ty_l kw5, ?_⟩
    refine m_pop kw5 fun H6 k6 e6 => ?_
    have sO6 : ∀ b o, b ≠ l1 → b ≠ l2 → H b = some o → H6 b = some o := fun b o h1 h2 q => by rw [e6 b h2]; exact sO5 b o h1 h2 q
    have sH6 : Same H H6 := fun b o q => sO6 b o (f1 b o q) (f2 b o q) q
    have kr6 : H6 l1 = _ := (e6 l1 n12).trans (s5 _ _ kr)
    have by6 : ByAt H6 b kvs rs L rs.length := ⟨hby.val, hby.inj, fun h l q => by
      obtain ⟨w1, w2⟩ := hby.at_ h l q
      exact ⟨w1, sH6 _ _ w2⟩, hby.non, hby.len⟩
    kxs_still
    refine ⟨a, vs, rs, b, kvs, L, d, S, nm, n, rfl, sH6.seq hS, hR.ts (Same.ts sH6), hG, rfl, sH6 _ _ hb, by6, rfl, sH6 _ _ hd, hD, rfl, hl, fun k r m1 hr1 hh hz1 hm1' => ?_⟩
    have hrg := hG.good r (List.mem_of_getElem? hr1)
    have h6 := hrg.few
    obtain ⟨ra, rb, hv, hvk, e1, e2⟩ := hR.at' hr1
    kxs_still
    refine ⟨ty_l kr6, ?_⟩
    kxs_still
    refine m_append kr6 (by rw [List.length_map]; omega) fun H7 k7 e7 => ?_
    have kw7 : H7 l2 = some (.lst (st'.map V.str)) := (e7 l2 n12.symm).trans k6
    have sO7 : ∀ b o, b ≠ l1 → b ≠ l2 → H b = some o → H7 b = some o := fun b o h1 h2 q => by rw [e7 b h1]; exact sO6 b o h1 h2 q
    have sH7 : Same H H7 := fun b o q => sO7 b o (f1 b o q) (f2 b o q) q
    have e17 := sH7 _ _ e1
    have e27 := sH7 _ _ e2
    have hS7 := sH7.seq hS
    kxs_still
    refine e_extend ?_
    kxs_still
    refine ⟨ty_l kw7, ?_⟩
    kxs_still
    refine e_lcF (blkOk_by (sc := defScope s_least_row) (own := [("part", 6)]) (by decide +kernel)) (fun i => (r.parts.reverse[i]?.map fun p => !isSg p).getD false) (fun i => (r.parts.reverse[i]?.map V.str).getD .non) (j_revT ?_)
    kxs_still
    refine ⟨rb, _, rfl, SqT.of e27, _, _, _, walk_revT (xs := r.parts.map V.str), by rw [List.length_map]; omega, fun H' s' => SqT.of (s' _ _ e27), ?_, ?_⟩
    · rintro i x H' H2 hi s' ⟨rfl, hx⟩
      rw [List.length_map] at hi hx
      obtain ⟨q, hq, rfl⟩ := map_get hx
      have hqr : r.parts.reverse[i]? = some q := by rw [List.getElem?_reverse hi]; exact hq
      refine ⟨Same.refl _, fun _ _ _ _ _ => ?_⟩
      kxs_still
      refine ⟨rfl, Same.refl _, fun _ _ _ _ _ => ?_⟩
      kxs_still
      refine ⟨part_sg (hrg.parts q (List.mem_of_getElem? hq)), ?_⟩
      refine ⟨Same.refl _, ?_, fun _ _ _ _ _ _ => ?_⟩
      · show _ = (Option.map _ r.parts.reverse[i]?).getD false
        rw [hqr]
        rfl
      kxs_still
      exact ⟨by show _ = (Option.map _ r.parts.reverse[i]?).getD V.non; rw [hqr]; rfl, Same.refl _⟩
    intro l8 H8 s8 n8 k8
    rw [List.length_map, ← List.length_reverse (as := r.parts), filter_ix V.str, filter_rev] at k8
    have kw8 := s8 _ _ kw7
    have hnl := List.length_filter_le (fun p => !isSg p) r.parts
    rw [List.length_append, List.length_singleton] at hsl
    kxs_still
    refine m_extend kw8 k8 (by simp only [List.length_map, List.length_reverse]; omega) fun H9 k9 e9 => ?_
    kxs_still
    have hzp : sizeP S (namesOf r) = some m1 := by rw [show namesOf r = r.parts.filter fun p => !isSg p from rfl, size_names]; exact hz1
    refine ⟨mm - 1, ?_, row ++ [k], st' ++ (namesOf r).reverse, _, _, rfl, fun b o h1 h2 q => by rw [e9 b h2]; exact s8 _ _ (sO7 b o h1 h2 q), ?_, ?_, fun q hq => ?_, fun suf q => ?_, ?_, ?_, ?_⟩
    · omega
    · rw [e9 l1 n12, s8 _ _ k7, List.map_append]
      rfl
    · rw [k9, List.map_append]
      rfl
    · rcases List.mem_append.mp hq with hq | hq
      · exact hst q (List.mem_append_left _ hq)
      · obtain ⟨w1, w2⟩ := List.mem_filter.mp (List.mem_reverse.mp hq)
        exact ⟨hrg.parts q w1, by simpa using w2⟩
    · rw [List.append_assoc]
      refine hW _ ?_
      rw [List.reverse_append, List.reverse_reverse] at q
      rw [← hh]
      exact .cons hr1 q
    · rw [List.reverse_append, List.reverse_reverse, size_join hzp hy]
      congr 1
      omega
    · rw [List.length_append, List.length_singleton]
      omega
    · have hnl' : (namesOf r).length ≤ r.parts.length := hnl
      simp only [List.length_append, List.length_reverse, List.length_singleton]
      omega
  · subst cst
    have hz : (some 0 : Option Nat) = some mm := hz
    cases hz
    kxs_still
    refine h l1 row H5 (fun b o q => sO5 b o (f1 b o q) (f2 b o q) q) n1 (s5 _ _ kr) (by omega) ?_
    have := hW [] .nil
    rwa [List.append_nil] at this
end
theorem df_least_row (T : Txt K mg cs) : Df P w K mg base "least_row" 3 ["rules", "by", "sizes", "parts"] (sp4 (R_least_row K)) := by
  obtain ⟨f, fd, hm, F, hb⟩ := T.f_least_row.ex
  exact ⟨f, fd, hm, F.kp, hb, ok_least_row F T⟩
theorem Wt.app {rs : List Rl} {row1 : List Nat} {ns1 : List Str} (h : Wt rs row1 ns1) : ∀ {row2 : List Nat} {ns2 : List Str}, Wt rs row2 ns2 → Wt rs (row1 ++ row2) (ns1 ++ ns2) := by
  induction h with
  | nil => intro row2 ns2 k; exact k
  | cons hk _ ih =>
    intro row2 ns2 k
    have := ih k
    rw [List.append_assoc] at this
    exact .cons hk this
theorem size_split {S : Szs} {a b : List Str} {z : Nat} (h : sizeP S (a ++ b) = some z) : ∃ x y, sizeP S a = some x ∧ sizeP S b = some y ∧ x + y = z := by
  rw [sizeP_app] at h
  cases h1 : sizeP S a with
  | none => rw [h1] at h; cases h
  | some x =>
    cases h2 : sizeP S b with
    | none => rw [h1, h2] at h; cases h
    | some y => rw [h1, h2] at h; exact ⟨x, y, rfl, rfl, Option.some.inj h⟩
/-- a step back from a name to a rule it stands in -/
theorem Rnd.back {rs : List Rl} {S : Szs} {F : Fnd} (c : Rnd rs S F) {h : Str} {m : Nat} {ptr : Option (Nat × Nat)} (e : lk F (.inr h) = some (m, ptr)) : (ptr = none ∧ m = 0 ∧ ∃ r0, rs[0]? = some r0 ∧ h = r0.head) ∨
    ∃ nu at' r mh ph x1 x2, ptr = some (nu, at') ∧ rs[nu]? = some r ∧ r.parts[at']? = some h ∧ isSg h = false ∧ lk F (.inr r.head) = some (mh, ph) ∧ sizeP S (r.parts.take at') = some x1 ∧ sizeP S (r.parts.drop (at' + 1)) = some x2 ∧ m = mh + 1 + x1 + x2 := by
  rcases c.inv with inv | ⟨q, _⟩
  · rcases inv.why h m ptr e with ⟨q1, q2, q3⟩ | ⟨nu, at', many, q1, hs, q2⟩
    · exact .inl ⟨q1, q2, q3⟩
    · have hc := c.clo nu at' h many hs
      obtain ⟨r, mh, ph, sz, sp, w1, w2, w3, w4, w5, w6, w7⟩ := hs
      have hm : ¬ many < m := by
        unfold bet at hc
        rw [e] at hc
        simpa using hc
      have ep : r.parts = r.parts.take at' ++ (h :: r.parts.drop (at' + 1)) := by
        rw [← (List.getElem?_eq_some_iff.mp w2).2, ← List.drop_eq_getElem_cons (List.getElem?_eq_some_iff.mp w2).1, List.take_append_drop]
      rw [ep] at w5
      obtain ⟨x1, y, z1, z2, z3⟩ := size_split w5
      obtain ⟨n, x2, z4, z5, z6⟩ := size_cons w3 z2
      rw [w6] at z4
      cases z4
      exact .inr ⟨nu, at', r, mh, ph, x1, x2, q1, w1, w2, w3, w4, z1, z5, by omega⟩
  · rw [q] at e; cases e
theorem names_split {r : Rl} {at' : Nat} {h : Str} (e : r.parts[at']? = some h) (hs : isSg h = false) : namesOf r = (r.parts.take at').filter (fun p => !isSg p) ++ ([h] ++ (r.parts.drop (at' + 1)).filter fun p => !isSg p) := by
  have ep : r.parts = r.parts.take at' ++ (h :: r.parts.drop (at' + 1)) := by
    rw [← (List.getElem?_eq_some_iff.mp e).2, ← List.drop_eq_getElem_cons (List.getElem?_eq_some_iff.mp e).1, List.take_append_drop]
  unfold namesOf
  have := congrArg (List.filter fun p => !isSg p) ep
  rw [List.filter_append, List.filter_cons_of_pos (by rw [hs]; rfl)] at this
  exact this
def R_row_with (K : PySem.W.Frag) (cs : Cs) : V → V → Hp → VK → XK → Prop := fun x y H Q E => RG K cs x H E fun a vs rs => ∃ d, Th K H y d ∧
  (∀ (S : Szs) (F : Fnd) (k : Nat) (r : Rl) (f : Fv) (m : Nat), Done rs S → Rnd rs S F → d = .int (k : Nat) → rs[k]? = some r → lk F (.inr r.head) = some f → sizeP S r.parts = some m →
    (1000 < f.1 + 1 + m → ∀ H', Same H H' → E (.ref cs.TooGreat) none H') ∧
    (f.1 + 1 + m ≤ 1000 → ∀ (r0 : Rl) (l : Addr) (row : List Nat) (H' : Hp), rs[0]? = some r0 → Same H H' → H l = none → H' l = some (.lst (row.map fun k => V.int ((k : Nat) : Int))) → Wt rs row [r0.head] → k ∈ row → row.length = f.1 + 1 + m → Q (.ref l) H')) ∧
  (∀ (S : Szs) (F : Fnd), Done rs S → Rnd rs S F → (∀ k : Nat, d = .int (k : Nat) → needK rs S F k = false) → ∀ H', Same H H' → E (.ref cs.NoRow) none H')
section
set_option hygiene false in
local macro_rules | `(tactic| top_name) => `(tactic| first | refine e_call (df_checked T) (hr.mono (by decide)) ?_ | refine e_call (df_least_sizes T) (hr.mono (by decide)) ?_ | refine e_call (df_roundabouts T) (hr.mono (by decide)) ?_ | refine e_call (df_size_of T) (hr.mono (by decide)) ?_ | refine e_call (df_rules_by_head T) (hr.mono (by decide)) ?_ | refine e_call (df_least_row T) (hr.mono (by decide)) ?_ | refine e_call (df_is_whole T) (hr.mono (by decide)) ?_)
set_option hygiene false in
local macro_rules | `(tactic| top_raise) => `(tactic| first | refine s_raise T.x_NoRow ?_ | refine s_raise T.x_TooGreat ?_)
theorem ok_row_with {f : Addr} {fd : FuncData} (F : Fun K "row_with" "row_with" s_row_with f fd) (T : Txt K mg cs) : FnOk P w K mg base (L2.CX P w) 6 f fd ["grammar", "number"] (sp2 (R_row_with K cs)) := by
  refine F.okX sc_row_with (fun vs H Q E h => sp2_len h) (fun cdv A outer s H vs Q E hr h => ⟨_, PBw (X := X_row_with P w K mg base f cdv A outer s H E), ?_⟩)
  obtain ⟨a0, a1, rfl, h⟩ := h
  obtain ⟨t_MOST_NUMBERS, h_MOST_NUMBERS⟩ := T.k_MOST_NUMBERS
  have ib_MOST_NUMBERS : Gn mg "MOST_NUMBERS" (some _) := ⟨h_MOST_NUMBERS⟩
  have ib_NoRow : Gn mg "NoRow" (some _) := ⟨T.x_NoRow.mg⟩
  have ib_TooGreat : Gn mg "TooGreat" (some _) := ⟨T.x_TooGreat.mg⟩
  have ib_len := T.b_len
  have hr' : Room 5 (X_row_with P w K mg base f cdv A outer s H E).A := hr
  replace hr := hr'
  clear hr'
  kxs_still
  rcases h with ⟨a, vs, rs, g, d, hd, h1, h2⟩ | ⟨d, hd, hb, q⟩
  case inr => exact .inr ⟨d, hd, hb, q⟩
  refine .inl ⟨a, vs, rs, g, fun l H1 s1 n1 k1 => ?_⟩
  have hG := g.ok
  have hR1 := g.at_.ts (Same.ts s1)
  have hvl := hR1.len
  have h60 := hG.few
  kxs_still
  refine ⟨l, vs, rs, rfl, SqL.of k1, hR1, hG, fun ds S H2 s2 n2 k2 hD => ?_⟩
  have hR2 := hR1.ts (Same.ts s2)
  have k12 := s2 _ _ k1
  kxs_still
  refine ⟨l, vs, rs, ds, S, rfl, SqL.of k12, hR2, hG, rfl, k2, hD, fun f kvs F H3 s3 n3 k3 hF hRn => ?_⟩
  have hR3 := hR2.ts (Same.ts s3)
  have k13 := s3 _ _ k12
  have k23 := s3 _ _ k2
  have s03 := s1.trans (s2.trans s3)
  have hd3 := hd.more s03
  have noRow : (∀ k : Nat, d = .int (k : Nat) → needK rs S F k = false) → ∀ H', Same H3 H' → E (.ref cs.NoRow) none H' := fun q H' s' => h2 S F hD hRn q H' (s03.trans s')
  kxs_still
  refine ⟨d, hd3, ?_⟩
  kxs_still
  cases hw : isWholeD d with
  | false =>
    kxs_still
    exact noRow (fun k e => by rw [e] at hw; cases hw) _ (Same.refl _)
  | true =>
  obtain ⟨i, rfl⟩ : ∃ i, d = .int i := by cases d <;> first | exact ⟨_, rfl⟩ | cases hw
  obtain rfl : a1 = .int i := by cases hd3; rfl
  kxs_still
  refine iteD (fun ci => ?_) fun ci => ?_
  case refine_2 =>
    kxs_still
    exact noRow (fun k e => by have := PyData.int.inj e; omega) _ (Same.refl _)
  kxs_still
  refine iteND (fun cj => ?_) fun cj => ?_
  · kxs_still
    refine noRow (fun k e => ?_) _ (Same.refl _)
    have := PyData.int.inj e
    unfold needK
    rw [List.getElem?_eq_none (by omega)]
    rfl
  obtain ⟨k, rfl⟩ : ∃ k : Nat, i = (k : Nat) := ⟨i.toNat, by omega⟩
  obtain ⟨r, hr1⟩ : ∃ r, rs[k]? = some r := ⟨_, List.getElem?_eq_getElem (by omega)⟩
  obtain ⟨ra, rb, hv, hvk, e1, e2⟩ := hR3.at' hr1
  have hrg := hG.good r (List.mem_of_getElem? hr1)
  have nk : ∀ b, ((lk F (.inr r.head)).isSome && (sizeP S r.parts).isSome) = b → needK rs S F k = b := fun b e => by
    unfold needK
    rw [hr1]
    exact e
  obtain ⟨vn, vh⟩ := hF.dget (.inr r.head) k3
  kxs_still
  cases hl : lk F (.inr r.head) with
  | none =>
    refine o_dni (rm1 hr) (vn hl) ?_
    refine ⟨_, rfl, ?_⟩
    kxs_still
    exact noRow (fun k' e => by have : k' = k := by have := PyData.int.inj e; omega
                                rw [this]; exact nk false (by rw [hl]; rfl)) _ (Same.refl _)
  | some fh =>
  obtain ⟨vf, gf, tf, rfl, ktf⟩ := vh _ hl
  refine o_dni (rm1 hr) gf ?_
  refine ⟨_, rfl, ?_⟩
  kxs_still
  refine ⟨rb, r.parts, ds, S, rfl, SqT.of e2, hrg.parts, rfl, k23, ?_⟩
  cases hz : sizeP S r.parts with
  | none =>
    rw [show natV none = V.non from rfl]
    kxs_still
    exact noRow (fun k' e => by have : k' = k := by have := PyData.int.inj e; omega
                                rw [this]; exact nk false (by rw [hl, hz]; rfl)) _ (Same.refl _)
  | some m =>
  rw [show natV (some m) = V.int (m : Nat) from rfl]
  obtain ⟨g1, g2⟩ := h1 S F k r fh m hD hRn rfl hr1 hl hz
  kxs_still
  refine i_dget (rm1 hr) gf ?_
  kxs_still
  refine iteD (fun cg => ?_) fun cg => ?_
  · kxs_still
    exact g1 (by omega) _ s03
  have g2 := g2 (by omega)
  kxs_still
  refine ⟨l, vs, rs, rfl, SqL.of k13, hR3, hG, fun b kvb L H4 s4 n4 k4 hby => ?_⟩
  have s04 := s03.trans s4
  have k14 := s4 _ _ k13
  have k24 := s4 _ _ k23
  have k34 := s4 _ _ k3
  have e14 := s4 _ _ e1
  have e24 := s4 _ _ e2
  have hR4 := hR3.ts (Same.ts s4)
  kxs_still
  intro l5 H5 s5 n5 k5 _
  have by5 : ∀ {H' : Hp}, Same H4 H' → ByAt H' b kvb rs L rs.length := fun s => ⟨hby.val, hby.inj, fun h l q => by
    obtain ⟨w1, w2⟩ := hby.at_ h l q
    exact ⟨w1, s _ _ w2⟩, hby.non, hby.len⟩
  have lr : ∀ (H' : Hp) (pp : Addr) (ps : List Str) (mm : Nat) (QQ : VK) (EE : XK), Same H4 H' → SqT K H' pp (ps.map V.str) → ps.length ≤ 6 → (∀ q ∈ ps, isPartS q = true) → sizeP S ps = some mm → mm ≤ 1000 → (∀ (l : Addr) (row : List Nat) (H2 : Hp), Same H' H2 → H' l = none → H2 l = some (.lst (row.map fun k => V.int (k : Nat))) → row.length = mm → Wt rs row (ps.filter fun p => !isSg p) → QQ (.ref l) H2) → R_least_row K (.ref l) (.ref b) (.ref ds) (.ref pp) H' QQ EE := fun H' pp ps mm QQ EE s hp hpl hps hm hm1 q =>
    ⟨l, vs, rs, b, kvb, L, ds, S, pp, ps, mm, rfl, SqL.of (s _ _ k14), hR4.ts (Same.ts s), hG, rfl, s _ _ k4, by5 s, rfl, s _ _ k24, hD, rfl, hp, hpl, hps, hm, hm1, q⟩
  have e15 := s5 _ _ e14
  have e25 := s5 _ _ e24
  have hS5 := SqL.of (K := K) (s5 _ _ k14)
  have k15 := s5 _ _ k14
  kxs_still
  refine lr H5 rb r.parts m _ _ s5 (SqT.of e25) hrg.few hrg.parts hz (by omega) fun l6 row6 H6 s6 n6 k6 hl6 hw6 => ?_
  have k56 := s6 _ _ k5
  refine o_catL k56 k6 (by simp only [List.length_map, List.length_cons, List.length_nil]; omega) fun l7 H7 s7 n7 k7 _ => ?_
  have k7' : H7 l7 = some (.lst ((k :: row6).map fun k => V.int ((k : Nat) : Int))) := k7
  have s47 := s5.trans (s6.trans s7)
  have k17 := s47 _ _ k14
  have e17 := s47 _ _ e14
  have dg : ∀ {H' : Hp} (s : Same H4 H') {h : Str} {fc : Fv}, lk F (.inr h) = some fc → ∃ t, DGet H' f (.str h) (some (.ref t)) ∧ H' t = some (.tup [.int (fc.1 : Nat), ptr1 fc.2, ptr2 fc.2]) := fun {H'} s {h fc} e => by
    obtain ⟨_, q⟩ := (hF.mono (R' := FvAt H') fun _ _ q => q.ts (Same.ts (s4.trans s))).dget (.inr h) (s _ _ k34)
    obtain ⟨v, g, t, rfl, kt⟩ := q _ e
    exact ⟨t, g, kt⟩
  obtain ⟨t7, gf7, kt7⟩ := dg s47 hl
  have hr0 : ∃ r0, rs[0]? = some r0 := by
    rcases hRn.inv with inv | ⟨q, _⟩
    · obtain ⟨r0, q, _⟩ := inv.st
      exact ⟨r0, q⟩
    · rw [q] at hl; cases hl
  obtain ⟨r0, hr0⟩ := hr0
  have wt0 : Wt rs (k :: row6) [r.head] := .cons hr1 (by rw [List.append_nil]; exact hw6)
  kxs_still
  refine i_dget (rm1 hr) gf7 ?_
  kxs_still
  refine s_while (fun mm σ' H' => ∃ (lw : Addr) (row : List Nat) (tp : Addr) (hd' : Str) (fc : Fv) (v9 : Option V), σ' = [some a0, some (.int (k : Nat)), some (.ref l), some (.ref ds), some (.ref f), some (.int (m : Nat)), some (.ref b), some (.ref lw), some (.ref tp), v9] ∧ Same H4 H' ∧ H' lw = some (.lst (row.map fun k => V.int ((k : Nat) : Int))) ∧ H lw = none ∧ H' tp = some (.tup [.int (fc.1 : Nat), ptr1 fc.2, ptr2 fc.2]) ∧ lk F (.inr hd') = some fc ∧ Wt rs row [hd'] ∧ k ∈ row ∧ row.length + fc.1 = fh.1 + 1 + m ∧ mm = fc.1) _
    ⟨l7, k :: row6, t7, r.head, fh, none, rfl, s47, k7', (s04.trans (s5.trans s6)).none n7, kt7, hl, wt0, List.mem_cons_self .., by rw [List.length_cons, hl6]; omega, rfl⟩ ?_
  rintro mm σ' H8 ⟨lw, row, tp, hd', fc, v9, rfl, s8, kw, nlw, ktp, hlf, hWt, hkm, hsum, rfl⟩
  obtain ⟨fm, ptr⟩ := fc
  rcases hRn.back hlf with ⟨rfl, rfl, r0', hr0', rfl⟩ | ⟨nu, at', r2, mh, ph, x1, x2, rfl, hr2, hpt, hsg, hlr, hx1, hx2, hmm⟩
  · have ktp : H8 tp = some (.tup [.int ((0 : Nat) : Int), .non, .non]) := ktp
    rw [hr0] at hr0'
    cases hr0'
    kxs_still
    exact g2 r0 lw row H8 hr0 (s04.trans s8) nlw kw hWt hkm (by omega)
  have ktp : H8 tp = some (.tup [.int ((fm : Nat) : Int), .int ((nu : Nat) : Int), .int ((at' : Nat) : Int)]) := ktp
  obtain ⟨rra, rrb, hv2, hvk2, f1, f2⟩ := hR4.at' hr2
  have hrg2 := hG.good r2 (List.mem_of_getElem? hr2)
  have h62 := hrg2.few
  have f18 := s8 _ _ f1
  have f28 := s8 _ _ f2
  have k18 := s8 _ _ k14
  have hrl : row.length ≤ 1001 := by omega
  kxs_still
  intro l9 H9 s9 n9 k9 _
  have f29 := s9 _ _ f28
  have ktp9 := s9 _ _ ktp
  kxs_still
  refine n_tup f29 fun t10 H10 s10 k10 => ?_
  rw [cutV_to _ (by omega), show ((at' : Nat) : Int).toNat = at' by omega, ← List.map_take] at k10
  have s410 := s8.trans (s9.trans s10)
  kxs_still
  refine lr H10 t10 (r2.parts.take at') x1 _ _ s410 (SqT.of k10) (by rw [List.length_take]; omega) (fun q hq => hrg2.parts q (List.mem_of_mem_take hq)) hx1 (by omega) fun l11 row11 H11 s11 n11 k11 hl11 hw11 => ?_
  have k911 := (s10.trans s11) _ _ k9
  refine o_catL k911 k11 (by simp only [List.length_map, List.length_cons, List.length_nil]; omega) fun l12 H12 s12 n12 k12 _ => ?_
  have k12' : H12 l12 = some (.lst ((nu :: row11).map fun k => V.int ((k : Nat) : Int))) := k12
  have s812 := s9.trans (s10.trans (s11.trans s12))
  have kw12 := s812 _ _ kw
  kxs_still
  refine o_catL k12' kw12 (by simp only [List.length_map, List.length_cons]; omega) fun l13 H13 s13 n13 k13' _ => ?_
  rw [← List.map_append] at k13'
  have s813 := s812.trans s13
  have f213 := s813 _ _ f28
  have ktp13 := s813 _ _ ktp
  kxs_still
  refine n_tup f213 fun t14 H14 s14 k14' => ?_
  rw [cutV_from _ (by omega), show (((at' : Nat) : Int) + 1).toNat = at' + 1 by omega, ← List.map_drop] at k14'
  have s414 := s8.trans (s813.trans s14)
  kxs_still
  refine lr H14 t14 (r2.parts.drop (at' + 1)) x2 _ _ s414 (SqT.of k14') (by rw [List.length_drop]; omega) (fun q hq => hrg2.parts q (List.mem_of_mem_drop hq)) hx2 (by omega) fun l15 row15 H15 s15 n15 k15' hl15 hw15 => ?_
  have k1315 := (s14.trans s15) _ _ k13'
  refine o_catL k1315 k15' (by simp only [List.length_map, List.length_append, List.length_cons]; omega) fun l16 H16 s16 n16 k16 _ => ?_
  rw [← List.map_append] at k16
  have s816 := s813.trans (s14.trans (s15.trans s16))
  have s416 := s8.trans s816
  have k116 := s416 _ _ k14
  have f116 := s416 _ _ f1
  have ktp16 := s816 _ _ ktp
  obtain ⟨t17, gf17, kt17⟩ := dg s416 hlr
  kxs_still
  refine i_dget (rm1 hr) gf17 ?_
  kxs_still
  have wt := hw11.app (hWt.app hw15)
  refine ⟨_, ?_, l16, _, t17, r2.head, (mh, ph), _, rfl, s416, k16, ?_, kt17, hlr, ?_, ?_, ?_, rfl⟩
  · show mh < fm
    omega
  · cases e : H l16 with
    | none => rfl
    | some o => rw [(s04.trans (s8.trans (s813.trans (s14.trans s15)))) _ _ e] at n16; cases n16
  · have e : nu :: row11 ++ row ++ row15 = nu :: (row11 ++ (row ++ row15)) := by simp
    rw [e]
    refine .cons hr2 ?_
    rw [List.append_nil, names_split hpt hsg]
    exact wt
  · exact List.mem_append_left _ (List.mem_append_right _ hkm)
  · show (nu :: row11 ++ row ++ row15).length + mh = _
    simp only [List.length_append, List.length_cons]
    have hsum : row.length + fm = fh.1 + 1 + m := hsum
    omega

end
theorem df_row_with (T : Txt K mg cs) : Df P w K mg base "row_with" 6 ["grammar", "number"] (sp2 (R_row_with K cs)) := by
  obtain ⟨f, fd, hm, F, hb⟩ := T.f_row_with.ex
  exact ⟨f, fd, hm, F.kp, hb, ok_row_with F T⟩
theorem Done.le {rs rs' : List Rl} {S S' : Szs} (d : Done rs S) (d' : Done rs' S') (hm : ∀ r ∈ rs, r ∈ rs') : ∀ (n : Nat) (h : Str), look S h = some n → ∃ m, look S' h = some m ∧ m ≤ n := by
  intro n
  induction n using Nat.strongRecOn with
  | _ n ih =>
    intro h q
    obtain ⟨r, h1, h2, h3, h4⟩ := d.why q
    have key : ∀ (ps : List Str) (k : Nat), k < n → sizeP S ps = some k → ∃ m, sizeP S' ps = some m ∧ m ≤ k := by
      intro ps
      induction ps with
      | nil => intro k _ e; cases e; exact ⟨0, rfl, Nat.le_refl _⟩
      | cons p ps ihp =>
        intro k hk e
        have e : (if isSg p = true then sizeP S ps else (look S p).bind fun n => (sizeP S ps).map (n + ·)) = some k := e
        show ∃ m, (if isSg p = true then sizeP S' ps else (look S' p).bind fun n => (sizeP S' ps).map (n + ·)) = some m ∧ m ≤ k
        by_cases c : isSg p = true
        · rw [if_pos c] at e ⊢
          exact ihp k hk e
        · rw [if_neg c] at e ⊢
          cases a1 : look S p with
          | none => rw [a1] at e; cases e
          | some x =>
            cases a2 : sizeP S ps with
            | none => rw [a1, a2] at e; cases e
            | some y =>
              rw [a1, a2] at e
              have e : x + y = k := Option.some.inj e
              obtain ⟨x', b1, b2⟩ := ih x (by omega) p a1
              obtain ⟨y', b3, b4⟩ := ihp y (by omega) a2
              exact ⟨x' + y', by rw [b1, b3]; rfl, by omega⟩
    obtain ⟨m, hm1, hm2⟩ := key r.parts (n - 1) (by omega) h3
    obtain ⟨n', q1, q2⟩ := d'.low (hm r h1) hm1
    exact ⟨n', by rw [← h2]; exact q1, by omega⟩
theorem Done.same {rs rs' : List Rl} {S S' : Szs} (d : Done rs S) (d' : Done rs' S') (hm : ∀ r, r ∈ rs ↔ r ∈ rs') (h : Str) : look S h = look S' h := by
  cases e : look S h with
  | none =>
    cases e' : look S' h with
    | none => rfl
    | some n =>
      obtain ⟨m, q, _⟩ := d'.le d (fun r hr => (hm r).mpr hr) n h e'
      rw [e] at q
      cases q
  | some n =>
    obtain ⟨m, q, l1⟩ := d.le d' (fun r hr => (hm r).mp hr) n h e
    obtain ⟨k, q', l2⟩ := d'.le d (fun r hr => (hm r).mpr hr) m h q
    rw [e] at q'
    cases q'
    rw [q]
    congr 1
    omega
/-! ### bounds: four names, at most three parts -/
theorem ends_four {rs : List Rl} {nms : List Str} (h4 : nms.length ≤ 4) (hn : ∀ r ∈ rs, r.head ∈ nms) : ends rs 5 = ends rs 4 := by
  have cap : ∀ t, (ends rs t).length ≤ 4 := fun t => by
    have := nodup_len (m := nms) (ends_ok rs t).nd fun x hx => by
      obtain ⟨n, e⟩ := mem_look hx
      obtain ⟨k, r, h1, h2, h3⟩ := ((ends_ok rs t).pd x (by rw [e]; rfl)).known
      rw [← h3]
      exact hn r (List.mem_of_getElem? h2)
    rw [List.length_map] at this
    omega
  have step : ∀ t, (ends rs t).length ≤ (ends rs (t + 1)).length ∧ ((ends rs (t + 1)).length = (ends rs t).length → ends rs (t + 1) = ends rs t) := fun t => endTo_len rs (ends rs t) rs.length
  have same : ∀ t, ends rs (t + 1) = ends rs t → ends rs (t + 2) = ends rs (t + 1) := fun t e => by
    show endTo rs (ends rs (t + 1)) rs.length = ends rs (t + 1)
    rw [e]
    exact e
  have grow : ∀ t, t ≤ (ends rs t).length ∨ ends rs (t + 1) = ends rs t := fun t => by
    induction t with
    | zero => exact .inl (Nat.zero_le _)
    | succ t ih =>
      rcases ih with ih | ih
      · by_cases c : (ends rs (t + 1)).length = (ends rs t).length
        · exact .inr (same t ((step t).2 c))
        · exact .inl (by have := (step t).1; omega)
      · exact .inr (same t ih)
  rcases grow 4 with h | h
  · have c5 : (ends rs (4 + 1)).length ≤ 4 := cap 5
    exact (step 4).2 (by have := (step 4).1; omega)
  · exact h
def bnd : Nat → Nat
  | 0 => 0
  | t + 1 => 1 + 3 * bnd t
theorem size_bound {S : Szs} {B : Nat} : ∀ {ps : List Str}, (∀ p ∈ ps, isSg p = false → ∃ n, look S p = some n ∧ n ≤ B) → ∃ m, sizeP S ps = some m ∧ m ≤ ps.length * B
  | [], _ => ⟨0, rfl, Nat.zero_le _⟩
  | p :: ps, h => by
    obtain ⟨m, hm, hb⟩ := size_bound (ps := ps) fun q hq => h q (List.mem_cons_of_mem _ hq)
    rw [List.length_cons, Nat.succ_mul]
    cases hs : isSg p with
    | true =>
      refine ⟨m, ?_, by omega⟩
      show (if isSg p = true then sizeP S ps else _) = _
      rw [hs, if_pos rfl]
      exact hm
    | false =>
      obtain ⟨n, h1, h2⟩ := h p (List.mem_cons_self ..) hs
      refine ⟨n + m, ?_, by omega⟩
      show (if isSg p = true then _ else (look S p).bind fun n => (sizeP S ps).map (n + ·)) = _
      rw [hs, if_neg Bool.false_ne_true, h1, hm]
      rfl
theorem pd_bound {rs : List Rl} {S E : Szs} (d : Done rs S) (h3 : ∀ r ∈ rs, r.parts.length ≤ 3) {t : Nat} {h : Str} (p : Pd rs E t h) : ∃ n, look S h = some n ∧ n ≤ bnd t := by
  induction p with
  | @mk t k h r h1 h2 hh _ ih =>
    have hm := List.mem_of_getElem? h2
    obtain ⟨m, q1, q2⟩ := size_bound (S := S) (B := bnd t) (ps := r.parts) fun p hp hs => ih p (List.mem_filter.mpr ⟨hp, by rw [hs]; rfl⟩)
    obtain ⟨n, w1, w2⟩ := d.low hm q1
    have := Nat.mul_le_mul_right (bnd t) (h3 r hm)
    refine ⟨n, by rw [← hh]; exact w1, ?_⟩
    show n ≤ 1 + 3 * bnd t
    omega
theorem look_bound {rs : List Rl} {S : Szs} {nms : List Str} (d : Done rs S) (h4 : nms.length ≤ 4) (hn : ∀ r ∈ rs, r.head ∈ nms) (h3 : ∀ r ∈ rs, r.parts.length ≤ 3) {h : Str} {n : Nat} (e : look S h = some n) : n ≤ 40 := by
  have hE := ends_all h4 hn
  have q := hE.sized d h
  rw [e] at q
  rw [ends_four h4 hn] at q
  obtain ⟨n', w1, w2⟩ := pd_bound d h3 ((ends_ok rs 4).pd h q)
  rw [e] at w1
  cases w1
  exact w2
theorem size_bound2 {S : Szs} {B : Nat} (hb : ∀ h n, look S h = some n → n ≤ B) {ps : List Str} {m : Nat} (e : sizeP S ps = some m) : m ≤ ps.length * B := by
  obtain ⟨m', q1, q2⟩ := size_bound (S := S) (B := B) (ps := ps) fun p hp hs => by
    cases hl : look S p with
    | none => rw [sizeP_bad hp hs hl] at e; cases e
    | some n => exact ⟨n, rfl, hb p n hl⟩
  rw [e] at q1
  cases q1
  exact q2
theorem filter_lt {α : Type} {p q : α → Bool} : ∀ {l : List α}, (∀ x ∈ l, p x = true → q x = true) → (∃ x ∈ l, q x = true ∧ p x = false) → (l.filter p).length < (l.filter q).length
  | [], _, ⟨x, hx, _⟩ => by cases hx
  | a :: l, h, ⟨x, hx, h1, h2⟩ => by
    have le : ∀ {l : List α}, (∀ x ∈ l, p x = true → q x = true) → (l.filter p).length ≤ (l.filter q).length := by
      intro l
      induction l with
      | nil => intro _; exact Nat.le_refl _
      | cons a l ih =>
        intro h
        have := ih fun x hx => h x (List.mem_cons_of_mem _ hx)
        cases ep : p a with
        | true =>
          rw [List.filter_cons_of_pos ep, List.filter_cons_of_pos (h a (List.mem_cons_self ..) ep)]
          simp only [List.length_cons]
          omega
        | false =>
          rw [List.filter_cons_of_neg (by rw [ep]; simp)]
          cases eq : q a with
          | true => rw [List.filter_cons_of_pos eq, List.length_cons]; omega
          | false => rw [List.filter_cons_of_neg (by rw [eq]; simp)]; exact this
    have h' : ∀ x ∈ l, p x = true → q x = true := fun x hx => h x (List.mem_cons_of_mem _ hx)
    rcases List.mem_cons.mp hx with hx | hx
    · rw [← hx, List.filter_cons_of_neg (by rw [h2]; simp), List.filter_cons_of_pos h1, List.length_cons]
      have := le h'
      omega
    · have := filter_lt h' ⟨x, hx, h1, h2⟩
      cases ep : p a with
      | true =>
        rw [List.filter_cons_of_pos ep, List.filter_cons_of_pos (h a (List.mem_cons_self ..) ep)]
        simp only [List.length_cons]
        omega
      | false =>
        rw [List.filter_cons_of_neg (by rw [ep]; simp)]
        cases eq : q a with
        | true => rw [List.filter_cons_of_pos eq, List.length_cons]; omega
        | false => rw [List.filter_cons_of_neg (by rw [eq]; simp)]; exact this
def below (F : Fnd) (m : Nat) (h : Str) : Bool := match lk F (.inr h) with
  | some f => decide (f.1 < m)
  | none => false
theorem many_bound {rs : List Rl} {S : Szs} {F : Fnd} {nms : List Str} (c : Rnd rs S F) (hb : ∀ h n, look S h = some n → n ≤ 40) (hn : ∀ r ∈ rs, r.head ∈ nms) (h3 : ∀ r ∈ rs, r.parts.length ≤ 3) : ∀ (m : Nat) (h : Str) (ptr : Option (Nat × Nat)), lk F (.inr h) = some (m, ptr) → m ≤ 81 * (nms.filter (below F m)).length := by
  intro m
  induction m using Nat.strongRecOn with
  | _ m ih =>
    intro h ptr e
    rcases c.back e with ⟨_, rfl, _⟩ | ⟨nu, at', r, mh, ph, x1, x2, _, hr, hp, hs, hl, hx1, hx2, hm⟩
    · exact Nat.zero_le _
    · have rm := List.mem_of_getElem? hr
      have b1 := size_bound2 hb hx1
      have b2 := size_bound2 hb hx2
      have hat := (List.getElem?_eq_some_iff.mp hp).1
      have := h3 r rm
      rw [List.length_take] at b1
      rw [List.length_drop] at b2
      have b3 : x1 + x2 ≤ 80 := by
        have e1 : min at' r.parts.length = at' := by omega
        rw [e1] at b1
        have : at' + (r.parts.length - (at' + 1)) ≤ 2 := by omega
        have := Nat.mul_le_mul_right 40 this
        rw [Nat.add_mul] at this
        omega
      have lt : mh < m := by omega
      have q := ih mh lt r.head ph hl
      have fl : (nms.filter (below F mh)).length < (nms.filter (below F m)).length := filter_lt (fun x _ hx => by
        unfold below at hx ⊢
        cases e3 : lk F (.inr x) with
        | none => rw [e3] at hx; cases hx
        | some f =>
          rw [e3] at hx
          have hx : f.1 < mh := of_decide_eq_true hx
          exact decide_eq_true (Nat.lt_trans hx lt)) ⟨r.head, hn r rm, by
        unfold below
        rw [hl]
        exact decide_eq_true lt, by
        unfold below
        rw [hl]
        exact decide_eq_false (Nat.lt_irrefl _)⟩
      omega
theorem row_bound {rs : List Rl} {S : Szs} {F : Fnd} {nms : List Str} (d : Done rs S) (c : Rnd rs S F) (h4 : nms.length ≤ 4) (hn : ∀ r ∈ rs, r.head ∈ nms) (h3 : ∀ r ∈ rs, r.parts.length ≤ 3) {r : Rl} {f : Fv} {m : Nat} (hr : r ∈ rs) (hl : lk F (.inr r.head) = some f) (hz : sizeP S r.parts = some m) : f.1 + 1 + m ≤ 1000 := by
  have hb : ∀ h n, look S h = some n → n ≤ 40 := fun h n e => look_bound d h4 hn h3 e
  have q := many_bound c hb hn h3 f.1 r.head f.2 hl
  have := List.length_filter_le (below F f.1) nms
  have := size_bound2 hb hz
  have := Nat.mul_le_mul_right 40 (h3 r hr)
  omega
theorem size_congr {S S' : Szs} (h : ∀ x, look S x = look S' x) : ∀ ps : List Str, sizeP S ps = sizeP S' ps
  | [] => rfl
  | p :: ps => by
    show (if isSg p = true then sizeP S ps else (look S p).bind fun n => (sizeP S ps).map (n + ·)) = (if isSg p = true then sizeP S' ps else (look S' p).bind fun n => (sizeP S' ps).map (n + ·))
    rw [size_congr h ps, h p]
theorem Rnd.leG {rs rs' : List Rl} {S S' : Szs} {F F' : Fnd} (c : Rnd rs S F) (c' : Rnd rs' S' F') (hl : ∀ x, look S x = look S' x) (hm : ∀ r ∈ rs, r ∈ rs') (hst : ∀ r0 r0', rs[0]? = some r0 → rs'[0]? = some r0' → r0.head = r0'.head) : ∀ (m : Nat) (p : Str) (ptr : Option (Nat × Nat)), lk F (.inr p) = some (m, ptr) → ∃ m' ptr', lk F' (.inr p) = some (m', ptr') ∧ m' ≤ m := by
  intro m
  induction m using Nat.strongRecOn with
  | _ m ih =>
    intro p ptr e
    rcases c.back e with ⟨_, rfl, r0, hr0, rfl⟩ | ⟨nu, at', r, mh, ph, x1, x2, _, hr, hp, hs, hlr, hx1, hx2, hmm⟩
    · have hs0 : (look S r0.head).isSome = true := by
        rcases c.inv with inv | ⟨q, _⟩
        · obtain ⟨r1, q1, _, q2⟩ := inv.st
          rw [hr0] at q1
          cases q1
          exact q2
        · rw [q] at e; cases e
      have hpos : 0 < rs'.length := List.length_pos_of_mem (hm r0 (List.mem_of_getElem? hr0))
      have hr0' : rs'[0]? = some rs'[0] := List.getElem?_eq_getElem hpos
      have eh := hst _ _ hr0 hr0'
      rcases c'.inv with inv | ⟨_, q⟩
      · obtain ⟨r1, q1, q2, _⟩ := inv.st
        rw [hr0'] at q1
        cases q1
        exact ⟨0, none, by rw [eh]; exact q2, Nat.le_refl _⟩
      · have := q _ hr0'
        rw [← eh, ← hl] at this
        rw [this] at hs0
        cases hs0
    · obtain ⟨mh', ph', e1, e2⟩ := ih mh (by omega) r.head ph hlr
      obtain ⟨nu', hnu'⟩ := List.mem_iff_getElem?.mp (hm r (List.mem_of_getElem? hr))
      have ep : r.parts = r.parts.take at' ++ (p :: r.parts.drop (at' + 1)) := by
        rw [← (List.getElem?_eq_some_iff.mp hp).2, ← List.drop_eq_getElem_cons (List.getElem?_eq_some_iff.mp hp).1, List.take_append_drop]
      obtain ⟨sp, hsp⟩ : ∃ sp, look S p = some sp := by
        rcases c.inv with inv | ⟨q, _⟩
        · rcases inv.why p m ptr e with ⟨_, _, r1, q1, q2⟩ | ⟨_, _, _, _, ⟨_, _, _, _, sp, _, _, _, _, _, q, _⟩, _⟩
          · obtain ⟨r2, w1, _, w2⟩ := inv.st
            rw [q1] at w1
            cases w1
            rw [← q2] at w2
            exact Option.isSome_iff_exists.mp w2
          · exact ⟨sp, q⟩
        · rw [q] at e; cases e
      have hz1 : sizeP S [p] = some sp := by
        show (if isSg p = true then _ else (look S p).bind _) = _
        rw [hs, if_neg Bool.false_ne_true, hsp]
        rfl
      have hz : sizeP S' r.parts = some (x1 + (sp + x2)) := by
        rw [← size_congr hl, ep]
        exact size_join hx1 (size_join (a := [p]) hz1 hx2)
      have hc := c'.clo nu' at' p (mh' + 1 + x1 + x2) ⟨r, mh', ph', _, sp, hnu', hp, hs, e1, hz, by rw [← hl]; exact hsp, by omega⟩
      unfold bet at hc
      cases e3 : lk F' (.inr p) with
      | none => rw [e3] at hc; cases hc
      | some f =>
        rw [e3] at hc
        have hc := of_decide_eq_false hc
        exact ⟨f.1, f.2, rfl, by omega⟩
theorem Rnd.val {rs : List Rl} {S : Szs} {F F' : Fnd} (c : Rnd rs S F) (c' : Rnd rs S F') {p : Str} {f : Fv} (e : lk F (.inr p) = some f) : ∃ ptr, lk F' (.inr p) = some (f.1, ptr) := by
  obtain ⟨m, ptr⟩ := f
  have st : ∀ r0 r0' : Rl, rs[0]? = some r0 → rs[0]? = some r0' → r0.head = r0'.head := fun r0 r0' a b => by rw [a] at b; cases b; rfl
  obtain ⟨m', ptr', e1, h1⟩ := c.leG c' (fun _ => rfl) (fun _ h => h) st m p ptr e
  obtain ⟨m2, ptr2, e2, h2⟩ := c'.leG c (fun _ => rfl) (fun _ h => h) st m' p ptr' e1
  rw [e] at e2
  cases e2
  have : m' = m := by omega
  subst this
  exact ⟨ptr', e1⟩
theorem wt_rg {rs : List Rl} {row : List Nat} {ns : List Str} (h : Wt rs row ns) : ∀ (ps : List Str), (ps.filter fun p => !isSg p) = ns → ∃ zs, rg rs (rowD row) ps = some zs := by
  induction h with
  | nil =>
    intro ps e
    refine ⟨ps.map codeOf, ?_⟩
    show (if ps.all isSg = true then some (ps.map codeOf) else none) = _
    rw [if_pos]
    refine List.all_eq_true.mpr fun p hp => ?_
    have := List.filter_eq_nil_iff.mp e p hp
    simpa using this
  | @cons k r row ns hk t ih =>
    intro ps
    induction ps with
    | nil => intro e; cases e
    | cons p ps ihp =>
      intro e
      cases hs : isSg p with
      | true =>
        rw [List.filter_cons_of_neg (by rw [hs]; simp)] at e
        obtain ⟨zs, hz⟩ := ihp e
        exact ⟨codeOf p :: zs, by rw [rg_sign hs, hz]; rfl⟩
      | false =>
        rw [List.filter_cons_of_pos (by rw [hs]; rfl)] at e
        obtain ⟨e1, e2⟩ := List.cons.inj e
        subst e1
        obtain ⟨zs, hz⟩ := ih (r.parts ++ ps) (by rw [List.filter_append, e2]; rfl)
        exact ⟨zs, (rg_num hk hs (rowD row) ps).trans hz⟩
theorem atI_m1 {α : Type} {xs : List α} {y : α} (h0 : 0 < xs.length) (h : xs[xs.length - 1]? = some y) : atI xs (-1) = some y := by
  obtain ⟨ys, z, rfl⟩ : ∃ ys z, xs = ys ++ [z] := ⟨xs.dropLast, xs.getLast (List.length_pos_iff.mp h0), (List.dropLast_concat_getLast _).symm⟩
  rw [List.length_append, List.length_singleton, Nat.add_sub_cancel, List.getElem?_append_right (Nat.le_refl _), Nat.sub_self] at h
  cases h
  exact atI_last
/-! ### no row with a rule is shorter -/
theorem Wt.size {rs : List Rl} {S : Szs} (d : Done rs S) {row : List Nat} {ns : List Str} (h : Wt rs row ns) : (∀ n ∈ ns, isSg n = false) → (∀ r ∈ rs, isSg r.head = false) → ∃ x, sizeP S ns = some x ∧ x ≤ row.length := by
  intro hs hg
  induction h with
  | nil => exact ⟨0, rfl, Nat.le_refl _⟩
  | @cons k r row ns hk t ih =>
    have rm := List.mem_of_getElem? hk
    obtain ⟨x, hx, hl⟩ := ih fun n hn => by
      rcases List.mem_append.mp hn with hn | hn
      · have := (List.mem_filter.mp hn).2; simpa using this
      · exact hs n (List.mem_cons_of_mem _ hn)
    obtain ⟨y, z, h1, h2, h3⟩ := size_split hx
    rw [show namesOf r = r.parts.filter fun p => !isSg p from rfl, size_names] at h1
    obtain ⟨n, w1, w2⟩ := d.low rm h1
    refine ⟨n + z, ?_, by rw [List.length_cons]; omega⟩
    show (if isSg r.head = true then _ else (look S r.head).bind fun n => (sizeP S ns).map (n + ·)) = _
    rw [hg r rm, if_neg Bool.false_ne_true, w1, h2]
    rfl
theorem append_cons_split {α : Type} {x y a b : List α} {n : α} (h : x ++ y = a ++ n :: b) : (∃ b', x = a ++ n :: b' ∧ b = b' ++ y) ∨ ∃ a', y = a' ++ n :: b ∧ a = x ++ a' := by
  rcases List.append_eq_append_iff.mp h with ⟨a', h1, h2⟩ | ⟨c', h1, h2⟩
  · exact .inr ⟨a', h2, h1⟩
  · cases c' with
    | nil =>
      have h2 : n :: b = y := h2
      exact .inr ⟨[], h2.symm, by rw [h1]; simp⟩
    | cons q c' =>
      have h2 : n :: b = q :: (c' ++ y) := h2
      obtain ⟨e1, e2⟩ := List.cons.inj h2
      subst e1
      exact .inl ⟨c', h1, e2⟩
/-- a row with a rule is at least as long as the told one -/
theorem Wt.least {rs : List Rl} {S : Szs} {F : Fnd} (d : Done rs S) (c : Rnd rs S F) (hg : ∀ r ∈ rs, isSg r.head = false) {row : List Nat} {ns : List Str} (h : Wt rs row ns) : (∀ n ∈ ns, isSg n = false ∧ (lk F (.inr n)).isSome = true) → ∀ (k : Nat) (r : Rl) (f : Fv) (m : Nat), k ∈ row → rs[k]? = some r → lk F (.inr r.head) = some f → sizeP S r.parts = some m →
    ∃ a n b fn x y, ns = a ++ n :: b ∧ lk F (.inr n) = some fn ∧ sizeP S a = some x ∧ sizeP S b = some y ∧ f.1 + 1 + m + x + y ≤ row.length + fn.1 := by
  induction h with
  | nil => intro _ k r f m hk; cases hk
  | @cons k0 r0 row ns hk0 t ih =>
    intro hn k r f m hk hr hf hm
    have r0m := List.mem_of_getElem? hk0
    have hsn : ∀ n ∈ namesOf r0, isSg n = false := fun n q => by have := (List.mem_filter.mp q).2; simpa using this
    have hns : ∀ n ∈ ns, isSg n = false := fun n q => (hn n (List.mem_cons_of_mem _ q)).1
    obtain ⟨xs, hxs, hxl⟩ := t.size d (fun n q => by
      rcases List.mem_append.mp q with q | q
      · exact hsn n q
      · exact hns n q) hg
    obtain ⟨m0, z, h1, h2, h3⟩ := size_split hxs
    have h1' : sizeP S r0.parts = some m0 := by rw [← size_names]; exact h1
    obtain ⟨f0, hf0⟩ := Option.isSome_iff_exists.mp (hn r0.head (List.mem_cons_self ..)).2
    have reach : ∀ n ∈ namesOf r0, ∀ sp, look S n = some sp → ∃ fn, lk F (.inr n) = some fn ∧ fn.1 + sp ≤ f0.1 + 1 + m0 := fun n q sp hsp => by
      have qp := (List.mem_filter.mp q).1
      obtain ⟨i, hi⟩ := List.mem_iff_getElem?.mp qp
      have le := part_le qp (hsn n q) hsp h1'
      have hc := c.clo k0 i n (f0.1 + 1 + m0 - sp) ⟨r0, f0.1, f0.2, m0, sp, hk0, hi, hsn n q, hf0, h1', hsp, by omega⟩
      unfold bet at hc
      cases e : lk F (.inr n) with
      | none => rw [e] at hc; cases hc
      | some fn =>
        rw [e] at hc
        have hc := of_decide_eq_false hc
        exact ⟨fn, rfl, by omega⟩
    have looks : ∀ n ∈ namesOf r0, ∃ sp, look S n = some sp := fun n q => by
      cases e : look S n with
      | some sp => exact ⟨sp, rfl⟩
      | none => rw [sizeP_bad (List.mem_filter.mp q).1 (hsn n q) e] at h1'; cases h1'
    obtain ⟨n0, w1, w2⟩ := d.low r0m h1'
    rcases List.mem_cons.mp hk with hk | hk
    · subst hk
      rw [hk0] at hr
      cases hr
      rw [hf0] at hf
      cases hf
      rw [h1'] at hm
      cases hm
      exact ⟨[], _, ns, f, 0, z, rfl, hf0, rfl, h2, by rw [List.length_cons]; omega⟩
    · obtain ⟨a, n, b, fn, x, y, e, hfn, hx, hy, hle⟩ := ih (fun n q => by
        rcases List.mem_append.mp q with q | q
        · obtain ⟨sp, hsp⟩ := looks n q
          obtain ⟨fn, e, _⟩ := reach n q sp hsp
          exact ⟨hsn n q, by rw [e]; rfl⟩
        · exact hn n (List.mem_cons_of_mem _ q)) k r f m hk hr hf hm
      rcases append_cons_split e with ⟨b', e1, e2⟩ | ⟨a', e1, e2⟩
      · -- beneath the first name
        have hq : n ∈ namesOf r0 := by rw [e1]; exact List.mem_append_right _ (List.mem_cons_self ..)
        obtain ⟨sp, hsp⟩ := looks n hq
        obtain ⟨fn', q1, q2⟩ := reach n hq sp hsp
        rw [hfn] at q1
        cases q1
        rw [e2] at hy
        obtain ⟨y1, y2, z1, z2, z3⟩ := size_split hy
        rw [h2] at z2
        cases z2
        have h1q := h1
        rw [e1] at h1q
        obtain ⟨u1, u2, v1, v2, v3⟩ := size_split h1q
        rw [hx] at v1
        cases v1
        obtain ⟨s1, s2, t1, t2, t3⟩ := size_cons (hsn n hq) v2
        rw [hsp] at t1
        cases t1
        rw [z1] at t2
        cases t2
        exact ⟨[], _, ns, f0, 0, z, rfl, hf0, rfl, h2, by rw [List.length_cons]; omega⟩
      · rw [e2] at hx
        obtain ⟨x1, x2, z1, z2, z3⟩ := size_split hx
        rw [h1] at z1
        cases z1
        have hhd : sizeP S (r0.head :: a') = some (n0 + x2) := by
          show (if isSg r0.head = true then _ else (look S r0.head).bind fun n => (sizeP S a').map (n + ·)) = _
          rw [hg r0 r0m, if_neg Bool.false_ne_true, w1, z2]
          rfl
        exact ⟨r0.head :: a', n, b, fn, n0 + x2, y, by rw [e1]; rfl, hfn, hhd, hy, by rw [List.length_cons]; omega⟩
/-- from the start: a row with the k-th rule has no fewer numbers than the told one -/
theorem Wt.least0 {rs : List Rl} {S : Szs} {F : Fnd} (d : Done rs S) (c : Rnd rs S F) (hg : ∀ r ∈ rs, isSg r.head = false) {row : List Nat} {r0 : Rl} (h0 : rs[0]? = some r0) (h : Wt rs row [r0.head]) {k : Nat} {r : Rl} {f : Fv} {m : Nat} (hk : k ∈ row) (hr : rs[k]? = some r) (hf : lk F (.inr r.head) = some f) (hm : sizeP S r.parts = some m) : f.1 + 1 + m ≤ row.length := by
  have st : lk F (.inr r0.head) = some (0, none) := by
    rcases c.inv with inv | ⟨q, _⟩
    · obtain ⟨r1, q1, q2, _⟩ := inv.st
      rw [h0] at q1
      cases q1
      exact q2
    · rw [q] at hf; cases hf
  obtain ⟨a, n, b, fn, x, y, e, hfn, hx, hy, hle⟩ := h.least d c hg (fun n hn => by
    rw [List.mem_singleton.mp hn]
    exact ⟨hg r0 (List.mem_of_getElem? h0), by rw [st]; rfl⟩) k r f m hk hr hf hm
  have : a = [] ∧ n = r0.head := by
    cases a with
    | nil => exact ⟨rfl, (List.cons.inj e).1.symm⟩
    | cons q a =>
      have := (List.cons.inj e).2
      have := congrArg List.length this
      simp at this
  obtain ⟨rfl, rfl⟩ := this
  rw [st] at hfn
  cases hfn
  omega
theorem k_intT {X : Cx} {H : Hp} {Q : VK} (q : Q (.int 1) H) : kW X (.type "int") [.bl true] H Q := k_intB q
theorem k_intF {X : Cx} {H : Hp} {Q : VK} (q : Q (.int 0) H) : kW X (.type "int") [.bl false] H Q := k_intB q
def R_law_asked (K : PySem.W.Frag) (cs : Cs) : V → V → Hp → VK → XK → Prop := fun x y H Q _ => ∃ (a : Addr) (vs : List V) (rs : List Rl) (d : PyData), GramAt K H x a vs rs ∧ Th K H y d ∧
  (∀ (S : Szs) (F : Fnd) (k : Nat) (r : Rl) (f : Fv) (m : Nat), Done rs S → Rnd rs S F → d = .int (k : Nat) → rs[k]? = some r → lk F (.inr r.head) = some f → sizeP S r.parts = some m →
    (1000 < f.1 + 1 + m → ∀ t H', Same H H' → H' t = some (.tup [.int 2, .int 1]) → Q (.ref t) H') ∧
    (f.1 + 1 + m ≤ 1000 → ∀ (r0 : Rl) (l : Addr) (row : List Nat) (H' : Hp), rs[0]? = some r0 → Same H H' → H l = none → H' l = some (.lst (row.map fun k => V.int ((k : Nat) : Int))) → Wt rs row [r0.head] → k ∈ row → row.length = f.1 + 1 + m → Q (.ref l) H')) ∧
  (∀ (S : Szs) (F : Fnd), Done rs S → Rnd rs S F → (∀ k : Nat, d = .int (k : Nat) → needK rs S F k = false) → ∀ t H', Same H H' → H' t = some (.tup [.int 1, .int 1]) → Q (.ref t) H')
section
set_option hygiene false in
local macro_rules | `(tactic| top_name) => `(tactic| first | refine e_call (df_row_with T) (hr.mono (by decide)) ?_)
theorem ok_law_asked {f : Addr} {fd : FuncData} (F : Fun K "_law_asked" "_law_asked" s_law_asked f fd) (T : Txt K mg cs) : FnOk P w K mg base (L2.CX P w) 7 f fd ["_law_grammar", "_law_number"] (sp2 (R_law_asked K cs)) := by
  refine F.okX sc_law_asked (fun vs H Q E h => sp2_len h) (fun cdv A outer s H vs Q E hr h => ⟨_, PBw (X := X_law_asked P w K mg base f cdv A outer s H E), ?_⟩)
  obtain ⟨a0, a1, rfl, h⟩ := h
  have ib_ForestError : Gn mg "ForestError" (some _) := ⟨T.x_ForestError.mg⟩
  have ib_isinstance := T.b_isinstance
  have ib_int := T.b_int
  have ib_Barren : Gn mg "Barren" (some _) := ⟨T.x_Barren.mg⟩
  have ib_Endless : Gn mg "Endless" (some _) := ⟨T.x_Endless.mg⟩
  have ib_NoChange : Gn mg "NoChange" (some _) := ⟨T.x_NoChange.mg⟩
  have ib_NoCosts : Gn mg "NoCosts" (some _) := ⟨T.x_NoCosts.mg⟩
  have ib_NoNumber : Gn mg "NoNumber" (some _) := ⟨T.x_NoNumber.mg⟩
  have ib_NoRow : Gn mg "NoRow" (some _) := ⟨T.x_NoRow.mg⟩
  have ib_NoGrammar : Gn mg "NoGrammar" (some _) := ⟨T.x_NoGrammar.mg⟩
  have ib_NoRule : Gn mg "NoRule" (some _) := ⟨T.x_NoRule.mg⟩
  have ib_NoText : Gn mg "NoText" (some _) := ⟨T.x_NoText.mg⟩
  have ib_NoWords : Gn mg "NoWords" (some _) := ⟨T.x_NoWords.mg⟩
  have ib_ValueError := T.b_ValueError
  have ib_TooGreat : Gn mg "TooGreat" (some _) := ⟨T.x_TooGreat.mg⟩
  have hr' : Room 6 (X_law_asked P w K mg base f cdv A outer s H E).A := hr
  replace hr := hr'
  clear hr'
  obtain ⟨a, vs, rs, d, g, hd, h1, h2⟩ := h
  kxs_still
  intro l1 H1 s1 n1 k1 _
  have g1 := g.more s1
  have hd1 := hd.more s1
  kxs_still
  refine s_tryAs T.x_ForestError (fun cls dd σ' H' => ((cls = .ref cs.NoRow ∧ ∃ S F, Done rs S ∧ Rnd rs S F ∧ ∀ k : Nat, d = .int (k : Nat) → needK rs S F k = false) ∨ (cls = .ref cs.TooGreat ∧ ∃ (S : Szs) (F : Fnd) (k : Nat) (r : Rl) (f : Fv) (m : Nat), Done rs S ∧ Rnd rs S F ∧ d = .int (k : Nat) ∧ rs[k]? = some r ∧ lk F (.inr r.head) = some f ∧ sizeP S r.parts = some m ∧ 1000 < f.1 + 1 + m)) ∧ dd = none ∧ Same H1 H' ∧ σ' = [some a0, some a1, some (.ref l1), none, none, none]) ?_ ?_
  · rintro cls dd σ' H' ⟨hc, rfl, sx, rfl⟩
    rcases hc with ⟨rfl, S, F, hD, hRn, hno⟩ | ⟨rfl, S, F, k, r, f, m, hD, hRn, hk, hr1, hf, hm, hgt⟩
    · refine .inl ⟨T.x_ForestError.exm T.s_NoRow_ForestError, fun e oe pn he hz hf => ?_⟩
      have s1' := s1.trans sx
      kxs_still
      refine k_isE T.x_NoRow T.x_NoRow hz hf T.s_NoRow_NoRow ?_
      kxs_still
      refine k_intT ?_
      kxs_still
      refine k_isE T.x_NoRow T.x_TooGreat hz hf T.s_NoRow_TooGreat ?_
      kxs_still
      refine k_intF ?_
      kxs_still
      refine o_mulS (.inl ⟨by decide, by decide⟩) ?_
      kxs_still
      intro t2 H2 s2 n2 k2 _
      kxs_still
      refine k_isEN [cs.Barren, cs.Endless, cs.NoChange, cs.NoCosts, cs.NoNumber] T.x_NoRow hz hf k2 (by
        simp only [List.mem_cons, List.not_mem_nil, or_false, forall_eq_or_imp, forall_eq]
        exact ⟨T.x_NoRow.kit T.x_Barren T.s_NoRow_Barren, T.x_NoRow.kit T.x_Endless T.s_NoRow_Endless, T.x_NoRow.kit T.x_NoChange T.s_NoRow_NoChange, T.x_NoRow.kit T.x_NoCosts T.s_NoRow_NoCosts, T.x_NoRow.kit T.x_NoNumber T.s_NoRow_NoNumber⟩) ?_
      kxs_still
      intro t3 H3 s3 n3 k3 _
      kxs_still
      refine k_isEN [cs.NoGrammar, cs.NoRule, cs.NoText, cs.NoWords] T.x_NoRow hz hf k3 (by
        simp only [List.mem_cons, List.not_mem_nil, or_false, forall_eq_or_imp, forall_eq]
        exact ⟨T.x_NoRow.kit T.x_NoGrammar T.s_NoRow_NoGrammar, T.x_NoRow.kit T.x_NoRule T.s_NoRow_NoRule, T.x_NoRow.kit T.x_NoText T.s_NoRow_NoText, T.x_NoRow.kit T.x_NoWords T.s_NoRow_NoWords⟩) ?_
      kxs_still
      refine k_intF ?_
      kxs_still
      refine o_mulS (.inl ⟨by decide, by decide⟩) ?_
      kxs_still
      refine k_isEV T.x_NoRow hz hf ?_
      kxs_still
      refine k_intT ?_
      kxs_still
      intro t4 H4 s4 n4 k4 _
      kxs_still
      have s04 := s1'.trans (s2.trans (s3.trans s4))
      exact h2 S F hD hRn hno _ _ s04 k4
    · refine .inl ⟨T.x_ForestError.exm T.s_TooGreat_ForestError, fun e oe pn he hz hf' => ?_⟩
      have s1' := s1.trans sx
      kxs_still
      refine k_isE T.x_TooGreat T.x_NoRow hz hf' T.s_TooGreat_NoRow ?_
      kxs_still
      refine k_intF ?_
      kxs_still
      refine k_isE T.x_TooGreat T.x_TooGreat hz hf' T.s_TooGreat_TooGreat ?_
      kxs_still
      refine k_intT ?_
      kxs_still
      refine o_mulS (.inl ⟨by decide, by decide⟩) ?_
      kxs_still
      intro t2 H2 s2 n2 k2 _
      kxs_still
      refine k_isEN [cs.Barren, cs.Endless, cs.NoChange, cs.NoCosts, cs.NoNumber] T.x_TooGreat hz hf' k2 (by
        simp only [List.mem_cons, List.not_mem_nil, or_false, forall_eq_or_imp, forall_eq]
        exact ⟨T.x_TooGreat.kit T.x_Barren T.s_TooGreat_Barren, T.x_TooGreat.kit T.x_Endless T.s_TooGreat_Endless, T.x_TooGreat.kit T.x_NoChange T.s_TooGreat_NoChange, T.x_TooGreat.kit T.x_NoCosts T.s_TooGreat_NoCosts, T.x_TooGreat.kit T.x_NoNumber T.s_TooGreat_NoNumber⟩) ?_
      kxs_still
      intro t3 H3 s3 n3 k3 _
      kxs_still
      refine k_isEN [cs.NoGrammar, cs.NoRule, cs.NoText, cs.NoWords] T.x_TooGreat hz hf' k3 (by
        simp only [List.mem_cons, List.not_mem_nil, or_false, forall_eq_or_imp, forall_eq]
        exact ⟨T.x_TooGreat.kit T.x_NoGrammar T.s_TooGreat_NoGrammar, T.x_TooGreat.kit T.x_NoRule T.s_TooGreat_NoRule, T.x_TooGreat.kit T.x_NoText T.s_TooGreat_NoText, T.x_TooGreat.kit T.x_NoWords T.s_TooGreat_NoWords⟩) ?_
      kxs_still
      refine k_intF ?_
      kxs_still
      refine o_mulS (.inl ⟨by decide, by decide⟩) ?_
      kxs_still
      refine k_isEV T.x_TooGreat hz hf' ?_
      kxs_still
      refine k_intT ?_
      kxs_still
      intro t4 H4 s4 n4 k4 _
      kxs_still
      have s04 := s1'.trans (s2.trans (s3.trans s4))
      exact (h1 S F k r f m hD hRn hk hr1 hf hm).1 hgt _ _ s04 k4
  · intro pn xe ct co
    kxs_still
    refine .inl ⟨a, vs, rs, g1, d, hd1, fun S F k r f m hD hRn hk hr1 hf hm => ?_, fun S F hD hRn hno H' s' => ?_⟩
    · obtain ⟨w1, w2⟩ := h1 S F k r f m hD hRn hk hr1 hf hm
      refine ⟨fun hgt H' s' => ⟨.inr ⟨rfl, S, F, k, r, f, m, hD, hRn, hk, hr1, hf, hm, hgt⟩, rfl, s', rfl⟩, fun hle r0 l row H' hr0 s' n' k' hW hkr hlen => ?_⟩
      kxs_still
      exact w2 hle r0 l row H' hr0 (s1.trans s') (s1.none n') k' hW hkr hlen
    · exact ⟨.inl ⟨rfl, S, F, hD, hRn, hno⟩, rfl, s', rfl⟩
end
theorem df_law_asked (T : Txt K mg cs) : Df P w K mg base "_law_asked" 7 ["_law_grammar", "_law_number"] (sp2 (R_law_asked K cs)) := by
  obtain ⟨f, fd, hm, F, hb⟩ := T.f_law_asked.ex
  exact ⟨f, fd, hm, F.kp, hb, ok_law_asked F T⟩
def R_law_no_grammar (K : PySem.W.Frag) : V → V → Hp → VK → XK → Prop := fun x _ H Q _ => ∃ i, x = .int i ∧ ∀ H', Same H H' → Q (.bl true) H'
section
set_option hygiene false in
local macro_rules | `(tactic| top_name) => `(tactic| first | refine e_call (df_row_with T) (hr.mono (by decide)) ?_)
theorem ok_law_no_grammar {f : Addr} {fd : FuncData} (F : Fun K "_law_no_grammar" "_law_no_grammar" s_law_no_grammar f fd) (T : Txt K mg cs) : FnOk P w K mg base (L2.CX P w) 7 f fd ["_law_cell", "_law_number"] (sp2 (R_law_no_grammar K)) := by
  refine F.okX sc_law_no_grammar (fun vs H Q E h => sp2_len h) (fun cdv A outer s H vs Q E hr h => ⟨_, PBw (X := X_law_no_grammar P w K mg base f cdv A outer s H E), ?_⟩)
  obtain ⟨a0, a1, rfl, h⟩ := h
  have ib_NoGrammar : Gn mg "NoGrammar" (some _) := ⟨T.x_NoGrammar.mg⟩
  have hr' : Room 6 (X_law_no_grammar P w K mg base f cdv A outer s H E).A := hr
  replace hr := hr'
  clear hr'
  obtain ⟨i, rfl, h⟩ := h
  tm_side
  rename_i l0 H0 s0 n0 k0 e0
  obtain ⟨v, hv, d, hd, hb⟩ := ix_any (i := i % 7) k0 (fun v => ∃ d, Th K H0 v d ∧ isGramD d = false) (by
    have za : (Str.ofString "a").length ≤ 1000000 := by decide +kernel
    have zA : (Str.ofString "A").length ≤ 1000000 := by decide +kernel
    have zq : (Str.ofString "'a").length ≤ 1000000 := by decide +kernel
    intro x hx
    simp only [List.mem_cons, List.not_mem_nil, or_false] at hx
    rcases hx with rfl | rfl | rfl | rfl | rfl | rfl | rfl
    · exact ⟨_, .lst (by kl_room) (.cons (.tup (by kl_room) (.cons (.str _ za) (.cons (.tup (by kl_room) .nil) (.cons (.int _) .nil)))) .nil), by decide +kernel⟩
    · exact ⟨_, .tup (by kl_room) .nil, rfl⟩
    · exact ⟨_, .non, rfl⟩
    · exact ⟨_, .lst (by kl_room) (.cons (.tup (by kl_room) (.cons (.str _ zA) (.cons (.tup (by kl_room) .nil) (.cons (.int _) .nil)))) .nil), by decide +kernel⟩
    · exact ⟨_, .lst (by kl_room) (.cons (.tup (by kl_room) (.cons (.str _ zA) (.cons (.lst (by kl_room) (.cons (.str _ zq) .nil)) (.cons (.int _) .nil)))) .nil), by decide +kernel⟩
    · exact ⟨_, .lst (by kl_room) (.cons (.tup (by kl_room) (.cons (.str _ zA) (.cons (.tup (by kl_room) .nil) (.cons (.int _) .nil)))) (.cons .non .nil)), by decide +kernel⟩
    · exact ⟨_, .str _ zA, rfl⟩) (Int.emod_nonneg _ (by decide)) (Int.emod_lt_of_pos _ (by decide))
  refine i_lst (SqL.of k0) hv ?_
  tm_run
  refine s_tryOnly T.x_NoGrammar (fun cls dd σ' H' => cls = .ref cs.NoGrammar ∧ dd = none ∧ Same H H' ∧ σ' = [some (.int i), some a1, some v, some (.int 0)]) ?_ ?_
  · rintro cls dd σ' H' ⟨rfl, rfl, sx, rfl⟩
    refine .inl ⟨T.x_NoGrammar.exm T.s_NoGrammar_NoGrammar, fun e oe pn he hz hf => ?_⟩
    tm_run
    exact h _ sx
  · intro pn xe ct co
    tm_run
    refine .inr ⟨d, hd, hb, fun H' s' => ⟨rfl, rfl, by kby_none, rfl⟩⟩
end
theorem df_law_no_grammar (T : Txt K mg cs) : Df P w K mg base "_law_no_grammar" 7 ["_law_cell", "_law_number"] (sp2 (R_law_no_grammar K)) := by
  obtain ⟨f, fd, hm, F, hb⟩ := T.f_law_no_grammar.ex
  exact ⟨f, fd, hm, F.kp, hb, ok_law_no_grammar F T⟩
def R_law_told (K : PySem.W.Frag) (cs : Cs) : V → V → V → Hp → VK → XK → Prop := fun x y z H Q _ => ∃ (a : Addr) (vs : List V) (rs : List Rl) (k : Nat) (b : Addr) (ws : List V), GramAt K H x a vs rs ∧ y = .int (k : Nat) ∧ z = .ref b ∧ SqL K H b ws ∧
  (∀ (S : Szs) (F : Fnd), Done rs S → Rnd rs S F → needK rs S F k = true ∧ ∀ r f m, rs[k]? = some r → lk F (.inr r.head) = some f → sizeP S r.parts = some m → f.1 + 1 + m ≤ 1000) ∧
  (∀ w ∈ ws, w = .non ∨ ∃ (l : Addr) (row : List Nat) (r0 : Rl), w = .ref l ∧ SqL K H l (row.map fun k => V.int ((k : Nat) : Int)) ∧ rs[0]? = some r0 ∧ Wt rs row [r0.head]) ∧ ∀ H', Same H H' → Q (.bl true) H'
section
set_option hygiene false in
local macro_rules | `(tactic| top_name) => `(tactic| first | refine e_call (df_law_asked T) (hr.mono (by decide)) ?_ | refine e_call (df_law_numbers T) (hr.mono (by decide)) ?_ | refine e_call (df_law_read T) (hr.mono (by decide)) ?_)
theorem ok_law_told {f : Addr} {fd : FuncData} (F : Fun K "_law_told" "_law_told" s_law_told f fd) (T : Txt K mg cs) : FnOk P w K mg base (L2.CX P w) 8 f fd ["_law_grammar", "_law_number", "_law_rows"] (sp3 (R_law_told K cs)) := by
  refine F.okX sc_law_told (fun vs H Q E h => sp3_len h) (fun cdv A outer s H vs Q E hr h => ⟨_, PBw (X := X_law_told P w K mg base f cdv A outer s H E), ?_⟩)
  obtain ⟨a0, a1, a2, rfl, h⟩ := h
  have ib_len := T.b_len
  have hr' : Room 7 (X_law_told P w K mg base f cdv A outer s H E).A := hr
  replace hr := hr'
  clear hr'
  obtain ⟨a, vs, rs, k, b, ws, g, rfl, rfl, hb, hne, hw, h⟩ := h
  have hG := g.ok
  have hg : ∀ r ∈ rs, isSg r.head = false := fun r hr => hG.hsg r hr
  kxs_still
  refine ⟨a, vs, rs, .int (k : Nat), g, .int _, fun S F k' r f m hD hRn hk' hr1 hl hz => ?_, fun S F hD hRn hno t H' s' k' => ?_⟩
  case refine_2 =>
    have := (hne S F hD hRn).1
    rw [hno k rfl] at this
    cases this
  obtain rfl : k = k' := by have := PyData.int.inj hk'; omega
  have hle := (hne S F hD hRn).2 r f m hr1 hl hz
  refine ⟨fun q => by omega, fun _ r0 lr row H1 hr0 s1 n1 k1 hW hkm hrl => ?_⟩
  have g1 := g.more s1
  have hb1 := s1.seq hb
  kxs_still
  refine ⟨lr, row, rfl, SqL.of k1, ?_⟩
  kxs_still
  refine o_niN (SqL.of k1) ?_
  rw [decide_eq_true hkm]
  kxs_still
  have hs0 := hG.hsg r0 (List.mem_of_getElem? hr0)
  obtain ⟨zs, hzs⟩ := wt_rg hW [r0.head] (by rw [List.filter_cons_of_pos (by rw [hs0]; rfl)]; rfl)
  refine ⟨a, vs, rs, lr, row.map fun k => ((k : Nat) : Int), g1, rfl, by rw [← (rowD_ints row).1]; exact SqL.of k1, by rw [List.length_map]; omega, fun r1 z1 e0 ez H2 s2 => ?_, fun q => ?_⟩
  case refine_2 =>
    have := q r0 hr0
    rw [← (rowD_ints row).2, hzs] at this
    cases this
  have s12 := s1.trans s2
  have k12 := s2 _ _ k1
  have hb2 := s12.seq hb
  kxs_still
  refine s_for (j_list ?_)
  kxs_still
  refine ⟨⟨_, hb2⟩, _, _, _, walk_list (xs := ws), fun i σ' H' => ∃ v4, σ' = [some a0, some (.int (k : Nat)), some (.ref b), some (.ref lr), v4] ∧ H' = H2, ⟨none, rfl, rfl⟩, fun _ _ _ _ ⟨_, _, e⟩ => by rw [e]; exact hb2, ?_, ?_⟩
  · rintro i x σ' H' H3 hi ⟨v4, rfl, rfl⟩ ⟨rfl, hx⟩
    rcases hw x (List.mem_of_getElem? hx) with rfl | ⟨l, row2, r2, rfl, hl2, hr2, hW2⟩
    · kxs_still
      exact ⟨_, rfl, rfl⟩
    · rw [hr0] at hr2
      cases hr2
      have hl3 := s12.seq hl2
      kxs_still
      refine o_inN hl3 ?_
      kxs_still
      refine iteD (fun c => ?_) fun c => ?_
      · have hmin := hW2.least0 hD hRn hg hr0 c hr1 hl hz
        kxs_still
        refine iteD (fun c2 => ?_) fun c2 => ?_
        · simp only [List.length_map] at c2
          omega
        · kxs_still
          exact ⟨_, rfl, rfl⟩
      · kxs_still
        exact ⟨_, rfl, rfl⟩
  rintro σ' H' ⟨v4, rfl, rfl⟩
  kxs_still
  exact h _ s12
end
theorem df_law_told (T : Txt K mg cs) : Df P w K mg base "_law_told" 8 ["_law_grammar", "_law_number", "_law_rows"] (sp3 (R_law_told K cs)) := by
  obtain ⟨f, fd, hm, F, hb⟩ := T.f_law_told.ex
  exact ⟨f, fd, hm, F.kp, hb, ok_law_told F T⟩
/-! ### rules that double -/
def sq1 (z : Str) (k : Nat) : Str := ⟨#[(tl z).getD k 0]⟩
def dblU : Nat → List Rl
  | 0 => [⟨Str.ofString "U", [Str.ofString "'u", Str.ofString "W"], 1⟩]
  | k + 1 => ⟨Str.ofString "U" ++ sq1 (Str.ofString "ABCDEFGHIJKLM") k, [(((dblU k)[0]?).map Rl.head).getD (Str.ofString "U")], (k : Nat)⟩ :: dblU k
def dblW : Rl := ⟨Str.ofString "W", [Str.ofString "LI", Str.ofString "LH", Str.ofString "LG", Str.ofString "LF", Str.ofString "LE", Str.ofString "LC"], 0⟩
def dblL (k : Nat) : Rl := ⟨Str.ofString "L" ++ sq1 (Str.ofString "BCDEFGHI") k, [Str.ofString "L" ++ sq1 (Str.ofString "ABCDEFGH") k, Str.ofString "L" ++ sq1 (Str.ofString "ABCDEFGH") k], 0⟩
def dbl (c : Nat) : List Rl := dblU c ++ dblW :: ((List.range 8).map dblL ++ [⟨Str.ofString "LA", [], 5⟩])
theorem sq1_at {z : Str} {k : Nat} (h : k < (tl z).length) : atI z.cps.toList (0 + (k : Int)) = some ((tl z).getD k 0) := by
  rw [Int.zero_add, List.getD_eq_getElem?_getD, List.getElem?_eq_getElem h]
  exact atI_nat (Int.natCast_nonneg k) (by show (tl z)[((k : Nat) : Int).toNat]? = _; rw [Int.toNat_natCast, List.getElem?_eq_getElem h]; rfl)
theorem dblU_len : ∀ k, (dblU k).length = k + 1
  | 0 => rfl
  | k + 1 => by show (dblU k).length + 1 = _; rw [dblU_len k]
def R_law_doubled (K : PySem.W.Frag) : V → Hp → VK → XK → Prop := fun x H Q _ => ∃ c, x = .int c ∧ ∀ l vs H', Same H H' → H l = none → H' l = some (.lst vs) → RulesAt H' vs (dbl (c % 13).toNat) → Q (.ref l) H'
section
theorem ok_law_doubled {f : Addr} {fd : FuncData} (F : Fun K "_law_doubled" "_law_doubled" s_law_doubled f fd) (T : Txt K mg cs) : FnOk P w K mg base (L2.CX P w) 1 f fd ["_law_cell"] (sp1 (R_law_doubled K)) := by
  refine F.okX sc_law_doubled (fun vs H Q E h => sp1_len h) (fun cdv A outer s H vs Q E hr h => ⟨_, PBw (X := X_law_doubled P w K mg base f cdv A outer s H E), ?_⟩)
  obtain ⟨a0, rfl, h⟩ := h
  have ib_range := T.b_range
  have hr' : Room 0 (X_law_doubled P w K mg base f cdv A outer s H E).A := hr
  replace hr := hr'
  clear hr'
  obtain ⟨c, rfl, h⟩ := h
  kxs_still
  intro t1 H1 s1 n1 k1 _
  kxs_still
  intro t2 H2 s2 n2 k2 _
  kxs_still
  intro l3 H3 s3 n3 k3 _
  have b1 : 0 ≤ c % 13 := Int.emod_nonneg _ (by decide)
  have b2 : c % 13 < 13 := Int.emod_lt_of_pos _ (by decide)
  kxs_still
  refine s_for (j_rng1 ?_)
  kxs_still
  refine ⟨by omega, by omega, _, _, _, walk_range, fun i σ' H' => ∃ (l : Addr) (vs : List V) (v2 : Option V), σ' = [some (.int c), some (.ref l), v2, none] ∧ Same H H' ∧ H l = none ∧ H' l = some (.lst vs) ∧ RulesAt H' vs (dblU i), ⟨l3, _, none, rfl, s1.trans (s2.trans s3), (s1.trans s2).none n3, k3, RulesAt.cons (r := ⟨Str.ofString "U", [Str.ofString "'u", Str.ofString "W"], 1⟩) ⟨t2, t1, rfl, s3 _ _ k2, s3 _ _ (s2 _ _ k1)⟩ .nil⟩, fun _ _ _ _ _ => trivial, ?_, ?_⟩
  · rintro i x σ' H' H4 hi ⟨l, vs, v2, rfl, s4, nl, kl, hR⟩ ⟨rfl, rfl⟩
    kxs_still
    have hlen := hR.len
    rw [dblU_len] at hlen
    obtain ⟨r, hr1⟩ : ∃ r, (dblU i)[0]? = some r := ⟨_, List.getElem?_eq_getElem (by rw [dblU_len]; omega)⟩
    obtain ⟨ra, rb, hv, hvk, e1, e2⟩ := hR.at' hr1
    have hvk : atI vs (0 : Int) = some (.ref ra) := hvk
    refine i_str (by decide +kernel) (sq1_at (z := Str.ofString "ABCDEFGHIJKLM") (k := i) (by show i < 13; omega)) ?_
    kxs_still
    refine o_cat (show 1 + 1 ≤ 1000000 by decide |> fun h => Nat.le_trans h (by decide +kernel)) ?_
    kxs_still
    intro t5 H5 s5 n5 k5 f5
    kxs_still
    intro t6 H6 s6 n6 k6 f6
    kxs_still
    intro l7 H7 s7 n7 k7 f7
    kxs_still
    have s47 := s5.trans (s6.trans s7)
    refine o_catL k7 (s47 _ _ kl) (by simp only [List.length_cons, List.length_nil]; omega) fun l8 H8 s8 n8 k8 _ => ?_
    kxs_still
    have s48 := s47.trans s8
    refine ⟨l8, _, _, rfl, s4.trans s48, s4.none (s47.none n8), k8, RulesAt.cons ⟨t6, t5, rfl, ?_, ?_⟩ (hR.ts (Same.ts s48))⟩
    · have := s8 _ _ (s7 _ _ k6)
      rw [this]
      show some (HO.tup [V.str _, V.ref t5, V.int (0 + (i : Int))]) = some (HO.tup [V.str _, V.ref t5, V.int ((i : Nat) : Int)])
      rw [Int.zero_add]
      rfl
    · rw [s8 _ _ (s7 _ _ (s6 _ _ k5))]
      show _ = some (HO.tup [V.str ((((dblU i)[0]?).map Rl.head).getD (Str.ofString "U"))])
      rw [hr1]
      rfl
  rintro σ' H' ⟨l, vs, v2, rfl, s4, nl, kl, hR⟩
  kxs_still
  refine ⟨ty_l kl, ?_⟩
  kxs_still
  intro t5 H5 s5 n5 k5 f5
  kxs_still
  intro t6 H6 s6 n6 k6 f6
  kxs_still
  have hlen := hR.len
  rw [dblU_len] at hlen
  refine m_append ((s5.trans s6) _ _ kl) (by omega) fun H7 k7 f7 => ?_
  have hR7 : RulesAt H7 vs (dblU (c % 13).toNat) := hR.ts ((Same.ts (s5.trans s6)).trans (TS.butL ((s5.trans s6) _ _ kl) f7))
  have k6' : H7 t6 = some (HO.tup [V.str (Str.ofString "W"), V.ref t5, V.int 0]) := by units_room1
  have k5' := s6 _ _ k5
  have k5' : H7 t5 = _ := (f7 t5 (by intro z; rw [z] at n5; rw [kl] at n5; cases n5)).trans k5'
  have hW7 : RuleAt H7 (.ref t6) dblW := ⟨t6, t5, rfl, k6', k5'⟩
  have s07 : Same H H7 := fun b o hb => by rw [f7 b (by intro z; rw [z] at hb; rw [nl] at hb; cases hb)]; exact s6 _ _ (s5 _ _ (s4 _ _ hb))
  kxs_still
  refine s_for (j_rng1 ?_)
  kxs_still
  refine ⟨by omega, by omega, _, _, _, walk_range, fun i σ' H' => ∃ (vs : List V) (v2 v3 : Option V), σ' = [some (.int c), some (.ref l), v2, v3] ∧ Same H H' ∧ H' l = some (.lst vs) ∧ RulesAt H' vs (dblU (c % 13).toNat ++ dblW :: (List.range i).map dblL), ⟨_, _, _, rfl, s07, k7, hR7.app (.cons hW7 .nil)⟩, fun _ _ _ _ _ => trivial, ?_, ?_⟩
  · rintro i x σ' H8 H9 hi ⟨vs8, v2, v3, rfl, s8, k8, hR8⟩ ⟨rfl, rfl⟩
    have hi : i < 8 := hi
    kxs_still
    refine i_str (by decide +kernel) (sq1_at (z := Str.ofString "ABCDEFGH") (k := i) (by show i < 8; omega)) ?_
    kxs_still
    refine o_cat (show 1 + 1 ≤ 1000000 by decide |> fun h => Nat.le_trans h (by decide +kernel)) ?_
    kxs_still
    refine ⟨ty_l k8, ?_⟩
    kxs_still
    refine i_str (by decide +kernel) (sq1_at (z := Str.ofString "BCDEFGHI") (k := i) (by show i < 8; omega)) ?_
    kxs_still
    refine o_cat (show 1 + 1 ≤ 1000000 by decide |> fun h => Nat.le_trans h (by decide +kernel)) ?_
    kxs_still
    intro ta Ha sa na ka fa
    kxs_still
    intro tb Hb sb nb kb fb
    kxs_still
    have hl8 := hR8.len
    simp only [List.length_append, dblU_len, List.length_cons, List.length_map, List.length_range] at hl8
    refine m_append ((sa.trans sb) _ _ k8) (by omega) fun Hc kc fc => ?_
    have hRc : RulesAt Hc vs8 _ := hR8.ts ((Same.ts (sa.trans sb)).trans (TS.butL ((sa.trans sb) _ _ k8) fc))
    have kb' := (fc tb (by intro z; rw [z] at nb; rw [sa _ _ k8] at nb; cases nb)).trans kb
    have ka' := (fc ta (by intro z; rw [z] at na; rw [k8] at na; cases na)).trans (sb _ _ ka)
    have hW : RuleAt Hc (.ref tb) (dblL i) := ⟨tb, ta, rfl, kb', ka'⟩
    have s0c : Same H Hc := fun b o hb => by rw [fc b (by intro z; rw [z] at hb; rw [nl] at hb; cases hb)]; exact sb _ _ (sa _ _ (s8 _ _ hb))
    kxs_still
    refine ⟨_, _, _, rfl, s0c, kc, ?_⟩
    rw [List.range_succ, List.map_append, List.map_cons, List.map_nil, ← List.cons_append, ← List.append_assoc]
    exact hRc.app (.cons hW .nil)
  rintro σ' H8 ⟨vs8, v2, v3, rfl, s8, k8, hR8⟩
  kxs_still
  intro ta Ha sa na ka fa
  kxs_still
  intro tb Hb sb nb kb fb
  kxs_still
  intro lc Hc sc nc kc fc
  kxs_still
  have hl8 := hR8.len
  simp only [List.length_append, dblU_len, List.length_cons, List.length_map, List.length_range] at hl8
  refine o_catL ((sa.trans (sb.trans sc)) _ _ k8) kc (by rw [hl8]; simp only [List.length_cons, List.length_nil]; omega) fun ld Hd sd nd kd _ => ?_
  have s8d := sa.trans (sb.trans (sc.trans sd))
  kxs_still
  refine h _ _ _ (s8.trans s8d) (s8.none ((sa.trans (sb.trans sc)).none nd)) kd ?_
  show RulesAt Hd _ (dblU _ ++ (dblW :: ((List.range 8).map dblL ++ [⟨Str.ofString "LA", [], 5⟩])))
  rw [← List.cons_append, ← List.append_assoc]
  exact (hR8.ts (Same.ts s8d)).app (.cons ⟨tb, ta, rfl, sd _ _ (sc _ _ kb), sd _ _ (sc _ _ (sb _ _ ka))⟩ .nil)

end
theorem df_law_doubled (T : Txt K mg cs) : Df P w K mg base "_law_doubled" 1 ["_law_cell"] (sp1 (R_law_doubled K)) := by
  obtain ⟨f, fd, hm, F, hb⟩ := T.f_law_doubled.ex
  exact ⟨f, fd, hm, F.kp, hb, ok_law_doubled F T⟩
/-! ### xs[:0:-1] -/
theorem tr_range (n : Nat) : (List.range (n - 1)).map (fun k => n - 1 - k) = ((List.range (n - 1)).map (1 + ·)).reverse := by
  apply List.ext_getElem
  · simp
  · intro i h1 h2
    simp only [List.length_map, List.length_range] at h1
    rw [List.getElem_map, List.getElem_reverse]
    simp
    omega
theorem tr_bounds (n : Nat) (h : 0 < n) : PySem.sliceBounds none (some 0) (some (-1)) n = ((n : Int) - 1, 0, -1) := by
  unfold PySem.sliceBounds
  simp
  omega
theorem tr_sliceRange (n : Nat) (h : 0 < n) : PySem.sliceRange ((n : Int) - 1) 0 (-1) = (List.range (n - 1)).map fun k => n - 1 - k := by
  unfold PySem.sliceRange
  have h1 : ¬ ((-1 : Int) > 0) := by decide
  by_cases c : (n : Int) - 1 > 0
  · have e : ((n : Int) - 1 - 0 - -1 - 1) / (- -1) = ((n - 1 : Nat) : Int) := by
      rw [show (- -1 : Int) = 1 by decide, Int.ediv_one]
      omega
    simp only [h1, if_false, c, if_true, e, Int.toNat_natCast]
    apply List.map_congr_left
    intro k hk
    have := List.mem_range.mp hk
    omega
  · have e : n = 1 := by omega
    subst e
    simp
theorem tr_pick (items : Array Value) (h : 0 < items.size) : PySem.slicePick items none (some 0) (some (-1)) = (items.toList.drop 1).reverse.toArray := by
  unfold PySem.slicePick
  rw [tr_bounds _ h]
  show ((PySem.sliceRange ((items.size : Int) - 1) 0 (-1)).filterMap (items[·]?)).toArray = _
  rw [tr_sliceRange _ h, tr_range, List.filterMap_reverse, PySem.pick_run items 1 (items.size - 1), List.take_of_length_le (by rw [List.length_drop, Array.length_toList]; exact Nat.le_refl _)]
theorem e_tailRev {X : Cx} {σ : L2.St} {H : Hp} {Q : VK} {e : Expr} {j k : Nat} {p0 p1 p2 p3 pos : Pos} (h : eW X e σ H fun x H1 => ∃ a xs, x = .ref a ∧ SqL X.K H1 a xs ∧ 0 < xs.length ∧ ∀ p H2, Same H1 H2 → H1 p = none → H2 p = some (.lst (xs.drop 1).reverse) → (∀ b, b ≠ p → H2 b = H1 b) → Q (.ref p) H2) : eW X (.Subscript e (.Slice none (some (.Constant (.int 0) j p0)) (some (.UnaryOp .USub (.Constant (.int 1) k p1) p2)) p3) pos) σ H Q := by
  refine ⟨fun pins s I => ?_⟩
  refine Subscript_ (thn (h.run pins s I) fun v s1 ⟨x, H1, I1, r1, q1⟩ => ?_)
  obtain ⟨a, xs, ex, hx, hp, q⟩ := q1
  subst ex
  cases r1
  have hst : PO X (some (.UnaryOp .USub (.Constant (.int 1) k p1) p2)) (tPart (tUn (rU fun i => .int (-i)) (tC (.int 1)))) := po_some (pe_un un_neg pe_int)
  have hup : PO X (some (.Constant (.int 0) j p0)) (tPart (tC (.int 0))) := po_some pe_int
  refine wpAny_Slice (thn (po_none.run pins s1 σ H1 (fun o H2 => o = none ∧ H2 = H1) I1 ⟨rfl, rfl⟩) fun vl s2 ⟨l, H2, I2, pl, el, e2⟩ => ?_)
  subst el e2
  refine thn (hup.run pins s2 σ H2 (fun o H3 => o = some 0 ∧ H3 = H2) I2 ⟨0, rfl, rfl, rfl⟩) fun vu s3 ⟨u, H3, I3, pu, eu, e3⟩ => ?_
  subst eu e3
  refine thn (hst.run pins s3 σ H3 (fun o H4 => o = some (-1) ∧ H4 = H3) I3 ⟨1, rfl, -1, rfl, rfl, rfl⟩) fun vs s4 ⟨o, H4, I4, ps, eo, e4⟩ => ?_
  subst eo e4
  have I5 : Inv X pins σ H4 { s4 with heap := s4.heap.push { cls := .type "slice", data := .fields #[vl, vu, vs] } } := I4.kept (t' := s4.toks) fun b ob q => Heap.get?_push_of_some _ q
  obtain ⟨its, r, ht, hz⟩ := I5.list hx
  have hlen := r.length
  show wpAny (model X.prog X.w) X.A (subscriptTail e (.Slice none (some (.Constant (.int 0) j p0)) (some (.UnaryOp .USub (.Constant (.int 1) k p1) p2)) p3) (.ref a) (.ref s4.heap.objs.size)) (EP X pins σ Q) X.xe { s4 with heap := s4.heap.push { cls := .type "slice", data := .fields #[vl, vu, vs] } }
  refine tail_any (ops := [.ref a, .ref s4.heap.objs.size]) ht.isList.typeIs (PySem.slot_list_getitem.lookup) ?_ (by with_unfolding_all rfl)
  refine wpAny_getItem_list_slice ht.isList (Heap.IsSliceOf.new _ vl vu vs) pl pu ps (by decide) ?_ (by rw [List.size_toArray]; omega)
  rw [tr_pick _ (by rw [List.size_toArray]; omega)]
  refine ⟨.ref _, _, I5.laid (t' := s4.toks) (o := .lst (xs.drop 1).reverse) (fun b ob q => Heap.get?_push_of_some _ q) (Nat.le_refl _) ?_, rfl, q _ _ (sameU (I5.hok.fresh (Nat.le_refl _))) (I5.hok.fresh (Nat.le_refl _)) (by unfold upd; rw [if_pos rfl]) fun b hb => by unfold upd; rw [if_neg hb]⟩
  exact ⟨by rw [List.length_reverse, List.length_drop]; omega, _, 0, (r.drop 1).reverse, Heap.get?_push_size _ rfl⟩
/-! ### one row alone -/
def yl (p : Str) : List Nat := if isSg p = true then [codeOf p] else if (tl p).head? = some 85 then [117] else []
theorem flat_sg : ∀ {l : List Str}, (∀ p ∈ l, isSg p = true) → l.map codeOf = l.flatMap yl
  | [], _ => rfl
  | p :: l, h => by
    rw [List.map_cons, List.flatMap_cons, flat_sg fun q hq => h q (List.mem_cons_of_mem _ hq)]
    unfold yl
    rw [if_pos (h p (List.mem_cons_self ..))]
    rfl
theorem rg_yield {rs : List Rl} (hy : ∀ r ∈ rs, r.parts.flatMap yl = yl r.head) : ∀ (ds : List PyData) (ps : List Str) (zs : List Nat), rg rs ds ps = some zs → zs = ps.flatMap yl
  | [], ps, zs, e => by
    have e : (if ps.all isSg = true then some (ps.map codeOf) else none) = some zs := e
    by_cases c : ps.all isSg = true
    · rw [if_pos c] at e
      cases e
      exact flat_sg (List.all_eq_true.mp c)
    · rw [if_neg c] at e; cases e
  | d :: ds, ps, zs, e => by
    have e : ((stp rs d (ps.dropWhile isSg)).bind fun q => (rg rs ds q).map ((ps.takeWhile isSg).map codeOf ++ ·)) = some zs := e
    cases h1 : stp rs d (ps.dropWhile isSg) with
    | none => rw [h1] at e; cases e
    | some q =>
      rw [h1] at e
      have e : (rg rs ds q).map ((ps.takeWhile isSg).map codeOf ++ ·) = some zs := e
      obtain ⟨ys, h2, rfl⟩ := Option.map_eq_some_iff.mp e
      obtain ⟨k, r, qs, _, hk, h3, rfl⟩ := stp_some h1
      have ih := rg_yield hy ds _ ys h2
      have hps : ps.flatMap yl = (ps.takeWhile isSg ++ ps.dropWhile isSg).flatMap yl := by rw [List.takeWhile_append_dropWhile]
      rw [ih, List.flatMap_append, hy r (List.mem_of_getElem? hk), hps, List.flatMap_append, h3, List.flatMap_cons, flat_sg (List.all_eq_true.mp List.all_takeWhile)]
theorem sizeP_in {K S : Szs} (hk : ∀ h n, look K h = some n → look S h = some n) : ∀ {ps : List Str} {m : Nat}, sizeP K ps = some m → sizeP S ps = some m
  | [], m, e => e
  | p :: ps, m, e => by
    have e : (if isSg p = true then sizeP K ps else (look K p).bind fun n => (sizeP K ps).map (n + ·)) = some m := e
    show (if isSg p = true then sizeP S ps else (look S p).bind fun n => (sizeP S ps).map (n + ·)) = some m
    by_cases c : isSg p = true
    · rw [if_pos c] at e ⊢
      exact sizeP_in hk e
    · rw [if_neg c] at e ⊢
      obtain ⟨n, h1, h2⟩ := Option.bind_eq_some_iff.mp e
      obtain ⟨y, h3, rfl⟩ := Option.map_eq_some_iff.mp h2
      rw [hk _ _ h1, sizeP_in hk h3]
      rfl
def tabOk (rs : List Rl) : Szs → Szs → Bool
  | _, [] => true
  | K, q :: t => (rs.any fun r => decide (r.head = q.1) && (decide (sizeP K r.parts = some (q.2 - 1)) && decide (1 ≤ q.2))) && tabOk rs (K ++ [q]) t
theorem Done.only {rs : List Rl} {S : Szs} (d : Done rs S) (hu : ∀ r ∈ rs, ∀ r' ∈ rs, r.head = r'.head → r = r') {r : Rl} {n : Nat} (hr : r ∈ rs) (e : look S r.head = some n) : sizeP S r.parts = some (n - 1) ∧ 1 ≤ n := by
  obtain ⟨r', h1, h2, h3, h4⟩ := d.why e
  obtain rfl := hu r' h1 r hr h2
  exact ⟨h3, h4⟩
theorem tab_look {rs : List Rl} {S : Szs} (d : Done rs S) (hu : ∀ r ∈ rs, ∀ r' ∈ rs, r.head = r'.head → r = r') : ∀ (t K : Szs), tabOk rs K t = true → (∀ h n, (h, n) ∈ K → look S h = some n) → ∀ h n, (h, n) ∈ K ++ t → look S h = some n
  | [], K, _, hK, h, n, m => hK h n (by simpa using m)
  | q :: t, K, e, hK, h, n, m => by
    have e := Bool.and_eq_true_iff.mp e
    obtain ⟨r, hr, e1⟩ := List.any_eq_true.mp e.1
    simp only [Bool.and_eq_true, decide_eq_true_eq] at e1
    obtain ⟨e1, e2, e3⟩ := e1
    refine tab_look d hu t (K ++ [q]) e.2 (fun h n m => ?_) h n (by simpa using m)
    rcases List.mem_append.mp m with m | m
    · exact hK h n m
    · cases List.mem_singleton.mp m
      obtain ⟨n', w1, w2⟩ := d.low hr (sizeP_in (fun h n q => hK h n (look_mem q)) e2)
      have := d.only hu hr w1
      rw [sizeP_in (fun h n q => hK h n (look_mem q)) e2] at this
      have t := Option.some.inj this.1
      have e1 : r.head = h := e1
      rw [← e1, w1]
      congr 1
      have := this.2
      have t : n - 1 = n' - 1 := t
      have e3 : 1 ≤ n := e3
      omega
def runs (seen : List Str) : List Rl → Option (List Str)
  | [] => some seen
  | r :: rs => if r.head ∈ seen then runs (seen ++ r.parts.filter fun p => !isSg p) rs else none
def PFs (S : Szs) (F : Fnd) (T : Nat) (p : Str) : Prop := ∃ f sp, lk F (.inr p) = some f ∧ look S p = some sp ∧ f.1 + sp ≤ T
theorem reach_all {rs : List Rl} {S : Szs} {F : Fnd} (d : Done rs S) (c : Rnd rs S F) (hu : ∀ r ∈ rs, ∀ r' ∈ rs, r.head = r'.head → r = r') {T : Nat} : ∀ (l : List Rl) (seen seen' : List Str), (∀ r ∈ l, r ∈ rs) → runs seen l = some seen' → (∀ p ∈ seen, PFs S F T p) → ∀ p ∈ seen', PFs S F T p
  | [], seen, seen', _, e, h => by cases e; exact h
  | r :: l, seen, seen', hl, e, h => by
    have e : (if r.head ∈ seen then runs (seen ++ r.parts.filter fun p => !isSg p) l else none) = some seen' := e
    by_cases q : r.head ∈ seen
    · rw [if_pos q] at e
      refine reach_all d c hu l _ _ (fun x hx => hl x (List.mem_cons_of_mem _ hx)) e fun p hp => ?_
      rcases List.mem_append.mp hp with hp | hp
      · exact h p hp
      · obtain ⟨f, sp, w1, w2, w3⟩ := h _ q
        have hr := hl r (List.mem_cons_self ..)
        obtain ⟨z1, z2⟩ := d.only hu hr w2
        have hp1 := (List.mem_filter.mp hp).1
        have hp2 : isSg p = false := by simpa using (List.mem_filter.mp hp).2
        obtain ⟨i, hi⟩ := List.mem_iff_getElem?.mp hp1
        obtain ⟨nu, hnu⟩ := List.mem_iff_getElem?.mp hr
        cases hlp : look S p with
        | none => rw [sizeP_bad hp1 hp2 hlp] at z1; cases z1
        | some s1 =>
          have := part_le hp1 hp2 hlp z1
          have hc := c.clo nu i p (f.1 + 1 + (sp - 1) - s1) ⟨r, f.1, f.2, sp - 1, s1, hnu, hi, hp2, w1, z1, hlp, by omega⟩
          unfold bet at hc
          cases e2 : lk F (.inr p) with
          | none => rw [e2] at hc; cases hc
          | some f1 =>
            rw [e2] at hc
            have hc := of_decide_eq_false hc
            exact ⟨f1, s1, e2, hlp, by omega⟩
    · rw [if_neg q] at e; cases e
theorem reach_low {rs : List Rl} {S : Szs} {F : Fnd} (d : Done rs S) (c : Rnd rs S F) (hu : ∀ r ∈ rs, ∀ r' ∈ rs, r.head = r'.head → r = r') {T : Nat} (hT : ∀ r0, rs[0]? = some r0 → look S r0.head = some T) : ∀ (m : Nat) (p : Str) (ptr : Option (Nat × Nat)), lk F (.inr p) = some (m, ptr) → ∀ sp, look S p = some sp → T ≤ m + sp := by
  intro m
  induction m using Nat.strongRecOn with
  | _ m ih =>
    intro p ptr e sp hsp
    rcases c.inv with inv | ⟨q, _⟩
    · rcases inv.why p m ptr e with ⟨_, rfl, r0, h0, rfl⟩ | ⟨nu, at', many, _, ⟨r, mh, ph, sz, s1, w1, w2, w3, w4, w5, w6, w7⟩, w8⟩
      · rw [hT r0 h0] at hsp
        cases hsp
        omega
      · have hr := List.mem_of_getElem? w1
        have := part_le (List.mem_of_getElem? w2) w3 w6 w5
        rw [hsp] at w6
        cases w6
        obtain ⟨n, q1, q2⟩ := d.low hr w5
        have := ih mh (by omega) r.head ph w4 n q1
        omega
    · rw [q] at e; cases e
def startN (c : Nat) : Str := (((dblU c)[0]?).map Rl.head).getD (Str.ofString "U")
def dblT (c : Nat) : Szs := (List.range 9).map (fun k => (Str.ofString "L" ++ sq1 (Str.ofString "ABCDEFGHI") k, 2 ^ (k + 1) - 1)) ++ (Str.ofString "W", 995) :: (Str.ofString "U", 996) :: (List.range c).map fun k => (Str.ofString "U" ++ sq1 (Str.ofString "ABCDEFGHIJKLM") k, 997 + k)
def ordr (c : Nat) : List Rl := dblU c ++ dblW :: (List.range 8).reverse.map dblL
def okD (c : Nat) : Bool := tabOk (dbl c) [] (dblT c) && (decide (((dbl c).map Rl.head).Nodup) && (((dbl c).all fun r => decide (r.head ∈ (dblT c).map (·.1))) && (((runs [startN c] (ordr c)).any fun sn => (dbl c).all fun r => decide (r.head ∈ sn)) && ((dbl c).all (fun r => goodR r && decide (r.parts.flatMap yl = yl r.head)) && (decide ((startN c, 996 + c) ∈ dblT c) && (decide ((dbl c).length ≤ 60) && (decide (((dbl c)[0]?).map Rl.head = some (startN c)) && decide (yl (startN c) = [117]))))))))
theorem okD_all : ∀ c, c < 13 → okD c = true := by decide +kernel
theorem ord_in {c : Nat} : ∀ r ∈ ordr c, r ∈ dbl c := by
  intro r hr
  unfold ordr at hr
  unfold dbl
  rcases List.mem_append.mp hr with hr | hr
  · exact List.mem_append_left _ hr
  · rcases List.mem_cons.mp hr with rfl | hr
    · exact List.mem_append_right _ (List.mem_cons_self ..)
    · refine List.mem_append_right _ (List.mem_cons_of_mem _ (List.mem_append_left _ ?_))
      obtain ⟨k, hk, rfl⟩ := List.mem_map.mp hr
      exact List.mem_map.mpr ⟨k, List.mem_reverse.mp hk, rfl⟩
theorem nodup_only {α β : Type} {f : α → β} : ∀ {l : List α}, (l.map f).Nodup → ∀ x ∈ l, ∀ y ∈ l, f x = f y → x = y
  | [], _, x, hx, _, _, _ => by cases hx
  | a :: l, h, x, hx, y, hy, e => by
    rw [List.map_cons, List.nodup_cons] at h
    rcases List.mem_cons.mp hx with hx | hx <;> rcases List.mem_cons.mp hy with hy | hy
    · rw [hx, hy]
    · exact absurd (List.mem_map.mpr ⟨y, hy, by rw [← e, hx]⟩) h.1
    · exact absurd (List.mem_map.mpr ⟨x, hx, by rw [e, hy]⟩) h.1
    · exact nodup_only h.2 x hx y hy e
def turnR (t : Bool) (rs : List Rl) : List Rl := if t then rs.take 1 ++ (rs.drop 1).reverse else rs
theorem turn_mem {t : Bool} {rs : List Rl} {r : Rl} : r ∈ turnR t rs ↔ r ∈ rs := by
  cases t with
  | false => exact Iff.rfl
  | true =>
    show r ∈ rs.take 1 ++ (rs.drop 1).reverse ↔ _
    conv => rhs; rw [← List.take_append_drop 1 rs]
    simp only [List.mem_append, List.mem_reverse]
theorem turn_len {t : Bool} {rs : List Rl} : (turnR t rs).length = rs.length := by
  cases t with
  | false => rfl
  | true =>
    show (rs.take 1 ++ (rs.drop 1).reverse).length = _
    rw [List.length_append, List.length_reverse, List.length_take, List.length_drop]
    omega
theorem turn_0 {t : Bool} {rs : List Rl} : (turnR t rs)[0]? = rs[0]? := by
  cases t with
  | false => rfl
  | true =>
    cases rs with
    | nil => rfl
    | cons r rs => rfl
/-- all that is told of a grammar with one row alone -/
structure One (rs : List Rl) (T : Nat) : Prop where
  good : GoodG rs
  ne : 0 < rs.length
  keys : ∀ S, Done rs S → (S.map (·.1)).Perm (rs.map Rl.head)
  start : ∀ S r0, Done rs S → rs[0]? = some r0 → look S r0.head = some T
  each : ∀ S F, Done rs S → Rnd rs S F → ∀ r ∈ rs, ∃ f m, lk F (.inr r.head) = some f ∧ sizeP S r.parts = some m ∧ f.1 + 1 + m = T
  text : ∀ ds zs r0, rs[0]? = some r0 → rg rs ds [r0.head] = some zs → zs = [117]
theorem one_dbl {c : Nat} (hc : c < 13) (t : Bool) : One (turnR t (dbl c)) (996 + c) := by
  have ok := okD_all c hc
  unfold okD at ok
  simp only [Bool.and_eq_true, decide_eq_true_eq, List.all_eq_true] at ok
  obtain ⟨o1, o2, o3, o4, o5, o6, o7, o8, o9⟩ := ok
  have hu : ∀ r ∈ turnR t (dbl c), ∀ r' ∈ turnR t (dbl c), r.head = r'.head → r = r' := fun r hr r' hr' e => nodup_only o2 r (turn_mem.mp hr) r' (turn_mem.mp hr') e
  have tk : tabOk (turnR t (dbl c)) [] (dblT c) = true := by
    have : ∀ (rs rs' : List Rl), (∀ r, r ∈ rs ↔ r ∈ rs') → ∀ (t K : Szs), tabOk rs K t = true → tabOk rs' K t = true := by
      intro rs rs' hm t
      induction t with
      | nil => intro _ _; rfl
      | cons q t ih =>
        intro K e
        have e := Bool.and_eq_true_iff.mp e
        obtain ⟨r, hr, e1⟩ := List.any_eq_true.mp e.1
        exact Bool.and_eq_true_iff.mpr ⟨List.any_eq_true.mpr ⟨r, (hm r).mp hr, e1⟩, ih _ e.2⟩
    exact this _ _ (fun r => turn_mem.symm) _ _ o1
  have lkS : ∀ S, Done (turnR t (dbl c)) S → ∀ h n, (h, n) ∈ dblT c → look S h = some n := fun S d h n m => tab_look d hu _ [] tk (fun _ _ q => by cases q) h n m
  have st : ∀ S r0, Done (turnR t (dbl c)) S → (turnR t (dbl c))[0]? = some r0 → look S r0.head = some (996 + c) := fun S r0 d e => by
    rw [turn_0] at e
    rw [e] at o8
    have : r0.head = startN c := Option.some.inj o8
    rw [this]
    exact lkS S d _ _ o6
  have allS : ∀ S, Done (turnR t (dbl c)) S → ∀ r ∈ turnR t (dbl c), ∃ n, look S r.head = some n := fun S d r hr => by
    obtain ⟨q, hq, e⟩ := List.mem_map.mp (o3 r (turn_mem.mp hr))
    exact ⟨q.2, by rw [← e]; exact lkS S d _ _ hq⟩
  refine ⟨⟨by rw [turn_len]; exact o7, fun r hr => goodR_iff.mp (o5 r (turn_mem.mp hr)).1⟩, ?_, fun S d => ?_, st, fun S F d k => ?_, fun ds zs r0 h0 hz => ?_⟩
  · rw [turn_len]
    unfold dbl
    rw [List.length_append, dblU_len]
    omega
  · refine (List.perm_ext_iff_of_nodup d.g.nd ?_).mpr fun x => ⟨fun hx => ?_, fun hx => ?_⟩
    · cases t with
      | false => exact o2
      | true =>
        have : (turnR true (dbl c)).Perm (dbl c) := by
          show ((dbl c).take 1 ++ ((dbl c).drop 1).reverse).Perm (dbl c)
          conv => rhs; rw [← List.take_append_drop 1 (dbl c)]
          exact List.Perm.append_left _ (List.reverse_perm _)
        exact (this.map Rl.head).nodup_iff.mpr o2
    · obtain ⟨n, hn⟩ := mem_look hx
      obtain ⟨r, h1, h2, _⟩ := d.g.why x n hn
      exact List.mem_map.mpr ⟨r, h1, h2⟩
    · obtain ⟨r, h1, rfl⟩ := List.mem_map.mp hx
      obtain ⟨n, hn⟩ := allS S d r h1
      exact List.mem_map.mpr ⟨_, look_mem hn, rfl⟩
  · intro r hr
    cases e4 : runs [startN c] (ordr c) with
    | none => rw [e4] at o4; cases o4
    | some sn =>
      rw [e4] at o4
      have o4 : (dbl c).all (fun r => decide (r.head ∈ sn)) = true := o4
      obtain ⟨r0, h0⟩ : ∃ r0, (turnR t (dbl c))[0]? = some r0 := by
        cases q : (turnR t (dbl c))[0]? with
        | some r0 => exact ⟨r0, rfl⟩
        | none => rw [turn_0] at q; rw [q] at o8; cases o8
      have eh : r0.head = startN c := by
        rw [turn_0] at h0
        rw [h0] at o8
        exact Option.some.inj o8
      have p0 : PFs S F (996 + c) (startN c) := by
        have hs := st S r0 d h0
        rcases k.inv with inv | ⟨_, q⟩
        · obtain ⟨r1, q1, q2, _⟩ := inv.st
          rw [h0] at q1
          cases q1
          rw [← eh]
          exact ⟨_, _, q2, hs, by omega⟩
        · rw [q r0 h0] at hs; cases hs
      obtain ⟨f, sp, w1, w2, w3⟩ := reach_all d k hu (ordr c) _ _ (fun r hr => turn_mem.mpr (ord_in r hr)) e4 (fun p hp => by rw [List.mem_singleton.mp hp]; exact p0) r.head (of_decide_eq_true (List.all_eq_true.mp o4 r (turn_mem.mp hr)))
      obtain ⟨z1, z2⟩ := d.only hu hr w2
      have := reach_low d k hu (fun r0 h0 => st S r0 d h0) f.1 r.head f.2 w1 sp w2
      exact ⟨f, sp - 1, w1, z1, by omega⟩
  · have := rg_yield (fun r hr => (o5 r (turn_mem.mp hr)).2) ds _ zs hz
    rw [turn_0] at h0
    rw [h0] at o8
    have e : r0.head = startN c := Option.some.inj o8
    rw [this, e, List.flatMap_cons, o9]
    rfl
theorem le_trans_nat {a b c : List Nat} (h : a ≤ b) (k : b ≤ c) : a ≤ c := List.le_trans h k
theorem risingS_pw : ∀ {l : List Str} {p : Str}, PyProof.Rows.risingS p l = true → (p :: l).Pairwise fun a b => tl a ≤ tl b
  | [], p, _ => List.pairwise_singleton ..
  | x :: l, p, h => by
    have h := Bool.and_eq_true_iff.mp (show (!ltCps x.cps.toList p.cps.toList && PyProof.Rows.risingS x l) = true from h)
    have ih := risingS_pw h.2
    have h1 : tl p ≤ tl x := by
      have := h.1
      rw [PyProof.Rows.ltCps_eq] at this
      simp only [Bool.not_eq_true', decide_eq_false_iff_not] at this
      exact List.not_lt.mp this
    refine List.pairwise_cons.mpr ⟨fun y hy => ?_, ih⟩
    rcases List.mem_cons.mp hy with rfl | hy
    · exact h1
    · exact le_trans_nat h1 ((List.pairwise_cons.mp ih).1 y hy)
theorem sortedS_pw : ∀ {l : List Str}, sortedS l = true → l.Pairwise fun a b => tl a ≤ tl b
  | [], _ => List.Pairwise.nil
  | _ :: _, h => risingS_pw h
theorem tl_inj {a b : Str} (h : tl a = tl b) : a = b := by
  cases a with
  | mk x => cases b with
    | mk y => exact congrArg Str.mk (Array.toList_inj.mp h)
theorem sortedS_one {l m : List Str} (p : l.Perm m) (h : sortedS l = true) (k : sortedS m = true) : l = m :=
  List.Perm.eq_of_pairwise (le := fun a b => tl a ≤ tl b) (fun a b _ _ x y => tl_inj (List.le_antisymm x y)) (sortedS_pw h) (sortedS_pw k) p
section
variable {X : Cx} {σ : L2.St} {H : Hp} {Q : VK} {p p2 pos pos2 : Pos} {a : Expr} {mg : Str → Option Value}
theorem e_listRg [cc : CxC X] [cm : CxM X mg] [g1 : Gn mg "list" none] [g2 : Gn mg "range" none] (h : eW X a σ H fun x H1 => ∃ n : Int, x = .int n ∧ RgOk 0 n ∧ ∀ l H2, Same H1 H2 → H1 l = none → H2 l = some (.lst (rgV 0 n)) → (∀ b, b ≠ l → H2 b = H1 b) → Q (.ref l) H2)
    (hg : Gl X "list" := by rfl) (hg2 : Gl X "range" := by rfl) (na : starEach [a] X.env = (false, eval a X.env) :: starEach [] X.env := by rfl) : eW X (.Call (.Name "list" p) [.Call (.Name "range" p2) [a] [] pos2] [] pos) σ H Q :=
  eI (pe_listRg cc.h hg (by rw [cm.h]; exact g1.h) (prg_1 hg2 (by rw [cm.h]; exact g2.h) PEw na)) (eMono h fun x H1 ⟨n, e, r, q⟩ => ⟨n, e, r, fun l hl => q l _ (sameU hl) hl upd_same fun b hb => upd_ne hb⟩)
theorem k_sortedS {d : Addr} {xs : List Str} (h : SqL X.K H d (xs.map V.str)) (hn : xs.length < 64) (q : ∀ ys l H2, ys.Perm xs → sortedS ys = true → Same H H2 → H l = none → H2 l = some (.lst (ys.map V.str)) → (∀ b, b ≠ l → H2 b = H b) → Q (.ref l) H2) : kW X (.builtin "sorted") [.ref d] H Q :=
  kI cr_sortedS ⟨d, xs, rfl, h, hn, fun ys l p s hl => q ys l _ p s (sameU hl) hl upd_same fun b hb => upd_ne hb⟩
theorem k_sortedD {d : Addr} {kvs : List (Key × V)} {ks : List Str} [cc : CxC X] (h : Rd H d (.dK kvs)) (hk : kvs.map (·.1) = ks.map Sum.inr) (hn : ks.length < 64) (q : ∀ ys l H2, ys.Perm ks → sortedS ys = true → Same H H2 → H l = none → H2 l = some (.lst (ys.map V.str)) → (∀ b, b ≠ l → H2 b = H b) → Q (.ref l) H2) : kW X (.builtin "sorted") [.ref d] H Q :=
  kI (call_sortedD cc.h) ⟨d, kvs, ks, rfl, h, hk, hn, fun ys l p s hl => q ys l _ p s (sameU hl) hl upd_same fun b hb => upd_ne hb⟩
end
theorem rgV_nats (n : Nat) : rgV 0 (n : Int) = (List.range n).map fun k => V.int ((k : Nat) : Int) := by
  unfold rgV
  rw [Int.sub_zero, Int.toNat_natCast]
  exact List.map_congr_left fun k _ => by rw [Int.zero_add]
theorem One.need {rs : List Rl} {T : Nat} (o : One rs T) {S : Szs} {F : Fnd} (d : Done rs S) (c : Rnd rs S F) : needL rs S F = List.range rs.length := by
  unfold needL
  refine List.filter_eq_self.mpr fun k hk => ?_
  have hk := List.mem_range.mp hk
  unfold needK
  rw [List.getElem?_eq_getElem hk]
  obtain ⟨f, m, h1, h2, _⟩ := o.each S F d c _ (List.getElem_mem hk)
  show ((lk F (.inr (rs[k]).head)).isSome && (sizeP S (rs[k]).parts).isSome) = true
  rw [h1, h2]
  rfl
def R_law_great (K : PySem.W.Frag) : V → Hp → VK → XK → Prop := fun x H Q _ => ∃ c, x = .int c ∧ ∀ H', Same H H' → Q (.bl true) H'
section
set_option hygiene false in
local macro_rules | `(tactic| top_name) => `(tactic| first | refine e_call (df_law_doubled T) (hr.mono (by decide)) ?_ | refine e_call (df_least T) (hr.mono (by decide)) ?_ | refine e_call (df_law_asked T) (hr.mono (by decide)) ?_ | refine e_call (df_law_numbers T) (hr.mono (by decide)) ?_ | refine e_call (df_needed T) (hr.mono (by decide)) ?_ | refine e_call (df_law_read T) (hr.mono (by decide)) ?_)
theorem ok_law_great {f : Addr} {fd : FuncData} (F : Fun K "_law_great" "_law_great" s_law_great f fd) (T : Txt K mg cs) : FnOk P w K mg base (L2.CX P w) 8 f fd ["_law_cell"] (sp1 (R_law_great K)) := by
  refine F.okX sc_law_great (fun vs H Q E h => sp1_len h) (fun cdv A outer s H vs Q E hr h => ⟨_, PBw (X := X_law_great P w K mg base f cdv A outer s H E), ?_⟩)
  obtain ⟨a0, rfl, h⟩ := h
  have ib_len := T.b_len
  have ib_list := T.b_list
  have ib_sorted := T.b_sorted
  have ib_range := T.b_range
  have hr' : Room 7 (X_law_great P w K mg base f cdv A outer s H E).A := hr
  replace hr := hr'
  clear hr'
  obtain ⟨c, rfl, h⟩ := h
  kxs_still
  intro l1 vs1 H1 s1 n1 k1 hR1
  have b1 : 0 ≤ c % 13 := Int.emod_nonneg _ (by decide)
  have b2 : c % 13 < 13 := Int.emod_lt_of_pos _ (by decide)
  have hc13 : (c % 13).toNat < 13 := by omega
  refine b_cons (sMono (fun σ' H' => ∃ t l vs, σ' = [some (.int c), some (.ref l), none, none, none, none, none] ∧ Same H H' ∧ H' l = some (.lst vs) ∧ RulesAt H' vs (turnR t (dbl (c % 13).toNat))) ?_ ?_)
  · kxs_still
    refine iteD (fun _ => ?_) fun _ => ?_
    · kxs_still
      refine n_lst (SqL.of k1) fun l2 H2 s2 n2 k2 _ => ?_
      have hl1 := hR1.len
      have hd1 : (dbl (c % 13).toNat).length = (c % 13).toNat + 11 := by
        unfold dbl
        simp only [List.length_append, dblU_len, List.length_cons, List.length_map, List.length_range, List.length_nil]
      refine e_tailRev ?_
      kxs_still
      refine ⟨l1, vs1, rfl, SqL.of (s2 _ _ k1), by omega, fun l3 H3 s3 n3 k3 _ => ?_⟩
      have hcv : cutV vs1 none (some 1) = vs1.take 1 := cutV_to vs1 (by decide)
      have k23 := s3 _ _ k2
      rw [hcv] at k23
      refine o_catL k23 k3 (by rw [List.length_reverse, List.length_take, List.length_drop]; omega) fun l4 H4 s4 n4 k4 _ => ?_
      kxs_still
      have s14 := s2.trans (s3.trans s4)
      exact ⟨true, l4, _, rfl, s1.trans s14, k4, (hR1.ts (Same.ts s14)).take 1 |>.app ((hR1.ts (Same.ts s14)).drop 1).rev⟩
    · kxs_still
      exact ⟨false, l1, _, rfl, s1, k1, hR1⟩
  rintro σ' H1 ⟨t, lg, vs, rfl, s1, k1, hR⟩
  have O := one_dbl hc13 t
  generalize hrs : turnR t (dbl (c % 13).toNat) = rs at hR O
  have hvl := hR.len
  have h60 := O.good.few
  have hpos := O.ne
  have hT : (996 + (c % 13).toNat : Nat) = 996 + c % 13 := by omega
  have gr : ∀ (H' : Hp), Same H1 H' → GramAt K H' (.ref lg) lg vs rs := fun H' s => ⟨rfl, SqL.of (s _ _ k1), hR.ts (Same.ts s), O.good⟩
  kxs_still
  refine o_mod (by omega) ?_
  kxs_still
  refine .inl ⟨lg, vs, rs, gr H1 (Same.refl _), fun d S H2 s2 n2 k2 hD => ?_⟩
  have k12 := s2 _ _ k1
  kxs_still
  refine .inl ⟨lg, vs, rs, gr H2 s2, fun ln S' F H3 s3 n3 k3 hD' hRn => ?_⟩
  obtain rfl := hD.one hD'
  have s13 := s2.trans s3
  have k13 := s13 _ _ k1
  have k23 := s3 _ _ k2
  rw [O.need hD hRn] at k3
  refine e_listRg ?_
  kxs_still
  refine ⟨.of_le (by decide) (by omega) (by decide) (by omega), fun lr H4 s4 n4 k4 _ => ?_⟩
  rw [hvl, rgV_nats] at k4
  have s14 := s13.trans s4
  have k14 := s14 _ _ k1
  have k24 := s4 _ _ k23
  refine o_neD hr.units (.lst (SqL.of (s4 _ _ k3)) (dp_nats _)) (.lst (SqL.of k4) (dp_nats _)) (nats_sh _).ok (nats_sh _).ok ?_
  rw [eqv_nats, decide_eq_true rfl]
  kxs_still
  refine k_sortedD (ks := S.map (·.1)) (.inl k24) (by unfold szK; rw [List.map_map, List.map_map]; rfl) (by have := (O.keys S hD).length_eq; rw [List.length_map, List.length_map] at this; rw [List.length_map]; omega) fun ys l5 H5 hp5 hs5 s5 n5 k5 _ => ?_
  have s15 := s14.trans s5
  have k15 := s15 _ _ k1
  kxs_still
  refine e_lcP (blkOk_by (sc := defScope s_law_great) (own := [("_law_rule", 5)]) (by decide +kernel)) (fun i y => ∃ x, rs[i]? = some x ∧ y = V.str x.head) (j_list ?_)
  kxs_still
  refine ⟨⟨_, SqL.of k15⟩, _, _, _, walk_list (xs := vs), by omega, fun H' s' => SqL.of (s' _ _ k15), ?_, ?_⟩
  · rintro i x H' H2 hi s' ⟨rfl, hx⟩
    obtain ⟨r, hr1, ra, rb, rfl, e1, e2⟩ := (hR.ts (Same.ts s15)).get i x hx
    have e1' := s' _ _ e1
    refine ⟨Same.refl _, fun _ _ _ _ _ => ?_⟩
    kxs_still
    refine ⟨rfl, Same.refl _, fun _ _ _ _ _ => ?_⟩
    kxs_still
    exact ⟨⟨r, hr1, rfl⟩, Same.refl _⟩
  intro l6 H6 zs s6 n6 k6 hyl hy
  have e := list_by (f := fun x : Rl => V.str x.head) (xs := rs) (by omega) hy
  have k6' : H6 l6 = some (.lst ((rs.map Rl.head).map V.str)) := by rw [List.map_map]; rw [e] at k6; exact k6
  clear hy hyl k6 e
  kxs_still
  refine k_sortedS (SqL.of k6') (by rw [List.length_map]; omega) fun ys7 l7 H7 hp7 hs7 s7 n7 k7 _ => ?_
  have hyy : ys = ys7 := sortedS_one (hp5.trans ((O.keys S hD).trans hp7.symm)) hs5 hs7
  have hcd : ∀ y ∈ ys7, ∀ c ∈ tl y, c < 1114112 := fun y hy => by
    obtain ⟨r, hr, rfl⟩ := List.mem_map.mp (hp7.mem_iff.mp hy)
    exact name_codes (O.good.good r hr).head
  subst hyy
  have hsh : Sh 1 (.list (ys.map PyData.str)) := .lst fun d hd => by
    obtain ⟨y, hy, rfl⟩ := List.mem_map.mp hd
    exact .str (hcd y hy)
  refine o_neD hr.units (.lst (SqL.of (s7 _ _ (s6 _ _ k5))) (dp_strs _)) (.lst (SqL.of k7) (dp_strs _)) hsh.ok hsh.ok ?_
  rw [hsh.refl]
  have s57 := s6.trans s7
  have s17 := s15.trans s57
  have k17 := s17 _ _ k1
  have k27 := s57 _ _ (s5 _ _ k24)
  obtain ⟨r0, hr0⟩ : ∃ r0, rs[0]? = some r0 := ⟨_, List.getElem?_eq_getElem hpos⟩
  obtain ⟨ra0, rb0, hv0, hvk0, e10, e20⟩ := (hR.ts (Same.ts s17)).at' hr0
  have hvk0 : atI vs (0 : Int) = some (.ref ra0) := hvk0
  have gk := dget_sz (h := r0.head) k27
  rw [O.start S r0 hD hr0] at gk
  kxs_still
  refine i_dget (rm1 hr) gk ?_
  kxs_still
  have hat : 0 ≤ c / 13 % (vs.length : Int) ∧ c / 13 % (vs.length : Int) < (rs.length : Nat) := ⟨Int.emod_nonneg _ (by omega), by rw [← hvl]; exact Int.emod_lt_of_pos _ (by omega)⟩
  obtain ⟨k, hk⟩ : ∃ k : Nat, c / 13 % (vs.length : Int) = (k : Nat) := ⟨_, (Int.toNat_of_nonneg hat.1).symm⟩
  rw [hk] at hat ⊢
  obtain ⟨r, hr1⟩ : ∃ r, rs[k]? = some r := ⟨_, List.getElem?_eq_getElem (by omega)⟩
  have rm := List.mem_of_getElem? hr1
  refine ⟨lg, vs, rs, .int (k : Nat), gr _ s17, .int _, fun S2 F2 k2 r2 f2 m2 hD2 hR2 e2' hr2 hl2 hz2 => ?_, fun S2 F2 hD2 hR2 q => ?_⟩
  case refine_2 =>
    obtain ⟨f, m, z1, z2, _⟩ := O.each S2 F2 hD2 hR2 r rm
    have := q k rfl
    unfold needK at this
    rw [hr1] at this
    have this : ((lk F2 (.inr r.head)).isSome && (sizeP S2 r.parts).isSome) = false := this
    rw [z1, z2] at this
    cases this
  obtain rfl : k = k2 := by have := PyData.int.inj e2'; omega
  rw [hr1] at hr2
  cases hr2
  obtain ⟨f, m, z1, z2, z3⟩ := O.each S2 F2 hD2 hR2 r rm
  rw [hl2] at z1
  cases z1
  rw [hz2] at z2
  cases z2
  refine ⟨fun hgt t8 H8 s8 k8 => ?_, fun hle r1 lr row H8 hr1' s8 n8 k8 hW hkm hrl => ?_⟩
  · kxs_still
    intro t9 H9 s9 n9 k9 _
    refine o_eqD hr.units (.tup (SqT.of (s9 _ _ k8)) (.cons (.int _) (.cons (.int _) .nil))) (.tup (SqT.of k9) (.cons (.int _) (.cons (.int _) .nil))) rfl rfl ?_
    rw [show PyData.eqv (.tuple [.int 2, .int 1]) (.tuple [.int 2, .int 1]) = true by decide +kernel]
    exact h H9 (s1.trans (s17.trans (s8.trans s9)))
  · rw [hr0] at hr1'
    cases hr1'
    obtain ⟨zs1, hzs⟩ := wt_rg hW [r0.head] (by rw [List.filter_cons_of_pos (by rw [O.good.hsg r0 (List.mem_of_getElem? hr0)]; rfl)]; rfl)
    have hz1 := O.text _ _ _ hr0 hzs
    subst hz1
    kxs_still
    refine ⟨lr, row, rfl, SqL.of k8, ?_⟩
    kxs_still
    rw [List.length_map, hrl, z3, decide_eq_true hT]
    kxs_still
    refine ⟨lg, vs, rs, lr, row.map (fun k => ((k : Nat) : Int)), gr _ (s17.trans s8), rfl, by rw [← (rowD_ints row).1]; exact SqL.of k8, by rw [List.length_map]; omega, fun r2 zs2 e0 ez H9 s9 => ?_, fun q => ?_⟩
    · rw [hr0] at e0
      cases e0
      rw [← (rowD_ints row).2, hzs] at ez
      cases ez
      kxs_still
      rw [show decide (strOf [117] = Str.ofString "u") = true by decide +kernel]
      exact h _ (s1.trans (s17.trans (s8.trans s9)))
    · have := q r0 hr0
      rw [← (rowD_ints row).2, hzs] at this
      cases this
end
theorem df_law_great (T : Txt K mg cs) : Df P w K mg base "_law_great" 8 ["_law_cell"] (sp1 (R_law_great K)) := by
  obtain ⟨f, fd, hm, F, hb⟩ := T.f_law_great.ex
  exact ⟨f, fd, hm, F.kp, hb, ok_law_great F T⟩
theorem Wt.len {rs : List Rl} {row : List Nat} {ns : List Str} (h : Wt rs row ns) : ns.length ≤ row.length := by
  induction h with
  | nil => exact Nat.le_refl _
  | cons hk t ih =>
    rw [List.length_append] at ih
    simp only [List.length_cons]
    omega
/-- a row that was drawn, or none -/
def RowV (rs : List Rl) (y : V) (H : Hp) : Prop := y = .non ∨ ∃ (l : Addr) (row : List Nat) (r0 : Rl), y = .ref l ∧ H l = some (.lst (row.map fun k => V.int ((k : Nat) : Int))) ∧ rs[0]? = some r0 ∧ Wt rs row [r0.head]
theorem RowV.more {rs : List Rl} {y : V} {H H' : Hp} (s : Same H H') (h : RowV rs y H) : RowV rs y H' := by
  rcases h with h | ⟨l, row, r0, h1, h2, h3⟩
  · exact .inl h
  · exact .inr ⟨l, row, r0, h1, s _ _ h2, h3⟩
theorem RowV.keep {rs : List Rl} {y : V} {H H' : Hp} {D : Addr} {acc : List V} (hD : H D = some (.lst acc)) (ha : ∀ z ∈ acc, RowV rs z H) (k : ∀ b, b ≠ D → H' b = H b) (h : RowV rs y H) : RowV rs y H' := by
  rcases h with h | ⟨l, row, r0, h1, h2, h3, h4⟩
  · exact .inl h
  · refine .inr ⟨l, row, r0, h1, ?_, h3, h4⟩
    rw [k l ?_]
    · exact h2
    · intro z
      rw [z, hD] at h2
      have e : acc = row.map fun k => V.int ((k : Nat) : Int) := HO.lst.inj (Option.some.inj h2)
      cases row with
      | nil =>
        have := h4.len
        simp at this
      | cons q row' =>
        have := ha (.int ((q : Nat) : Int)) (by rw [e]; exact List.mem_cons_self ..)
        rcases this with z | ⟨_, _, _, z, _⟩ <;> cases z
section
set_option hygiene false in
local macro_rules | `(tactic| top_name) => `(tactic| first | refine e_call (df_law_bare T) (hr.mono (by decide)) ?_ | refine e_call (df_law_mixed T) (hr.mono (by decide)) ?_ | refine e_call (df_needed T) (hr.mono (by decide)) ?_ | refine e_call (df_law_row T) (hr.mono (by decide)) ?_ | refine e_call (df_law_great T) (hr.mono (by decide)) ?_ | refine e_call (df_law_told T) (hr.mono (by decide)) ?_ | refine e_call (df_law_asked T) (hr.mono (by decide)) ?_ | refine e_call (df_law_no_grammar T) (hr.mono (by decide)) ?_)
theorem ok_law {f : Addr} {fd : FuncData} (F : Fun K "law" "law" s_law f fd) (T : Txt K mg cs) : FnOk P w K mg base (L2.CX P w) 9 f fd ["_law_script"] (sp1 (R_law K)) := by
  refine F.okX sc_law (fun vs H Q E h => sp1_len h) (fun cdv A outer s H vs Q E hr h => ⟨_, PBw (X := X_law P w K mg base f cdv A outer s H E), ?_⟩)
  obtain ⟨a0, rfl, h⟩ := h
  have ib_list := T.b_list
  have ib_range := T.b_range
  have ib_len := T.b_len
  have hr' : Room 8 (X_law P w K mg base f cdv A outer s H E).A := hr
  replace hr := hr'
  clear hr'
  obtain ⟨a, ns, rfl, hS, hlen, h⟩ := h
  kxs_still
  refine ⟨a, ns, 12, 3, rfl, hS, hlen, rfl, by omega, by omega, rfl, by decide, by decide, fun lg0 vs0 rs0 H1 s1 k1 hR0 hG0 ⟨nms, h4, hn0, hpn0, hp30⟩ => ?_⟩
  kxs_still
  refine ⟨_, _, _, rfl, s1.seq hS, rfl, by decide, by decide, fun j j0 j1 => ?_⟩
  refine b_cons (sMono (fun σ' H' => ∃ lg vs rs, σ' = [some (.ref a), some (.ref lg), some (.int j), none, none, none, none, none, none] ∧ Same H H' ∧ H' lg = some (.lst vs) ∧ RulesAt H' vs rs ∧ GoodG rs ∧ (∀ r ∈ rs, r.head ∈ nms) ∧ ∀ r ∈ rs, r.parts.length ≤ 3) ?_ ?_)
  · kxs_still
    refine iteD (fun _ => ?_) fun _ => ?_
    · kxs_still
      intro l2 H2 s2 n2 k2 _
      kxs_still
      exact ⟨l2, [], [], rfl, s1.trans s2, k2, .nil, ⟨by decide, (fun r hr => by cases hr)⟩, (fun r hr => by cases hr), (fun r hr => by cases hr)⟩
    · kxs_still
      exact ⟨lg0, vs0, rs0, rfl, s1, k1, hR0, hG0, hn0, fun r hr => by have := hp30 r hr; omega⟩
  clear hR0 hG0 hn0 hpn0 hp30 s1 k1
  rintro σ' H1 ⟨lg, vs, rs, rfl, s1, k1, hR, hG, hn, h3⟩
  have hS1 := s1.seq hS
  have hvl := hR.len
  have h60 := hG.few
  have gr : ∀ (H' : Hp), Same H1 H' → GramAt K H' (.ref lg) lg vs rs := fun H' s => ⟨rfl, SqL.of (s _ _ k1), hR.ts (Same.ts s), hG⟩
  have via : ∀ (p : Addr) (cells : List Int) (H2 : Hp), Same H1 H2 → H2 p = some (.lst (cells.map V.int)) → cells.length ≤ 63 → ∀ (QQ : VK) (EE : XK), (∀ v H3, Same H2 H3 → RowV rs v H3 → QQ v H3) → R_law_row K (.ref lg) (.ref p) (.int 20) H2 QQ EE := fun p cells H2 s2 k2 hc QQ EE hq => by
    exact ⟨lg, vs, rs, p, cells, 20, nms, gr H2 s2, rfl, SqL.of k2, hc, rfl, h4, hn, fun hno H3 s3 => hq _ _ s3 (.inl rfl), fun r0 hr0 hl0 l row H3 s3 kl hrl hW => hq _ _ s3 (.inr ⟨l, row, r0, rfl, kl, hr0, hW⟩)⟩
  have bound : ∀ (S : Szs) (F : Fnd), Done rs S → Rnd rs S F → ∀ (r : Rl) (f : Fv) (m : Nat), r ∈ rs → lk F (.inr r.head) = some f → sizeP S r.parts = some m → f.1 + 1 + m ≤ 1000 := fun S F hD hRn r f m hr hl hz => row_bound hD hRn h4 hn h3 hr hl hz
  refine b_cons (s_setLcK (blkOk_by (sc := defScope s_law) (own := [("_law_k", 4)]) (by decide +kernel)) (fun _ y H' => RowV rs y H') (fun _ _ _ _ s h => h.more s) (fun _ _ _ _ _ _ hD ha k h => h.keep hD (fun z hz => by obtain ⟨j, hj⟩ := List.mem_iff_getElem?.mp hz; exact ha j z hj) k) (j_rng1 ?_))
  kxs_still
  refine ⟨by decide, by decide, _, _, _, walk_range, by decide, fun _ _ => trivial, ?_, ?_⟩
  · rintro i x H2 H3 hi s2 ⟨rfl, rfl⟩
    refine ⟨Same.refl _, fun _ _ _ _ _ => ?_⟩
    kxs_still
    refine ⟨rfl, Same.refl _, fun _ _ _ _ _ => ?_⟩
    have hi : i < 6 := hi
    kxs_still
    refine o_mulS (.inl ⟨by omega, by omega⟩) ?_
    kxs_still
    refine n_lst (s2.seq hS1) fun p4 H4 s4 n4 k4 _ => ?_
    rw [cutV_mid _ (by omega) (by omega), ← List.map_drop, ← List.map_take] at k4
    kxs_still
    refine via p4 _ H4 (s2.trans s4) k4 (by rw [List.length_take, List.length_drop]; omega) _ _ fun v H5 s5 hv => ?_
    exact ⟨hv, s4.trans s5⟩
  intro lw H2 ws s2 n2 k2 hwl hw
  have hw : ∀ w ∈ ws, RowV rs w H2 := fun w hw' => by
    obtain ⟨j, hj⟩ := List.mem_iff_getElem?.mp hw'
    exact hw j w hj
  have hwl : ws.length = 6 := hwl
  have hlw : lw ≠ lg := fun z => by rw [z] at n2; rw [k1] at n2; cases n2
  kxs_still
  refine ⟨ty_l k2, ?_⟩
  kxs_still
  refine n_lst (s2.seq hS1) fun p3 H3 s3 n3 k3 _ => ?_
  rw [cutV_from _ (by decide), ← List.map_drop] at k3
  kxs_still
  refine via p3 _ H3 (s2.trans s3) k3 (by rw [List.length_drop]; omega) _ _ fun v4 H4 s4 hv4 => ?_
  have s24 := s3.trans s4
  kxs_still
  refine m_append (s24 _ _ k2) (by omega) fun H5 k5 f5 => ?_
  have hw4 : ∀ w ∈ ws, RowV rs w H4 := fun w hw' => (hw w hw').more s24
  have hw5 : ∀ w ∈ ws ++ [v4], RowV rs w H5 := fun w hw' => by
    rcases List.mem_append.mp hw' with q | q
    · exact (hw4 w q).keep (s24 _ _ k2) hw4 f5
    · rw [List.mem_singleton.mp q]
      exact hv4.keep (s24 _ _ k2) hw4 f5
  have s15 : Same H1 H5 := fun b o hb => by rw [f5 b (by intro z; rw [z] at hb; rw [n2] at hb; cases hb)]; exact s24 _ _ (s2 _ _ hb)
  have k15 := s15 _ _ k1
  kxs_still
  refine k_listL (.inl (SqL.of k15)) fun lh H6 s6 n6 k6 _ => ?_
  have s16 := s15.trans s6
  have grh : ∀ (H' : Hp), Same H6 H' → GramAt K H' (.ref lh) lh vs rs := fun H' s => ⟨rfl, SqL.of (s _ _ k6), hR.ts (Same.ts (s16.trans s)), hG⟩
  kxs_still
  refine .inl ⟨lh, vs, rs, grh H6 (Same.refl _), fun ln S F H7 s7 n7 k7 hD hRn => ?_⟩
  have s17 := s16.trans s7
  have k17 := s17 _ _ k1
  have k57 := s7 _ _ (s6 _ _ k5)
  have hw7 : ∀ w ∈ ws ++ [v4], RowV rs w H7 := fun w hw' => (hw5 w hw').more (s6.trans s7)
  have nfit : ∀ (k : Nat), needK rs S F k = false → ∀ (S' : Szs) (F' : Fnd), Done rs S' → Rnd rs S' F' → needK rs S' F' k = false := fun k h0 S' F' hD' hR' => by
    obtain rfl := hD.one hD'
    cases e : needK rs S F' k with
    | false => rfl
    | true =>
      have hm : k ∈ needL rs S F' := List.mem_filter.mpr ⟨List.mem_range.mpr (by
        by_cases q : k < rs.length
        · exact q
        · unfold needK at e
          rw [List.getElem?_eq_none (by omega)] at e
          cases e), e⟩
      rw [← hRn.same hR'] at hm
      rw [(List.mem_filter.mp hm).2] at h0
      cases h0
  have yfit : ∀ (k : Nat), k ∈ needL rs S F → ∀ (S' : Szs) (F' : Fnd), Done rs S' → Rnd rs S' F' → needK rs S' F' k = true := fun k h0 S' F' hD' hR' => by
    obtain rfl := hD.one hD'
    rw [hRn.same hR'] at h0
    exact (List.mem_filter.mp h0).2
  have none_of : ∀ (k : Nat), k ∉ needL rs S F → needK rs S F k = false := fun k hk => by
    cases e : needK rs S F k with
    | false => rfl
    | true =>
      refine absurd (List.mem_filter.mpr ⟨List.mem_range.mpr ?_, e⟩) hk
      by_cases q : k < rs.length
      · exact q
      · unfold needK at e
        rw [List.getElem?_eq_none (by omega)] at e
        cases e
  have refused : ∀ (v : V) (d : PyData) (H8 : Hp), Same H6 H8 → Th K H8 v d → (∀ k : Nat, d = .int (k : Nat) → needK rs S F k = false) → ∀ (QQ : VK) (EE : XK), (∀ t H9, Same H8 H9 → H9 t = some (.tup [.int 1, .int 1]) → QQ (.ref t) H9) → R_law_asked K cs (.ref lh) v H8 QQ EE := fun v d H8 s8 hd hno QQ EE hq => by
    refine ⟨lh, vs, rs, d, grh H8 s8, hd, fun S' F' k r f m hD' hR' e0 hr1 hf hm => ?_, fun S' F' hD' hR' _ t H9 s9 k9 => hq t H9 s9 k9⟩
    have := nfit k (hno k e0) S' F' hD' hR'
    unfold needK at this
    rw [hr1] at this
    have this : ((lk F' (.inr r.head)).isSome && (sizeP S' r.parts).isSome) = false := this
    rw [hf, hm] at this
    cases this
  kxs_still
  refine s_for (j_rng1 ?_)
  kxs_still
  refine ⟨by omega, by omega, _, _, _, walk_range0, fun i σ' H' => ∃ v4, σ' = [some (.ref a), some (.ref lg), some (.int j), some (.ref lw), none, some (.ref lh), some (.ref ln), v4, none] ∧ Same H7 H', ⟨none, rfl, Same.refl _⟩, fun _ _ _ _ _ => trivial, ?_, ?_⟩
  · rintro i x σ' H' H8 hi ⟨v7, rfl, s8⟩ ⟨rfl, rfl⟩
    have k78 := s8 _ _ k7
    kxs_still
    refine o_inN (SqL.of k78) ?_
    kxs_still
    refine iteD (fun c => ?_) fun c => ?_
    · kxs_still
      refine ⟨lh, vs, rs, i, lw, ws ++ [v4], grh _ (s7.trans s8), rfl, rfl, SqL.of (s8 _ _ k57), fun S' F' hD' hR' => ⟨yfit i c S' F' hD' hR', fun r f m hr1 hf hm => bound S' F' hD' hR' r f m (List.mem_of_getElem? hr1) hf hm⟩, fun w hw' => ?_, fun H9 s9 => ?_⟩
      · rcases (hw7 w hw').more s8 with q | ⟨l, row, r0, q1, q2, q3, q4⟩
        · exact .inl q
        · exact .inr ⟨l, row, r0, q1, SqL.of q2, q3, q4⟩
      · kxs_still
        exact ⟨_, rfl, s8.trans s9⟩
    · kxs_still
      refine refused _ _ _ (s7.trans s8) (.int ((i : Nat) : Int)) (fun k e => by obtain rfl : k = i := by have := PyData.int.inj e; omega
                                                                                 exact none_of _ c) _ _ fun t9 H9 s9 k9 => ?_
      kxs_still
      intro t10 H10 s10 n10 k10 _
      refine o_neD hr.units (.tup (SqT.of (s10 _ _ k9)) (.cons (.int _) (.cons (.int _) .nil))) (.tup (SqT.of k10) (.cons (.int _) (.cons (.int _) .nil))) rfl rfl ?_
      rw [show PyData.eqv (.tuple [.int 1, .int 1]) (.tuple [.int 1, .int 1]) = true by decide +kernel]
      kxs_still
      exact ⟨_, rfl, s8.trans (s9.trans s10)⟩
  rintro σ' H8 ⟨v7, rfl, s8⟩
  have k18 := s8 _ _ k17
  refine b_cons (s_for (j_list ?_))
  kxs_still
  intro l9 H9 s9 n9 k9 _
  kxs_still
  intro t10 H10 s10 n10 k10 _
  kxs_still
  intro lo H11 s11 n11 k11 _
  kxs_still
  refine ⟨⟨_, SqL.of k11⟩, _, _, _, walk_list, fun i σ' H' => ∃ v8, σ' = [some (.ref a), some (.ref lg), some (.int j), some (.ref lw), none, some (.ref lh), some (.ref ln), v7, v8] ∧ Same H11 H', ⟨none, rfl, Same.refl _⟩, fun _ _ _ _ ⟨_, _, s⟩ => SqL.of (s _ _ k11), ?_, ?_⟩
  · rintro i x σ' H' H12 hi ⟨v8, rfl, s12⟩ ⟨rfl, hx⟩
    have s7' : Same H7 H12 := s8.trans (s9.trans (s10.trans (s11.trans s12)))
    have k9' : H12 l9 = _ := (s10.trans (s11.trans s12)) _ _ k9
    have k10' : H12 t10 = _ := (s11.trans s12) _ _ k10
    have hth : ∃ d, Th K H12 x d ∧ ∀ k : Nat, d = .int (k : Nat) → needK rs S F k = false := by
      have big : ∀ k : Nat, rs.length ≤ k → needK rs S F k = false := fun k hk => by
        unfold needK
        rw [List.getElem?_eq_none hk]
        rfl
      have hx := List.mem_of_getElem? hx
      simp only [List.mem_cons, List.not_mem_nil, or_false] at hx
      rcases hx with rfl | rfl | rfl | rfl | rfl | rfl | rfl | rfl | rfl
      · exact ⟨_, .int _, fun k e => by have := PyData.int.inj e; omega⟩
      · exact ⟨_, .int _, fun k e => big k (by have := PyData.int.inj e; omega)⟩
      · exact ⟨_, .int _, fun k e => big k (by have := PyData.int.inj e; omega)⟩
      · exact ⟨_, .bl _, fun k e => by cases e⟩
      · exact ⟨_, .bl _, fun k e => by cases e⟩
      · exact ⟨_, .str _ (by decide +kernel), fun k e => by cases e⟩
      · exact ⟨_, .non, fun k e => by cases e⟩
      · exact ⟨_, .lst (SqL.of k9') (.cons (.int _) .nil), fun k e => by cases e⟩
      · exact ⟨_, .tup (SqT.of k10') (.cons (.int _) .nil), fun k e => by cases e⟩
    obtain ⟨d, hd, hdn⟩ := hth
    kxs_still
    refine refused _ d _ (s7.trans s7') hd hdn _ _ fun t13 H13 s13 k13 => ?_
    kxs_still
    intro t14 H14 s14 n14 k14 _
    refine o_neD hr.units (.tup (SqT.of (s14 _ _ k13)) (.cons (.int _) (.cons (.int _) .nil))) (.tup (SqT.of k14) (.cons (.int _) (.cons (.int _) .nil))) rfl rfl ?_
    rw [show PyData.eqv (.tuple [.int 1, .int 1]) (.tuple [.int 1, .int 1]) = true by decide +kernel]
    kxs_still
    intro H15 s15
    kxs_still
    exact ⟨_, rfl, s12.trans (s13.trans (s14.trans s15))⟩
  rintro σ' H12 ⟨v8, rfl, s12⟩
  have s7' : Same H7 H12 := s8.trans (s9.trans (s10.trans (s11.trans s12)))
  have sh := gram_sh hG.good
  kxs_still
  refine o_eqD hr.units (grh H12 (s7.trans s7')).dp (gr H12 (s17.trans s7')).dp sh.ok sh.ok ?_
  rw [sh.refl]
  kxs_still
  refine iteND (fun _ => ?_) fun _ => ?_
  · exact h H12
  · kxs_still
    exact fun H' _ => h H'

end
end
theorem all_mk {l : PySem.W.OpenLaw} {w : World} {K : PySem.W.Frag} {h : Heap} {mg : Str → Option Value} {fa C_ForestError C_NoGrammar C_NoText C_NoRow C_NoRule C_NoNumber C_NoCosts C_NoChange C_NoWords C_Endless C_TooGreat C_Barren f_is_whole f_may_stand f_is_sign f_is_name f_are_parts f_is_rule f_checked f_rules_by_head f_size_of f_least_sizes f_least f_least_rule f_least_row f_roundabouts f_needed f_row_with f_law_cell_at f_law_mixed f_law_signs f_law_names f_law_worth f_law_parts f_law_bare f_law_ends f_law_open f_law_row f_law_read f_law_whole f_law_numbers f_law_asked f_law_no_grammar f_law_told f_law_doubled f_law_great f_law : Addr} (X : K.In h) (G : h.Ns mainGlobals mg) (hfa : mg "law" = some (.ref fa))
    {t_MOST_RULES : Tok}
    {t_MOST_PARTS : Tok}
    {t_MOST_WORTH : Tok}
    {t_MOST_NUMBERS : Tok}
    {od_is_whole an_is_whole : Option Addr} {sl_is_whole : Array (Option Value)} {oc_is_whole kV_is_whole dc_is_whole pm_is_whole cd_is_whole ct_is_whole : Value}
    {od_may_stand an_may_stand : Option Addr} {sl_may_stand : Array (Option Value)} {oc_may_stand kV_may_stand dc_may_stand pm_may_stand cd_may_stand ct_may_stand : Value}
    {od_is_sign an_is_sign : Option Addr} {sl_is_sign : Array (Option Value)} {oc_is_sign kV_is_sign dc_is_sign pm_is_sign cd_is_sign ct_is_sign : Value}
    {od_is_name an_is_name : Option Addr} {sl_is_name : Array (Option Value)} {oc_is_name kV_is_name dc_is_name pm_is_name cd_is_name ct_is_name : Value}
    {od_are_parts an_are_parts : Option Addr} {sl_are_parts : Array (Option Value)} {oc_are_parts kV_are_parts dc_are_parts pm_are_parts cd_are_parts ct_are_parts : Value}
    {od_is_rule an_is_rule : Option Addr} {sl_is_rule : Array (Option Value)} {oc_is_rule kV_is_rule dc_is_rule pm_is_rule cd_is_rule ct_is_rule : Value}
    {od_checked an_checked : Option Addr} {sl_checked : Array (Option Value)} {oc_checked kV_checked dc_checked pm_checked cd_checked ct_checked : Value}
    {od_rules_by_head an_rules_by_head : Option Addr} {sl_rules_by_head : Array (Option Value)} {oc_rules_by_head kV_rules_by_head dc_rules_by_head pm_rules_by_head cd_rules_by_head ct_rules_by_head : Value}
    {od_size_of an_size_of : Option Addr} {sl_size_of : Array (Option Value)} {oc_size_of kV_size_of dc_size_of pm_size_of cd_size_of ct_size_of : Value}
    {od_least_sizes an_least_sizes : Option Addr} {sl_least_sizes : Array (Option Value)} {oc_least_sizes kV_least_sizes dc_least_sizes pm_least_sizes cd_least_sizes ct_least_sizes : Value}
    {od_least an_least : Option Addr} {sl_least : Array (Option Value)} {oc_least kV_least dc_least pm_least cd_least ct_least : Value}
    {od_least_rule an_least_rule : Option Addr} {sl_least_rule : Array (Option Value)} {oc_least_rule kV_least_rule dc_least_rule pm_least_rule cd_least_rule ct_least_rule : Value}
    {od_least_row an_least_row : Option Addr} {sl_least_row : Array (Option Value)} {oc_least_row kV_least_row dc_least_row pm_least_row cd_least_row ct_least_row : Value}
    {od_roundabouts an_roundabouts : Option Addr} {sl_roundabouts : Array (Option Value)} {oc_roundabouts kV_roundabouts dc_roundabouts pm_roundabouts cd_roundabouts ct_roundabouts : Value}
    {od_needed an_needed : Option Addr} {sl_needed : Array (Option Value)} {oc_needed kV_needed dc_needed pm_needed cd_needed ct_needed : Value}
    {od_row_with an_row_with : Option Addr} {sl_row_with : Array (Option Value)} {oc_row_with kV_row_with dc_row_with pm_row_with cd_row_with ct_row_with : Value}
    {od_law_cell_at an_law_cell_at : Option Addr} {sl_law_cell_at : Array (Option Value)} {oc_law_cell_at kV_law_cell_at dc_law_cell_at pm_law_cell_at cd_law_cell_at ct_law_cell_at : Value}
    {od_law_mixed an_law_mixed : Option Addr} {sl_law_mixed : Array (Option Value)} {oc_law_mixed kV_law_mixed dc_law_mixed pm_law_mixed cd_law_mixed ct_law_mixed : Value}
    {od_law_signs an_law_signs : Option Addr} {sl_law_signs : Array (Option Value)} {oc_law_signs kV_law_signs dc_law_signs pm_law_signs cd_law_signs ct_law_signs : Value}
    {od_law_names an_law_names : Option Addr} {sl_law_names : Array (Option Value)} {oc_law_names kV_law_names dc_law_names pm_law_names cd_law_names ct_law_names : Value}
    {od_law_worth an_law_worth : Option Addr} {sl_law_worth : Array (Option Value)} {oc_law_worth kV_law_worth dc_law_worth pm_law_worth cd_law_worth ct_law_worth : Value}
    {od_law_parts an_law_parts : Option Addr} {sl_law_parts : Array (Option Value)} {oc_law_parts kV_law_parts dc_law_parts pm_law_parts cd_law_parts ct_law_parts : Value}
    {od_law_bare an_law_bare : Option Addr} {sl_law_bare : Array (Option Value)} {oc_law_bare kV_law_bare dc_law_bare pm_law_bare cd_law_bare ct_law_bare : Value}
    {od_law_ends an_law_ends : Option Addr} {sl_law_ends : Array (Option Value)} {oc_law_ends kV_law_ends dc_law_ends pm_law_ends cd_law_ends ct_law_ends : Value}
    {od_law_open an_law_open : Option Addr} {sl_law_open : Array (Option Value)} {oc_law_open kV_law_open dc_law_open pm_law_open cd_law_open ct_law_open : Value}
    {od_law_row an_law_row : Option Addr} {sl_law_row : Array (Option Value)} {oc_law_row kV_law_row dc_law_row pm_law_row cd_law_row ct_law_row : Value}
    {od_law_read an_law_read : Option Addr} {sl_law_read : Array (Option Value)} {oc_law_read kV_law_read dc_law_read pm_law_read cd_law_read ct_law_read : Value}
    {od_law_whole an_law_whole : Option Addr} {sl_law_whole : Array (Option Value)} {oc_law_whole kV_law_whole dc_law_whole pm_law_whole cd_law_whole ct_law_whole : Value}
    {od_law_numbers an_law_numbers : Option Addr} {sl_law_numbers : Array (Option Value)} {oc_law_numbers kV_law_numbers dc_law_numbers pm_law_numbers cd_law_numbers ct_law_numbers : Value}
    {od_law_asked an_law_asked : Option Addr} {sl_law_asked : Array (Option Value)} {oc_law_asked kV_law_asked dc_law_asked pm_law_asked cd_law_asked ct_law_asked : Value}
    {od_law_no_grammar an_law_no_grammar : Option Addr} {sl_law_no_grammar : Array (Option Value)} {oc_law_no_grammar kV_law_no_grammar dc_law_no_grammar pm_law_no_grammar cd_law_no_grammar ct_law_no_grammar : Value}
    {od_law_told an_law_told : Option Addr} {sl_law_told : Array (Option Value)} {oc_law_told kV_law_told dc_law_told pm_law_told cd_law_told ct_law_told : Value}
    {od_law_doubled an_law_doubled : Option Addr} {sl_law_doubled : Array (Option Value)} {oc_law_doubled kV_law_doubled dc_law_doubled pm_law_doubled cd_law_doubled ct_law_doubled : Value}
    {od_law_great an_law_great : Option Addr} {sl_law_great : Array (Option Value)} {oc_law_great kV_law_great dc_law_great pm_law_great cd_law_great ct_law_great : Value}
    {od_law an_law : Option Addr} {sl_law : Array (Option Value)} {oc_law kV_law dc_law pm_law cd_law ct_law : Value}
    (b_ValueError : PySem.W.nsIn K mainGlobals "ValueError" = some none)
    (b_bool : PySem.W.nsIn K mainGlobals "bool" = some none)
    (b_dict : PySem.W.nsIn K mainGlobals "dict" = some none)
    (b_enumerate : PySem.W.nsIn K mainGlobals "enumerate" = some none)
    (b_int : PySem.W.nsIn K mainGlobals "int" = some none)
    (b_isinstance : PySem.W.nsIn K mainGlobals "isinstance" = some none)
    (b_len : PySem.W.nsIn K mainGlobals "len" = some none)
    (b_list : PySem.W.nsIn K mainGlobals "list" = some none)
    (b_max : PySem.W.nsIn K mainGlobals "max" = some none)
    (b_min : PySem.W.nsIn K mainGlobals "min" = some none)
    (b_ord : PySem.W.nsIn K mainGlobals "ord" = some none)
    (b_range : PySem.W.nsIn K mainGlobals "range" = some none)
    (b_reversed : PySem.W.nsIn K mainGlobals "reversed" = some none)
    (b_sorted : PySem.W.nsIn K mainGlobals "sorted" = some none)
    (b_str : PySem.W.nsIn K mainGlobals "str" = some none)
    (b_tuple : PySem.W.nsIn K mainGlobals "tuple" = some none)
    (k_MOST_RULES : PySem.W.nsIn K mainGlobals "MOST_RULES" = some (some (.int (60) t_MOST_RULES)))
    (k_MOST_PARTS : PySem.W.nsIn K mainGlobals "MOST_PARTS" = some (some (.int (6) t_MOST_PARTS)))
    (k_MOST_WORTH : PySem.W.nsIn K mainGlobals "MOST_WORTH" = some (some (.int (1000000000000000000000000000000000000000000000000000000000000) t_MOST_WORTH)))
    (k_MOST_NUMBERS : PySem.W.nsIn K mainGlobals "MOST_NUMBERS" = some (some (.int (1000) t_MOST_NUMBERS)))
    (g_ForestError : PySem.W.nsIn K mainGlobals "ForestError" = some (some (.ref C_ForestError)))
    (ex_ForestError : PySem.W.excIn K C_ForestError [.type "ValueError", .type "Exception", .type "BaseException", .type "object"] "ValueError.__new__" = true)
    (kc_ForestError : PySem.W.keepIn K (.ref C_ForestError) = true)
    (bc_ForestError : PySem.W.subIn K (.ref C_ForestError) (.type "BaseException") = some true)
    (tc_ForestError : PySem.W.typeIn K (.ref C_ForestError) = some (.type "type"))
    (ic_ForestError : PySem.W.isClsIn K C_ForestError = true)
    (ga_ForestError : PySem.W.findIn K (.ref C_ForestError) "__getattribute__" = some (some (.builtin "BaseException.__getattribute__")))
    (gk_ForestError : PySem.W.findIn K (.ref C_ForestError) "__getattr__" = some none)
    (hd_ForestError : PySem.W.hasDictIn K C_ForestError = true)
    (ha_ForestError : PySem.W.findIn K (.ref C_ForestError) "__class__" = some (some (.builtin "object.__class__")))
    (hn_ForestError : PySem.W.specialIn K (.builtin "object.__class__") "__get__" = some (some (.builtin "getset_descriptor.__get__")))
    (ht_ForestError : PySem.W.takesIn K (.builtin "object.__class__") = some true)
    (hm_ForestError : PySem.W.mroIn K C_ForestError (.type "object") = some true)
    (ve_ForestError : PySem.W.subIn K (.ref C_ForestError) (.type "ValueError") = some true)
    (g_NoGrammar : PySem.W.nsIn K mainGlobals "NoGrammar" = some (some (.ref C_NoGrammar)))
    (ex_NoGrammar : PySem.W.excIn K C_NoGrammar [.type "ValueError", .type "Exception", .type "BaseException", .type "object"] "ValueError.__new__" = true)
    (kc_NoGrammar : PySem.W.keepIn K (.ref C_NoGrammar) = true)
    (bc_NoGrammar : PySem.W.subIn K (.ref C_NoGrammar) (.type "BaseException") = some true)
    (tc_NoGrammar : PySem.W.typeIn K (.ref C_NoGrammar) = some (.type "type"))
    (ic_NoGrammar : PySem.W.isClsIn K C_NoGrammar = true)
    (ga_NoGrammar : PySem.W.findIn K (.ref C_NoGrammar) "__getattribute__" = some (some (.builtin "BaseException.__getattribute__")))
    (gk_NoGrammar : PySem.W.findIn K (.ref C_NoGrammar) "__getattr__" = some none)
    (hd_NoGrammar : PySem.W.hasDictIn K C_NoGrammar = true)
    (ha_NoGrammar : PySem.W.findIn K (.ref C_NoGrammar) "__class__" = some (some (.builtin "object.__class__")))
    (hn_NoGrammar : PySem.W.specialIn K (.builtin "object.__class__") "__get__" = some (some (.builtin "getset_descriptor.__get__")))
    (ht_NoGrammar : PySem.W.takesIn K (.builtin "object.__class__") = some true)
    (hm_NoGrammar : PySem.W.mroIn K C_NoGrammar (.type "object") = some true)
    (ve_NoGrammar : PySem.W.subIn K (.ref C_NoGrammar) (.type "ValueError") = some true)
    (g_NoText : PySem.W.nsIn K mainGlobals "NoText" = some (some (.ref C_NoText)))
    (ex_NoText : PySem.W.excIn K C_NoText [.type "ValueError", .type "Exception", .type "BaseException", .type "object"] "ValueError.__new__" = true)
    (kc_NoText : PySem.W.keepIn K (.ref C_NoText) = true)
    (bc_NoText : PySem.W.subIn K (.ref C_NoText) (.type "BaseException") = some true)
    (tc_NoText : PySem.W.typeIn K (.ref C_NoText) = some (.type "type"))
    (ic_NoText : PySem.W.isClsIn K C_NoText = true)
    (ga_NoText : PySem.W.findIn K (.ref C_NoText) "__getattribute__" = some (some (.builtin "BaseException.__getattribute__")))
    (gk_NoText : PySem.W.findIn K (.ref C_NoText) "__getattr__" = some none)
    (hd_NoText : PySem.W.hasDictIn K C_NoText = true)
    (ha_NoText : PySem.W.findIn K (.ref C_NoText) "__class__" = some (some (.builtin "object.__class__")))
    (hn_NoText : PySem.W.specialIn K (.builtin "object.__class__") "__get__" = some (some (.builtin "getset_descriptor.__get__")))
    (ht_NoText : PySem.W.takesIn K (.builtin "object.__class__") = some true)
    (hm_NoText : PySem.W.mroIn K C_NoText (.type "object") = some true)
    (ve_NoText : PySem.W.subIn K (.ref C_NoText) (.type "ValueError") = some true)
    (g_NoRow : PySem.W.nsIn K mainGlobals "NoRow" = some (some (.ref C_NoRow)))
    (ex_NoRow : PySem.W.excIn K C_NoRow [.type "ValueError", .type "Exception", .type "BaseException", .type "object"] "ValueError.__new__" = true)
    (kc_NoRow : PySem.W.keepIn K (.ref C_NoRow) = true)
    (bc_NoRow : PySem.W.subIn K (.ref C_NoRow) (.type "BaseException") = some true)
    (tc_NoRow : PySem.W.typeIn K (.ref C_NoRow) = some (.type "type"))
    (ic_NoRow : PySem.W.isClsIn K C_NoRow = true)
    (ga_NoRow : PySem.W.findIn K (.ref C_NoRow) "__getattribute__" = some (some (.builtin "BaseException.__getattribute__")))
    (gk_NoRow : PySem.W.findIn K (.ref C_NoRow) "__getattr__" = some none)
    (hd_NoRow : PySem.W.hasDictIn K C_NoRow = true)
    (ha_NoRow : PySem.W.findIn K (.ref C_NoRow) "__class__" = some (some (.builtin "object.__class__")))
    (hn_NoRow : PySem.W.specialIn K (.builtin "object.__class__") "__get__" = some (some (.builtin "getset_descriptor.__get__")))
    (ht_NoRow : PySem.W.takesIn K (.builtin "object.__class__") = some true)
    (hm_NoRow : PySem.W.mroIn K C_NoRow (.type "object") = some true)
    (ve_NoRow : PySem.W.subIn K (.ref C_NoRow) (.type "ValueError") = some true)
    (g_NoRule : PySem.W.nsIn K mainGlobals "NoRule" = some (some (.ref C_NoRule)))
    (ex_NoRule : PySem.W.excIn K C_NoRule [.type "ValueError", .type "Exception", .type "BaseException", .type "object"] "ValueError.__new__" = true)
    (kc_NoRule : PySem.W.keepIn K (.ref C_NoRule) = true)
    (bc_NoRule : PySem.W.subIn K (.ref C_NoRule) (.type "BaseException") = some true)
    (tc_NoRule : PySem.W.typeIn K (.ref C_NoRule) = some (.type "type"))
    (ic_NoRule : PySem.W.isClsIn K C_NoRule = true)
    (ga_NoRule : PySem.W.findIn K (.ref C_NoRule) "__getattribute__" = some (some (.builtin "BaseException.__getattribute__")))
    (gk_NoRule : PySem.W.findIn K (.ref C_NoRule) "__getattr__" = some none)
    (hd_NoRule : PySem.W.hasDictIn K C_NoRule = true)
    (ha_NoRule : PySem.W.findIn K (.ref C_NoRule) "__class__" = some (some (.builtin "object.__class__")))
    (hn_NoRule : PySem.W.specialIn K (.builtin "object.__class__") "__get__" = some (some (.builtin "getset_descriptor.__get__")))
    (ht_NoRule : PySem.W.takesIn K (.builtin "object.__class__") = some true)
    (hm_NoRule : PySem.W.mroIn K C_NoRule (.type "object") = some true)
    (ve_NoRule : PySem.W.subIn K (.ref C_NoRule) (.type "ValueError") = some true)
    (g_NoNumber : PySem.W.nsIn K mainGlobals "NoNumber" = some (some (.ref C_NoNumber)))
    (ex_NoNumber : PySem.W.excIn K C_NoNumber [.type "ValueError", .type "Exception", .type "BaseException", .type "object"] "ValueError.__new__" = true)
    (kc_NoNumber : PySem.W.keepIn K (.ref C_NoNumber) = true)
    (bc_NoNumber : PySem.W.subIn K (.ref C_NoNumber) (.type "BaseException") = some true)
    (tc_NoNumber : PySem.W.typeIn K (.ref C_NoNumber) = some (.type "type"))
    (ic_NoNumber : PySem.W.isClsIn K C_NoNumber = true)
    (ga_NoNumber : PySem.W.findIn K (.ref C_NoNumber) "__getattribute__" = some (some (.builtin "BaseException.__getattribute__")))
    (gk_NoNumber : PySem.W.findIn K (.ref C_NoNumber) "__getattr__" = some none)
    (hd_NoNumber : PySem.W.hasDictIn K C_NoNumber = true)
    (ha_NoNumber : PySem.W.findIn K (.ref C_NoNumber) "__class__" = some (some (.builtin "object.__class__")))
    (hn_NoNumber : PySem.W.specialIn K (.builtin "object.__class__") "__get__" = some (some (.builtin "getset_descriptor.__get__")))
    (ht_NoNumber : PySem.W.takesIn K (.builtin "object.__class__") = some true)
    (hm_NoNumber : PySem.W.mroIn K C_NoNumber (.type "object") = some true)
    (ve_NoNumber : PySem.W.subIn K (.ref C_NoNumber) (.type "ValueError") = some true)
    (g_NoCosts : PySem.W.nsIn K mainGlobals "NoCosts" = some (some (.ref C_NoCosts)))
    (ex_NoCosts : PySem.W.excIn K C_NoCosts [.type "ValueError", .type "Exception", .type "BaseException", .type "object"] "ValueError.__new__" = true)
    (kc_NoCosts : PySem.W.keepIn K (.ref C_NoCosts) = true)
    (bc_NoCosts : PySem.W.subIn K (.ref C_NoCosts) (.type "BaseException") = some true)
    (tc_NoCosts : PySem.W.typeIn K (.ref C_NoCosts) = some (.type "type"))
    (ic_NoCosts : PySem.W.isClsIn K C_NoCosts = true)
    (ga_NoCosts : PySem.W.findIn K (.ref C_NoCosts) "__getattribute__" = some (some (.builtin "BaseException.__getattribute__")))
    (gk_NoCosts : PySem.W.findIn K (.ref C_NoCosts) "__getattr__" = some none)
    (hd_NoCosts : PySem.W.hasDictIn K C_NoCosts = true)
    (ha_NoCosts : PySem.W.findIn K (.ref C_NoCosts) "__class__" = some (some (.builtin "object.__class__")))
    (hn_NoCosts : PySem.W.specialIn K (.builtin "object.__class__") "__get__" = some (some (.builtin "getset_descriptor.__get__")))
    (ht_NoCosts : PySem.W.takesIn K (.builtin "object.__class__") = some true)
    (hm_NoCosts : PySem.W.mroIn K C_NoCosts (.type "object") = some true)
    (ve_NoCosts : PySem.W.subIn K (.ref C_NoCosts) (.type "ValueError") = some true)
    (g_NoChange : PySem.W.nsIn K mainGlobals "NoChange" = some (some (.ref C_NoChange)))
    (ex_NoChange : PySem.W.excIn K C_NoChange [.type "ValueError", .type "Exception", .type "BaseException", .type "object"] "ValueError.__new__" = true)
    (kc_NoChange : PySem.W.keepIn K (.ref C_NoChange) = true)
    (bc_NoChange : PySem.W.subIn K (.ref C_NoChange) (.type "BaseException") = some true)
    (tc_NoChange : PySem.W.typeIn K (.ref C_NoChange) = some (.type "type"))
    (ic_NoChange : PySem.W.isClsIn K C_NoChange = true)
    (ga_NoChange : PySem.W.findIn K (.ref C_NoChange) "__getattribute__" = some (some (.builtin "BaseException.__getattribute__")))
    (gk_NoChange : PySem.W.findIn K (.ref C_NoChange) "__getattr__" = some none)
    (hd_NoChange : PySem.W.hasDictIn K C_NoChange = true)
    (ha_NoChange : PySem.W.findIn K (.ref C_NoChange) "__class__" = some (some (.builtin "object.__class__")))
    (hn_NoChange : PySem.W.specialIn K (.builtin "object.__class__") "__get__" = some (some (.builtin "getset_descriptor.__get__")))
    (ht_NoChange : PySem.W.takesIn K (.builtin "object.__class__") = some true)
    (hm_NoChange : PySem.W.mroIn K C_NoChange (.type "object") = some true)
    (ve_NoChange : PySem.W.subIn K (.ref C_NoChange) (.type "ValueError") = some true)
    (g_NoWords : PySem.W.nsIn K mainGlobals "NoWords" = some (some (.ref C_NoWords)))
    (ex_NoWords : PySem.W.excIn K C_NoWords [.type "ValueError", .type "Exception", .type "BaseException", .type "object"] "ValueError.__new__" = true)
    (kc_NoWords : PySem.W.keepIn K (.ref C_NoWords) = true)
    (bc_NoWords : PySem.W.subIn K (.ref C_NoWords) (.type "BaseException") = some true)
    (tc_NoWords : PySem.W.typeIn K (.ref C_NoWords) = some (.type "type"))
    (ic_NoWords : PySem.W.isClsIn K C_NoWords = true)
    (ga_NoWords : PySem.W.findIn K (.ref C_NoWords) "__getattribute__" = some (some (.builtin "BaseException.__getattribute__")))
    (gk_NoWords : PySem.W.findIn K (.ref C_NoWords) "__getattr__" = some none)
    (hd_NoWords : PySem.W.hasDictIn K C_NoWords = true)
    (ha_NoWords : PySem.W.findIn K (.ref C_NoWords) "__class__" = some (some (.builtin "object.__class__")))
    (hn_NoWords : PySem.W.specialIn K (.builtin "object.__class__") "__get__" = some (some (.builtin "getset_descriptor.__get__")))
    (ht_NoWords : PySem.W.takesIn K (.builtin "object.__class__") = some true)
    (hm_NoWords : PySem.W.mroIn K C_NoWords (.type "object") = some true)
    (ve_NoWords : PySem.W.subIn K (.ref C_NoWords) (.type "ValueError") = some true)
    (g_Endless : PySem.W.nsIn K mainGlobals "Endless" = some (some (.ref C_Endless)))
    (ex_Endless : PySem.W.excIn K C_Endless [.type "ValueError", .type "Exception", .type "BaseException", .type "object"] "ValueError.__new__" = true)
    (kc_Endless : PySem.W.keepIn K (.ref C_Endless) = true)
    (bc_Endless : PySem.W.subIn K (.ref C_Endless) (.type "BaseException") = some true)
    (tc_Endless : PySem.W.typeIn K (.ref C_Endless) = some (.type "type"))
    (ic_Endless : PySem.W.isClsIn K C_Endless = true)
    (ga_Endless : PySem.W.findIn K (.ref C_Endless) "__getattribute__" = some (some (.builtin "BaseException.__getattribute__")))
    (gk_Endless : PySem.W.findIn K (.ref C_Endless) "__getattr__" = some none)
    (hd_Endless : PySem.W.hasDictIn K C_Endless = true)
    (ha_Endless : PySem.W.findIn K (.ref C_Endless) "__class__" = some (some (.builtin "object.__class__")))
    (hn_Endless : PySem.W.specialIn K (.builtin "object.__class__") "__get__" = some (some (.builtin "getset_descriptor.__get__")))
    (ht_Endless : PySem.W.takesIn K (.builtin "object.__class__") = some true)
    (hm_Endless : PySem.W.mroIn K C_Endless (.type "object") = some true)
    (ve_Endless : PySem.W.subIn K (.ref C_Endless) (.type "ValueError") = some true)
    (g_TooGreat : PySem.W.nsIn K mainGlobals "TooGreat" = some (some (.ref C_TooGreat)))
    (ex_TooGreat : PySem.W.excIn K C_TooGreat [.type "ValueError", .type "Exception", .type "BaseException", .type "object"] "ValueError.__new__" = true)
    (kc_TooGreat : PySem.W.keepIn K (.ref C_TooGreat) = true)
    (bc_TooGreat : PySem.W.subIn K (.ref C_TooGreat) (.type "BaseException") = some true)
    (tc_TooGreat : PySem.W.typeIn K (.ref C_TooGreat) = some (.type "type"))
    (ic_TooGreat : PySem.W.isClsIn K C_TooGreat = true)
    (ga_TooGreat : PySem.W.findIn K (.ref C_TooGreat) "__getattribute__" = some (some (.builtin "BaseException.__getattribute__")))
    (gk_TooGreat : PySem.W.findIn K (.ref C_TooGreat) "__getattr__" = some none)
    (hd_TooGreat : PySem.W.hasDictIn K C_TooGreat = true)
    (ha_TooGreat : PySem.W.findIn K (.ref C_TooGreat) "__class__" = some (some (.builtin "object.__class__")))
    (hn_TooGreat : PySem.W.specialIn K (.builtin "object.__class__") "__get__" = some (some (.builtin "getset_descriptor.__get__")))
    (ht_TooGreat : PySem.W.takesIn K (.builtin "object.__class__") = some true)
    (hm_TooGreat : PySem.W.mroIn K C_TooGreat (.type "object") = some true)
    (ve_TooGreat : PySem.W.subIn K (.ref C_TooGreat) (.type "ValueError") = some true)
    (g_Barren : PySem.W.nsIn K mainGlobals "Barren" = some (some (.ref C_Barren)))
    (ex_Barren : PySem.W.excIn K C_Barren [.type "ValueError", .type "Exception", .type "BaseException", .type "object"] "ValueError.__new__" = true)
    (kc_Barren : PySem.W.keepIn K (.ref C_Barren) = true)
    (bc_Barren : PySem.W.subIn K (.ref C_Barren) (.type "BaseException") = some true)
    (tc_Barren : PySem.W.typeIn K (.ref C_Barren) = some (.type "type"))
    (ic_Barren : PySem.W.isClsIn K C_Barren = true)
    (ga_Barren : PySem.W.findIn K (.ref C_Barren) "__getattribute__" = some (some (.builtin "BaseException.__getattribute__")))
    (gk_Barren : PySem.W.findIn K (.ref C_Barren) "__getattr__" = some none)
    (hd_Barren : PySem.W.hasDictIn K C_Barren = true)
    (ha_Barren : PySem.W.findIn K (.ref C_Barren) "__class__" = some (some (.builtin "object.__class__")))
    (hn_Barren : PySem.W.specialIn K (.builtin "object.__class__") "__get__" = some (some (.builtin "getset_descriptor.__get__")))
    (ht_Barren : PySem.W.takesIn K (.builtin "object.__class__") = some true)
    (hm_Barren : PySem.W.mroIn K C_Barren (.type "object") = some true)
    (ve_Barren : PySem.W.subIn K (.ref C_Barren) (.type "ValueError") = some true)
    (su_NoGrammar_ForestError : PySem.W.subIn K (.ref C_NoGrammar) (.ref C_ForestError) = some true)
    (su_NoGrammar_NoGrammar : PySem.W.subIn K (.ref C_NoGrammar) (.ref C_NoGrammar) = some true)
    (su_NoGrammar_NoText : PySem.W.subIn K (.ref C_NoGrammar) (.ref C_NoText) = some false)
    (su_NoGrammar_NoRow : PySem.W.subIn K (.ref C_NoGrammar) (.ref C_NoRow) = some false)
    (su_NoGrammar_NoRule : PySem.W.subIn K (.ref C_NoGrammar) (.ref C_NoRule) = some false)
    (su_NoGrammar_NoNumber : PySem.W.subIn K (.ref C_NoGrammar) (.ref C_NoNumber) = some false)
    (su_NoGrammar_NoCosts : PySem.W.subIn K (.ref C_NoGrammar) (.ref C_NoCosts) = some false)
    (su_NoGrammar_NoChange : PySem.W.subIn K (.ref C_NoGrammar) (.ref C_NoChange) = some false)
    (su_NoGrammar_NoWords : PySem.W.subIn K (.ref C_NoGrammar) (.ref C_NoWords) = some false)
    (su_NoGrammar_Endless : PySem.W.subIn K (.ref C_NoGrammar) (.ref C_Endless) = some false)
    (su_NoGrammar_TooGreat : PySem.W.subIn K (.ref C_NoGrammar) (.ref C_TooGreat) = some false)
    (su_NoGrammar_Barren : PySem.W.subIn K (.ref C_NoGrammar) (.ref C_Barren) = some false)
    (su_NoRow_ForestError : PySem.W.subIn K (.ref C_NoRow) (.ref C_ForestError) = some true)
    (su_NoRow_NoGrammar : PySem.W.subIn K (.ref C_NoRow) (.ref C_NoGrammar) = some false)
    (su_NoRow_NoText : PySem.W.subIn K (.ref C_NoRow) (.ref C_NoText) = some false)
    (su_NoRow_NoRow : PySem.W.subIn K (.ref C_NoRow) (.ref C_NoRow) = some true)
    (su_NoRow_NoRule : PySem.W.subIn K (.ref C_NoRow) (.ref C_NoRule) = some false)
    (su_NoRow_NoNumber : PySem.W.subIn K (.ref C_NoRow) (.ref C_NoNumber) = some false)
    (su_NoRow_NoCosts : PySem.W.subIn K (.ref C_NoRow) (.ref C_NoCosts) = some false)
    (su_NoRow_NoChange : PySem.W.subIn K (.ref C_NoRow) (.ref C_NoChange) = some false)
    (su_NoRow_NoWords : PySem.W.subIn K (.ref C_NoRow) (.ref C_NoWords) = some false)
    (su_NoRow_Endless : PySem.W.subIn K (.ref C_NoRow) (.ref C_Endless) = some false)
    (su_NoRow_TooGreat : PySem.W.subIn K (.ref C_NoRow) (.ref C_TooGreat) = some false)
    (su_NoRow_Barren : PySem.W.subIn K (.ref C_NoRow) (.ref C_Barren) = some false)
    (su_TooGreat_ForestError : PySem.W.subIn K (.ref C_TooGreat) (.ref C_ForestError) = some true)
    (su_TooGreat_NoGrammar : PySem.W.subIn K (.ref C_TooGreat) (.ref C_NoGrammar) = some false)
    (su_TooGreat_NoText : PySem.W.subIn K (.ref C_TooGreat) (.ref C_NoText) = some false)
    (su_TooGreat_NoRow : PySem.W.subIn K (.ref C_TooGreat) (.ref C_NoRow) = some false)
    (su_TooGreat_NoRule : PySem.W.subIn K (.ref C_TooGreat) (.ref C_NoRule) = some false)
    (su_TooGreat_NoNumber : PySem.W.subIn K (.ref C_TooGreat) (.ref C_NoNumber) = some false)
    (su_TooGreat_NoCosts : PySem.W.subIn K (.ref C_TooGreat) (.ref C_NoCosts) = some false)
    (su_TooGreat_NoChange : PySem.W.subIn K (.ref C_TooGreat) (.ref C_NoChange) = some false)
    (su_TooGreat_NoWords : PySem.W.subIn K (.ref C_TooGreat) (.ref C_NoWords) = some false)
    (su_TooGreat_Endless : PySem.W.subIn K (.ref C_TooGreat) (.ref C_Endless) = some false)
    (su_TooGreat_TooGreat : PySem.W.subIn K (.ref C_TooGreat) (.ref C_TooGreat) = some true)
    (su_TooGreat_Barren : PySem.W.subIn K (.ref C_TooGreat) (.ref C_Barren) = some false)
    (a_is_whole : PySem.W.nsIn K mainGlobals "is_whole" = some (some (.ref f_is_whole)))
    (l_is_whole : K.lookup f_is_whole = some ⟨oc_is_whole, od_is_whole, .func (PySem.W.fnOf "is_whole" "is_whole" (defArgs s_is_whole) (defBody s_is_whole) (defScope s_is_whole) .none kV_is_whole dc_is_whole pm_is_whole an_is_whole cd_is_whole ct_is_whole), sl_is_whole⟩)
    (e_is_whole : PySem.W.codeIn K cd_is_whole "is_whole" = true)
    (p_is_whole : PySem.W.keepIn K (.ref f_is_whole) = true)
    (a_may_stand : PySem.W.nsIn K mainGlobals "may_stand" = some (some (.ref f_may_stand)))
    (l_may_stand : K.lookup f_may_stand = some ⟨oc_may_stand, od_may_stand, .func (PySem.W.fnOf "may_stand" "may_stand" (defArgs s_may_stand) (defBody s_may_stand) (defScope s_may_stand) .none kV_may_stand dc_may_stand pm_may_stand an_may_stand cd_may_stand ct_may_stand), sl_may_stand⟩)
    (e_may_stand : PySem.W.codeIn K cd_may_stand "may_stand" = true)
    (p_may_stand : PySem.W.keepIn K (.ref f_may_stand) = true)
    (a_is_sign : PySem.W.nsIn K mainGlobals "is_sign" = some (some (.ref f_is_sign)))
    (l_is_sign : K.lookup f_is_sign = some ⟨oc_is_sign, od_is_sign, .func (PySem.W.fnOf "is_sign" "is_sign" (defArgs s_is_sign) (defBody s_is_sign) (defScope s_is_sign) .none kV_is_sign dc_is_sign pm_is_sign an_is_sign cd_is_sign ct_is_sign), sl_is_sign⟩)
    (e_is_sign : PySem.W.codeIn K cd_is_sign "is_sign" = true)
    (p_is_sign : PySem.W.keepIn K (.ref f_is_sign) = true)
    (a_is_name : PySem.W.nsIn K mainGlobals "is_name" = some (some (.ref f_is_name)))
    (l_is_name : K.lookup f_is_name = some ⟨oc_is_name, od_is_name, .func (PySem.W.fnOf "is_name" "is_name" (defArgs s_is_name) (defBody s_is_name) (defScope s_is_name) .none kV_is_name dc_is_name pm_is_name an_is_name cd_is_name ct_is_name), sl_is_name⟩)
    (e_is_name : PySem.W.codeIn K cd_is_name "is_name" = true)
    (p_is_name : PySem.W.keepIn K (.ref f_is_name) = true)
    (a_are_parts : PySem.W.nsIn K mainGlobals "are_parts" = some (some (.ref f_are_parts)))
    (l_are_parts : K.lookup f_are_parts = some ⟨oc_are_parts, od_are_parts, .func (PySem.W.fnOf "are_parts" "are_parts" (defArgs s_are_parts) (defBody s_are_parts) (defScope s_are_parts) .none kV_are_parts dc_are_parts pm_are_parts an_are_parts cd_are_parts ct_are_parts), sl_are_parts⟩)
    (e_are_parts : PySem.W.codeIn K cd_are_parts "are_parts" = true)
    (p_are_parts : PySem.W.keepIn K (.ref f_are_parts) = true)
    (a_is_rule : PySem.W.nsIn K mainGlobals "is_rule" = some (some (.ref f_is_rule)))
    (l_is_rule : K.lookup f_is_rule = some ⟨oc_is_rule, od_is_rule, .func (PySem.W.fnOf "is_rule" "is_rule" (defArgs s_is_rule) (defBody s_is_rule) (defScope s_is_rule) .none kV_is_rule dc_is_rule pm_is_rule an_is_rule cd_is_rule ct_is_rule), sl_is_rule⟩)
    (e_is_rule : PySem.W.codeIn K cd_is_rule "is_rule" = true)
    (p_is_rule : PySem.W.keepIn K (.ref f_is_rule) = true)
    (a_checked : PySem.W.nsIn K mainGlobals "checked" = some (some (.ref f_checked)))
    (l_checked : K.lookup f_checked = some ⟨oc_checked, od_checked, .func (PySem.W.fnOf "checked" "checked" (defArgs s_checked) (defBody s_checked) (defScope s_checked) .none kV_checked dc_checked pm_checked an_checked cd_checked ct_checked), sl_checked⟩)
    (e_checked : PySem.W.codeIn K cd_checked "checked" = true)
    (p_checked : PySem.W.keepIn K (.ref f_checked) = true)
    (a_rules_by_head : PySem.W.nsIn K mainGlobals "rules_by_head" = some (some (.ref f_rules_by_head)))
    (l_rules_by_head : K.lookup f_rules_by_head = some ⟨oc_rules_by_head, od_rules_by_head, .func (PySem.W.fnOf "rules_by_head" "rules_by_head" (defArgs s_rules_by_head) (defBody s_rules_by_head) (defScope s_rules_by_head) .none kV_rules_by_head dc_rules_by_head pm_rules_by_head an_rules_by_head cd_rules_by_head ct_rules_by_head), sl_rules_by_head⟩)
    (e_rules_by_head : PySem.W.codeIn K cd_rules_by_head "rules_by_head" = true)
    (p_rules_by_head : PySem.W.keepIn K (.ref f_rules_by_head) = true)
    (a_size_of : PySem.W.nsIn K mainGlobals "size_of" = some (some (.ref f_size_of)))
    (l_size_of : K.lookup f_size_of = some ⟨oc_size_of, od_size_of, .func (PySem.W.fnOf "size_of" "size_of" (defArgs s_size_of) (defBody s_size_of) (defScope s_size_of) .none kV_size_of dc_size_of pm_size_of an_size_of cd_size_of ct_size_of), sl_size_of⟩)
    (e_size_of : PySem.W.codeIn K cd_size_of "size_of" = true)
    (p_size_of : PySem.W.keepIn K (.ref f_size_of) = true)
    (a_least_sizes : PySem.W.nsIn K mainGlobals "least_sizes" = some (some (.ref f_least_sizes)))
    (l_least_sizes : K.lookup f_least_sizes = some ⟨oc_least_sizes, od_least_sizes, .func (PySem.W.fnOf "least_sizes" "least_sizes" (defArgs s_least_sizes) (defBody s_least_sizes) (defScope s_least_sizes) .none kV_least_sizes dc_least_sizes pm_least_sizes an_least_sizes cd_least_sizes ct_least_sizes), sl_least_sizes⟩)
    (e_least_sizes : PySem.W.codeIn K cd_least_sizes "least_sizes" = true)
    (p_least_sizes : PySem.W.keepIn K (.ref f_least_sizes) = true)
    (a_least : PySem.W.nsIn K mainGlobals "least" = some (some (.ref f_least)))
    (l_least : K.lookup f_least = some ⟨oc_least, od_least, .func (PySem.W.fnOf "least" "least" (defArgs s_least) (defBody s_least) (defScope s_least) .none kV_least dc_least pm_least an_least cd_least ct_least), sl_least⟩)
    (e_least : PySem.W.codeIn K cd_least "least" = true)
    (p_least : PySem.W.keepIn K (.ref f_least) = true)
    (a_least_rule : PySem.W.nsIn K mainGlobals "least_rule" = some (some (.ref f_least_rule)))
    (l_least_rule : K.lookup f_least_rule = some ⟨oc_least_rule, od_least_rule, .func (PySem.W.fnOf "least_rule" "least_rule" (defArgs s_least_rule) (defBody s_least_rule) (defScope s_least_rule) .none kV_least_rule dc_least_rule pm_least_rule an_least_rule cd_least_rule ct_least_rule), sl_least_rule⟩)
    (e_least_rule : PySem.W.codeIn K cd_least_rule "least_rule" = true)
    (p_least_rule : PySem.W.keepIn K (.ref f_least_rule) = true)
    (a_least_row : PySem.W.nsIn K mainGlobals "least_row" = some (some (.ref f_least_row)))
    (l_least_row : K.lookup f_least_row = some ⟨oc_least_row, od_least_row, .func (PySem.W.fnOf "least_row" "least_row" (defArgs s_least_row) (defBody s_least_row) (defScope s_least_row) .none kV_least_row dc_least_row pm_least_row an_least_row cd_least_row ct_least_row), sl_least_row⟩)
    (e_least_row : PySem.W.codeIn K cd_least_row "least_row" = true)
    (p_least_row : PySem.W.keepIn K (.ref f_least_row) = true)
    (a_roundabouts : PySem.W.nsIn K mainGlobals "roundabouts" = some (some (.ref f_roundabouts)))
    (l_roundabouts : K.lookup f_roundabouts = some ⟨oc_roundabouts, od_roundabouts, .func (PySem.W.fnOf "roundabouts" "roundabouts" (defArgs s_roundabouts) (defBody s_roundabouts) (defScope s_roundabouts) .none kV_roundabouts dc_roundabouts pm_roundabouts an_roundabouts cd_roundabouts ct_roundabouts), sl_roundabouts⟩)
    (e_roundabouts : PySem.W.codeIn K cd_roundabouts "roundabouts" = true)
    (p_roundabouts : PySem.W.keepIn K (.ref f_roundabouts) = true)
    (a_needed : PySem.W.nsIn K mainGlobals "needed" = some (some (.ref f_needed)))
    (l_needed : K.lookup f_needed = some ⟨oc_needed, od_needed, .func (PySem.W.fnOf "needed" "needed" (defArgs s_needed) (defBody s_needed) (defScope s_needed) .none kV_needed dc_needed pm_needed an_needed cd_needed ct_needed), sl_needed⟩)
    (e_needed : PySem.W.codeIn K cd_needed "needed" = true)
    (p_needed : PySem.W.keepIn K (.ref f_needed) = true)
    (a_row_with : PySem.W.nsIn K mainGlobals "row_with" = some (some (.ref f_row_with)))
    (l_row_with : K.lookup f_row_with = some ⟨oc_row_with, od_row_with, .func (PySem.W.fnOf "row_with" "row_with" (defArgs s_row_with) (defBody s_row_with) (defScope s_row_with) .none kV_row_with dc_row_with pm_row_with an_row_with cd_row_with ct_row_with), sl_row_with⟩)
    (e_row_with : PySem.W.codeIn K cd_row_with "row_with" = true)
    (p_row_with : PySem.W.keepIn K (.ref f_row_with) = true)
    (a_law_cell_at : PySem.W.nsIn K mainGlobals "_law_cell_at" = some (some (.ref f_law_cell_at)))
    (l_law_cell_at : K.lookup f_law_cell_at = some ⟨oc_law_cell_at, od_law_cell_at, .func (PySem.W.fnOf "_law_cell_at" "_law_cell_at" (defArgs s_law_cell_at) (defBody s_law_cell_at) (defScope s_law_cell_at) .none kV_law_cell_at dc_law_cell_at pm_law_cell_at an_law_cell_at cd_law_cell_at ct_law_cell_at), sl_law_cell_at⟩)
    (e_law_cell_at : PySem.W.codeIn K cd_law_cell_at "_law_cell_at" = true)
    (p_law_cell_at : PySem.W.keepIn K (.ref f_law_cell_at) = true)
    (a_law_mixed : PySem.W.nsIn K mainGlobals "_law_mixed" = some (some (.ref f_law_mixed)))
    (l_law_mixed : K.lookup f_law_mixed = some ⟨oc_law_mixed, od_law_mixed, .func (PySem.W.fnOf "_law_mixed" "_law_mixed" (defArgs s_law_mixed) (defBody s_law_mixed) (defScope s_law_mixed) .none kV_law_mixed dc_law_mixed pm_law_mixed an_law_mixed cd_law_mixed ct_law_mixed), sl_law_mixed⟩)
    (e_law_mixed : PySem.W.codeIn K cd_law_mixed "_law_mixed" = true)
    (p_law_mixed : PySem.W.keepIn K (.ref f_law_mixed) = true)
    (a_law_signs : PySem.W.nsIn K mainGlobals "_law_signs" = some (some (.ref f_law_signs)))
    (l_law_signs : K.lookup f_law_signs = some ⟨oc_law_signs, od_law_signs, .func (PySem.W.fnOf "_law_signs" "_law_signs" (defArgs s_law_signs) (defBody s_law_signs) (defScope s_law_signs) .none kV_law_signs dc_law_signs pm_law_signs an_law_signs cd_law_signs ct_law_signs), sl_law_signs⟩)
    (e_law_signs : PySem.W.codeIn K cd_law_signs "_law_signs" = true)
    (p_law_signs : PySem.W.keepIn K (.ref f_law_signs) = true)
    (a_law_names : PySem.W.nsIn K mainGlobals "_law_names" = some (some (.ref f_law_names)))
    (l_law_names : K.lookup f_law_names = some ⟨oc_law_names, od_law_names, .func (PySem.W.fnOf "_law_names" "_law_names" (defArgs s_law_names) (defBody s_law_names) (defScope s_law_names) .none kV_law_names dc_law_names pm_law_names an_law_names cd_law_names ct_law_names), sl_law_names⟩)
    (e_law_names : PySem.W.codeIn K cd_law_names "_law_names" = true)
    (p_law_names : PySem.W.keepIn K (.ref f_law_names) = true)
    (a_law_worth : PySem.W.nsIn K mainGlobals "_law_worth" = some (some (.ref f_law_worth)))
    (l_law_worth : K.lookup f_law_worth = some ⟨oc_law_worth, od_law_worth, .func (PySem.W.fnOf "_law_worth" "_law_worth" (defArgs s_law_worth) (defBody s_law_worth) (defScope s_law_worth) .none kV_law_worth dc_law_worth pm_law_worth an_law_worth cd_law_worth ct_law_worth), sl_law_worth⟩)
    (e_law_worth : PySem.W.codeIn K cd_law_worth "_law_worth" = true)
    (p_law_worth : PySem.W.keepIn K (.ref f_law_worth) = true)
    (a_law_parts : PySem.W.nsIn K mainGlobals "_law_parts" = some (some (.ref f_law_parts)))
    (l_law_parts : K.lookup f_law_parts = some ⟨oc_law_parts, od_law_parts, .func (PySem.W.fnOf "_law_parts" "_law_parts" (defArgs s_law_parts) (defBody s_law_parts) (defScope s_law_parts) .none kV_law_parts dc_law_parts pm_law_parts an_law_parts cd_law_parts ct_law_parts), sl_law_parts⟩)
    (e_law_parts : PySem.W.codeIn K cd_law_parts "_law_parts" = true)
    (p_law_parts : PySem.W.keepIn K (.ref f_law_parts) = true)
    (a_law_bare : PySem.W.nsIn K mainGlobals "_law_bare" = some (some (.ref f_law_bare)))
    (l_law_bare : K.lookup f_law_bare = some ⟨oc_law_bare, od_law_bare, .func (PySem.W.fnOf "_law_bare" "_law_bare" (defArgs s_law_bare) (defBody s_law_bare) (defScope s_law_bare) .none kV_law_bare dc_law_bare pm_law_bare an_law_bare cd_law_bare ct_law_bare), sl_law_bare⟩)
    (e_law_bare : PySem.W.codeIn K cd_law_bare "_law_bare" = true)
    (p_law_bare : PySem.W.keepIn K (.ref f_law_bare) = true)
    (a_law_ends : PySem.W.nsIn K mainGlobals "_law_ends" = some (some (.ref f_law_ends)))
    (l_law_ends : K.lookup f_law_ends = some ⟨oc_law_ends, od_law_ends, .func (PySem.W.fnOf "_law_ends" "_law_ends" (defArgs s_law_ends) (defBody s_law_ends) (defScope s_law_ends) .none kV_law_ends dc_law_ends pm_law_ends an_law_ends cd_law_ends ct_law_ends), sl_law_ends⟩)
    (e_law_ends : PySem.W.codeIn K cd_law_ends "_law_ends" = true)
    (p_law_ends : PySem.W.keepIn K (.ref f_law_ends) = true)
    (a_law_open : PySem.W.nsIn K mainGlobals "_law_open" = some (some (.ref f_law_open)))
    (l_law_open : K.lookup f_law_open = some ⟨oc_law_open, od_law_open, .func (PySem.W.fnOf "_law_open" "_law_open" (defArgs s_law_open) (defBody s_law_open) (defScope s_law_open) .none kV_law_open dc_law_open pm_law_open an_law_open cd_law_open ct_law_open), sl_law_open⟩)
    (e_law_open : PySem.W.codeIn K cd_law_open "_law_open" = true)
    (p_law_open : PySem.W.keepIn K (.ref f_law_open) = true)
    (a_law_row : PySem.W.nsIn K mainGlobals "_law_row" = some (some (.ref f_law_row)))
    (l_law_row : K.lookup f_law_row = some ⟨oc_law_row, od_law_row, .func (PySem.W.fnOf "_law_row" "_law_row" (defArgs s_law_row) (defBody s_law_row) (defScope s_law_row) .none kV_law_row dc_law_row pm_law_row an_law_row cd_law_row ct_law_row), sl_law_row⟩)
    (e_law_row : PySem.W.codeIn K cd_law_row "_law_row" = true)
    (p_law_row : PySem.W.keepIn K (.ref f_law_row) = true)
    (a_law_read : PySem.W.nsIn K mainGlobals "_law_read" = some (some (.ref f_law_read)))
    (l_law_read : K.lookup f_law_read = some ⟨oc_law_read, od_law_read, .func (PySem.W.fnOf "_law_read" "_law_read" (defArgs s_law_read) (defBody s_law_read) (defScope s_law_read) .none kV_law_read dc_law_read pm_law_read an_law_read cd_law_read ct_law_read), sl_law_read⟩)
    (e_law_read : PySem.W.codeIn K cd_law_read "_law_read" = true)
    (p_law_read : PySem.W.keepIn K (.ref f_law_read) = true)
    (a_law_whole : PySem.W.nsIn K mainGlobals "_law_whole" = some (some (.ref f_law_whole)))
    (l_law_whole : K.lookup f_law_whole = some ⟨oc_law_whole, od_law_whole, .func (PySem.W.fnOf "_law_whole" "_law_whole" (defArgs s_law_whole) (defBody s_law_whole) (defScope s_law_whole) .none kV_law_whole dc_law_whole pm_law_whole an_law_whole cd_law_whole ct_law_whole), sl_law_whole⟩)
    (e_law_whole : PySem.W.codeIn K cd_law_whole "_law_whole" = true)
    (p_law_whole : PySem.W.keepIn K (.ref f_law_whole) = true)
    (a_law_numbers : PySem.W.nsIn K mainGlobals "_law_numbers" = some (some (.ref f_law_numbers)))
    (l_law_numbers : K.lookup f_law_numbers = some ⟨oc_law_numbers, od_law_numbers, .func (PySem.W.fnOf "_law_numbers" "_law_numbers" (defArgs s_law_numbers) (defBody s_law_numbers) (defScope s_law_numbers) .none kV_law_numbers dc_law_numbers pm_law_numbers an_law_numbers cd_law_numbers ct_law_numbers), sl_law_numbers⟩)
    (e_law_numbers : PySem.W.codeIn K cd_law_numbers "_law_numbers" = true)
    (p_law_numbers : PySem.W.keepIn K (.ref f_law_numbers) = true)
    (a_law_asked : PySem.W.nsIn K mainGlobals "_law_asked" = some (some (.ref f_law_asked)))
    (l_law_asked : K.lookup f_law_asked = some ⟨oc_law_asked, od_law_asked, .func (PySem.W.fnOf "_law_asked" "_law_asked" (defArgs s_law_asked) (defBody s_law_asked) (defScope s_law_asked) .none kV_law_asked dc_law_asked pm_law_asked an_law_asked cd_law_asked ct_law_asked), sl_law_asked⟩)
    (e_law_asked : PySem.W.codeIn K cd_law_asked "_law_asked" = true)
    (p_law_asked : PySem.W.keepIn K (.ref f_law_asked) = true)
    (a_law_no_grammar : PySem.W.nsIn K mainGlobals "_law_no_grammar" = some (some (.ref f_law_no_grammar)))
    (l_law_no_grammar : K.lookup f_law_no_grammar = some ⟨oc_law_no_grammar, od_law_no_grammar, .func (PySem.W.fnOf "_law_no_grammar" "_law_no_grammar" (defArgs s_law_no_grammar) (defBody s_law_no_grammar) (defScope s_law_no_grammar) .none kV_law_no_grammar dc_law_no_grammar pm_law_no_grammar an_law_no_grammar cd_law_no_grammar ct_law_no_grammar), sl_law_no_grammar⟩)
    (e_law_no_grammar : PySem.W.codeIn K cd_law_no_grammar "_law_no_grammar" = true)
    (p_law_no_grammar : PySem.W.keepIn K (.ref f_law_no_grammar) = true)
    (a_law_told : PySem.W.nsIn K mainGlobals "_law_told" = some (some (.ref f_law_told)))
    (l_law_told : K.lookup f_law_told = some ⟨oc_law_told, od_law_told, .func (PySem.W.fnOf "_law_told" "_law_told" (defArgs s_law_told) (defBody s_law_told) (defScope s_law_told) .none kV_law_told dc_law_told pm_law_told an_law_told cd_law_told ct_law_told), sl_law_told⟩)
    (e_law_told : PySem.W.codeIn K cd_law_told "_law_told" = true)
    (p_law_told : PySem.W.keepIn K (.ref f_law_told) = true)
    (a_law_doubled : PySem.W.nsIn K mainGlobals "_law_doubled" = some (some (.ref f_law_doubled)))
    (l_law_doubled : K.lookup f_law_doubled = some ⟨oc_law_doubled, od_law_doubled, .func (PySem.W.fnOf "_law_doubled" "_law_doubled" (defArgs s_law_doubled) (defBody s_law_doubled) (defScope s_law_doubled) .none kV_law_doubled dc_law_doubled pm_law_doubled an_law_doubled cd_law_doubled ct_law_doubled), sl_law_doubled⟩)
    (e_law_doubled : PySem.W.codeIn K cd_law_doubled "_law_doubled" = true)
    (p_law_doubled : PySem.W.keepIn K (.ref f_law_doubled) = true)
    (a_law_great : PySem.W.nsIn K mainGlobals "_law_great" = some (some (.ref f_law_great)))
    (l_law_great : K.lookup f_law_great = some ⟨oc_law_great, od_law_great, .func (PySem.W.fnOf "_law_great" "_law_great" (defArgs s_law_great) (defBody s_law_great) (defScope s_law_great) .none kV_law_great dc_law_great pm_law_great an_law_great cd_law_great ct_law_great), sl_law_great⟩)
    (e_law_great : PySem.W.codeIn K cd_law_great "_law_great" = true)
    (p_law_great : PySem.W.keepIn K (.ref f_law_great) = true)
    (a_law : PySem.W.nsIn K mainGlobals "law" = some (some (.ref f_law)))
    (l_law : K.lookup f_law = some ⟨oc_law, od_law, .func (PySem.W.fnOf "law" "law" (defArgs s_law) (defBody s_law) (defScope s_law) .none kV_law dc_law pm_law an_law cd_law ct_law), sl_law⟩)
    (e_law : PySem.W.codeIn K cd_law "law" = true)
    (p_law : PySem.W.keepIn K (.ref f_law) = true)
    : ∃ fd : FuncData, (∀ (s : Shared) (v : Value), BindsTo s fd ⟨[v], []⟩ [("_law_script", v)]) ∧ ∀ base : Heap, K.In base → base.Ns mainGlobals mg → FnOk l.prog w K mg base (L2.CX l.prog w) 9 fa fd ["_law_script"] (sp1 (R_law K)) := by
  have e := hfa.symm.trans (PySem.W.mg_of X G a_law)
  cases e
  have T : Txt K mg ⟨0, C_ForestError, C_NoGrammar, C_NoText, C_NoRow, C_NoRule, C_NoNumber, C_NoCosts, C_NoChange, C_NoWords, C_Endless, C_TooGreat, C_Barren⟩ := {
    b_ValueError := ⟨PySem.W.mg_none_of X G b_ValueError⟩,
    b_bool := ⟨PySem.W.mg_none_of X G b_bool⟩,
    b_dict := ⟨PySem.W.mg_none_of X G b_dict⟩,
    b_enumerate := ⟨PySem.W.mg_none_of X G b_enumerate⟩,
    b_int := ⟨PySem.W.mg_none_of X G b_int⟩,
    b_isinstance := ⟨PySem.W.mg_none_of X G b_isinstance⟩,
    b_len := ⟨PySem.W.mg_none_of X G b_len⟩,
    b_list := ⟨PySem.W.mg_none_of X G b_list⟩,
    b_max := ⟨PySem.W.mg_none_of X G b_max⟩,
    b_min := ⟨PySem.W.mg_none_of X G b_min⟩,
    b_ord := ⟨PySem.W.mg_none_of X G b_ord⟩,
    b_range := ⟨PySem.W.mg_none_of X G b_range⟩,
    b_reversed := ⟨PySem.W.mg_none_of X G b_reversed⟩,
    b_sorted := ⟨PySem.W.mg_none_of X G b_sorted⟩,
    b_str := ⟨PySem.W.mg_none_of X G b_str⟩,
    b_tuple := ⟨PySem.W.mg_none_of X G b_tuple⟩,
    k_MOST_RULES := ⟨_, PySem.W.mg_of X G k_MOST_RULES⟩,
    k_MOST_PARTS := ⟨_, PySem.W.mg_of X G k_MOST_PARTS⟩,
    k_MOST_WORTH := ⟨_, PySem.W.mg_of X G k_MOST_WORTH⟩,
    k_MOST_NUMBERS := ⟨_, PySem.W.mg_of X G k_MOST_NUMBERS⟩,
    x_ForestError := ⟨PySem.W.mg_of X G g_ForestError, ex_ForestError, kc_ForestError, bc_ForestError, tc_ForestError, ic_ForestError, ga_ForestError, gk_ForestError, hd_ForestError, ha_ForestError, hn_ForestError, ht_ForestError, hm_ForestError, ve_ForestError⟩,
    x_NoGrammar := ⟨PySem.W.mg_of X G g_NoGrammar, ex_NoGrammar, kc_NoGrammar, bc_NoGrammar, tc_NoGrammar, ic_NoGrammar, ga_NoGrammar, gk_NoGrammar, hd_NoGrammar, ha_NoGrammar, hn_NoGrammar, ht_NoGrammar, hm_NoGrammar, ve_NoGrammar⟩,
    x_NoText := ⟨PySem.W.mg_of X G g_NoText, ex_NoText, kc_NoText, bc_NoText, tc_NoText, ic_NoText, ga_NoText, gk_NoText, hd_NoText, ha_NoText, hn_NoText, ht_NoText, hm_NoText, ve_NoText⟩,
    x_NoRow := ⟨PySem.W.mg_of X G g_NoRow, ex_NoRow, kc_NoRow, bc_NoRow, tc_NoRow, ic_NoRow, ga_NoRow, gk_NoRow, hd_NoRow, ha_NoRow, hn_NoRow, ht_NoRow, hm_NoRow, ve_NoRow⟩,
    x_NoRule := ⟨PySem.W.mg_of X G g_NoRule, ex_NoRule, kc_NoRule, bc_NoRule, tc_NoRule, ic_NoRule, ga_NoRule, gk_NoRule, hd_NoRule, ha_NoRule, hn_NoRule, ht_NoRule, hm_NoRule, ve_NoRule⟩,
    x_NoNumber := ⟨PySem.W.mg_of X G g_NoNumber, ex_NoNumber, kc_NoNumber, bc_NoNumber, tc_NoNumber, ic_NoNumber, ga_NoNumber, gk_NoNumber, hd_NoNumber, ha_NoNumber, hn_NoNumber, ht_NoNumber, hm_NoNumber, ve_NoNumber⟩,
    x_NoCosts := ⟨PySem.W.mg_of X G g_NoCosts, ex_NoCosts, kc_NoCosts, bc_NoCosts, tc_NoCosts, ic_NoCosts, ga_NoCosts, gk_NoCosts, hd_NoCosts, ha_NoCosts, hn_NoCosts, ht_NoCosts, hm_NoCosts, ve_NoCosts⟩,
    x_NoChange := ⟨PySem.W.mg_of X G g_NoChange, ex_NoChange, kc_NoChange, bc_NoChange, tc_NoChange, ic_NoChange, ga_NoChange, gk_NoChange, hd_NoChange, ha_NoChange, hn_NoChange, ht_NoChange, hm_NoChange, ve_NoChange⟩,
    x_NoWords := ⟨PySem.W.mg_of X G g_NoWords, ex_NoWords, kc_NoWords, bc_NoWords, tc_NoWords, ic_NoWords, ga_NoWords, gk_NoWords, hd_NoWords, ha_NoWords, hn_NoWords, ht_NoWords, hm_NoWords, ve_NoWords⟩,
    x_Endless := ⟨PySem.W.mg_of X G g_Endless, ex_Endless, kc_Endless, bc_Endless, tc_Endless, ic_Endless, ga_Endless, gk_Endless, hd_Endless, ha_Endless, hn_Endless, ht_Endless, hm_Endless, ve_Endless⟩,
    x_TooGreat := ⟨PySem.W.mg_of X G g_TooGreat, ex_TooGreat, kc_TooGreat, bc_TooGreat, tc_TooGreat, ic_TooGreat, ga_TooGreat, gk_TooGreat, hd_TooGreat, ha_TooGreat, hn_TooGreat, ht_TooGreat, hm_TooGreat, ve_TooGreat⟩,
    x_Barren := ⟨PySem.W.mg_of X G g_Barren, ex_Barren, kc_Barren, bc_Barren, tc_Barren, ic_Barren, ga_Barren, gk_Barren, hd_Barren, ha_Barren, hn_Barren, ht_Barren, hm_Barren, ve_Barren⟩,
    s_NoGrammar_ForestError := su_NoGrammar_ForestError,
    s_NoGrammar_NoGrammar := su_NoGrammar_NoGrammar,
    s_NoGrammar_NoText := su_NoGrammar_NoText,
    s_NoGrammar_NoRow := su_NoGrammar_NoRow,
    s_NoGrammar_NoRule := su_NoGrammar_NoRule,
    s_NoGrammar_NoNumber := su_NoGrammar_NoNumber,
    s_NoGrammar_NoCosts := su_NoGrammar_NoCosts,
    s_NoGrammar_NoChange := su_NoGrammar_NoChange,
    s_NoGrammar_NoWords := su_NoGrammar_NoWords,
    s_NoGrammar_Endless := su_NoGrammar_Endless,
    s_NoGrammar_TooGreat := su_NoGrammar_TooGreat,
    s_NoGrammar_Barren := su_NoGrammar_Barren,
    s_NoRow_ForestError := su_NoRow_ForestError,
    s_NoRow_NoGrammar := su_NoRow_NoGrammar,
    s_NoRow_NoText := su_NoRow_NoText,
    s_NoRow_NoRow := su_NoRow_NoRow,
    s_NoRow_NoRule := su_NoRow_NoRule,
    s_NoRow_NoNumber := su_NoRow_NoNumber,
    s_NoRow_NoCosts := su_NoRow_NoCosts,
    s_NoRow_NoChange := su_NoRow_NoChange,
    s_NoRow_NoWords := su_NoRow_NoWords,
    s_NoRow_Endless := su_NoRow_Endless,
    s_NoRow_TooGreat := su_NoRow_TooGreat,
    s_NoRow_Barren := su_NoRow_Barren,
    s_TooGreat_ForestError := su_TooGreat_ForestError,
    s_TooGreat_NoGrammar := su_TooGreat_NoGrammar,
    s_TooGreat_NoText := su_TooGreat_NoText,
    s_TooGreat_NoRow := su_TooGreat_NoRow,
    s_TooGreat_NoRule := su_TooGreat_NoRule,
    s_TooGreat_NoNumber := su_TooGreat_NoNumber,
    s_TooGreat_NoCosts := su_TooGreat_NoCosts,
    s_TooGreat_NoChange := su_TooGreat_NoChange,
    s_TooGreat_NoWords := su_TooGreat_NoWords,
    s_TooGreat_Endless := su_TooGreat_Endless,
    s_TooGreat_TooGreat := su_TooGreat_TooGreat,
    s_TooGreat_Barren := su_TooGreat_Barren,
    f_is_whole := ⟨f_is_whole, _, PySem.W.mg_of X G a_is_whole, (fun_mk (st := s_is_whole) l_is_whole e_is_whole p_is_whole), ((fun_mk (st := s_is_whole) l_is_whole e_is_whole p_is_whole).binds (ps := ["thing"]) fun _ _ _ _ _ _ us hl => match us, hl with | [_], _ => rfl)⟩,
    f_may_stand := ⟨f_may_stand, _, PySem.W.mg_of X G a_may_stand, (fun_mk (st := s_may_stand) l_may_stand e_may_stand p_may_stand), ((fun_mk (st := s_may_stand) l_may_stand e_may_stand p_may_stand).binds (ps := ["sign"]) fun _ _ _ _ _ _ us hl => match us, hl with | [_], _ => rfl)⟩,
    f_is_sign := ⟨f_is_sign, _, PySem.W.mg_of X G a_is_sign, (fun_mk (st := s_is_sign) l_is_sign e_is_sign p_is_sign), ((fun_mk (st := s_is_sign) l_is_sign e_is_sign p_is_sign).binds (ps := ["thing"]) fun _ _ _ _ _ _ us hl => match us, hl with | [_], _ => rfl)⟩,
    f_is_name := ⟨f_is_name, _, PySem.W.mg_of X G a_is_name, (fun_mk (st := s_is_name) l_is_name e_is_name p_is_name), ((fun_mk (st := s_is_name) l_is_name e_is_name p_is_name).binds (ps := ["thing"]) fun _ _ _ _ _ _ us hl => match us, hl with | [_], _ => rfl)⟩,
    f_are_parts := ⟨f_are_parts, _, PySem.W.mg_of X G a_are_parts, (fun_mk (st := s_are_parts) l_are_parts e_are_parts p_are_parts), ((fun_mk (st := s_are_parts) l_are_parts e_are_parts p_are_parts).binds (ps := ["thing"]) fun _ _ _ _ _ _ us hl => match us, hl with | [_], _ => rfl)⟩,
    f_is_rule := ⟨f_is_rule, _, PySem.W.mg_of X G a_is_rule, (fun_mk (st := s_is_rule) l_is_rule e_is_rule p_is_rule), ((fun_mk (st := s_is_rule) l_is_rule e_is_rule p_is_rule).binds (ps := ["thing"]) fun _ _ _ _ _ _ us hl => match us, hl with | [_], _ => rfl)⟩,
    f_checked := ⟨f_checked, _, PySem.W.mg_of X G a_checked, (fun_mk (st := s_checked) l_checked e_checked p_checked), ((fun_mk (st := s_checked) l_checked e_checked p_checked).binds (ps := ["thing"]) fun _ _ _ _ _ _ us hl => match us, hl with | [_], _ => rfl)⟩,
    f_rules_by_head := ⟨f_rules_by_head, _, PySem.W.mg_of X G a_rules_by_head, (fun_mk (st := s_rules_by_head) l_rules_by_head e_rules_by_head p_rules_by_head), ((fun_mk (st := s_rules_by_head) l_rules_by_head e_rules_by_head p_rules_by_head).binds (ps := ["rules"]) fun _ _ _ _ _ _ us hl => match us, hl with | [_], _ => rfl)⟩,
    f_size_of := ⟨f_size_of, _, PySem.W.mg_of X G a_size_of, (fun_mk (st := s_size_of) l_size_of e_size_of p_size_of), ((fun_mk (st := s_size_of) l_size_of e_size_of p_size_of).binds (ps := ["parts", "sizes"]) fun _ _ _ _ _ _ us hl => match us, hl with | [_, _], _ => rfl)⟩,
    f_least_sizes := ⟨f_least_sizes, _, PySem.W.mg_of X G a_least_sizes, (fun_mk (st := s_least_sizes) l_least_sizes e_least_sizes p_least_sizes), ((fun_mk (st := s_least_sizes) l_least_sizes e_least_sizes p_least_sizes).binds (ps := ["rules"]) fun _ _ _ _ _ _ us hl => match us, hl with | [_], _ => rfl)⟩,
    f_least := ⟨f_least, _, PySem.W.mg_of X G a_least, (fun_mk (st := s_least) l_least e_least p_least), ((fun_mk (st := s_least) l_least e_least p_least).binds (ps := ["grammar"]) fun _ _ _ _ _ _ us hl => match us, hl with | [_], _ => rfl)⟩,
    f_least_rule := ⟨f_least_rule, _, PySem.W.mg_of X G a_least_rule, (fun_mk (st := s_least_rule) l_least_rule e_least_rule p_least_rule), ((fun_mk (st := s_least_rule) l_least_rule e_least_rule p_least_rule).binds (ps := ["rules", "by", "sizes", "head"]) fun _ _ _ _ _ _ us hl => match us, hl with | [_, _, _, _], _ => rfl)⟩,
    f_least_row := ⟨f_least_row, _, PySem.W.mg_of X G a_least_row, (fun_mk (st := s_least_row) l_least_row e_least_row p_least_row), ((fun_mk (st := s_least_row) l_least_row e_least_row p_least_row).binds (ps := ["rules", "by", "sizes", "parts"]) fun _ _ _ _ _ _ us hl => match us, hl with | [_, _, _, _], _ => rfl)⟩,
    f_roundabouts := ⟨f_roundabouts, _, PySem.W.mg_of X G a_roundabouts, (fun_mk (st := s_roundabouts) l_roundabouts e_roundabouts p_roundabouts), ((fun_mk (st := s_roundabouts) l_roundabouts e_roundabouts p_roundabouts).binds (ps := ["rules", "sizes"]) fun _ _ _ _ _ _ us hl => match us, hl with | [_, _], _ => rfl)⟩,
    f_needed := ⟨f_needed, _, PySem.W.mg_of X G a_needed, (fun_mk (st := s_needed) l_needed e_needed p_needed), ((fun_mk (st := s_needed) l_needed e_needed p_needed).binds (ps := ["grammar"]) fun _ _ _ _ _ _ us hl => match us, hl with | [_], _ => rfl)⟩,
    f_row_with := ⟨f_row_with, _, PySem.W.mg_of X G a_row_with, (fun_mk (st := s_row_with) l_row_with e_row_with p_row_with), ((fun_mk (st := s_row_with) l_row_with e_row_with p_row_with).binds (ps := ["grammar", "number"]) fun _ _ _ _ _ _ us hl => match us, hl with | [_, _], _ => rfl)⟩,
    f_law_cell_at := ⟨f_law_cell_at, _, PySem.W.mg_of X G a_law_cell_at, (fun_mk (st := s_law_cell_at) l_law_cell_at e_law_cell_at p_law_cell_at), ((fun_mk (st := s_law_cell_at) l_law_cell_at e_law_cell_at p_law_cell_at).binds (ps := ["_law_script", "_law_k"]) fun _ _ _ _ _ _ us hl => match us, hl with | [_, _], _ => rfl)⟩,
    f_law_mixed := ⟨f_law_mixed, _, PySem.W.mg_of X G a_law_mixed, (fun_mk (st := s_law_mixed) l_law_mixed e_law_mixed p_law_mixed), ((fun_mk (st := s_law_mixed) l_law_mixed e_law_mixed p_law_mixed).binds (ps := ["_law_script", "_law_k"]) fun _ _ _ _ _ _ us hl => match us, hl with | [_, _], _ => rfl)⟩,
    f_law_signs := ⟨f_law_signs, _, PySem.W.mg_of X G a_law_signs, (fun_mk (st := s_law_signs) l_law_signs e_law_signs p_law_signs), ((fun_mk (st := s_law_signs) l_law_signs e_law_signs p_law_signs).binds (ps := ["_law_cell"]) fun _ _ _ _ _ _ us hl => match us, hl with | [_], _ => rfl)⟩,
    f_law_names := ⟨f_law_names, _, PySem.W.mg_of X G a_law_names, (fun_mk (st := s_law_names) l_law_names e_law_names p_law_names), ((fun_mk (st := s_law_names) l_law_names e_law_names p_law_names).binds (ps := ["_law_cell"]) fun _ _ _ _ _ _ us hl => match us, hl with | [_], _ => rfl)⟩,
    f_law_worth := ⟨f_law_worth, _, PySem.W.mg_of X G a_law_worth, (fun_mk (st := s_law_worth) l_law_worth e_law_worth p_law_worth), ((fun_mk (st := s_law_worth) l_law_worth e_law_worth p_law_worth).binds (ps := ["_law_cell"]) fun _ _ _ _ _ _ us hl => match us, hl with | [_], _ => rfl)⟩,
    f_law_parts := ⟨f_law_parts, _, PySem.W.mg_of X G a_law_parts, (fun_mk (st := s_law_parts) l_law_parts e_law_parts p_law_parts), ((fun_mk (st := s_law_parts) l_law_parts e_law_parts p_law_parts).binds (ps := ["_law_cell", "_law_menu", "_law_most"]) fun _ _ _ _ _ _ us hl => match us, hl with | [_, _, _], _ => rfl)⟩,
    f_law_bare := ⟨f_law_bare, _, PySem.W.mg_of X G a_law_bare, (fun_mk (st := s_law_bare) l_law_bare e_law_bare p_law_bare), ((fun_mk (st := s_law_bare) l_law_bare e_law_bare p_law_bare).binds (ps := ["_law_script", "_law_many", "_law_most"]) fun _ _ _ _ _ _ us hl => match us, hl with | [_, _, _], _ => rfl)⟩,
    f_law_ends := ⟨f_law_ends, _, PySem.W.mg_of X G a_law_ends, (fun_mk (st := s_law_ends) l_law_ends e_law_ends p_law_ends), ((fun_mk (st := s_law_ends) l_law_ends e_law_ends p_law_ends).binds (ps := ["_law_grammar"]) fun _ _ _ _ _ _ us hl => match us, hl with | [_], _ => rfl)⟩,
    f_law_open := ⟨f_law_open, _, PySem.W.mg_of X G a_law_open, (fun_mk (st := s_law_open) l_law_open e_law_open p_law_open), ((fun_mk (st := s_law_open) l_law_open e_law_open p_law_open).binds (ps := ["_law_grammar", "_law_shorts", "_law_name"]) fun _ _ _ _ _ _ us hl => match us, hl with | [_, _, _], _ => rfl)⟩,
    f_law_row := ⟨f_law_row, _, PySem.W.mg_of X G a_law_row, (fun_mk (st := s_law_row) l_law_row e_law_row p_law_row), ((fun_mk (st := s_law_row) l_law_row e_law_row p_law_row).binds (ps := ["_law_grammar", "_law_cells", "_law_room"]) fun _ _ _ _ _ _ us hl => match us, hl with | [_, _, _], _ => rfl)⟩,
    f_law_read := ⟨f_law_read, _, PySem.W.mg_of X G a_law_read, (fun_mk (st := s_law_read) l_law_read e_law_read p_law_read), ((fun_mk (st := s_law_read) l_law_read e_law_read p_law_read).binds (ps := ["_law_grammar", "_law_row_here"]) fun _ _ _ _ _ _ us hl => match us, hl with | [_, _], _ => rfl)⟩,
    f_law_whole := ⟨f_law_whole, _, PySem.W.mg_of X G a_law_whole, (fun_mk (st := s_law_whole) l_law_whole e_law_whole p_law_whole), ((fun_mk (st := s_law_whole) l_law_whole e_law_whole p_law_whole).binds (ps := ["_law_found"]) fun _ _ _ _ _ _ us hl => match us, hl with | [_], _ => rfl)⟩,
    f_law_numbers := ⟨f_law_numbers, _, PySem.W.mg_of X G a_law_numbers, (fun_mk (st := s_law_numbers) l_law_numbers e_law_numbers p_law_numbers), ((fun_mk (st := s_law_numbers) l_law_numbers e_law_numbers p_law_numbers).binds (ps := ["_law_found"]) fun _ _ _ _ _ _ us hl => match us, hl with | [_], _ => rfl)⟩,
    f_law_asked := ⟨f_law_asked, _, PySem.W.mg_of X G a_law_asked, (fun_mk (st := s_law_asked) l_law_asked e_law_asked p_law_asked), ((fun_mk (st := s_law_asked) l_law_asked e_law_asked p_law_asked).binds (ps := ["_law_grammar", "_law_number"]) fun _ _ _ _ _ _ us hl => match us, hl with | [_, _], _ => rfl)⟩,
    f_law_no_grammar := ⟨f_law_no_grammar, _, PySem.W.mg_of X G a_law_no_grammar, (fun_mk (st := s_law_no_grammar) l_law_no_grammar e_law_no_grammar p_law_no_grammar), ((fun_mk (st := s_law_no_grammar) l_law_no_grammar e_law_no_grammar p_law_no_grammar).binds (ps := ["_law_cell", "_law_number"]) fun _ _ _ _ _ _ us hl => match us, hl with | [_, _], _ => rfl)⟩,
    f_law_told := ⟨f_law_told, _, PySem.W.mg_of X G a_law_told, (fun_mk (st := s_law_told) l_law_told e_law_told p_law_told), ((fun_mk (st := s_law_told) l_law_told e_law_told p_law_told).binds (ps := ["_law_grammar", "_law_number", "_law_rows"]) fun _ _ _ _ _ _ us hl => match us, hl with | [_, _, _], _ => rfl)⟩,
    f_law_doubled := ⟨f_law_doubled, _, PySem.W.mg_of X G a_law_doubled, (fun_mk (st := s_law_doubled) l_law_doubled e_law_doubled p_law_doubled), ((fun_mk (st := s_law_doubled) l_law_doubled e_law_doubled p_law_doubled).binds (ps := ["_law_cell"]) fun _ _ _ _ _ _ us hl => match us, hl with | [_], _ => rfl)⟩,
    f_law_great := ⟨f_law_great, _, PySem.W.mg_of X G a_law_great, (fun_mk (st := s_law_great) l_law_great e_law_great p_law_great), ((fun_mk (st := s_law_great) l_law_great e_law_great p_law_great).binds (ps := ["_law_cell"]) fun _ _ _ _ _ _ us hl => match us, hl with | [_], _ => rfl)⟩ }
  exact ⟨PySem.W.fnOf "law" "law" (defArgs s_law) (defBody s_law) (defScope s_law) .none kV_law dc_law pm_law an_law cd_law ct_law, fun s v => .of_eq rfl, fun base _ _ => ok_law (fun_mk (st := s_law) l_law e_law p_law) T⟩
theorem walk {l : PySem.W.OpenLaw} {q : Program} {loose : List Str} {XP : (Str → Option Value) → Heap → Prop} {YP : World → Heap → Prop} {d : DefRec} {K : Params → PySem.W.Frag} (hn : l.most = some 63) (hdf : d.params.defaults = [])
    (hY : ∀ (w : World) (h : Heap), YP w h → (K w.params).In h)
    (F : ∀ (w : World) (mg : Str → Option Value) (fa : Addr) (h : Heap), (K w.params).In h → h.Ns mainGlobals mg → mg d.name = some (.ref fa) →
      ∃ fd : FuncData, (∀ (s : Shared) (u : Value), BindsTo s fd ⟨[u], []⟩ [("_law_script", u)]) ∧ ∀ base : Heap, (K w.params).In base → base.Ns mainGlobals mg → FnOk l.prog w (K w.params) mg base (L2.CX l.prog w) 9 fa fd ["_law_script"] (sp1 (R_law (K w.params)))) :
    PySem.W.WalkO q loose XP YP l.row.toRowW d [] (fun f vs => PySem.call f vs) :=
  L2.walk_of (n := 63) (k := 9) (x := "_law_script") (CX := fun w => L2.CX l.prog w) (sp := fun w => sp1 (R_law (K w.params))) hn (by decide) hdf ⟨rfl, by decide, by decide⟩ hY F (fun _ _ a ns hl _ hS => ⟨_, rfl, a, ns, rfl, hS, hl, fun _ => rfl⟩) fun w H s e s' h => by
    obtain ⟨_, _, _, _, _, _, _, _, _, _, _, _, z⟩ := h
    exact z
end Lw
open PySem PySem.W PyProof.Rows
set_option maxRecDepth 100000 in
set_option maxHeartbeats 0 in
theorem PySem.Challenge.cw_forestread_k13_a_row_with_it_holds : PySem.Challenge.rw_forestread_k13_a_row_with_it.Holds := by
  w_on; o_law; k_head; (case hw => w_witness2)
  k_fill
  refine Lw.walk (l := PySem.Challenge.rw_forestread_k13_a_row_with_it) rfl rfl (fun w h Y => PySem.W.kIn_of Y) ?F
  case F =>
    intro w mg fa h KX G hmg
    refine' Lw.all_mk KX G hmg ?b_ValueError ?b_bool ?b_dict ?b_enumerate ?b_int ?b_isinstance ?b_len ?b_list ?b_max ?b_min ?b_ord ?b_range ?b_reversed ?b_sorted ?b_str ?b_tuple ?k_MOST_RULES ?k_MOST_PARTS ?k_MOST_WORTH ?k_MOST_NUMBERS ?g_ForestError ?ex_ForestError ?kc_ForestError ?bc_ForestError ?tc_ForestError ?ic_ForestError ?ga_ForestError ?gk_ForestError ?hd_ForestError ?ha_ForestError ?hn_ForestError ?ht_ForestError ?hm_ForestError ?ve_ForestError ?g_NoGrammar ?ex_NoGrammar ?kc_NoGrammar ?bc_NoGrammar ?tc_NoGrammar ?ic_NoGrammar ?ga_NoGrammar ?gk_NoGrammar ?hd_NoGrammar ?ha_NoGrammar ?hn_NoGrammar ?ht_NoGrammar ?hm_NoGrammar ?ve_NoGrammar ?g_NoText ?ex_NoText ?kc_NoText ?bc_NoText ?tc_NoText ?ic_NoText ?ga_NoText ?gk_NoText ?hd_NoText ?ha_NoText ?hn_NoText ?ht_NoText ?hm_NoText ?ve_NoText ?g_NoRow ?ex_NoRow ?kc_NoRow ?bc_NoRow ?tc_NoRow ?ic_NoRow ?ga_NoRow ?gk_NoRow ?hd_NoRow ?ha_NoRow ?hn_NoRow ?ht_NoRow ?hm_NoRow ?ve_NoRow ?g_NoRule ?ex_NoRule ?kc_NoRule ?bc_NoRule ?tc_NoRule ?ic_NoRule ?ga_NoRule ?gk_NoRule ?hd_NoRule ?ha_NoRule ?hn_NoRule ?ht_NoRule ?hm_NoRule ?ve_NoRule ?g_NoNumber ?ex_NoNumber ?kc_NoNumber ?bc_NoNumber ?tc_NoNumber ?ic_NoNumber ?ga_NoNumber ?gk_NoNumber ?hd_NoNumber ?ha_NoNumber ?hn_NoNumber ?ht_NoNumber ?hm_NoNumber ?ve_NoNumber ?g_NoCosts ?ex_NoCosts ?kc_NoCosts ?bc_NoCosts ?tc_NoCosts ?ic_NoCosts ?ga_NoCosts ?gk_NoCosts ?hd_NoCosts ?ha_NoCosts ?hn_NoCosts ?ht_NoCosts ?hm_NoCosts ?ve_NoCosts ?g_NoChange ?ex_NoChange ?kc_NoChange ?bc_NoChange ?tc_NoChange ?ic_NoChange ?ga_NoChange ?gk_NoChange ?hd_NoChange ?ha_NoChange ?hn_NoChange ?ht_NoChange ?hm_NoChange ?ve_NoChange ?g_NoWords ?ex_NoWords ?kc_NoWords ?bc_NoWords ?tc_NoWords ?ic_NoWords ?ga_NoWords ?gk_NoWords ?hd_NoWords ?ha_NoWords ?hn_NoWords ?ht_NoWords ?hm_NoWords ?ve_NoWords ?g_Endless ?ex_Endless ?kc_Endless ?bc_Endless ?tc_Endless ?ic_Endless ?ga_Endless ?gk_Endless ?hd_Endless ?ha_Endless ?hn_Endless ?ht_Endless ?hm_Endless ?ve_Endless ?g_TooGreat ?ex_TooGreat ?kc_TooGreat ?bc_TooGreat ?tc_TooGreat ?ic_TooGreat ?ga_TooGreat ?gk_TooGreat ?hd_TooGreat ?ha_TooGreat ?hn_TooGreat ?ht_TooGreat ?hm_TooGreat ?ve_TooGreat ?g_Barren ?ex_Barren ?kc_Barren ?bc_Barren ?tc_Barren ?ic_Barren ?ga_Barren ?gk_Barren ?hd_Barren ?ha_Barren ?hn_Barren ?ht_Barren ?hm_Barren ?ve_Barren ?su_NoGrammar_ForestError ?su_NoGrammar_NoGrammar ?su_NoGrammar_NoText ?su_NoGrammar_NoRow ?su_NoGrammar_NoRule ?su_NoGrammar_NoNumber ?su_NoGrammar_NoCosts ?su_NoGrammar_NoChange ?su_NoGrammar_NoWords ?su_NoGrammar_Endless ?su_NoGrammar_TooGreat ?su_NoGrammar_Barren ?su_NoRow_ForestError ?su_NoRow_NoGrammar ?su_NoRow_NoText ?su_NoRow_NoRow ?su_NoRow_NoRule ?su_NoRow_NoNumber ?su_NoRow_NoCosts ?su_NoRow_NoChange ?su_NoRow_NoWords ?su_NoRow_Endless ?su_NoRow_TooGreat ?su_NoRow_Barren ?su_TooGreat_ForestError ?su_TooGreat_NoGrammar ?su_TooGreat_NoText ?su_TooGreat_NoRow ?su_TooGreat_NoRule ?su_TooGreat_NoNumber ?su_TooGreat_NoCosts ?su_TooGreat_NoChange ?su_TooGreat_NoWords ?su_TooGreat_Endless ?su_TooGreat_TooGreat ?su_TooGreat_Barren ?a_is_whole ?l_is_whole ?e_is_whole ?p_is_whole ?a_may_stand ?l_may_stand ?e_may_stand ?p_may_stand ?a_is_sign ?l_is_sign ?e_is_sign ?p_is_sign ?a_is_name ?l_is_name ?e_is_name ?p_is_name ?a_are_parts ?l_are_parts ?e_are_parts ?p_are_parts ?a_is_rule ?l_is_rule ?e_is_rule ?p_is_rule ?a_checked ?l_checked ?e_checked ?p_checked ?a_rules_by_head ?l_rules_by_head ?e_rules_by_head ?p_rules_by_head ?a_size_of ?l_size_of ?e_size_of ?p_size_of ?a_least_sizes ?l_least_sizes ?e_least_sizes ?p_least_sizes ?a_least ?l_least ?e_least ?p_least ?a_least_rule ?l_least_rule ?e_least_rule ?p_least_rule ?a_least_row ?l_least_row ?e_least_row ?p_least_row ?a_roundabouts ?l_roundabouts ?e_roundabouts ?p_roundabouts ?a_needed ?l_needed ?e_needed ?p_needed ?a_row_with ?l_row_with ?e_row_with ?p_row_with ?a_law_cell_at ?l_law_cell_at ?e_law_cell_at ?p_law_cell_at ?a_law_mixed ?l_law_mixed ?e_law_mixed ?p_law_mixed ?a_law_signs ?l_law_signs ?e_law_signs ?p_law_signs ?a_law_names ?l_law_names ?e_law_names ?p_law_names ?a_law_worth ?l_law_worth ?e_law_worth ?p_law_worth ?a_law_parts ?l_law_parts ?e_law_parts ?p_law_parts ?a_law_bare ?l_law_bare ?e_law_bare ?p_law_bare ?a_law_ends ?l_law_ends ?e_law_ends ?p_law_ends ?a_law_open ?l_law_open ?e_law_open ?p_law_open ?a_law_row ?l_law_row ?e_law_row ?p_law_row ?a_law_read ?l_law_read ?e_law_read ?p_law_read ?a_law_whole ?l_law_whole ?e_law_whole ?p_law_whole ?a_law_numbers ?l_law_numbers ?e_law_numbers ?p_law_numbers ?a_law_asked ?l_law_asked ?e_law_asked ?p_law_asked ?a_law_no_grammar ?l_law_no_grammar ?e_law_no_grammar ?p_law_no_grammar ?a_law_told ?l_law_told ?e_law_told ?p_law_told ?a_law_doubled ?l_law_doubled ?e_law_doubled ?p_law_doubled ?a_law_great ?l_law_great ?e_law_great ?p_law_great ?a_law ?l_law ?e_law ?p_law
    (case b_ValueError => k_is)
    (case b_bool => k_is)
    (case b_dict => k_is)
    (case b_enumerate => k_is)
    (case b_int => k_is)
    (case b_isinstance => k_is)
    (case b_len => k_is)
    (case b_list => k_is)
    (case b_max => k_is)
    (case b_min => k_is)
    (case b_ord => k_is)
    (case b_range => k_is)
    (case b_reversed => k_is)
    (case b_sorted => k_is)
    (case b_str => k_is)
    (case b_tuple => k_is)
    (case k_MOST_RULES => k_is)
    (case k_MOST_PARTS => k_is)
    (case k_MOST_WORTH => k_is)
    (case k_MOST_NUMBERS => k_is)
    (case g_ForestError => k_is)
    (case ex_ForestError => k_exc)
    (case kc_ForestError => k_is)
    (case bc_ForestError => k_is)
    (case tc_ForestError => k_is)
    (case ic_ForestError => k_is)
    (case ga_ForestError => k_is)
    (case gk_ForestError => k_is)
    (case hd_ForestError => k_is)
    (case ha_ForestError => k_is)
    (case hn_ForestError => k_is)
    (case ht_ForestError => k_is)
    (case hm_ForestError => k_is)
    (case ve_ForestError => k_is)
    (case g_NoGrammar => k_is)
    (case ex_NoGrammar => k_exc)
    (case kc_NoGrammar => k_is)
    (case bc_NoGrammar => k_is)
    (case tc_NoGrammar => k_is)
    (case ic_NoGrammar => k_is)
    (case ga_NoGrammar => k_is)
    (case gk_NoGrammar => k_is)
    (case hd_NoGrammar => k_is)
    (case ha_NoGrammar => k_is)
    (case hn_NoGrammar => k_is)
    (case ht_NoGrammar => k_is)
    (case hm_NoGrammar => k_is)
    (case ve_NoGrammar => k_is)
    (case g_NoText => k_is)
    (case ex_NoText => k_exc)
    (case kc_NoText => k_is)
    (case bc_NoText => k_is)
    (case tc_NoText => k_is)
    (case ic_NoText => k_is)
    (case ga_NoText => k_is)
    (case gk_NoText => k_is)
    (case hd_NoText => k_is)
    (case ha_NoText => k_is)
    (case hn_NoText => k_is)
    (case ht_NoText => k_is)
    (case hm_NoText => k_is)
    (case ve_NoText => k_is)
    (case g_NoRow => k_is)
    (case ex_NoRow => k_exc)
    (case kc_NoRow => k_is)
    (case bc_NoRow => k_is)
    (case tc_NoRow => k_is)
    (case ic_NoRow => k_is)
    (case ga_NoRow => k_is)
    (case gk_NoRow => k_is)
    (case hd_NoRow => k_is)
    (case ha_NoRow => k_is)
    (case hn_NoRow => k_is)
    (case ht_NoRow => k_is)
    (case hm_NoRow => k_is)
    (case ve_NoRow => k_is)
    (case g_NoRule => k_is)
    (case ex_NoRule => k_exc)
    (case kc_NoRule => k_is)
    (case bc_NoRule => k_is)
    (case tc_NoRule => k_is)
    (case ic_NoRule => k_is)
    (case ga_NoRule => k_is)
    (case gk_NoRule => k_is)
    (case hd_NoRule => k_is)
    (case ha_NoRule => k_is)
    (case hn_NoRule => k_is)
    (case ht_NoRule => k_is)
    (case hm_NoRule => k_is)
    (case ve_NoRule => k_is)
    (case g_NoNumber => k_is)
    (case ex_NoNumber => k_exc)
    (case kc_NoNumber => k_is)
    (case bc_NoNumber => k_is)
    (case tc_NoNumber => k_is)
    (case ic_NoNumber => k_is)
    (case ga_NoNumber => k_is)
    (case gk_NoNumber => k_is)
    (case hd_NoNumber => k_is)
    (case ha_NoNumber => k_is)
    (case hn_NoNumber => k_is)
    (case ht_NoNumber => k_is)
    (case hm_NoNumber => k_is)
    (case ve_NoNumber => k_is)
    (case g_NoCosts => k_is)
    (case ex_NoCosts => k_exc)
    (case kc_NoCosts => k_is)
    (case bc_NoCosts => k_is)
    (case tc_NoCosts => k_is)
    (case ic_NoCosts => k_is)
    (case ga_NoCosts => k_is)
    (case gk_NoCosts => k_is)
    (case hd_NoCosts => k_is)
    (case ha_NoCosts => k_is)
    (case hn_NoCosts => k_is)
    (case ht_NoCosts => k_is)
    (case hm_NoCosts => k_is)
    (case ve_NoCosts => k_is)
    (case g_NoChange => k_is)
    (case ex_NoChange => k_exc)
    (case kc_NoChange => k_is)
    (case bc_NoChange => k_is)
    (case tc_NoChange => k_is)
    (case ic_NoChange => k_is)
    (case ga_NoChange => k_is)
    (case gk_NoChange => k_is)
    (case hd_NoChange => k_is)
    (case ha_NoChange => k_is)
    (case hn_NoChange => k_is)
    (case ht_NoChange => k_is)
    (case hm_NoChange => k_is)
    (case ve_NoChange => k_is)
    (case g_NoWords => k_is)
    (case ex_NoWords => k_exc)
    (case kc_NoWords => k_is)
    (case bc_NoWords => k_is)
    (case tc_NoWords => k_is)
    (case ic_NoWords => k_is)
    (case ga_NoWords => k_is)
    (case gk_NoWords => k_is)
    (case hd_NoWords => k_is)
    (case ha_NoWords => k_is)
    (case hn_NoWords => k_is)
    (case ht_NoWords => k_is)
    (case hm_NoWords => k_is)
    (case ve_NoWords => k_is)
    (case g_Endless => k_is)
    (case ex_Endless => k_exc)
    (case kc_Endless => k_is)
    (case bc_Endless => k_is)
    (case tc_Endless => k_is)
    (case ic_Endless => k_is)
    (case ga_Endless => k_is)
    (case gk_Endless => k_is)
    (case hd_Endless => k_is)
    (case ha_Endless => k_is)
    (case hn_Endless => k_is)
    (case ht_Endless => k_is)
    (case hm_Endless => k_is)
    (case ve_Endless => k_is)
    (case g_TooGreat => k_is)
    (case ex_TooGreat => k_exc)
    (case kc_TooGreat => k_is)
    (case bc_TooGreat => k_is)
    (case tc_TooGreat => k_is)
    (case ic_TooGreat => k_is)
    (case ga_TooGreat => k_is)
    (case gk_TooGreat => k_is)
    (case hd_TooGreat => k_is)
    (case ha_TooGreat => k_is)
    (case hn_TooGreat => k_is)
    (case ht_TooGreat => k_is)
    (case hm_TooGreat => k_is)
    (case ve_TooGreat => k_is)
    (case g_Barren => k_is)
    (case ex_Barren => k_exc)
    (case kc_Barren => k_is)
    (case bc_Barren => k_is)
    (case tc_Barren => k_is)
    (case ic_Barren => k_is)
    (case ga_Barren => k_is)
    (case gk_Barren => k_is)
    (case hd_Barren => k_is)
    (case ha_Barren => k_is)
    (case hn_Barren => k_is)
    (case ht_Barren => k_is)
    (case hm_Barren => k_is)
    (case ve_Barren => k_is)
    (case su_NoGrammar_ForestError => first | k_is | rfl | decide)
    (case su_NoGrammar_NoGrammar => first | k_is | rfl | decide)
    (case su_NoGrammar_NoText => first | k_is | rfl | decide)
    (case su_NoGrammar_NoRow => first | k_is | rfl | decide)
    (case su_NoGrammar_NoRule => first | k_is | rfl | decide)
    (case su_NoGrammar_NoNumber => first | k_is | rfl | decide)
    (case su_NoGrammar_NoCosts => first | k_is | rfl | decide)
    (case su_NoGrammar_NoChange => first | k_is | rfl | decide)
    (case su_NoGrammar_NoWords => first | k_is | rfl | decide)
    (case su_NoGrammar_Endless => first | k_is | rfl | decide)
    (case su_NoGrammar_TooGreat => first | k_is | rfl | decide)
    (case su_NoGrammar_Barren => first | k_is | rfl | decide)
    (case su_NoRow_ForestError => first | k_is | rfl | decide)
    (case su_NoRow_NoGrammar => first | k_is | rfl | decide)
    (case su_NoRow_NoText => first | k_is | rfl | decide)
    (case su_NoRow_NoRow => first | k_is | rfl | decide)
    (case su_NoRow_NoRule => first | k_is | rfl | decide)
    (case su_NoRow_NoNumber => first | k_is | rfl | decide)
    (case su_NoRow_NoCosts => first | k_is | rfl | decide)
    (case su_NoRow_NoChange => first | k_is | rfl | decide)
    (case su_NoRow_NoWords => first | k_is | rfl | decide)
    (case su_NoRow_Endless => first | k_is | rfl | decide)
    (case su_NoRow_TooGreat => first | k_is | rfl | decide)
    (case su_NoRow_Barren => first | k_is | rfl | decide)
    (case su_TooGreat_ForestError => first | k_is | rfl | decide)
    (case su_TooGreat_NoGrammar => first | k_is | rfl | decide)
    (case su_TooGreat_NoText => first | k_is | rfl | decide)
    (case su_TooGreat_NoRow => first | k_is | rfl | decide)
    (case su_TooGreat_NoRule => first | k_is | rfl | decide)
    (case su_TooGreat_NoNumber => first | k_is | rfl | decide)
    (case su_TooGreat_NoCosts => first | k_is | rfl | decide)
    (case su_TooGreat_NoChange => first | k_is | rfl | decide)
    (case su_TooGreat_NoWords => first | k_is | rfl | decide)
    (case su_TooGreat_Endless => first | k_is | rfl | decide)
    (case su_TooGreat_TooGreat => first | k_is | rfl | decide)
    (case su_TooGreat_Barren => first | k_is | rfl | decide)
    (case a_is_whole => k_is)
    (case l_is_whole => k_is)
    (case e_is_whole => k_is)
    (case p_is_whole => k_is)
    (case a_may_stand => k_is)
    (case l_may_stand => k_is)
    (case e_may_stand => k_is)
    (case p_may_stand => k_is)
    (case a_is_sign => k_is)
    (case l_is_sign => k_is)
    (case e_is_sign => k_is)
    (case p_is_sign => k_is)
    (case a_is_name => k_is)
    (case l_is_name => k_is)
    (case e_is_name => k_is)
    (case p_is_name => k_is)
    (case a_are_parts => k_is)
    (case l_are_parts => k_is)
    (case e_are_parts => k_is)
    (case p_are_parts => k_is)
    (case a_is_rule => k_is)
    (case l_is_rule => k_is)
    (case e_is_rule => k_is)
    (case p_is_rule => k_is)
    (case a_checked => k_is)
    (case l_checked => k_is)
    (case e_checked => k_is)
    (case p_checked => k_is)
    (case a_rules_by_head => k_is)
    (case l_rules_by_head => k_is)
    (case e_rules_by_head => k_is)
    (case p_rules_by_head => k_is)
    (case a_size_of => k_is)
    (case l_size_of => k_is)
    (case e_size_of => k_is)
    (case p_size_of => k_is)
    (case a_least_sizes => k_is)
    (case l_least_sizes => k_is)
    (case e_least_sizes => k_is)
    (case p_least_sizes => k_is)
    (case a_least => k_is)
    (case l_least => k_is)
    (case e_least => k_is)
    (case p_least => k_is)
    (case a_least_rule => k_is)
    (case l_least_rule => k_is)
    (case e_least_rule => k_is)
    (case p_least_rule => k_is)
    (case a_least_row => k_is)
    (case l_least_row => k_is)
    (case e_least_row => k_is)
    (case p_least_row => k_is)
    (case a_roundabouts => k_is)
    (case l_roundabouts => k_is)
    (case e_roundabouts => k_is)
    (case p_roundabouts => k_is)
    (case a_needed => k_is)
    (case l_needed => k_is)
    (case e_needed => k_is)
    (case p_needed => k_is)
    (case a_row_with => k_is)
    (case l_row_with => k_is)
    (case e_row_with => k_is)
    (case p_row_with => k_is)
    (case a_law_cell_at => k_is)
    (case l_law_cell_at => k_is)
    (case e_law_cell_at => k_is)
    (case p_law_cell_at => k_is)
    (case a_law_mixed => k_is)
    (case l_law_mixed => k_is)
    (case e_law_mixed => k_is)
    (case p_law_mixed => k_is)
    (case a_law_signs => k_is)
    (case l_law_signs => k_is)
    (case e_law_signs => k_is)
    (case p_law_signs => k_is)
    (case a_law_names => k_is)
    (case l_law_names => k_is)
    (case e_law_names => k_is)
    (case p_law_names => k_is)
    (case a_law_worth => k_is)
    (case l_law_worth => k_is)
    (case e_law_worth => k_is)
    (case p_law_worth => k_is)
    (case a_law_parts => k_is)
    (case l_law_parts => k_is)
    (case e_law_parts => k_is)
    (case p_law_parts => k_is)
    (case a_law_bare => k_is)
    (case l_law_bare => k_is)
    (case e_law_bare => k_is)
    (case p_law_bare => k_is)
    (case a_law_ends => k_is)
    (case l_law_ends => k_is)
    (case e_law_ends => k_is)
    (case p_law_ends => k_is)
    (case a_law_open => k_is)
    (case l_law_open => k_is)
    (case e_law_open => k_is)
    (case p_law_open => k_is)
    (case a_law_row => k_is)
    (case l_law_row => k_is)
    (case e_law_row => k_is)
    (case p_law_row => k_is)
    (case a_law_read => k_is)
    (case l_law_read => k_is)
    (case e_law_read => k_is)
    (case p_law_read => k_is)
    (case a_law_whole => k_is)
    (case l_law_whole => k_is)
    (case e_law_whole => k_is)
    (case p_law_whole => k_is)
    (case a_law_numbers => k_is)
    (case l_law_numbers => k_is)
    (case e_law_numbers => k_is)
    (case p_law_numbers => k_is)
    (case a_law_asked => k_is)
    (case l_law_asked => k_is)
    (case e_law_asked => k_is)
    (case p_law_asked => k_is)
    (case a_law_no_grammar => k_is)
    (case l_law_no_grammar => k_is)
    (case e_law_no_grammar => k_is)
    (case p_law_no_grammar => k_is)
    (case a_law_told => k_is)
    (case l_law_told => k_is)
    (case e_law_told => k_is)
    (case p_law_told => k_is)
    (case a_law_doubled => k_is)
    (case l_law_doubled => k_is)
    (case e_law_doubled => k_is)
    (case p_law_doubled => k_is)
    (case a_law_great => k_is)
    (case l_law_great => k_is)
    (case e_law_great => k_is)
    (case p_law_great => k_is)
    (case a_law => k_is)
    (case l_law => k_is)
    (case e_law => k_is)
    (case p_law => k_is)
