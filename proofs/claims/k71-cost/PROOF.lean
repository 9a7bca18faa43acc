import PyProof.Rows.All
import Wide.All
import OpenK.AllK
import Wide.FinOn
import HandS.ForMost
import HandS.ForExc
import HandS.Flow
import HandS.IsInst
import HandS.Wide
import HandS.Walk
import HandS.ExcIs
import HandS.TryElse
import HandS.TryMany
import HandS.HotCalls
import HandS.SuiteRaise
import HandS.TupAny
import HandS.Small
import HandS.SetKeys
import HandS.DictComp
import HandS.Rev
import HandS.More
import HandS.ExcValue
import KE.DataFind
import HandS.ReplaceLit
import HandS.ReplaceList
import KE.GoesEnum
import PySem.Challenge.RW_forestread_k71_cost
set_option Elab.async false
set_option linter.all false
set_option maxRecDepth 100000
set_option maxHeartbeats 2000000
set_option autoImplicit false
/-! Weakest wishes of the pieces of a text: eW, tW, aW, sW, bW; rules by syntax. -/
namespace G
open PySem PySem.Spec PyProof.Rows L2 TL
structure eW (X : Cx) (e : Expr) (σ : L2.St) (H : Hp) (Q : VK) : Prop where
  run : ∀ pins s, Inv X pins σ H s → wpAny (model X.prog X.w) X.A (eval e X.env) (EP X pins σ Q) X.xe s
structure tW (X : Cx) (e : Expr) (σ : L2.St) (H : Hp) (Q : Bool → Hp → Prop) : Prop where
  run : ∀ pins s, Inv X pins σ H s → wpAny (model X.prog X.w) X.A (isTrue e X.env (eval e X.env)) (TP X pins σ Q) X.xe s
structure cW (X : Cx) (e : Expr) (σ : L2.St) (H : Hp) (Q : Bool → Hp → Prop) : Prop where
  run : ∀ whole pins s, Inv X pins σ H s → wpAny (model X.prog X.w) X.A (isTrue e X.env whole) (TP X pins σ Q) X.xe s
structure aW (X : Cx) (es : List Expr) (σ : L2.St) (H : Hp) (Q : List V → Hp → Prop) : Prop where
  run : ∀ pos pins s, Inv X pins σ H s → wpAny (model X.prog X.w) X.A (spliced (backTo pos (starEach es X.env))) (AP X pins σ Q) X.xe s
structure sW (X : Cx) (st : Stmt) (D : Ends) (σ : L2.St) (H : Hp) : Prop where
  run : ∀ pins s, Inv X pins σ H s → wpAny (model X.prog X.w) X.A (exec st X.env) (SP X pins D) X.xe s
structure bW (X : Cx) (b : List Stmt) (D : Ends) (σ : L2.St) (H : Hp) : Prop where
  run : ∀ pins s, Inv X pins σ H s → wpAny (model X.prog X.w) X.A (execs b X.env) (SP X pins D) X.xe s
structure gW (X : Cx) (e : Expr) (v : V) (σ : L2.St) (H : Hp) (Q : L2.St → Hp → Prop) : Prop where
  run : ∀ pins s u, Inv X pins σ H s → RelV v u → wpAny (model X.prog X.w) X.A (assign e X.env u) (fun _ s' => ∃ σ' H', Inv X pins σ' H' s' ∧ Q σ' H') X.xe s
structure oW (X : Cx) (f : Value → Value → Sem Value) (x y : V) (H : Hp) (Q : VK) : Prop where
  run : ∀ pins s σ v u, Inv X pins σ H s → RelV x v → RelV y u → wpAny (model X.prog X.w) X.A (f v u) (EP X pins σ Q) X.xe s
structure uW (X : Cx) (f : Value → Sem Value) (x : V) (H : Hp) (Q : VK) : Prop where
  run : ∀ pins s σ v, Inv X pins σ H s → RelV x v → wpAny (model X.prog X.w) X.A (f v) (EP X pins σ Q) X.xe s
structure kW (X : Cx) (f : Value) (xs : List V) (H : Hp) (Q : VK) : Prop where
  run : ∀ pins s σ us, Inv X pins σ H s → Vals xs us → wpAny (model X.prog X.w) X.A (call f us) (EP X pins σ Q) X.xe s
section
variable {X : Cx} {e : Expr} {es : List Expr} {st : Stmt} {b : List Stmt}
theorem PEw : PE X e (eW X e) := ⟨fun pins s _ _ _ I h => h.run pins s I⟩
theorem PTw : PT X e (tW X e) := ⟨fun pins s _ _ _ I h => h.run pins s I⟩
theorem PWw : PW X e (cW X e) := ⟨fun wh pins s _ _ _ I h => h.run wh pins s I⟩
theorem PAw : PA X es (aW X es) := ⟨fun pos pins s _ _ _ I h => h.run pos pins s I⟩
theorem PSw : PS X st (sW X st) := ⟨fun pins s _ _ _ I h => h.run pins s I⟩
theorem PBw : PSs X b (bW X b) := ⟨fun pins s _ _ _ I h => h.run pins s I⟩
theorem PGw : PG X e (gW X e) := ⟨fun pins s _ _ v u _ I r h => h.run pins s u I r⟩
theorem OPw {f : Value → Value → Sem Value} : OpR X f (oW X f) := fun pins s σ H x y v u Q I rx ry h => h.run pins s σ v u I rx ry
theorem UNw {f : Value → Sem Value} : UnR X f (uW X f) := fun pins s σ H x v Q I rx h => h.run pins s σ v I rx
theorem KRw {f : Value} : CallR X f (kW X f) := fun pins s σ H xs us Q I r h => h.run pins s σ us I r
theorem eI {t : TE} {σ : L2.St} {H : Hp} {Q : VK} (h : PE X e t) (q : t σ H Q) : eW X e σ H Q := ⟨fun pins s I => h.run pins s σ H Q I q⟩
theorem tI {t : TT} {σ : L2.St} {H : Hp} {Q : Bool → Hp → Prop} (h : PT X e t) (q : t σ H Q) : tW X e σ H Q := ⟨fun pins s I => h.run pins s σ H Q I q⟩
theorem cI {t : TT} {σ : L2.St} {H : Hp} {Q : Bool → Hp → Prop} (h : PW X e t) (q : t σ H Q) : cW X e σ H Q := ⟨fun wh pins s I => h.run wh pins s σ H Q I q⟩
theorem aI {t : TA} {σ : L2.St} {H : Hp} {Q : List V → Hp → Prop} (h : PA X es t) (q : t σ H Q) : aW X es σ H Q := ⟨fun pos pins s I => h.run pos pins s σ H Q I q⟩
theorem sI {t : TS} {D : Ends} {σ : L2.St} {H : Hp} (h : PS X st t) (q : t D σ H) : sW X st D σ H := ⟨fun pins s I => h.run pins s σ H D I q⟩
theorem bI {t : TS} {D : Ends} {σ : L2.St} {H : Hp} (h : PSs X b t) (q : t D σ H) : bW X b D σ H := ⟨fun pins s I => h.run pins s σ H D I q⟩
theorem gI {t : TG} {v : V} {σ : L2.St} {H : Hp} {Q : L2.St → Hp → Prop} (h : PG X e t) (q : t v σ H Q) : gW X e v σ H Q := ⟨fun pins s u I r => h.run pins s σ H v u Q I r q⟩
theorem oI {f : Value → Value → Sem Value} {r : R2} {x y : V} {H : Hp} {Q : VK} (h : OpR X f r) (q : r x y H Q) : oW X f x y H Q := ⟨fun pins s σ v u I rx ry => h pins s σ H x y v u Q I rx ry q⟩
theorem uI {f : Value → Sem Value} {r : V → Hp → VK → Prop} {x : V} {H : Hp} {Q : VK} (h : UnR X f r) (q : r x H Q) : uW X f x H Q := ⟨fun pins s σ v I rx => h pins s σ H x v Q I rx q⟩
theorem kI {f : Value} {r : List V → Hp → VK → Prop} {xs : List V} {H : Hp} {Q : VK} (h : CallR X f r) (q : r xs H Q) : kW X f xs H Q := ⟨fun pins s σ us I rx => h pins s σ H xs us Q I rx q⟩
theorem eMono {σ : L2.St} {H : Hp} {Q Q' : VK} (h : eW X e σ H Q) (i : ∀ v H', Q v H' → Q' v H') : eW X e σ H Q' := ⟨fun pins s I => wpAny_mono (h.run pins s I) (fun _ _ ⟨v, H', a, b, c⟩ => ⟨v, H', a, b, i v H' c⟩) fun _ _ x => x⟩
theorem tMono {σ : L2.St} {H : Hp} {Q Q' : Bool → Hp → Prop} (h : tW X e σ H Q) (i : ∀ v H', Q v H' → Q' v H') : tW X e σ H Q' := ⟨fun pins s I => wpAny_mono (h.run pins s I) (fun _ _ ⟨H', a, c⟩ => ⟨H', a, i _ H' c⟩) fun _ _ x => x⟩
end

/-! ### what a context tells -/
def cxr (P : Program) (w : World) (K : PySem.W.Frag) (mg : Str → Option Value) (base : Heap) (N : List Str) (q : Str) (st : Stmt) (f : Addr) (cd : Value) (A : Around) (outer : List Env) (s : Shared) (H : Hp) (E : XK) : Cx := cxOf (L2.CX P w) P w K mg base N q (defScope st) f cd A outer s H E
class CxN (X : Cx) (N : outParam (List Str)) : Prop where h : X.N = N
class CxK (X : Cx) (K : outParam PySem.W.Frag) : Prop where h : X.K = K
class CxM (X : Cx) (mg : outParam (Str → Option Value)) : Prop where h : X.mg = mg
class CxC (X : Cx) : Prop where h : X.calm = true
class CxO (X : Cx) : Prop where h : PassesOwn (model X.prog X.w) X.A X.env X.xe
class CxT (X : Cx) (W : outParam WX) : Prop where h : Takes X W
/-- the slot of a name -/
class Slt (N : List Str) (x : Str) (i : outParam Nat) : Prop where h : N[i]? = some x
instance (priority := high) slt0 {x : Str} {N : List Str} : Slt (x :: N) x 0 := ⟨rfl⟩
instance slt1 {x y : Str} {N : List Str} {i : Nat} [s : Slt N x i] : Slt (y :: N) x (i + 1) := ⟨s.h⟩
class Blt (x : Str) (v : outParam Value) : Prop where h : bootBuiltins x = some v
instance : Blt "len" (.builtin "len") := ⟨boot_len⟩
instance : Blt "isinstance" (.builtin "isinstance") := ⟨boot_isinstance⟩
instance : Blt "min" (.builtin "min") := ⟨boot_min⟩
instance : Blt "max" (.builtin "max") := ⟨boot_max⟩
instance : Blt "sorted" (.builtin "sorted") := ⟨boot_sorted⟩
instance : Blt "sum" (.builtin "sum") := ⟨boot_sum⟩
instance : Blt "any" (.builtin "any") := ⟨boot_any⟩
instance : Blt "all" (.builtin "all") := ⟨boot_all⟩
instance : Blt "abs" (.builtin "abs") := ⟨boot_abs⟩
instance : Blt "ord" (.builtin "ord") := ⟨boot_ord⟩
instance : Blt "chr" (.builtin "chr") := ⟨boot_chr⟩
instance : Blt "range" (.type "range") := ⟨boot_range⟩
instance : Blt "list" (.type "list") := ⟨boot_list⟩
instance : Blt "tuple" (.type "tuple") := ⟨boot_tuple⟩
instance : Blt "int" (.type "int") := ⟨boot_int⟩
instance : Blt "str" (.type "str") := ⟨boot_str⟩
instance : Blt "bool" (.type "bool") := ⟨boot_bool⟩
instance : Blt "set" (.type "set") := ⟨boot_set⟩
instance : Blt "dict" (.type "dict") := ⟨boot_dict⟩
instance : Blt "enumerate" (.type "enumerate") := ⟨boot_enumerate⟩
instance : Blt "zip" (.type "zip") := ⟨boot_zip⟩
instance : Blt "reversed" (.type "reversed") := ⟨boot_reversed⟩
instance : Blt "ValueError" (.type "ValueError") := ⟨by decide +kernel⟩
/-- what a name of the module holds -/
class Gn (mg : Str → Option Value) (x : Str) (v : outParam (Option Value)) : Prop where h : mg x = v
section
variable {P : Program} {w : World} {K : PySem.W.Frag} {mg : Str → Option Value} {base : Heap} {N : List Str} {q : Str} {st : Stmt} {f : Addr} {cd : Value} {A : Around} {outer : List Env} {s : Shared} {H : Hp} {E : XK}
instance : CxN (cxr P w K mg base N q st f cd A outer s H E) N := ⟨rfl⟩
instance : CxK (cxr P w K mg base N q st f cd A outer s H E) K := ⟨rfl⟩
instance : CxM (cxr P w K mg base N q st f cd A outer s H E) mg := ⟨rfl⟩
instance : CxC (cxr P w K mg base N q st f cd A outer s H E) := ⟨rfl⟩
instance : CxO (cxr P w K mg base N q st f cd A outer s H E) := ⟨passes_of (X := cxr P w K mg base N q st f cd A outer s H E) rfl⟩
instance : CxT (cxr P w K mg base N q st f cd A outer s H E) (fun cls d _ H => E cls d H) := ⟨takes_of (X := cxr P w K mg base N q st f cd A outer s H E) rfl rfl rfl rfl⟩
end
section
variable {X : Cx} {s : Shared} {H : Hp} {sc : Scope} {ce : Env} {fp : List Addr} {pn : List (Addr × Obj)} {xe : Value → Shared → Prop} {a : Addr}
instance {N : List Str} [c : CxN X N] : CxN (X.blk s H sc ce fp) N := ⟨c.h⟩
instance {K : PySem.W.Frag} [c : CxK X K] : CxK (X.blk s H sc ce fp) K := ⟨c.h⟩
instance {mg : Str → Option Value} [c : CxM X mg] : CxM (X.blk s H sc ce fp) mg := ⟨c.h⟩
instance [c : CxC X] : CxC (X.blk s H sc ce fp) := ⟨c.h⟩
instance : CxT (X.blk s H sc ce fp) (fun _ _ _ _ => False) := ⟨takes0⟩
instance {N : List Str} [c : CxN X N] : CxN (X.tr pn xe) N := ⟨c.h⟩
instance {K : PySem.W.Frag} [c : CxK X K] : CxK (X.tr pn xe) K := ⟨c.h⟩
instance {mg : Str → Option Value} [c : CxM X mg] : CxM (X.tr pn xe) mg := ⟨c.h⟩
instance [c : CxC X] : CxC (X.tr pn xe) := ⟨c.h⟩
instance {N : List Str} [c : CxN X N] : CxN (X.suite a pn) N := ⟨c.h⟩
instance {K : PySem.W.Frag} [c : CxK X K] : CxK (X.suite a pn) K := ⟨c.h⟩
instance {mg : Str → Option Value} [c : CxM X mg] : CxM (X.suite a pn) mg := ⟨c.h⟩
end

/-! ### expressions -/
section
variable {X : Cx} {σ : L2.St} {H : Hp} {Q : VK} {pos p2 p3 p4 : Pos} {a b c : Expr} {rest : List Expr}
theorem e_var {N : List Str} {x : Str} {i : Nat} {v : V} [cn : CxN X N] [sl : Slt N x i] (hs : σ[i]? = some (some v)) (q : Q v H)
    (hv : Vis X.env.scope x := by first | exact Or.inl rfl | exact Or.inr (Or.inl rfl) | exact Or.inr (Or.inr rfl)) (hd : (x == ("__debug__" : Str)) = false := by decide) (hcd : (x == ("__classdict__" : Str)) = false := by decide) : eW X (.Name x pos) σ H Q :=
  eI (pe_var (i := i) (by rw [cn.h]; exact sl.h) hv hd hcd) ⟨v, hs, q⟩
theorem e_int {i : Int} {j : Nat} (q : Q (.int i) H) : eW X (.Constant (.int i) j pos) σ H Q := eI pe_int q
theorem e_bl {i : Bool} {j : Nat} (q : Q (.bl i) H) : eW X (.Constant (.bool i) j pos) σ H Q := eI pe_bl q
theorem e_non {j : Nat} (q : Q .non H) : eW X (.Constant .none j pos) σ H Q := eI pe_non q
theorem e_str {x : Str} {j : Nat} (q : Q (.str x) H) : eW X (.Constant (.str x) j pos) σ H Q := eI pe_str q
theorem e_glob {mg : Str → Option Value} {x : Str} {u : Value} {v : V} [cm : CxM X mg] [g : Gn mg x (some u)] (r : RelV v u) (q : Q v H) (hg : Gl X x := by rfl) (hd : (x == ("__debug__" : Str)) = false := by decide) : eW X (.Name x pos) σ H Q :=
  eI (pe_glob hg (by rw [cm.h]; exact g.h) r hd) q
theorem e_globR {mg : Str → Option Value} {x : Str} {f : Addr} [cm : CxM X mg] [g : Gn mg x (some (.ref f))] (q : Q (.ref f) H) (hg : Gl X x := by rfl) (hd : (x == ("__debug__" : Str)) = false := by decide) : eW X (.Name x pos) σ H Q :=
  eI (pe_glob (v := .ref f) hg (by rw [cm.h]; exact g.h) rfl hd) q
theorem e_globI {mg : Str → Option Value} {x : Str} {i : Int} {t : Tok} [cm : CxM X mg] [g : Gn mg x (some (.int i t))] (q : Q (.int i) H) (hg : Gl X x := by rfl) (hd : (x == ("__debug__" : Str)) = false := by decide) : eW X (.Name x pos) σ H Q :=
  eI (pe_glob (v := .int i) hg (by rw [cm.h]; exact g.h) ⟨_, rfl⟩ hd) q
theorem e_globS {mg : Str → Option Value} {x : Str} {i : Str} {t : Tok} [cm : CxM X mg] [g : Gn mg x (some (.str i t))] (q : Q (.str i) H) (hg : Gl X x := by rfl) (hd : (x == ("__debug__" : Str)) = false := by decide) : eW X (.Name x pos) σ H Q :=
  eI (pe_glob (v := .str i) hg (by rw [cm.h]; exact g.h) ⟨_, rfl⟩ hd) q
theorem e_ty {mg : Str → Option Value} {x : Str} {n : String} [cm : CxM X mg] [g : Gn mg x none] [bl : Blt x (.type n)] (q : Q (.ty n) H) (hg : Gl X x := by rfl) (hn : x ≠ "__name__" := by decide) (hd : (x == ("__debug__" : Str)) = false := by decide) : eW X (.Name x pos) σ H Q :=
  eI (pe_bltn (v := .ty n) hg (by rw [cm.h]; exact g.h) bl.h rfl hn hd) q
theorem e_bin {op : Operator} (h : eW X a σ H fun x H1 => eW X b σ H1 fun y H2 => oW X (binaryOp op) x y H2 Q) : eW X (.BinOp a op b pos) σ H Q := eI (pe_op OPw PEw PEw) h
theorem e_un {op : UnaryOp} (h : eW X a σ H fun x H1 => uW X (unaryOp op) x H1 Q) : eW X (.UnaryOp op a pos) σ H Q := eI (pe_un UNw PEw) h
theorem e_cmp {op : CmpOp} (h : eW X a σ H fun x H1 => eW X b σ H1 fun y H2 => oW X (compareOp op) x y H2 Q) (hm : behindInMarks op b = false := by first | exact nomark _ | rfl) : eW X (.Compare a [op] [b] pos) σ H Q := eI (pe_cmpR OPw PEw PEw hm) h
theorem e_isN {j : Nat} (h : eW X a σ H fun x H1 => Q (.bl (decide (x = .non))) H1) : eW X (.Compare a [.Is] [.Constant .none j p2] pos) σ H Q := eI (pe_cmp (pc_isN PEw) rfl) h
theorem e_notN {j : Nat} (h : eW X a σ H fun x H1 => Q (.bl (!decide (x = .non))) H1) : eW X (.Compare a [.IsNot] [.Constant .none j p2] pos) σ H Q := eI (pe_cmp (pc_notN PEw) rfl) h
theorem e_ifE {t : Expr} (h : tW X t σ H fun k H1 => if k = true then eW X a σ H1 Q else eW X b σ H1 Q) : eW X (.IfExp t a b pos) σ H Q := eI (pe_ifExp PTw PEw PEw) h
theorem e_one {op : BoolOp} (h : eW X a σ H Q) : eW X (.BoolOp op [a] pos) σ H Q := eI (pe_one PEw) h
theorem e_and (h : eW X a σ H fun x H1 => ∃ k, x = .bl k ∧ if k = true then eW X (.BoolOp .And (b :: rest) pos) σ H1 Q else Q (.bl false) H1) : eW X (.BoolOp .And (a :: b :: rest) pos) σ H Q := eI (pe_and PEw PEw) h
theorem e_or (h : eW X a σ H fun x H1 => ∃ k, x = .bl k ∧ if k = true then Q (.bl true) H1 else eW X (.BoolOp .Or (b :: rest) pos) σ H1 Q) : eW X (.BoolOp .Or (a :: b :: rest) pos) σ H Q := eI (pe_or PEw PEw) h
theorem e_not (h : eW X a σ H fun x H1 => ∃ k, x = .bl k ∧ Q (.bl (!k)) H1) : eW X (.UnaryOp .Not a pos) σ H Q := eI (pe_not PEw) h
theorem e_tup {es : List Expr} {k : Nat} (h : aW X es σ H fun xs H1 => xs.length ≤ sizeLine ∧ ∀ p, H1 p = none → Q (.ref p) (upd H1 p (.tup xs))) : eW X (.Tuple es k pos) σ H Q := eI (pe_tup PAw) h
theorem e_lst {es : List Expr} (h : aW X es σ H fun xs H1 => xs.length ≤ sizeLine ∧ ∀ p, H1 p = none → Q (.ref p) (upd H1 p (.lst xs))) : eW X (.List es pos) σ H Q := eI (pe_lst PAw) h
/-- and, or of two truths whose joint answer is told -/
theorem e_andJ {d : Bool} (h : eW X a σ H fun x H1 => ∃ k, x = .bl k ∧ (k = true → ∀ Q' : VK, Q' (.bl d) H1 → eW X (.BoolOp .And (b :: rest) pos) σ H1 Q') ∧ Q (.bl (k && d)) H1) : eW X (.BoolOp .And (a :: b :: rest) pos) σ H Q :=
  e_and (eMono h fun x H1 ⟨k, e, h1, h2⟩ => ⟨k, e, by cases k with | true => exact (h1 rfl _ h2) | false => exact h2⟩)
theorem e_orJ {d : Bool} (h : eW X a σ H fun x H1 => ∃ k, x = .bl k ∧ (k = false → ∀ Q' : VK, Q' (.bl d) H1 → eW X (.BoolOp .Or (b :: rest) pos) σ H1 Q') ∧ Q (.bl (k || d)) H1) : eW X (.BoolOp .Or (a :: b :: rest) pos) σ H Q :=
  e_or (eMono h fun x H1 ⟨k, e, h1, h2⟩ => ⟨k, e, by cases k with | true => exact h2 | false => exact (h1 rfl _ h2)⟩)
/-- a chain of two comparisons -/
theorem e_chain {op op' : CmpOp} (h : eW X a σ H fun x H1 => eW X b σ H1 fun y H2 => oW X (compareOp op) x y H2 fun z H3 => ∃ k, z = .bl k ∧ (if k = true then eW X c σ H3 (fun w' H4 => oW X (compareOp op') y w' H4 Q) else Q (.bl false) H3))
    (hm : lastMarks [op, op'] [b, c] = false := by with_unfolding_all rfl) : eW X (.Compare a [op, op'] [b, c] pos) σ H Q := eI (pe_chain OPw OPw PEw PEw PEw hm) h
theorem t_chain {op op' : CmpOp} {R : Bool → Hp → Prop} (h : eW X a σ H fun x H1 => eW X b σ H1 fun y H2 => oW X (compareOp op) x y H2 fun z H3 => ∃ k, z = .bl k ∧ (if k = true then eW X c σ H3 (fun w' H4 => oW X (compareOp op') y w' H4 fun u H5 => ∃ k, u = .bl k ∧ R k H5) else (∃ k', V.bl false = .bl k' ∧ R k' H3)))
    (hm : lastMarks [op, op'] [b, c] = false := by with_unfolding_all rfl) : tW X (.Compare a [op, op'] [b, c] pos) σ H R := tI (pt_chain OPw OPw PEw PEw PEw hm) h

/-! ### arguments -/
theorem a_nil {R : List V → Hp → Prop} (h : R [] H) : aW X [] σ H R := aI pa_nil h
theorem a_cons {es : List Expr} {R : List V → Hp → Prop} (h : eW X a σ H fun x H1 => aW X es σ H1 fun xs H2 => R (x :: xs) H2) (hs : starEach (a :: es) X.env = (false, eval a X.env) :: starEach es X.env := by rfl) : aW X (a :: es) σ H R := aI (pa_cons PEw PAw hs) h

/-! ### tests -/
variable {R : Bool → Hp → Prop}
theorem t_val {e : Expr} (h : eW X e σ H fun x H1 => ∃ k, x = .bl k ∧ R k H1) (he : ∀ whole, isTrue e X.env whole = (do let v ← whole; standAt e.pos; holding [v] (truthy v)) := by intro _; rfl) : tW X e σ H R := tI (pt_val PEw he) h
theorem t_tru {e : Expr} (h : eW X e σ H fun x H1 => ∃ k, TruV X.K x H1 k ∧ R k H1) (he : ∀ whole, isTrue e X.env whole = (do let v ← whole; standAt e.pos; holding [v] (truthy v)) := by intro _; rfl) : tW X e σ H R := tI (pt_truth PEw he) h
theorem t_cmp {op : CmpOp} (h : eW X a σ H fun x H1 => eW X b σ H1 fun y H2 => oW X (compareOp op) x y H2 fun z H3 => ∃ k, z = .bl k ∧ R k H3) (hm : behindInMarks op b = false := by first | exact nomark _ | rfl) : tW X (.Compare a [op] [b] pos) σ H R := tI (pt_cmpR OPw PEw PEw hm) h
theorem t_isN {j : Nat} (h : eW X a σ H fun x H1 => R (decide (x = .non)) H1) : tW X (.Compare a [.Is] [.Constant .none j p2] pos) σ H R := tI (pt_cmp (pc_isN PEw) rfl) (eMono h fun _ _ q => ⟨_, rfl, q⟩)
theorem t_notN {j : Nat} (h : eW X a σ H fun x H1 => R (!decide (x = .non)) H1) : tW X (.Compare a [.IsNot] [.Constant .none j p2] pos) σ H R := tI (pt_cmp (pc_notN PEw) rfl) (eMono h fun _ _ q => ⟨_, rfl, q⟩)
theorem t_not (h : tW X a σ H fun k H1 => R (!k) H1) : tW X (.UnaryOp .Not a pos) σ H R := tI (pt_not PTw) h
theorem t_and (h : cW X (.BoolOp .And rest pos) σ H R) : tW X (.BoolOp .And rest pos) σ H R := tI (PWw).pt h
theorem t_or (h : cW X (.BoolOp .Or rest pos) σ H R) : tW X (.BoolOp .Or rest pos) σ H R := tI (PWw).pt h
theorem c_and1 (h : tW X a σ H R) : cW X (.BoolOp .And [a] pos) σ H R := cI (pw_and1 PTw) h
theorem c_or1 (h : tW X a σ H R) : cW X (.BoolOp .Or [a] pos) σ H R := cI (pw_or1 PTw) h
theorem c_and (h : tW X a σ H fun k H1 => if k = true then cW X (.BoolOp .And (b :: rest) pos) σ H1 R else R false H1) : cW X (.BoolOp .And (a :: b :: rest) pos) σ H R := cI (pw_and PTw PWw) h
theorem c_or (h : tW X a σ H fun k H1 => if k = true then R true H1 else cW X (.BoolOp .Or (b :: rest) pos) σ H1 R) : cW X (.BoolOp .Or (a :: b :: rest) pos) σ H R := cI (pw_or PTw PWw) h
/-- .. joined: the answer of both is told -/
theorem c_andJ {d : Bool} (h : tW X a σ H fun k H1 => (k = true → ∀ R' : Bool → Hp → Prop, R' d H1 → cW X (.BoolOp .And (b :: rest) pos) σ H1 R') ∧ R (k && d) H1) : cW X (.BoolOp .And (a :: b :: rest) pos) σ H R :=
  c_and (tMono h fun k H1 ⟨h1, h2⟩ => by cases k with | true => exact (h1 rfl _ h2) | false => exact h2)
theorem c_orJ {d : Bool} (h : tW X a σ H fun k H1 => (k = false → ∀ R' : Bool → Hp → Prop, R' d H1 → cW X (.BoolOp .Or (b :: rest) pos) σ H1 R') ∧ R (k || d) H1) : cW X (.BoolOp .Or (a :: b :: rest) pos) σ H R :=
  c_or (tMono h fun k H1 ⟨h1, h2⟩ => by cases k with | true => exact h2 | false => exact (h1 rfl _ h2))
end

/-! ### statements -/
@[reducible] def Dsq (X : Cx) (more : List Stmt) (D : Ends) : Ends := { D with nx := bW X more D }
@[reducible] def Dlp (D : Ends) (N : L2.St → Hp → Prop) : Ends := { D with nx := N, ct := N, bk := D.nx }
@[reducible] def Dnx (D : Ends) (N : L2.St → Hp → Prop) : Ends := { D with nx := N }
section
variable {X : Cx} {σ : L2.St} {H : Hp} {D : Ends} {pos p2 p3 p4 : Pos} {e it tg : Expr} {st : Stmt} {body more : List Stmt}
theorem b_nil (h : D.nx σ H) : bW X [] D σ H := bI pss_nil h
theorem b_cons (h : sW X st (Dsq X more D) σ H) : bW X (st :: more) D σ H := bI (pss_cons PSw PBw) h
theorem b_one (h : sW X st D σ H) : bW X [st] D σ H := bI (pss_one PSw) h
theorem s_ret (h : eW X e σ H D.rt) : sW X (.Return (some e) pos) D σ H := sI (ps_ret PEw) h
theorem s_retN (h : D.rt .non H) : sW X (.Return none pos) D σ H := sI ps_retN h
theorem s_pass (h : D.nx σ H) : sW X (.Pass pos) D σ H := sI ps_pass h
theorem s_brk (h : D.bk σ H) : sW X (.Break pos) D σ H := sI ps_break h
theorem s_cont (h : D.ct σ H) : sW X (.Continue pos) D σ H := sI ps_continue h
theorem s_expr (h : eW X e σ H fun _ H1 => D.nx σ H1) (hs : swapsWith e none pos.line X.env = pure false := by rfl) : sW X (.Expr e pos) D σ H := sI (ps_expr PEw hs) h
theorem s_if {t : Expr} {x y : List Stmt} (h : tW X t σ H fun k H1 => if k = true then bW X x D σ H1 else bW X y D σ H1) : sW X (.If t x y pos) D σ H := sI (ps_if PTw PBw PBw) h
class NdN (N : List Str) : Prop where h : N.Nodup
theorem s_set {N : List Str} {x : Str} {i : Nat} [cn : CxN X N] [sl : Slt N x i] [nd : NdN N] (h : eW X e σ H fun v H1 => D.nx (σ.set i (some v)) H1) (hx : Loc X.env.scope x := by first | exact Or.inl rfl | exact Or.inr rfl) (hs : swapsWith e (some (.Name x p2)) pos.line X.env = pure false := by rfl)
    (hf : X.fn x = true ∨ X.env.scope.names.lookup x = some .local := by first | exact .inl rfl | exact .inr rfl | assumption) : sW X (.Assign [.Name x p2] e pos) D σ H :=
  sI (ps_set (i := i) (by rw [cn.h]; exact nd.h) (by rw [cn.h]; exact sl.h) hx PEw hs hf) h
theorem g_name {N : List Str} {x : Str} {i : Nat} {v : V} {Q : L2.St → Hp → Prop} [cn : CxN X N] [sl : Slt N x i] [nd : NdN N] (h : Q (σ.set i (some v)) H) (hx : Loc X.env.scope x := by first | exact Or.inl rfl | exact Or.inr rfl)
    (hf : X.fn x = true ∨ X.env.scope.names.lookup x = some .local := by first | exact .inl rfl | exact .inr rfl | assumption) : gW X (.Name x pos) v σ H Q :=
  gI (pg_name (i := i) (by rw [cn.h]; exact nd.h) (by rw [cn.h]; exact sl.h) hx hf) h
theorem s_asg (h : eW X e σ H fun v H1 => gW X tg v σ H1 D.nx) (hs : swapsWithSole [tg] e pos.line X.env = pure false := by rfl) (hw : swappedStores [tg] e X.env = pure none := by rfl)
    (h1 : (assignEach [tg] X.env).map (·.2) = [assign tg X.env] := by rfl) : sW X (.Assign [tg] e pos) D σ H := sI (ps_asg PEw PGw hs hw h1) h
/-- while: W by what is left -/
theorem s_while {c : Expr} [ow : CxO X] (W : Nat → L2.St → Hp → Prop) (m : Nat) (h0 : W m σ H)
    (h : ∀ m σ H, W m σ H → tW X c σ H fun b H1 => if b = true then bW X body (Dlp D fun σ' H' => ∃ m', m' < m ∧ W m' σ' H') σ H1 else D.nx σ H1) : sW X (.While c body [] pos) D σ H :=
  sI (ps_while ow.h PTw PBw) ⟨W, ⟨m, h0⟩, fun m σ H w => tMono (h m σ H w) fun b H1 q => by
    cases b with
    | true => exact ⟨_, fun _ _ z => z, q⟩
    | false => exact q⟩
theorem s_forL [ow : CxO X] [cc : CxC X] (h : eW X it σ H fun x H1 => ∃ a xs, x = .ref a ∧ SqL X.K H1 a xs ∧ ∃ Pv : Nat → L2.St → Hp → Prop, Pv 0 σ H1 ∧ (∀ i σ' H', i ≤ xs.length → Pv i σ' H' → SqL X.K H' a xs) ∧
      (∀ i v σ' H', xs[i]? = some v → Pv i σ' H' → gW X tg v σ' H' fun σ2 H2 => bW X body (Dlp D (Pv (i + 1))) σ2 H2) ∧ ∀ σ' H', Pv xs.length σ' H' → D.nx σ' H') (hs : ∀ x, foldedSetIterable it X.env x = pure x := by intro _; rfl) : sW X (.For tg it body [] pos) D σ H :=
  sI (ps_for ow.h cc.h (pi_list PEw) PGw PBw hs) (eMono h fun x H1 ⟨a, xs, e1, e2, Pv, q0, q1, q2, q3⟩ => ⟨a, e1, ⟨xs, e2⟩, for_list (K := X.K) (a := a) (xs := xs) Pv q0 q1 q2 q3⟩)
theorem s_forT [ow : CxO X] [cc : CxC X] (h : eW X it σ H fun x H1 => ∃ a xs, x = .ref a ∧ SqT X.K H1 a xs ∧ ∃ Pv : Nat → L2.St → Hp → Prop, Pv 0 σ H1 ∧ (∀ i σ' H', i ≤ xs.length → Pv i σ' H' → SqT X.K H' a xs) ∧
      (∀ i v σ' H', xs[i]? = some v → Pv i σ' H' → gW X tg v σ' H' fun σ2 H2 => bW X body (Dlp D (Pv (i + 1))) σ2 H2) ∧ ∀ σ' H', Pv xs.length σ' H' → D.nx σ' H') (hs : ∀ x, foldedSetIterable it X.env x = pure x := by intro _; rfl) : sW X (.For tg it body [] pos) D σ H :=
  sI (ps_for ow.h cc.h (pi_tup PEw) PGw PBw hs) (eMono h fun x H1 ⟨a, xs, e1, e2, Pv, q0, q1, q2, q3⟩ => ⟨a, e1, ⟨xs, e2⟩, for_tup (K := X.K) (a := a) (xs := xs) Pv q0 q1 q2 q3⟩)
end

/-! ### values -/
section
variable {X : Cx} {H : Hp} {Q : VK} {i j : Int} {k l : Bool} {x y : V} {z u : Str}
theorem o_add (q : Q (.int (i + j)) H) : oW X (binaryOp .Add) (.int i) (.int j) H Q := oI op_add ⟨_, _, rfl, rfl, q⟩
theorem o_sub (q : Q (.int (i - j)) H) : oW X (binaryOp .Sub) (.int i) (.int j) H Q := oI op_sub ⟨_, _, rfl, rfl, q⟩
theorem o_mul (h : CMulW i j) (q : Q (.int (i * j)) H) : oW X (binaryOp .Mult) (.int i) (.int j) H Q := oI op_mulW ⟨_, _, rfl, rfl, h, q⟩
theorem o_mulS (h : CMul i j) (q : Q (.int (i * j)) H) : oW X (binaryOp .Mult) (.int i) (.int j) H Q := oI op_mul ⟨_, _, rfl, rfl, h, q⟩
theorem o_mod (h : 0 < j) (q : Q (.int (i % j)) H) : oW X (binaryOp .Mod) (.int i) (.int j) H Q := oI op_mod ⟨_, _, rfl, rfl, h, q⟩
theorem o_div (h : CDiv i j) (q : Q (.int (i / j)) H) : oW X (binaryOp .FloorDiv) (.int i) (.int j) H Q := oI op_fdiv ⟨_, _, rfl, rfl, h, q⟩
theorem o_pow (h : CPow i j) (q : Q (.int (i ^ j.toNat)) H) : oW X (binaryOp .Pow) (.int i) (.int j) H Q := oI op_pow ⟨_, _, rfl, rfl, h, q⟩
theorem o_cat (h : z.length + u.length ≤ sizeLine) (q : Q (.str (z ++ u)) H) : oW X (binaryOp .Add) (.str z) (.str u) H Q := oI op_add_str ⟨_, _, rfl, rfl, h, q⟩
theorem o_lt (q : Q (.bl (decide (i < j))) H) : oW X (compareOp .Lt) (.int i) (.int j) H Q := oI op_lt ⟨_, _, rfl, rfl, q⟩
theorem o_le (q : Q (.bl (decide (i ≤ j))) H) : oW X (compareOp .LtE) (.int i) (.int j) H Q := oI op_le ⟨_, _, rfl, rfl, q⟩
theorem o_gt (q : Q (.bl (decide (j < i))) H) : oW X (compareOp .Gt) (.int i) (.int j) H Q := oI op_gt ⟨_, _, rfl, rfl, q⟩
theorem o_ge (q : Q (.bl (decide (j ≤ i))) H) : oW X (compareOp .GtE) (.int i) (.int j) H Q := oI op_ge ⟨_, _, rfl, rfl, q⟩
theorem o_eqI (q : Q (.bl (decide (i = j))) H) : oW X (compareOp .Eq) (.int i) (.int j) H Q := oI op_eq ⟨rfl, by rw [show decide (V.int i = V.int j) = decide (i = j) from decide_eq_decide.mpr ⟨fun e => V.int.inj e, fun e => by rw [e]⟩]; exact q⟩
theorem o_neI (q : Q (.bl (!decide (i = j))) H) : oW X (compareOp .NotEq) (.int i) (.int j) H Q := oI op_ne ⟨rfl, by rw [show decide (V.int i = V.int j) = decide (i = j) from decide_eq_decide.mpr ⟨fun e => V.int.inj e, fun e => by rw [e]⟩]; exact q⟩
theorem o_eqS (q : Q (.bl (decide (z = u))) H) : oW X (compareOp .Eq) (.str z) (.str u) H Q := oI op_eq ⟨rfl, by rw [show decide (V.str z = V.str u) = decide (z = u) from decide_eq_decide.mpr ⟨fun e => V.str.inj e, fun e => by rw [e]⟩]; exact q⟩
theorem o_neS (q : Q (.bl (!decide (z = u))) H) : oW X (compareOp .NotEq) (.str z) (.str u) H Q := oI op_ne ⟨rfl, by rw [show decide (V.str z = V.str u) = decide (z = u) from decide_eq_decide.mpr ⟨fun e => V.str.inj e, fun e => by rw [e]⟩]; exact q⟩
theorem o_eqB (q : Q (.bl (decide (k = l))) H) : oW X (compareOp .Eq) (.bl k) (.bl l) H Q := oI op_eq ⟨rfl, by rw [show decide (V.bl k = V.bl l) = decide (k = l) from decide_eq_decide.mpr ⟨fun e => V.bl.inj e, fun e => by rw [e]⟩]; exact q⟩
theorem o_neB (q : Q (.bl (!decide (k = l))) H) : oW X (compareOp .NotEq) (.bl k) (.bl l) H Q := oI op_ne ⟨rfl, by rw [show decide (V.bl k = V.bl l) = decide (k = l) from decide_eq_decide.mpr ⟨fun e => V.bl.inj e, fun e => by rw [e]⟩]; exact q⟩
theorem u_neg (q : Q (.int (-i)) H) : uW X (unaryOp .USub) (.int i) H Q := uI un_neg ⟨_, rfl, q⟩
end
theorem iteD {p : Prop} [Decidable p] {A B : Prop} (h1 : p → A) (h2 : ¬ p → B) : if decide p = true then A else B := by
  by_cases h : p
  · rw [if_pos (decide_eq_true h)]; exact h1 h
  · rw [decide_eq_false h, if_neg Bool.false_ne_true]; exact h2 h
theorem iteND {p : Prop} [Decidable p] {A B : Prop} (h1 : ¬ p → A) (h2 : p → B) : if (!decide p) = true then A else B := by
  by_cases h : p
  · rw [decide_eq_true h]; exact iteF (h2 h)
  · rw [decide_eq_false h]; exact iteT (h1 h)
theorem iteB {k : Bool} {A B : Prop} (h1 : k = true → A) (h2 : k = false → B) : if k = true then A else B := by
  cases k with
  | true => exact iteT (h1 rfl)
  | false => exact iteF (h2 rfl)

/-! ### calls -/
section
variable {X : Cx} {σ : L2.St} {H : Hp} {Q : VK} {pos p2 p3 p4 apos : Pos} {a e : Expr} {es : List Expr} {P : Program} {w : World} {K : PySem.W.Frag} {mg : Str → Option Value} {base : Heap}
/-- a def of the module by its name: where it stands, how it binds, its promise -/
structure Df (P : Program) (w : World) (K : PySem.W.Frag) (mg : Str → Option Value) (base : Heap) (x : Str) (k : Nat) (ps : List Str) (sp : Sp) : Prop where
  ex : ∃ (f : Addr) (fd : FuncData), mg x = some (.ref f) ∧ PySem.W.keepIn K (.ref f) = true ∧ Binds K fd ps [] ∧ FnOk P w K mg base (L2.CX P w) k f fd ps sp
theorem e_call {x : Str} {k : Nat} {ps : List Str} {sp : Sp} {W : WX} [ct : CxT X W] (F : Df X.prog X.w X.K X.mg X.base x k ps sp) (hr : Room k X.A) (h : aW X (e :: es) σ H fun vs H1 => sp vs H1 Q fun cls d H' => W cls d σ H')
    (hg : Gl X x := by rfl) (hdb : (x == ("__debug__" : Str)) = false := by decide) (he : starEach (e :: es) X.env = (false, eval e X.env) :: starEach es X.env := by rfl) (hpl : (backTo pos (starEach es X.env)).any (·.1) = false := by rfl) : eW X (.Call (.Name x p2) (e :: es) [] pos) σ H Q := by
  obtain ⟨f, fd, h1, h2, h3, h4⟩ := F.ex
  exact eI (pe_callS (E := WE W) h4 hr hg h1 h2 h3 (fun σ => passAt ct.h σ) PAw hdb he hpl) h
theorem e_call0 {x : Str} {k : Nat} {ps : List Str} {sp : Sp} (F : Df X.prog X.w X.K X.mg X.base x k ps sp) (hr : Room k X.A) (h : sp [] H Q E0)
    (hg : Gl X x := by rfl) (hdb : (x == ("__debug__" : Str)) = false := by decide) : eW X (.Call (.Name x p2) [] [] pos) σ H Q := by
  obtain ⟨f, fd, h1, h2, h3, h4⟩ := F.ex
  exact eI (pe_call0 (E := E0) h4 hr hg h1 h2 h3 .nil passL hdb) h
theorem e_callB {x : Str} {id : String} [cm : CxM X mg] [g : Gn mg x none] [bl : Blt x (.builtin id)] (h : aW X (e :: es) σ H fun vs H1 => kW X (.builtin id) vs H1 Q)
    (hg : Gl X x := by rfl) (hn : x ≠ "__name__" := by decide) (hdb : (x == ("__debug__" : Str)) = false := by decide) (he : starEach (e :: es) X.env = (false, eval e X.env) :: starEach es X.env := by rfl) (hpl : (backTo pos (starEach es X.env)).any (·.1) = false := by rfl) : eW X (.Call (.Name x p2) (e :: es) [] pos) σ H Q :=
  eI (pe_callB KRw hg (by rw [cm.h]; exact g.h) bl.h PAw hn hdb he hpl) h
theorem e_callTy {x : Str} {id : String} [cm : CxM X mg] [g : Gn mg x none] [bl : Blt x (.type id)] (h : aW X (e :: es) σ H fun vs H1 => kW X (.type id) vs H1 Q)
    (hg : Gl X x := by rfl) (hn : x ≠ "__name__" := by decide) (hdb : (x == ("__debug__" : Str)) = false := by decide) (he : starEach (e :: es) X.env = (false, eval e X.env) :: starEach es X.env := by rfl) (hpl : (backTo pos (starEach es X.env)).any (·.1) = false := by rfl) : eW X (.Call (.Name x p2) (e :: es) [] pos) σ H Q :=
  eI (pe_callTy KRw hg (by rw [cm.h]; exact g.h) bl.h PAw hn hdb he hpl) h
end
/-! ### defs and classes of the text -/
structure At (K : PySem.W.Frag) (mg : Str → Option Value) (x q : Str) (st : Stmt) (ps : List Str) : Prop where
  ex : ∃ (f : Addr) (fd : FuncData), mg x = some (.ref f) ∧ Fun K x q st f fd ∧ Binds K fd ps []
structure MAt (K : PySem.W.Frag) (C : Addr) (x q : Str) (st : Stmt) (ps : List Str) : Prop where
  ex : ∃ (f : Addr) (fd : FuncData), Meth K C x f ∧ Fun K x q st f fd ∧ Binds K fd ps []
structure InitF (K : PySem.W.Frag) (C : Addr) (q : Str) (st : Stmt) (ps : List Str) : Prop where
  ex : ∃ (f : Addr) (fd : FuncData), Mk K C f ∧ Fun K "__init__" q st f fd ∧ Binds K fd ps []
structure ClsF (K : PySem.W.Frag) (mg : Str → Option Value) (x : Str) (C : Addr) : Prop where
  mg : mg x = some (.ref C)
  cl : Cls K C
  mks : PySem.W.makesIn K C = true
  kp : PySem.W.keepIn K (.ref C) = true
  ha : PySem.W.findIn K (.ref C) "__class__" = some (some (.builtin "object.__class__"))
  hn : PySem.W.specialIn K (.builtin "object.__class__") "__get__" = some (some (.builtin "getset_descriptor.__get__"))
  ht : PySem.W.takesIn K (.builtin "object.__class__") = some true
  hm : PySem.W.mroIn K C (.type "object") = some true
  ty : PySem.W.typeIn K (.ref C) = some (.type "type")
  ic : PySem.W.isClsIn K C = true
structure ExcF (K : PySem.W.Frag) (mg : Str → Option Value) (x : Str) (C : Addr) : Prop where
  mg : mg x = some (.ref C)
  ex : PySem.W.excIn K C [.type "ValueError", .type "Exception", .type "BaseException", .type "object"] "ValueError.__new__" = true
  kp : PySem.W.keepIn K (.ref C) = true
  be : PySem.W.subIn K (.ref C) (.type "BaseException") = some true
  ty : PySem.W.typeIn K (.ref C) = some (.type "type")
  ic : PySem.W.isClsIn K C = true
  ga : PySem.W.findIn K (.ref C) "__getattribute__" = some (some (.builtin "BaseException.__getattribute__"))
  gk : PySem.W.findIn K (.ref C) "__getattr__" = some none
  hd : PySem.W.hasDictIn K C = true
  ha : PySem.W.findIn K (.ref C) "__class__" = some (some (.builtin "object.__class__"))
  hn : PySem.W.specialIn K (.builtin "object.__class__") "__get__" = some (some (.builtin "getset_descriptor.__get__"))
  ht : PySem.W.takesIn K (.builtin "object.__class__") = some true
  hm : PySem.W.mroIn K C (.type "object") = some true
  ve : PySem.W.subIn K (.ref C) (.type "ValueError") = some true
structure Md (P : Program) (w : World) (K : PySem.W.Frag) (mg : Str → Option Value) (base : Heap) (C : Addr) (x : Str) (k : Nat) (ps : List Str) (sp : Sp) : Prop where
  ex : ∃ (f : Addr) (fd : FuncData), Meth K C x f ∧ Binds K fd ps [] ∧ FnOk P w K mg base (L2.CX P w) k f fd ps sp
/-! ### promises by the number of the arguments -/
def sp0 (R : Hp → VK → XK → Prop) : Sp := fun vs H Q E => vs = [] ∧ R H Q E
def sp1 (R : V → Hp → VK → XK → Prop) : Sp := fun vs H Q E => ∃ a, vs = [a] ∧ R a H Q E
def sp2 (R : V → V → Hp → VK → XK → Prop) : Sp := fun vs H Q E => ∃ a b, vs = [a, b] ∧ R a b H Q E
def sp3 (R : V → V → V → Hp → VK → XK → Prop) : Sp := fun vs H Q E => ∃ a b c, vs = [a, b, c] ∧ R a b c H Q E
def sp4 (R : V → V → V → V → Hp → VK → XK → Prop) : Sp := fun vs H Q E => ∃ a b c d, vs = [a, b, c, d] ∧ R a b c d H Q E
def sp5 (R : V → V → V → V → V → Hp → VK → XK → Prop) : Sp := fun vs H Q E => ∃ a b c d e, vs = [a, b, c, d, e] ∧ R a b c d e H Q E
def sp6 (R : V → V → V → V → V → V → Hp → VK → XK → Prop) : Sp := fun vs H Q E => ∃ a b c d e f, vs = [a, b, c, d, e, f] ∧ R a b c d e f H Q E
section
variable {vs : List V} {H : Hp} {Q : VK} {E : XK}
theorem sp0_len {R} (h : sp0 R vs H Q E) : vs.length = 0 := by obtain ⟨rfl, _⟩ := h; rfl
theorem sp1_len {R} (h : sp1 R vs H Q E) : vs.length = 1 := by obtain ⟨_, rfl, _⟩ := h; rfl
theorem sp2_len {R} (h : sp2 R vs H Q E) : vs.length = 2 := by obtain ⟨_, _, rfl, _⟩ := h; rfl
theorem sp3_len {R} (h : sp3 R vs H Q E) : vs.length = 3 := by obtain ⟨_, _, _, rfl, _⟩ := h; rfl
theorem sp4_len {R} (h : sp4 R vs H Q E) : vs.length = 4 := by obtain ⟨_, _, _, _, rfl, _⟩ := h; rfl
theorem sp5_len {R} (h : sp5 R vs H Q E) : vs.length = 5 := by obtain ⟨_, _, _, _, _, rfl, _⟩ := h; rfl
theorem sp6_len {R} (h : sp6 R vs H Q E) : vs.length = 6 := by obtain ⟨_, _, _, _, _, _, rfl, _⟩ := h; rfl
end
section
variable {X : Cx} {σ : L2.St} {H : Hp} {Q : VK} {pos p2 p3 p4 apos : Pos} {a e o : Expr} {es : List Expr} {mg : Str → Option Value} {C : Addr}
/-- o.m(e, ..), o.m() of an own class -/
theorem e_meth {m : Str} {k : Nat} {ps : List Str} {sp : Sp} (c : Cls X.K C) (F : Md X.prog X.w X.K X.mg X.base C m k ps sp) (hr : Room k X.A)
    (h : eW X o σ H fun x H1 => ∃ a dx fs, x = .ref a ∧ H1 a = some (.ins C dx fs) ∧ fs.lookup m = none ∧ aW X (e :: es) σ H1 fun vs H2 => sp (x :: vs) H2 Q E0) {pl : Sem Bool}
    (hst : starEach (e :: es) X.env = (false, eval e X.env) :: starEach es X.env := by rfl) (hpl : (backTo pos (starEach es X.env)).any (·.1) = false := by rfl)
    (ht : eval (.Call (.Attribute o m apos) (e :: es) [] pos) X.env = (do
      let ov ← eval o X.env
      standAt apos.atName
      let (f, first) ← holding [ov] (getMethod ov m pl)
      callWith pos f first (backTo pos (starEach (e :: es) X.env)) (backToKw pos (keywordEach [] X.env))) := by rfl) : eW X (.Call (.Attribute o m apos) (e :: es) [] pos) σ H Q := by
  obtain ⟨f, fd, h1, h2, h3⟩ := F.ex
  exact eI (pe_meth (E := E0) PEw c h1 h3 hr h2 .nil passL PAw hst hpl ht) (eMono h fun x H1 ⟨a, dx, fs, q1, q2, q3, q4⟩ => ⟨a, dx, fs, q1, q2, q3, by simpa only [List.append_nil] using q4⟩)
theorem e_meth0 {m : Str} {k : Nat} {ps : List Str} {sp : Sp} (c : Cls X.K C) (F : Md X.prog X.w X.K X.mg X.base C m k ps sp) (hr : Room k X.A)
    (h : eW X o σ H fun x H1 => ∃ a dx fs, x = .ref a ∧ H1 a = some (.ins C dx fs) ∧ fs.lookup m = none ∧ sp [x] H1 Q E0) {pl : Sem Bool}
    (ht : eval (.Call (.Attribute o m apos) [] [] pos) X.env = (do
      let ov ← eval o X.env
      standAt apos.atName
      let (f, first) ← holding [ov] (getMethod ov m pl)
      callWith pos f first (backTo pos (starEach [] X.env)) (backToKw pos (keywordEach [] X.env))) := by rfl) : eW X (.Call (.Attribute o m apos) [] [] pos) σ H Q := by
  obtain ⟨f, fd, h1, h2, h3⟩ := F.ex
  exact eI (pe_meth0 (E := E0) PEw c h1 h3 hr h2 .nil passL ht) h
theorem run_makeO {pins : List (Addr × Obj)} {s : Shared} (hm : PySem.W.makesIn X.K C = true) (hi : PySem.W.findIn X.K (.ref C) "__init__" = some (some (.builtin "object.__init__"))) (I : Inv X pins σ H s)
    (h : ∀ x dx, H x = none → H dx = none → dx ≠ x → Q (.ref x) (upd (upd H dx (.own x)) x (.ins C dx []))) : wpAny (model X.prog X.w) X.A (call (.ref C) []) (EP X pins σ Q) X.xe s := by
  have hq := h (s.heap.objs.size + 1) s.heap.objs.size (I.hok.fresh (Nat.le_succ _)) (I.hok.fresh (Nat.le_refl _)) (Nat.ne_of_lt (Nat.lt_succ_self _))
  have I2 := Inv.made (C := C) I
  have KX := I.kIn
  refine wpAny_call (make_map0 KX hm hi (fun self => PySem.W.Looks.of_pure (PySem.W.oi_bind self)) ?_)
  obtain ⟨hh, g, d, t, os⟩ := s
  have Y := PySem.W.makes_of (M := model X.prog X.w) KX hm
  have t1 : PySem.W.Looks (model X.prog X.w) ((hh.push PySem.W.emptyDict).push (PySem.W.instObj C hh.objs.size)) (typeOf (.ref (hh.objs.size + 1))) (.ref C) := (PySem.W.Looks.ld (by
    have z := Heap.get?_push_size (hh.push PySem.W.emptyDict) (o := PySem.W.instObj C hh.objs.size) rfl
    rw [Heap.size_push] at z
    exact z)).andThen .now
  have t2 : PySem.W.Looks (model X.prog X.w) ((hh.push PySem.W.emptyDict).push (PySem.W.instObj C hh.objs.size)) (isInstance (.ref (hh.objs.size + 1)) (.type "object")) true := t1.andThen (Y.top.keeps fun b o e => Heap.get?_push_of_some _ (Heap.get?_push_of_some _ e))
  refine codeAny_call_builtin PySem.W.oi_plain PySem.W.entry_oi (@PySem.W.check_slot (model X.prog X.w) _ _ _ "object.__init__" "object" "__init__" (.ref (hh.objs.size + 1)) [] [] _ PySem.W.oi_kind PySem.W.oi_split t2 (PySem.W.oi_args (.ref (hh.objs.size + 1))) ?_)
  rw [PySem.W.oi_run]
  exact wpAny_pure ⟨rfl, .ref (hh.objs.size + 1), _, I2, rfl, hq⟩
theorem e_makeO {x : Str} [cm : CxM X mg] [g : Gn mg x (some (.ref C))] (hm : PySem.W.makesIn X.K C = true) (hk : PySem.W.keepIn X.K (.ref C) = true) (hi : PySem.W.findIn X.K (.ref C) "__init__" = some (some (.builtin "object.__init__")))
    (h : ∀ x dx, H x = none → H dx = none → dx ≠ x → Q (.ref x) (upd (upd H dx (.own x)) x (.ins C dx []))) (hg : Gl X x := by rfl) (hdb : (x == ("__debug__" : Str)) = false := by decide) : eW X (.Call (.Name x p2) [] [] pos) σ H Q := ⟨fun pins s I =>
  wpAny_Call_Name_kw (ld_glob I hg (by rw [cm.h]; exact g.h) (PySem.W.callWith_K0 I.kIn hk (run_makeO hm hi I h)) hdb)⟩
end
/-! ### isinstance -/
section
variable {X : Cx} {H : Hp} {Q : VK}
theorem k_isi {x c : V} {t u : Value} {b : Bool} (hc : ClsV c u) (hx : TyX X.K H x t) (e : PySem.W.kitOne X.K t u = some b) (q : Q (.bl b) H) : kW X (.builtin "isinstance") [x, c] H Q := kI call_isi ⟨_, _, _, _, _, rfl, hc, hx, e, q⟩
theorem ClsF.tyX {K : PySem.W.Frag} {mg : Str → Option Value} {x : Str} {C a dx : Addr} {fs : List (Str × V)} (T : ClsF K mg x C) (h : H a = some (.ins C dx fs)) : TyX K H (.ref a) (.ref C) := .base (.ins h T.cl T.ha T.hn T.ht T.hm)
theorem kit_refs {K : PySem.W.Frag} {C D : Addr} {b : Bool} (hs : PySem.W.subIn K (.ref C) (.ref D) = some b) (ic : PySem.W.isClsIn K D = true) (ty : PySem.W.typeIn K (.ref D) = some (.type "type")) (ne : C ≠ D) : PySem.W.kitOne K (.ref C) (.ref D) = some b := by
  have e1 : ((PySem.W.clsIn K D).isSome && PySem.W.typeIn K (.ref D) == some (.type "type")) = true := by
    have h2 : (PySem.W.clsIn K D).isSome = true := ic
    rw [h2, ty]; rfl
  have e2 : (Value.ref C == Value.ref D) = false := by simp [ne]
  show (if (Value.ref C == Value.ref D) = true then some true else if ((PySem.W.clsIn K D).isSome && PySem.W.typeIn K (.ref D) == some (.type "type")) = true then PySem.W.subIn K (.ref C) (.ref D) else none) = some b
  rw [e2, if_neg Bool.false_ne_true, if_pos e1]
  exact hs
theorem kit_self {K : PySem.W.Frag} {C : Addr} : PySem.W.kitOne K (.ref C) (.ref C) = some true := by
  show (if (Value.ref C == Value.ref C) = true then some true else _) = some true
  rw [if_pos (by simp)]
end
/-! ### subscripts, equality of data -/
structure iW (X : Cx) (x y : V) (H : Hp) (Q : VK) : Prop where
  run : ∀ (value slice : Expr) pins s σ v u, Inv X pins σ H s → RelV x v → RelV y u → subscripted slice false v u = operate [v, u] (getItem v u) → wpAny (model X.prog X.w) X.A (subscriptTail value slice v u) (EP X pins σ Q) X.xe s
section
variable {X : Cx} {σ : L2.St} {H : Hp} {Q : VK} {pos p2 p3 : Pos} {a b : Expr} {x y v : V} {p : Addr} {xs : List V} {i : Int}
theorem e_ix (h : eW X a σ H fun x H1 => eW X b σ H1 fun y H2 => iW X x y H2 Q) (hs : PlainIx b := by exact fun _ _ => rfl) : eW X (.Subscript a b pos) σ H Q :=
  eI (pe_ix (r := iW X) (fun value slice pins s σ H x y v u Q I rx ry h hs => h.run value slice pins s σ v u I rx ry hs) PEw PEw hs) h
theorem iI {r : R2} (h : IxR X r) (q : r x y H Q) : iW X x y H Q := ⟨fun value slice pins s σ v u I rx ry hs => h value slice pins s σ H x y v u Q I rx ry q hs⟩
theorem i_lst (h : SqL X.K H p xs) (e : atI xs i = some v) (q : Q v H) : iW X (.ref p) (.int i) H Q := iI ix_list ⟨_, _, _, _, rfl, rfl, h, e, q⟩
theorem i_tup (h : SqT X.K H p xs) (e : atI xs i = some v) (q : Q v H) : iW X (.ref p) (.int i) H Q := iI ix_tup ⟨_, _, _, _, rfl, rfl, h, e, q⟩
theorem i_str {z : Str} {c : Nat} (hz : z.length ≤ sizeLine) (e : atI z.cps.toList i = some c) (q : Q (.str ⟨#[c]⟩) H) : iW X (.str z) (.int i) H Q := iI ix_str ⟨_, _, _, rfl, rfl, hz, e, q⟩
theorem o_eqD {d e : PyData} (hu : X.A.units + 64 < cLine) (hx : Dp X.K H x d) (hy : Dp X.K H y e) (sd : SeqAt.shaped d = true) (se : SeqAt.shaped e = true) (q : Q (.bl (PyData.eqv d e)) H) : oW X (compareOp .Eq) x y H Q := oI (op_eqD hu) ⟨d, e, hx, hy, sd, se, q⟩
theorem o_neD {d e : PyData} (hu : X.A.units + 64 < cLine) (hx : Dp X.K H x d) (hy : Dp X.K H y e) (sd : SeqAt.shaped d = true) (se : SeqAt.shaped e = true) (q : Q (.bl (!PyData.eqv d e)) H) : oW X (compareOp .NotEq) x y H Q := oI (op_neD hu) ⟨d, e, hx, hy, sd, se, q⟩
theorem k_min {j : Int} [cc : CxC X] (q : Q (.int (if j < i then j else i)) H) : kW X (.builtin "min") [.int i, .int j] H Q := kI (call_min2 cc.h) ⟨_, _, rfl, q⟩
theorem k_max {j : Int} [cc : CxC X] (q : Q (.int (if j > i then j else i)) H) : kW X (.builtin "max") [.int i, .int j] H Q := kI (call_max2 cc.h) ⟨_, _, rfl, q⟩
end
theorem atI_nat {α : Type} {xs : List α} {i : Int} {v : α} (h0 : 0 ≤ i) (h : xs[i.toNat]? = some v) : atI xs i = some v := by
  have hl := (List.getElem?_eq_some_iff.mp h).1
  unfold atI ixN
  rw [if_pos h0, if_pos (by omega)]
  exact h
theorem atI_all {α : Type} {xs : List α} {i : Int} {P : α → Prop} (h0 : 0 ≤ i) (h1 : i < xs.length) (hp : ∀ x ∈ xs, P x) : ∃ v, atI xs i = some v ∧ P v := by
  have hl : i.toNat < xs.length := by omega
  exact ⟨xs[i.toNat], atI_nat h0 (List.getElem?_eq_getElem hl), hp _ (List.getElem_mem hl)⟩
theorem TyB {K : PySem.W.Frag} {H : Hp} : (∀ i, TyX K H (.int i) (.type "int")) ∧ (∀ b, TyX K H (.bl b) (.type "bool")) ∧ (∀ z, TyX K H (.str z) (.type "str")) ∧ TyX K H .non (.type "NoneType") := ⟨fun _ => .base (.int _), fun _ => .base (.bl _), fun _ => .base (.str _), .base .non⟩
theorem TyL {K : PySem.W.Frag} {H : Hp} {p : Addr} {xs : List V} (h : H p = some (.lst xs)) : TyX K H (.ref p) (.type "list") := .base (.lst h)
theorem TyT {K : PySem.W.Frag} {H : Hp} {p : Addr} {xs : List V} (h : H p = some (.tup xs)) : TyX K H (.ref p) (.type "tuple") := .base (.tup h)
section
variable {X : Cx} {H : Hp} {Q : VK}
/-- isinstance of a value told by its type's name, of a built-in type -/
theorem k_isB {x : V} {t n : String} {b : Bool} (hx : TyX X.K H x (.type t)) (e : kitB t n = some b) (q : Q (.bl b) H) : kW X (.builtin "isinstance") [x, .ty n] H Q := k_isi (.ty n) hx (kit_ty e) q
end
theorem kb_int_int : kitB "int" "int" = some true := by decide +kernel
theorem kb_int_bool : kitB "int" "bool" = some false := by decide +kernel
theorem kb_bool_int : kitB "bool" "int" = some true := by decide +kernel
theorem kb_bool_bool : kitB "bool" "bool" = some true := by decide +kernel
theorem p60 : (10 : Int) ^ (60 : Int).toNat = 1000000000000000000000000000000000000000000000000000000000000 := by decide
theorem p30 : (10 : Int) ^ (30 : Int).toNat = 1000000000000000000000000000000 := by decide
section
variable {X : Cx} {H : Hp} {Q : VK}
theorem o_p60 (q : Q (.int 1000000000000000000000000000000000000000000000000000000000000) H) : oW X (binaryOp .Pow) (.int 10) (.int 60) H Q := oI op_pow ⟨_, _, rfl, rfl, ⟨by decide, by decide, by decide⟩, by show Q (.int ((10 : Int) ^ (60 : Int).toNat)) H; rw [p60]; exact q⟩
theorem o_p30 (q : Q (.int 1000000000000000000000000000000) H) : oW X (binaryOp .Pow) (.int 10) (.int 30) H Q := oI op_pow ⟨_, _, rfl, rfl, ⟨by decide, by decide, by decide⟩, by show Q (.int ((10 : Int) ^ (30 : Int).toNat)) H; rw [p30]; exact q⟩
end
/-- a new list, its heap by what is known of it -/
theorem e_lstN {X : Cx} {σ : L2.St} {H : Hp} {Q : VK} {pos : Pos} {es : List Expr} (h : aW X es σ H fun xs H1 => Nat.ble xs.length 1000 = true ∧ ∀ p H2, Same H1 H2 → H1 p = none → H2 p = some (.lst xs) → (∀ b, b ≠ p → H2 b = H1 b) → Q (.ref p) H2) : eW X (.List es pos) σ H Q :=
  e_lst ⟨fun pos pins s I => wpAny_mono (h.run pos pins s I) (fun us s' ⟨vs, H', a, b, c, d⟩ => ⟨vs, H', a, b, Nat.le_trans (Nat.le_of_ble_eq_true c) (by decide), fun p hp => d p _ (fun x o e => by rw [upd_ne (ne_of_none e hp)]; exact e) hp upd_same fun x hx => upd_ne hx⟩) fun _ _ x => x⟩
theorem e_tupN {X : Cx} {σ : L2.St} {H : Hp} {Q : VK} {pos : Pos} {es : List Expr} {k : Nat} (h : aW X es σ H fun xs H1 => Nat.ble xs.length 1000 = true ∧ ∀ p H2, Same H1 H2 → H1 p = none → H2 p = some (.tup xs) → (∀ b, b ≠ p → H2 b = H1 b) → Q (.ref p) H2) : eW X (.Tuple es k pos) σ H Q :=
  e_tup ⟨fun pos pins s I => wpAny_mono (h.run pos pins s I) (fun us s' ⟨vs, H', a, b, c, d⟩ => ⟨vs, H', a, b, Nat.le_trans (Nat.le_of_ble_eq_true c) (by decide), fun p hp => d p _ (fun x o e => by rw [upd_ne (ne_of_none e hp)]; exact e) hp upd_same fun x hx => upd_ne hx⟩) fun _ _ x => x⟩
section
variable {X : Cx} {H : Hp} {Q : VK} {p : Addr} {xs : List V} {z : Str}
theorem k_lenL (h : SqL X.K H p xs) (q : Q (.int (xs.length : Int)) H) : kW X (.builtin "len") [.ref p] H Q := kI call_len_seq ⟨_, _, rfl, .inl h, q⟩
theorem k_lenT (h : SqT X.K H p xs) (q : Q (.int (xs.length : Int)) H) : kW X (.builtin "len") [.ref p] H Q := kI call_len_seq ⟨_, _, rfl, .inr h, q⟩
theorem k_lenS (h : z.length ≤ sizeLine) (q : Q (.int (z.length : Int)) H) : kW X (.builtin "len") [.str z] H Q := kI call_len_str ⟨_, rfl, h, q⟩
end
theorem Same.made' {H : Hp} {x dx C : Addr} (nx : H x = Option.none) (nd : H dx = Option.none) : Same H (upd (upd H dx (.own x)) x (.ins C dx [])) := fun b o e => by
  rw [upd_ne (ne_of_none e nx), upd_ne (ne_of_none e nd)]
  exact e
def R_law (K : PySem.W.Frag) : V → Hp → VK → XK → Prop := fun x H Q _ => ∃ (a : Addr) (ns : List Int), x = .ref a ∧ SqL K H a (ns.map V.int) ∧ ns.length ≤ 63 ∧ ∀ H', Q (.bl true) H'
/-! ### targets that are tuples -/
structure hW (X : Cx) (es : List Expr) (vs : List V) (σ : L2.St) (H : Hp) (Q : L2.St → Hp → Prop) : Prop where
  run : ∀ pins s us, Inv X pins σ H s → Vals vs us → wpAny (model X.prog X.w) X.A (assignInOrder ((assignEach es X.env).map (·.2)) us) (fun _ s' => ∃ σ' H', Inv X pins σ' H' s' ∧ Q σ' H') X.xe s
section
variable {X : Cx} {σ : L2.St} {H : Hp} {pos : Pos} {e : Expr} {es : List Expr} {Q : L2.St → Hp → Prop}
theorem PHw : PGs X es (hW X es) := ⟨fun pins s _ _ vs us _ I r h => h.run pins s us I r⟩
theorem h_nil (h : Q σ H) : hW X [] [] σ H Q := ⟨fun pins s us I r => pgs_nil.run pins s σ H [] us Q I r ⟨rfl, h⟩⟩
theorem h_cons {v : V} {vs : List V} (h : gW X e v σ H fun σ1 H1 => hW X es vs σ1 H1 Q) (hs : (assignEach (e :: es) X.env).map (·.2) = assign e X.env :: (assignEach es X.env).map (·.2) := by rfl) : hW X (e :: es) (v :: vs) σ H Q :=
  ⟨fun pins s us I r => (pgs_cons PGw PHw hs).run pins s σ H (v :: vs) us Q I r ⟨v, vs, rfl, h⟩⟩
theorem g_tup {k n : Nat} {v : V} [cc : CxC X] (h : ∃ a xs, v = .ref a ∧ SqT X.K H a xs ∧ xs.length = n ∧ hW X es xs σ H Q)
    (hn : (assignEach es X.env).length = n := by rfl) (hst : (assignEach es X.env).findIdx? (·.1) = none := by rfl) : gW X (.Tuple es k pos) v σ H Q := gI (pg_tup cc.h PHw hn hst) h
end
section
variable {X : Cx} {σ : L2.St} {H : Hp} {pos : Pos} {es : List Expr} {Q : L2.St → Hp → Prop}
theorem g_lst {k n : Nat} {v : V} [cc : CxC X] (h : ∃ a xs, v = .ref a ∧ SqL X.K H a xs ∧ xs.length = n ∧ hW X es xs σ H Q)
    (hn : (assignEach es X.env).length = n := by rfl) (hst : (assignEach es X.env).findIdx? (·.1) = none := by rfl) : gW X (.Tuple es k pos) v σ H Q := gI (pg_lst cc.h PHw hn hst) h
theorem is_h {vs : List V} (h : hW X es vs σ H Q) : hW X es vs σ H Q := h
end
theorem s_asgT {X : Cx} {σ : L2.St} {H : Hp} {D : Ends} {pos p2 : Pos} {e : Expr} {es : List Expr} {k : Nat} (h : eW X e σ H fun v H1 => gW X (.Tuple es k p2) v σ H1 D.nx) (hs : swapsWithSole [.Tuple es k p2] e pos.line X.env = pure false := by rfl) (hw : swappedStores [.Tuple es k p2] e X.env = pure none := by rfl)
    (h1 : (assignEach [.Tuple es k p2] X.env).map (·.2) = [assign (.Tuple es k p2) X.env] := by rfl) : sW X (.Assign [.Tuple es k p2] e pos) D σ H := s_asg h hs hw h1
def oV : Option Int → V
  | none => .non
  | some i => .int i
theorem TyO {K : PySem.W.Frag} {H : Hp} : TyX K H .non (.type "NoneType") := .base .non
/-! ### what is walked; for and comprehensions over any walk -/
structure jW (X : Cx) (tg it : Expr) (σ : L2.St) (H : Hp) (R : It → Hp → Prop) : Prop where
  run : ∀ pins s, Inv X pins σ H s → wpAny (model X.prog X.w) X.A (eval it X.env) (fun v s1 => wpAny (model X.prog X.w) X.A (pyIter v) (PIE X pins σ tg R) X.xe s1) X.xe s
structure mW (X : Cx) (id : String) (x : V) (xs : List V) (H : Hp) (Q : VK) : Prop where
  run : ∀ pins s σ v us, Inv X pins σ H s → RelV x v → Vals xs us → wpAny (model X.prog X.w) X.A (call (.builtin id) (v :: us)) (EP X pins σ Q) X.xe s
structure nW (X : Cx) (x : V) (lo hi : Option Int) (H : Hp) (Q : VK) : Prop where
  run : ∀ pins s σ v vl vu sl, Inv X pins σ H s → RelV x v → s.heap.IsSliceOf sl vl vu .none → IsPart vl lo → IsPart vu hi →
    ∃ T id, typeLookup (.type T) "__getitem__" = pure (some (.builtin id)) ∧ s.TypeIs v T ∧ wpAny (model X.prog X.w) X.A (getItem v (.ref sl)) (EP X pins σ Q) X.xe s
section
variable {X : Cx} {σ : L2.St} {H : Hp} {Q : VK} {D : Ends} {pos p2 p3 p4 p5 apos : Pos} {e o it tg elt c a b : Expr} {es : List Expr} {body : List Stmt} {R : It → Hp → Prop} {mg : Str → Option Value}
theorem PJw : PI X tg it (jW X tg it) := ⟨fun pins s _ _ _ I h => h.run pins s I⟩
theorem jI {wi : TI} (h : PI X tg it wi) (q : wi σ H R) : jW X tg it σ H R := ⟨fun pins s I => h.run pins s σ H R I q⟩
theorem MRw {id : String} : MtR X id (mW X id) := fun pins s σ H x xs v us Q I rx r h => h.run pins s σ v us I rx r
theorem mI {id : String} {r : V → List V → Hp → VK → Prop} {x : V} {xs : List V} (h : MtR X id r) (q : r x xs H Q) : mW X id x xs H Q := ⟨fun pins s σ v us I rx rs => h pins s σ H x xs v us Q I rx rs q⟩
theorem NRw : SlR X (nW X) := fun pins s σ H x v vl vu lo hi sl Q I rx h1 h2 h3 q => q.run pins s σ v vl vu sl I rx h1 h2 h3
theorem nI {r : V → Option Int → Option Int → Hp → VK → Prop} {x : V} {lo hi : Option Int} (h : SlR X r) (q : r x lo hi H Q) : nW X x lo hi H Q := ⟨fun pins s σ v vl vu sl I rx h1 h2 h3 => h pins s σ H x v vl vu lo hi sl Q I rx h1 h2 h3 q⟩
theorem j_list (h : eW X it σ H fun x H1 => ∃ a, x = .ref a ∧ (∃ xs, SqL X.K H1 a xs) ∧ R (Itl X.K a) H1) : jW X tg it σ H R := jI (pi_list PEw) h
theorem j_tup (h : eW X it σ H fun x H1 => ∃ a, x = .ref a ∧ (∃ xs, SqT X.K H1 a xs) ∧ R (Itt X.K a) H1) : jW X tg it σ H R := jI (pi_tup PEw) h
theorem j_str (h : eW X it σ H fun x H1 => ∃ z, x = .str z ∧ R (Its z) H1) : jW X tg it σ H R := jI (pi_str PEw) h
theorem j_rng1 [cm : CxM X mg] [g : Gn mg "range" none] (h : aW X [a] σ H fun vs H1 => ∃ j : Int, vs = [.int j] ∧ -(2 ^ 62) ≤ j ∧ j < 2 ^ 62 ∧ R (Itr 0 j.toNat) H1) (hg : Gl X "range" := by rfl) (hs : starEach [a] X.env = [(false, eval a X.env)] := by rfl) : jW X tg (.Call (.Name "range" p2) [a] [] pos) σ H R :=
  jI (pi_range1 hg (by rw [cm.h]; exact g.h) PAw hs) h
theorem j_rng2 [cm : CxM X mg] [g : Gn mg "range" none] (h : aW X [a, b] σ H fun vs H1 => ∃ i j : Int, vs = [.int i, .int j] ∧ (-(2 ^ 62) ≤ i ∧ i < 2 ^ 62 ∧ -(2 ^ 62) ≤ j ∧ j < 2 ^ 62) ∧ R (Itr i (j - i).toNat) H1) (hg : Gl X "range" := by rfl)
    (hs : starEach [a, b] X.env = [(false, eval a X.env), (false, eval b X.env)] := by rfl) (hs2 : starEach [b] X.env = [(false, eval b X.env)] := by rfl) : jW X tg (.Call (.Name "range" p2) [a, b] [] pos) σ H R :=
  jI (pi_range2 hg (by rw [cm.h]; exact g.h) PAw hs hs2) h
theorem j_rng3 [cm : CxM X mg] [g : Gn mg "range" none] (h : aW X [a, b, c] σ H fun vs H1 => ∃ (i j c : Int) (n : Nat), vs = [.int i, .int j, .int c] ∧ RgC i j c n ∧ R (Itc i c n) H1) (hg : Gl X "range" := by rfl)
    (hs : starEach [a, b, c] X.env = (false, eval a X.env) :: starEach [b, c] X.env := by rfl) (hpl : (backTo pos (starEach [b, c] X.env)).any (·.1) = false := by rfl) : jW X tg (.Call (.Name "range" p2) [a, b, c] [] pos) σ H R :=
  jI (pi_range3 hg (by rw [cm.h]; exact g.h) PAw hs hpl) h
theorem j_rev [cm : CxM X mg] [g : Gn mg "reversed" none] (h : aW X [a] σ H fun vs H1 => ∃ (a : Addr) (xs : List V), vs = [.ref a] ∧ SqL X.K H1 a xs ∧ R (Itv X.K a xs.length) H1) (hg : Gl X "reversed" := by rfl) (hs : starEach [a] X.env = [(false, eval a X.env)] := by rfl) : jW X tg (.Call (.Name "reversed" p2) [a] [] pos) σ H R :=
  jI (pi_reversed hg (by rw [cm.h]; exact g.h) PAw hs) h
theorem j_revT [cm : CxM X mg] [g : Gn mg "reversed" none] (h : eW X a σ H fun v H1 => ∃ (p : Addr) (xs : List V), v = .ref p ∧ SqT X.K H1 p xs ∧ R (RT.ItvT X.K p xs.length) H1) (hg : Gl X "reversed" := by rfl) (hs : starEach [a] X.env = (false, eval a X.env) :: starEach [] X.env := by rfl) : jW X tg (.Call (.Name "reversed" p2) [a] [] pos) σ H R :=
  jI (RT.pi_revA hg (by rw [cm.h]; exact g.h) PEw hs) (eMono h fun v H1 ⟨p, xs, e, q, r⟩ => ⟨p, xs, e, .inr ⟨q, r⟩⟩)
theorem walk_revT {K : PySem.W.Frag} {p : Addr} {xs : List V} : Walk (RT.ItvT K p xs.length) xs.length (fun H => SqT K H p xs) (fun i H x H' => H' = H ∧ xs[xs.length - 1 - i]? = some x) :=
  ⟨fun i _ hi q => ⟨hi, xs, xs[xs.length - 1 - i]'(by omega), q, by simp [show xs.length - 1 - i < xs.length by omega]⟩, fun _ _ => Nat.le_refl _, fun _ _ _ _ _ q y => ⟨y.1, y.2 xs q⟩⟩
theorem j_enum {elts : List Expr} {kk : Nat} [cm : CxM X mg] [g : Gn mg "enumerate" none] (h : aW X [a] σ H fun vs H1 => ∃ a xs, vs = [.ref a] ∧ SqL X.K H1 a xs ∧ R (Ite X.K a) H1) (hg : Gl X "enumerate" := by rfl) (hs : starEach [a] X.env = [(false, eval a X.env)] := by rfl) : jW X (.Tuple elts kk p3) (.Call (.Name "enumerate" p2) [a] [] pos) σ H R :=
  jI (pi_enum hg (by rw [cm.h]; exact g.h) PAw hs) h
theorem j_items {elts : List Expr} {kk : Nat} (h : eW X e σ H fun x H1 => ∃ d o kvs, x = .ref d ∧ H1 d = some (.frz o (.dK kvs)) ∧ R (Iti d o kvs) H1) (hbase : attributeBase e "items" X.env (eval e X.env) = eval e X.env := by rfl) (hline : (apos.endLine == pos.line) = true := by rfl) :
    jW X (.Tuple elts kk p3) (.Call (.Attribute e "items" apos) [] [] pos) σ H R := jI (pi_items PEw hbase hline) h
/-- for over any walk -/
theorem s_for [ow : CxO X] [cc : CxC X] (h : jW X tg it σ H fun J H1 => ∃ n G Y, Walk J n G Y ∧ ∃ Pv : Nat → L2.St → Hp → Prop, Pv 0 σ H1 ∧ (∀ i σ' H', i ≤ n → Pv i σ' H' → G H') ∧
      (∀ i x σ' H' H2, i < n → Pv i σ' H' → Y i H' x H2 → gW X tg x σ' H2 fun σ3 H3 => bW X body (Dlp D (Pv (i + 1))) σ3 H3) ∧ ∀ σ' H', Pv n σ' H' → D.nx σ' H')
    (hs : ∀ x, foldedSetIterable it X.env x = pure x := by intro _; rfl) : sW X (.For tg it body [] pos) D σ H :=
  sI (ps_for ow.h cc.h PJw PGw PBw hs) ⟨fun pins s I => wpAny_mono (h.run pins s I) (fun v s1 q => wpAny_mono q (fun u s2 ⟨i, fp, tn, J, H2, e, I2, T, t0, f2, n, G, Y, w, Pv, q0, q1, q2, q3⟩ => ⟨i, fp, tn, J, H2, e, I2, T, t0, f2, for_it w Pv q0 q1 q2 q3⟩) fun _ _ z => z) fun _ _ z => z⟩
/-- the parts of a comprehension, in every context of its block -/
def eB (X : Cx) (sc : Scope) (e : Expr) : TE := fun σ H Q => ∀ (s : Shared) (H0 : Hp) (C : Addr) (cl : List (Str × Addr)) (fp : List Addr), eW (X.blk s H0 sc (compEnvC sc cl C X.env) fp) e σ H Q
def tB' (X : Cx) (sc : Scope) (e : Expr) : TT := fun σ H Q => ∀ (s : Shared) (H0 : Hp) (C : Addr) (cl : List (Str × Addr)) (fp : List Addr), tW (X.blk s H0 sc (compEnvC sc cl C X.env) fp) e σ H Q
def gB (X : Cx) (sc : Scope) (e : Expr) : TG := fun v σ H Q => ∀ (s : Shared) (H0 : Hp) (C : Addr) (cl : List (Str × Addr)) (fp : List Addr), gW (X.blk s H0 sc (compEnvC sc cl C X.env) fp) e v σ H Q
theorem e_lc {sc : Scope} {N : List Str} {own : List (Str × Nat)} [cc : CxC X] [cn : CxN X N] [nd : NdN N] (ok : BlkOk N X.env.scope sc own)
    (h : jW X tg it σ H fun J H1 => ∃ n G Y, Walk J n G Y ∧ ∀ D, H1 D = none → ∃ Pv : Nat → Hp → Prop, Pv 0 (upd H1 D (.lst [])) ∧ (∀ i H', i ≤ n → Pv i H' → G H') ∧
      (∀ i x H' H2, i < n → Pv i H' → Y i H' x H2 → gB X sc tg x (wipe σ (own.map (·.2))) H2 fun σ3 H3 => wipe σ3 (own.map (·.2)) = wipe σ (own.map (·.2)) ∧ eB X sc elt σ3 H3 fun y H4 => ∃ acc, H4 D = some (.lst acc) ∧ acc.length < sizeLine ∧ Pv (i + 1) (upd H4 D (.lst (acc ++ [y])))) ∧
      ∀ H', Pv n H' → Q (.ref D) H') (hs : ∀ x, foldedSetIterable it X.env x = pure x := by intro _; rfl) : eW X (.ListComp elt [⟨tg, it, [], 0⟩] sc pos) σ H Q :=
  eI (pe_lc (g := gB X sc tg) (tt := tYes) (te := eB X sc elt) cc.h (by rw [cn.h]; exact nd.h) PJw (by rw [cn.h]; exact ok) (fun s H0 C cl fp => ⟨fun pins s' _ _ v u _ I r h => (h s H0 C cl fp).run pins s' u I r⟩) (fun _ _ _ _ _ => pts_nil) (fun s H0 C cl fp => ⟨fun pins s' _ _ _ I h => (h s H0 C cl fp).run pins s' I⟩) hs)
    ⟨fun pins s I => wpAny_mono (h.run pins s I) (fun v s1 q => wpAny_mono q (fun u s2 ⟨i, fp, tn, J, H2, e, I2, T, t0, f2, n, G, Y, w, k⟩ => ⟨i, fp, tn, J, H2, e, I2, T, t0, f2, fun D hD => by
      obtain ⟨Pv, q0, q1, q2, q3⟩ := k D hD
      exact lc_it w Pv q0 q1 (fun i x H' H2' hi p y s0 H0 C cl fp => ⟨fun pins s' u I r => wpAny_mono ((q2 i x H' H2' hi p y s0 H0 C cl fp).run pins s' u I r) (fun _ s'' ⟨σ', H'', I'', e1, e2⟩ => ⟨σ', H'', I'', e1, e2⟩) fun _ _ z => z⟩) q3⟩) fun _ _ z => z) fun _ _ z => z⟩
/-- .. with one if -/
theorem e_lcI {sc : Scope} {N : List Str} {own : List (Str × Nat)} [cc : CxC X] [cn : CxN X N] [nd : NdN N] (ok : BlkOk N X.env.scope sc own)
    (h : jW X tg it σ H fun J H1 => ∃ n G Y, Walk J n G Y ∧ ∀ D, H1 D = none → ∃ Pv : Nat → Hp → Prop, Pv 0 (upd H1 D (.lst [])) ∧ (∀ i H', i ≤ n → Pv i H' → G H') ∧
      (∀ i x H' H2, i < n → Pv i H' → Y i H' x H2 → gB X sc tg x (wipe σ (own.map (·.2))) H2 fun σ3 H3 => wipe σ3 (own.map (·.2)) = wipe σ (own.map (·.2)) ∧ tB' X sc c σ3 H3 fun k H4 => if k = true then eB X sc elt σ3 H4 fun y H5 => ∃ acc, H5 D = some (.lst acc) ∧ acc.length < sizeLine ∧ Pv (i + 1) (upd H5 D (.lst (acc ++ [y]))) else Pv (i + 1) H4) ∧
      ∀ H', Pv n H' → Q (.ref D) H') (hs : ∀ x, foldedSetIterable it X.env x = pure x := by intro _; rfl) : eW X (.ListComp elt [⟨tg, it, [c], 0⟩] sc pos) σ H Q :=
  eI (pe_lc (g := gB X sc tg) (tt := tB' X sc c) (te := eB X sc elt) cc.h (by rw [cn.h]; exact nd.h) PJw (by rw [cn.h]; exact ok) (fun s H0 C cl fp => ⟨fun pins s' _ _ v u _ I r h => (h s H0 C cl fp).run pins s' u I r⟩) (fun s H0 C cl fp => pts_one ⟨fun pins s' _ _ _ I h => (h s H0 C cl fp).run pins s' I⟩) (fun s H0 C cl fp => ⟨fun pins s' _ _ _ I h => (h s H0 C cl fp).run pins s' I⟩) hs)
    ⟨fun pins s I => wpAny_mono (h.run pins s I) (fun v s1 q => wpAny_mono q (fun u s2 ⟨i, fp, tn, J, H2, e, I2, T, t0, f2, n, G, Y, w, k⟩ => ⟨i, fp, tn, J, H2, e, I2, T, t0, f2, fun D hD => by
      obtain ⟨Pv, q0, q1, q2, q3⟩ := k D hD
      exact lc_it w Pv q0 q1 q2 q3⟩) fun _ _ z => z) fun _ _ z => z⟩
/-- name = [..] whose place is stored from within -/
theorem s_setLc {sc : Scope} {N : List Str} {own : List (Str × Nat)} {y : Str} {i : Nat} [cc : CxC X] [cn : CxN X N] [sl : Slt N y i] [nd : NdN N] (ok : BlkOk N X.env.scope sc own)
    (h : jW X tg it σ H fun J H1 => ∃ n G Y, Walk J n G Y ∧ ∀ D', H1 D' = none → ∃ Pv : Nat → Hp → Prop, Pv 0 (upd H1 D' (.lst [])) ∧ (∀ i H', i ≤ n → Pv i H' → G H') ∧
      (∀ i x H' H2, i < n → Pv i H' → Y i H' x H2 → gB X sc tg x (wipe σ (own.map (·.2))) H2 fun σ3 H3 => wipe σ3 (own.map (·.2)) = wipe σ (own.map (·.2)) ∧ eB X sc elt σ3 H3 fun y H4 => ∃ acc, H4 D' = some (.lst acc) ∧ acc.length < sizeLine ∧ Pv (i + 1) (upd H4 D' (.lst (acc ++ [y])))) ∧
      ∀ H', Pv n H' → D.nx (σ.set i (some (.ref D'))) H') (hyl : X.env.scope.names.lookup y = some .local := by rfl)
    (hsw : swapsWith (.ListComp elt [⟨tg, it, [], 0⟩] sc pos) (some (.Name y p2)) p3.line X.env = pure true := by exact sw_true rfl rfl rfl (by decide +kernel)) (hs : ∀ x, foldedSetIterable it X.env x = pure x := by intro _; rfl) : sW X (.Assign [.Name y p2] (.ListComp elt [⟨tg, it, [], 0⟩] sc pos) p3) D σ H :=
  sI (ps_setLc (i := i) (g := gB X sc tg) (tt := tYes) (te := eB X sc elt) cc.h (by rw [cn.h]; exact nd.h) (by rw [cn.h]; exact sl.h) hyl hsw PJw (by rw [cn.h]; exact ok) (fun s H0 C cl fp => ⟨fun pins s' _ _ v u _ I r h => (h s H0 C cl fp).run pins s' u I r⟩) (fun _ _ _ _ _ => pts_nil) (fun s H0 C cl fp => ⟨fun pins s' _ _ _ I h => (h s H0 C cl fp).run pins s' I⟩) hs)
    ⟨fun pins s I => wpAny_mono (h.run pins s I) (fun v s1 q => wpAny_mono q (fun u s2 ⟨j, fp, tn, J, H2, e, I2, T, t0, f2, n, G, Y, w, k⟩ => ⟨j, fp, tn, J, H2, e, I2, T, t0, f2, fun D' hD => by
      obtain ⟨Pv, q0, q1, q2, q3⟩ := k D' hD
      exact lc_it w Pv q0 q1 (fun i x H' H2' hi p y s0 H0 C cl fp => ⟨fun pins s' u I r => wpAny_mono ((q2 i x H' H2' hi p y s0 H0 C cl fp).run pins s' u I r) (fun _ s'' ⟨σ', H'', I'', e1, e2⟩ => ⟨σ', H'', I'', e1, e2⟩) fun _ _ z => z⟩) q3⟩) fun _ _ z => z) fun _ _ z => z⟩
/-- name = [.. if ..] whose place is stored from within -/
theorem s_setLcI {sc : Scope} {N : List Str} {own : List (Str × Nat)} {y : Str} {i : Nat} [cc : CxC X] [cn : CxN X N] [sl : Slt N y i] [nd : NdN N] (ok : BlkOk N X.env.scope sc own)
    (h : jW X tg it σ H fun J H1 => ∃ n G Y, Walk J n G Y ∧ ∀ D', H1 D' = none → ∃ Pv : Nat → Hp → Prop, Pv 0 (upd H1 D' (.lst [])) ∧ (∀ i H', i ≤ n → Pv i H' → G H') ∧
      (∀ i x H' H2, i < n → Pv i H' → Y i H' x H2 → gB X sc tg x (wipe σ (own.map (·.2))) H2 fun σ3 H3 => wipe σ3 (own.map (·.2)) = wipe σ (own.map (·.2)) ∧ tB' X sc c σ3 H3 fun k H4 => if k = true then eB X sc elt σ3 H4 fun y H5 => ∃ acc, H5 D' = some (.lst acc) ∧ acc.length < sizeLine ∧ Pv (i + 1) (upd H5 D' (.lst (acc ++ [y]))) else Pv (i + 1) H4) ∧
      ∀ H', Pv n H' → D.nx (σ.set i (some (.ref D'))) H') (hyl : X.env.scope.names.lookup y = some .local := by rfl)
    (hsw : swapsWith (.ListComp elt [⟨tg, it, [c], 0⟩] sc pos) (some (.Name y p2)) p3.line X.env = pure true := by exact sw_true rfl rfl rfl (by decide +kernel)) (hs : ∀ x, foldedSetIterable it X.env x = pure x := by intro _; rfl) : sW X (.Assign [.Name y p2] (.ListComp elt [⟨tg, it, [c], 0⟩] sc pos) p3) D σ H :=
  sI (ps_setLc (i := i) (g := gB X sc tg) (tt := tB' X sc c) (te := eB X sc elt) cc.h (by rw [cn.h]; exact nd.h) (by rw [cn.h]; exact sl.h) hyl hsw PJw (by rw [cn.h]; exact ok) (fun s H0 C cl fp => ⟨fun pins s' _ _ v u _ I r h => (h s H0 C cl fp).run pins s' u I r⟩) (fun s H0 C cl fp => pts_one ⟨fun pins s' _ _ _ I h => (h s H0 C cl fp).run pins s' I⟩) (fun s H0 C cl fp => ⟨fun pins s' _ _ _ I h => (h s H0 C cl fp).run pins s' I⟩) hs)
    ⟨fun pins s I => wpAny_mono (h.run pins s I) (fun v s1 q => wpAny_mono q (fun u s2 ⟨j, fp, tn, J, H2, e, I2, T, t0, f2, n, G, Y, w, k⟩ => ⟨j, fp, tn, J, H2, e, I2, T, t0, f2, fun D' hD => by
      obtain ⟨Pv, q0, q1, q2, q3⟩ := k D' hD
      exact lc_it w Pv q0 q1 q2 q3⟩) fun _ _ z => z) fun _ _ z => z⟩
/-! ### slices -/
structure pW (X : Cx) (e : Option Expr) (σ : L2.St) (H : Hp) (Q : Option Int → Hp → Prop) : Prop where
  run : ∀ pins s, Inv X pins σ H s → wpAny (model X.prog X.w) X.A (evalPart e X.env) (fun u s' => ∃ o H', Inv X pins σ H' s' ∧ IsPart u o ∧ Q o H') X.xe s
theorem p_none {R : Option Int → Hp → Prop} (h : R none H) : pW X none σ H R := ⟨fun pins s I => by
  have z := (po_none (X := X)).run pins s σ H R I h
  exact wpAny_mono z (fun u s' ⟨o, H', a, b, c⟩ => ⟨o, H', a, b, c⟩) fun _ _ z => z⟩
theorem p_some {R : Option Int → Hp → Prop} (h : eW X e σ H fun v H1 => ∃ i, v = .int i ∧ R (some i) H1) : pW X (some e) σ H R := ⟨fun pins s I => by
  have z := (po_some (X := X) (PEw (e := e))).run pins s σ H R I h
  exact wpAny_mono z (fun u s' ⟨o, H', a, b, c⟩ => ⟨o, H', a, b, c⟩) fun _ _ z => z⟩
theorem POw {e : Option Expr} : PO X e (pW X e) := ⟨fun pins s _ _ _ I h => h.run pins s I⟩
theorem e_slice {lo hi : Option Expr} (h : eW X e σ H fun x H1 => pW X lo σ H1 fun l H2 => pW X hi σ H2 fun u H3 => nW X x l u H3 Q) : eW X (.Subscript e (.Slice lo hi none p2) pos) σ H Q := eI (pe_slice NRw PEw POw POw) h
theorem n_str {z : Str} {lo hi : Option Int} (hz : z.length ≤ sizeLine) (q : Q (.str (cutS z lo hi)) H) : nW X (.str z) lo hi H Q := nI sl_str ⟨z, rfl, hz, q⟩
theorem n_lst {p : Addr} {xs : List V} {lo hi : Option Int} (h : SqL X.K H p xs) (q : ∀ l H2, Same H H2 → H l = none → H2 l = some (.lst (cutV xs lo hi)) → (∀ b, b ≠ l → H2 b = H b) → Q (.ref l) H2) : nW X (.ref p) lo hi H Q :=
  nI sl_list ⟨p, xs, rfl, h, fun l hl => q l _ (fun x o e => by rw [upd_ne (ne_of_none e hl)]; exact e) hl upd_same fun x hx => upd_ne hx⟩
/-! ### methods of built-in types -/
theorem e_bm {T id : String} {name : Str} (pa : PlainAttrs T) (slot : Slot T name id) (hty : typeOf (.builtin id) = pure (.type "method_descriptor")) (h : eW X o σ H fun x H1 => tyV X.K T x H1 ∧ aW X (e :: es) σ H1 fun xs H2 => mW X id x xs H2 Q)
    (hbase : attributeBase o name X.env (eval o X.env) = eval o X.env := by rfl)
    (hfew : ((backTo pos (starEach (e :: es) X.env)).all (fun x => !x.1) && (backToKw pos (keywordEach [] X.env)).all (fun x => x.1.isSome) && decide ((e :: es).length + ([] : List Keyword).length + (if ([] : List Keyword).isEmpty then 0 else 1) < 30)) = true := by rfl)
    (hline : (apos.endLine == pos.line) = true := by rfl) (hs : starEach (e :: es) X.env = (false, eval e X.env) :: starEach es X.env := by rfl) (hplain : (backTo pos (starEach es X.env)).any (·.1) = false := by rfl) : eW X (.Call (.Attribute o name apos) (e :: es) [] pos) σ H Q :=
  eI (pe_bm pa slot hty MRw PEw PAw hbase hfew hline hs hplain) h
theorem e_bm0 {T id : String} {name : Str} (pa : PlainAttrs T) (slot : Slot T name id) (hty : typeOf (.builtin id) = pure (.type "method_descriptor")) (h : eW X o σ H fun x H1 => tyV X.K T x H1 ∧ mW X id x [] H1 Q)
    (hbase : attributeBase o name X.env (eval o X.env) = eval o X.env := by rfl) (hline : (apos.endLine == pos.line) = true := by rfl) : eW X (.Call (.Attribute o name apos) [] [] pos) σ H Q := eI (pe_bm0 pa slot hty MRw PEw hbase hline) h
theorem m_append {l : Addr} {xs : List V} {y : V} (h : H l = some (.lst xs)) (hz : xs.length < 16000000) (q : ∀ H2, H2 l = some (.lst (xs ++ [y])) → (∀ b, b ≠ l → H2 b = H b) → Q .non H2) : mW X "list.append" (.ref l) [y] H Q :=
  mI mt_append ⟨l, xs, y, rfl, rfl, h, Nat.lt_of_lt_of_le hz (by decide), q _ upd_same fun b hb => upd_ne hb⟩
theorem m_extend {l b : Addr} {xs zs : List V} (h : H l = some (.lst xs)) (h2 : H b = some (.lst zs)) (hz : xs.length + zs.length ≤ 100000) (q : ∀ H2, H2 l = some (.lst (xs ++ zs)) → (∀ b, b ≠ l → H2 b = H b) → Q .non H2) : mW X "list.extend" (.ref l) [.ref b] H Q :=
  mI mt_extend ⟨l, b, xs, zs, rfl, rfl, h, h2, Nat.le_trans hz (by decide), q _ upd_same fun b hb => upd_ne hb⟩
theorem m_pop {l : Addr} {xs : List V} {y : V} (h : H l = some (.lst (xs ++ [y]))) (q : ∀ H2, H2 l = some (.lst xs) → (∀ b, b ≠ l → H2 b = H b) → Q y H2) : mW X "list.pop" (.ref l) [] H Q :=
  mI mt_pop ⟨l, _, y, rfl, rfl, h, by simp, q _ (by rw [List.dropLast_concat]; exact upd_same) fun b hb => upd_ne hb⟩
theorem m_reverse {l : Addr} {xs : List V} (h : H l = some (.lst xs)) (q : ∀ H2, H2 l = some (.lst xs.reverse) → (∀ b, b ≠ l → H2 b = H b) → Q .non H2) : mW X "list.reverse" (.ref l) [] H Q :=
  mI mt_reverse ⟨l, _, rfl, rfl, h, q _ upd_same fun b hb => upd_ne hb⟩
theorem e_append (h : eW X o σ H fun x H1 => tyV X.K "list" x H1 ∧ aW X [e] σ H1 fun xs H2 => mW X "list.append" x xs H2 Q) (hbase : attributeBase o "append" X.env (eval o X.env) = eval o X.env := by rfl)
    (hfew : ((backTo pos (starEach [e] X.env)).all (fun x => !x.1) && (backToKw pos (keywordEach [] X.env)).all (fun x => x.1.isSome) && decide ([e].length + ([] : List Keyword).length + (if ([] : List Keyword).isEmpty then 0 else 1) < 30)) = true := by rfl)
    (hline : (apos.endLine == pos.line) = true := by rfl) (hs : starEach [e] X.env = (false, eval e X.env) :: starEach [] X.env := by rfl) : eW X (.Call (.Attribute o "append" apos) [e] [] pos) σ H Q :=
  e_bm PySem.F.plainAttrs_list PySem.F.slot_list_append PySem.F.type_list_append h hbase hfew hline hs rfl
theorem e_extend (h : eW X o σ H fun x H1 => tyV X.K "list" x H1 ∧ aW X [e] σ H1 fun xs H2 => mW X "list.extend" x xs H2 Q) (hbase : attributeBase o "extend" X.env (eval o X.env) = eval o X.env := by rfl)
    (hfew : ((backTo pos (starEach [e] X.env)).all (fun x => !x.1) && (backToKw pos (keywordEach [] X.env)).all (fun x => x.1.isSome) && decide ([e].length + ([] : List Keyword).length + (if ([] : List Keyword).isEmpty then 0 else 1) < 30)) = true := by rfl)
    (hline : (apos.endLine == pos.line) = true := by rfl) (hs : starEach [e] X.env = (false, eval e X.env) :: starEach [] X.env := by rfl) : eW X (.Call (.Attribute o "extend" apos) [e] [] pos) σ H Q :=
  e_bm PySem.F.plainAttrs_list PySem.F.slot_list_extend PySem.F.type_list_extend h hbase hfew hline hs rfl
theorem e_pop (h : eW X o σ H fun x H1 => tyV X.K "list" x H1 ∧ mW X "list.pop" x [] H1 Q) (hbase : attributeBase o "pop" X.env (eval o X.env) = eval o X.env := by rfl) (hline : (apos.endLine == pos.line) = true := by rfl) : eW X (.Call (.Attribute o "pop" apos) [] [] pos) σ H Q :=
  e_bm0 PySem.F.plainAttrs_list PySem.F.slot_list_pop PySem.F.type_list_pop h hbase hline
theorem e_reverse (h : eW X o σ H fun x H1 => tyV X.K "list" x H1 ∧ mW X "list.reverse" x [] H1 Q) (hbase : attributeBase o "reverse" X.env (eval o X.env) = eval o X.env := by rfl) (hline : (apos.endLine == pos.line) = true := by rfl) : eW X (.Call (.Attribute o "reverse" apos) [] [] pos) σ H Q :=
  e_bm0 PySem.F.plainAttrs_list PySem.F.slot_list_reverse PySem.F.type_list_reverse h hbase hline
theorem ty_l {K : PySem.W.Frag} {p : Addr} {xs : List V} (h : H p = some (.lst xs)) : tyV K "list" (.ref p) H := .inl ⟨rfl, _, SqL.of h⟩
theorem e_join (h : eW X o σ H fun x H1 => (∃ a, x = .str a) ∧ eW X e σ H1 fun y H2 => mW X "str.join" x [y] H2 Q) (hs : starEach [e] X.env = [(false, eval e X.env)] := by rfl) (hbase : attributeBase o "join" X.env (eval o X.env) = eval o X.env := by rfl) (hline : (apos.endLine == pos.line) = true := by rfl) : eW X (.Call (.Attribute o "join" apos) [e] [] pos) σ H Q :=
  eI (pe_m1 PySem.F.slot_str_join PySem.F.type_str_join MRw PEw PEw hs hbase hline) h
theorem e_split (h : eW X o σ H fun x H1 => (∃ a, x = .str a) ∧ eW X e σ H1 fun y H2 => mW X "str.split" x [y] H2 Q) (hs : starEach [e] X.env = [(false, eval e X.env)] := by rfl) (hbase : attributeBase o "split" X.env (eval o X.env) = eval o X.env := by rfl) (hline : (apos.endLine == pos.line) = true := by rfl) : eW X (.Call (.Attribute o "split" apos) [e] [] pos) σ H Q :=
  eI (pe_m1 PySem.F.slot_str_split PySem.F.type_str_split MRw PEw PEw hs hbase hline) h
end
section
variable {X : Cx} {H : Hp} {Q : VK} {i j : Int} {z u : Str} {p : Addr} {xs : List V}
theorem o_leS (q : Q (.bl (!decide (tl u < tl z))) H) : oW X (compareOp .LtE) (.str z) (.str u) H Q := oI op_le_str ⟨_, _, rfl, rfl, q⟩
theorem o_ltS (q : Q (.bl (decide (tl z < tl u))) H) : oW X (compareOp .Lt) (.str z) (.str u) H Q := oI op_lt_str ⟨_, _, rfl, rfl, q⟩
theorem o_inC {c : Nat} (q : Q (.bl (decide (c ∈ tl z))) H) : oW X (compareOp .In) (.str ⟨#[c]⟩) (.str z) H Q := oI op_in_sign ⟨_, _, rfl, rfl, q⟩
theorem o_niC {c : Nat} (q : Q (.bl (!decide (c ∈ tl z))) H) : oW X (compareOp .NotIn) (.str ⟨#[c]⟩) (.str z) H Q := oI op_notIn_sign ⟨_, _, rfl, rfl, q⟩
theorem k_ordC {c : Nat} (q : Q (.int (c : Int)) H) : kW X (.builtin "ord") [.str ⟨#[c]⟩] H Q := kI call_ord ⟨_, rfl, rfl, q⟩
theorem k_strI (h : i.natAbs.log2 < 1920) (q : Q (.str (Str.ofString (toString i))) H) : kW X (.type "str") [.int i] H Q := kI call_str_int ⟨_, rfl, h, q⟩
theorem k_intS (h : PySem.intText? z = some i) (hz : z.length ≤ 640) (q : Q (.int i) H) : kW X (.type "int") [.str z] H Q := kI call_int_str ⟨_, _, rfl, h, hz, q⟩
theorem k_sum {ns : List Int} [cc : CxC X] (h : SqL X.K H p (ns.map V.int)) (q : Q (.int ns.sum) H) : kW X (.builtin "sum") [.ref p] H Q := kI (cr_sum cc.h) ⟨_, _, rfl, h, q⟩
theorem k_all {bs : List Bool} [cc : CxC X] (h : SqL X.K H p (bs.map V.bl)) (q : Q (.bl (bs.all id)) H) : kW X (.builtin "all") [.ref p] H Q := kI (cr_all cc.h) ⟨_, _, rfl, h, q⟩
theorem k_dictD {kvs : List (Key × V)} (h : Rd H p (.dK kvs)) (q : ∀ l H2, Same H H2 → H l = none → H2 l = some (.dK kvs) → (∀ b, b ≠ l → H2 b = H b) → Q (.ref l) H2) : kW X (.type "dict") [.ref p] H Q :=
  kI call_dictD ⟨_, _, rfl, h, fun l hl => q l _ (fun x o e => by rw [upd_ne (ne_of_none e hl)]; exact e) hl upd_same fun x hx => upd_ne hx⟩
theorem k_listL (h : SqL X.K H p xs ∨ SqT X.K H p xs) (q : ∀ l H2, Same H H2 → H l = none → H2 l = some (.lst xs) → (∀ b, b ≠ l → H2 b = H b) → Q (.ref l) H2) : kW X (.type "list") [.ref p] H Q :=
  kI call_list_of ⟨_, _, rfl, h, fun l hl => q l _ (fun x o e => by rw [upd_ne (ne_of_none e hl)]; exact e) hl upd_same fun x hx => upd_ne hx⟩
theorem k_tupL (h : SqL X.K H p xs) (q : ∀ l H2, Same H H2 → H l = none → H2 l = some (.tup xs) → (∀ b, b ≠ l → H2 b = H b) → Q (.ref l) H2) : kW X (.type "tuple") [.ref p] H Q :=
  kI call_tuple_of ⟨_, _, rfl, .inl ⟨h, fun l hl => q l _ (fun x o e => by rw [upd_ne (ne_of_none e hl)]; exact e) hl upd_same fun x hx => upd_ne hx⟩⟩
theorem o_catL {q2 : Addr} {zs : List V} (h1 : H p = some (.lst xs)) (h2 : H q2 = some (.lst zs)) (hz : xs.length + zs.length ≤ 100000) (q : ∀ l H2, Same H H2 → H l = none → H2 l = some (.lst (xs ++ zs)) → (∀ b, b ≠ l → H2 b = H b) → Q (.ref l) H2) : oW X (binaryOp .Add) (.ref p) (.ref q2) H Q :=
  oI op_cat ⟨_, _, _, _, rfl, rfl, h1, h2, Nat.le_trans hz (by decide), fun l hl => q l _ (fun x o e => by rw [upd_ne (ne_of_none e hl)]; exact e) hl upd_same fun x hx => upd_ne hx⟩
theorem m_join {ys : List Str} {a : Str} (h : SqL X.K H p (ys.map V.str) ∨ SqT X.K H p (ys.map V.str)) (hz : (ys.map Str.length).sum + ys.length * a.length ≤ 16777216) (q : Q (.str (Txt.join a ys)) H) : mW X "str.join" (.str a) [.ref p] H Q := by
  exact mI mt_join ⟨_, _, _, rfl, rfl, h, hz, q⟩
theorem m_split {a b : Str} (hb : (b.length == 0) = false) (ha : a.length ≤ 1000000) (q : ∀ l H2, Same H H2 → H l = none → H2 l = some (.lst ((Txt.split a b).map V.str)) → (∀ b, b ≠ l → H2 b = H b) → Q (.ref l) H2) : mW X "str.split" (.str a) [.str b] H Q :=
  mI mt_split ⟨_, _, rfl, rfl, hb, by rw [sizeLine_eq]; omega, fun l hl => q l _ (fun x o e => by rw [upd_ne (ne_of_none e hl)]; exact e) hl upd_same fun x hx => upd_ne hx⟩
end
/-! ### things of any kind -/
mutual
inductive Th (K : PySem.W.Frag) (H : Hp) : V → PyData → Prop
  | non : Th K H .non .none
  | bl (b : Bool) : Th K H (.bl b) (.bool b)
  | int (i : Int) : Th K H (.int i) (.int i)
  | str (x : Str) (h : x.length ≤ 1000000) : Th K H (.str x) (.str x)
  | lst {a : Addr} {xs : List V} {ds : List PyData} : SqL K H a xs → ThAll K H xs ds → Th K H (.ref a) (.list ds)
  | tup {a : Addr} {xs : List V} {ds : List PyData} : SqT K H a xs → ThAll K H xs ds → Th K H (.ref a) (.tuple ds)
  | dct {a : Addr} {kvs : List (Key × V)} : H a = some (.dK kvs) → Th K H (.ref a) (.dict [])
inductive ThAll (K : PySem.W.Frag) (H : Hp) : List V → List PyData → Prop
  | nil : ThAll K H [] []
  | cons {v : V} {vs : List V} {d : PyData} {ds : List PyData} : Th K H v d → ThAll K H vs ds → ThAll K H (v :: vs) (d :: ds)
end
def tyName : PyData → String
  | .none => "NoneType"
  | .bool _ => "bool"
  | .int _ => "int"
  | .str _ => "str"
  | .list _ => "list"
  | .tuple _ => "tuple"
  | .dict _ => "dict"
theorem Th.ty {K : PySem.W.Frag} {H : Hp} {v : V} {d : PyData} (h : Th K H v d) : TyX K H v (.type (tyName d)) := by
  cases h with
  | non => exact .base .non
  | bl b => exact .base (.bl b)
  | int i => exact .base (.int i)
  | str x _ => exact .base (.str x)
  | lst hs _ =>
    rcases hs with (h | ⟨o, h⟩) | ⟨o, its, n, h, hc, _⟩
    · exact .base (.lst h)
    · exact .base (.frz h)
    · exact .kList h hc
  | tup hs _ =>
    rcases hs with (h | ⟨o, h⟩) | ⟨o, its, n, h, hc, _⟩
    · exact .base (.tup h)
    · exact .fTuple h
    · exact .kTuple h hc
  | dct h => exact .base (.dK h)
/-- whether data is of the built-in type -/
def isK (d : PyData) (n : String) : Bool := match d with
  | .none => false
  | .bool _ => n == "bool" || n == "int"
  | .int _ => n == "int"
  | .str _ => n == "str"
  | .list _ => n == "list"
  | .tuple _ => n == "tuple"
  | .dict _ => n == "dict"
theorem kitTh (d : PyData) : kitB (tyName d) "str" = some (isK d "str") ∧ kitB (tyName d) "int" = some (isK d "int") ∧ kitB (tyName d) "bool" = some (isK d "bool") ∧ kitB (tyName d) "list" = some (isK d "list") ∧ kitB (tyName d) "tuple" = some (isK d "tuple") ∧ kitB (tyName d) "dict" = some (isK d "dict") := by
  cases d <;> (simp only [tyName, isK]; decide +kernel)
section
variable {X : Cx} {H : Hp} {Q : VK} {v : V} {d : PyData}
theorem k_isStr (h : Th X.K H v d) (q : Q (.bl (isK d "str")) H) : kW X (.builtin "isinstance") [v, .ty "str"] H Q := k_isB h.ty (kitTh d).1 q
theorem k_isInt (h : Th X.K H v d) (q : Q (.bl (isK d "int")) H) : kW X (.builtin "isinstance") [v, .ty "int"] H Q := k_isB h.ty (kitTh d).2.1 q
theorem k_isBool (h : Th X.K H v d) (q : Q (.bl (isK d "bool")) H) : kW X (.builtin "isinstance") [v, .ty "bool"] H Q := k_isB h.ty (kitTh d).2.2.1 q
theorem k_isList (h : Th X.K H v d) (q : Q (.bl (isK d "list")) H) : kW X (.builtin "isinstance") [v, .ty "list"] H Q := k_isB h.ty (kitTh d).2.2.2.1 q
theorem k_isTuple (h : Th X.K H v d) (q : Q (.bl (isK d "tuple")) H) : kW X (.builtin "isinstance") [v, .ty "tuple"] H Q := k_isB h.ty (kitTh d).2.2.2.2.1 q
theorem k_isDict (h : Th X.K H v d) (q : Q (.bl (isK d "dict")) H) : kW X (.builtin "isinstance") [v, .ty "dict"] H Q := k_isB h.ty (kitTh d).2.2.2.2.2 q
end
/-- what is tracked stands so in a greater heap -/
theorem sq_more {K : PySem.W.Frag} {H H' : Hp} {a : Addr} {xs : List V} (s : Same H H') (h : SqT K H a xs) : SqT K H' a xs := by
  rcases h with (h | ⟨o, h⟩) | h
  · exact .inl (.inl (s _ _ h))
  · exact .inl (.inr ⟨o, s _ _ h⟩)
  · exact .inr h
mutual
theorem Th.more {K : PySem.W.Frag} {H H' : Hp} (s : Same H H') : ∀ (d : PyData) (v : V), Th K H v d → Th K H' v d
  | .none, _, h => by cases h; exact .non
  | .bool _, _, h => by cases h; exact .bl _
  | .int _, _, h => by cases h; exact .int _
  | .str _, _, h => by cases h with | str _ h => exact .str _ h
  | .list ds, _, h => by cases h with | lst hs ha => exact .lst (s.seq hs) (ThAll.more s ds _ ha)
  | .tuple ds, _, h => by cases h with | tup hs ha => exact .tup (sq_more s hs) (ThAll.more s ds _ ha)
  | .dict _, _, h => by cases h with | dct hd => exact .dct (s _ _ hd)
theorem ThAll.more {K : PySem.W.Frag} {H H' : Hp} (s : Same H H') : ∀ (ds : List PyData) (vs : List V), ThAll K H vs ds → ThAll K H' vs ds
  | [], _, h => by cases h; exact .nil
  | d :: ds, _, h => by cases h with | cons h1 h2 => exact .cons (Th.more s d _ h1) (ThAll.more s ds _ h2)
end
theorem ThAll.len {K : PySem.W.Frag} {H : Hp} : ∀ {vs : List V} {ds : List PyData}, ThAll K H vs ds → vs.length = ds.length
  | _, _, .nil => rfl
  | _, _, .cons _ h => congrArg (· + 1) h.len
theorem ThAll.get {K : PySem.W.Frag} {H : Hp} : ∀ {vs : List V} {ds : List PyData} {i : Nat} {v : V}, ThAll K H vs ds → vs[i]? = some v → ∃ d, ds[i]? = some d ∧ Th K H v d
  | _, _, _, _, .nil, e => by simp at e
  | _, _, 0, _, .cons h _, e => by simp at e; subst e; exact ⟨_, rfl, h⟩
  | _, _, i + 1, v, .cons _ t, e => by
    obtain ⟨d, h1, h2⟩ := ThAll.get (i := i) (v := v) t (by simpa using e)
    exact ⟨d, by simpa using h1, h2⟩
theorem all_snoc {α : Type} {p : α → Bool} {l : List α} {i : Nat} {x : α} (h : l[i]? = some x) : (l.take (i + 1)).all p = ((l.take i).all p && p x) := by
  have hl := (List.getElem?_eq_some_iff.mp h).1
  have e := (List.getElem?_eq_some_iff.mp h).2
  rw [← List.take_append_getElem hl, List.all_append, e]
  simp
theorem all_cut {α : Type} {p : α → Bool} {l : List α} {i : Nat} {x : α} (h : l[i]? = some x) (hx : p x = false) : l.all p = false := by
  have hm := List.mem_of_getElem? h
  cases e : l.all p with
  | false => rfl
  | true => rw [List.all_eq_true.mp e x hm] at hx; cases hx
theorem sz1m {n : Nat} (h : n ≤ 1000000) : n ≤ sizeLine := Nat.le_trans h (by decide)
theorem lt1 (a b : Nat) : ([a] < [b]) ↔ a < b := by simp [List.cons_lt_cons_iff]
section
variable {X : Cx} {σ : L2.St} {H : Hp} {Q : VK} {D : Ends} {pos p2 p3 p4 p5 : Pos} {it tg elt c : Expr}
/-- a comprehension whose elements are told one by one and track nothing that a turn could change -/
theorem e_lcM {sc : Scope} {N : List Str} {own : List (Str × Nat)} [cc : CxC X] [cn : CxN X N] [nd : NdN N] (ok : BlkOk N X.env.scope sc own)
    (h : jW X tg it σ H fun J H1 => ∃ n G Y, Walk J n G Y ∧ ∃ ys : List V, ys.length = n ∧ ys.length ≤ 100000 ∧ (∀ H', Same H1 H' → G H') ∧
      (∀ i x H' H2, i < n → Same H1 H' → Y i H' x H2 → Same H' H2 ∧ gB X sc tg x (wipe σ (own.map (·.2))) H2 fun σ3 H3 => wipe σ3 (own.map (·.2)) = wipe σ (own.map (·.2)) ∧ Same H2 H3 ∧ eB X sc elt σ3 H3 fun y H4 => ys[i]? = some y ∧ Same H3 H4) ∧
      ∀ l H', Same H1 H' → H1 l = none → H' l = some (.lst ys) → Q (.ref l) H') (hs : ∀ x, foldedSetIterable it X.env x = pure x := by intro _; rfl) : eW X (.ListComp elt [⟨tg, it, [], 0⟩] sc pos) σ H Q := by
  refine e_lc ok ⟨fun pins s I => wpAny_mono (h.run pins s I) (fun v s1 q => wpAny_mono q (fun u s2 ⟨i, fp, tn, J, H2, e, I2, T, t0, f2, n, G, Y, w, ys, hl, hn, q1, q2, q3⟩ => ⟨i, fp, tn, J, H2, e, I2, T, t0, f2, n, G, Y, w, fun D' hD => ⟨fun i H' => Same H2 H' ∧ H' D' = some (.lst (ys.take i)), ⟨fun b o e => by rw [upd_ne (ne_of_none e hD)]; exact e, upd_same⟩, fun _ _ _ p => q1 _ p.1, fun i x H' H3 hi p y s0 H0 C cl fp => ?_, fun H' p => q3 D' H' p.1 hD (by rw [p.2, ← hl, List.take_length])⟩⟩) fun _ _ z => z) fun _ _ z => z⟩ hs
  obtain ⟨k1, k2⟩ := q2 i x H' H3 hi p.1 y
  refine ⟨fun pins s' u I r => wpAny_mono ((k2 s0 H0 C cl fp).run pins s' u I r) (fun _ s'' ⟨σ', H'', I'', e1, e2, e3⟩ => ⟨σ', H'', I'', e1, fun s0 H0 C cl fp => ⟨fun pins s' I => wpAny_mono ((e3 s0 H0 C cl fp).run pins s' I) (fun u s4 ⟨v4, H4, I4, r4, ev, e4⟩ => ⟨v4, H4, I4, r4, ys.take i, e4 _ _ (e2 _ _ (k1 _ _ p.2)), ?_, ?_, ?_⟩) fun _ _ z => z⟩⟩) fun _ _ z => z⟩
  · rw [List.length_take]
    exact Nat.lt_of_le_of_lt (Nat.min_le_left _ _) (Nat.lt_of_lt_of_le (Nat.lt_of_lt_of_le (hl ▸ hi) hn) (by decide))
  · intro b o e
    rw [upd_ne (ne_of_none e hD)]
    exact e4 _ _ (e2 _ _ (k1 _ _ (p.1 _ _ e)))
  · rw [upd_same]
    have q := (List.getElem?_eq_some_iff.mp ev).1
    rw [← List.take_append_getElem q, (List.getElem?_eq_some_iff.mp ev).2]
/-- a comprehension whose elements are told by a word of the turn and the element -/
theorem e_lcP {sc : Scope} {N : List Str} {own : List (Str × Nat)} [cc : CxC X] [cn : CxN X N] [nd : NdN N] (ok : BlkOk N X.env.scope sc own) (Pr : Nat → V → Prop)
    (h : jW X tg it σ H fun J H1 => ∃ n G Y, Walk J n G Y ∧ n ≤ 100000 ∧ (∀ H', Same H1 H' → G H') ∧
      (∀ i x H' H2, i < n → Same H1 H' → Y i H' x H2 → Same H' H2 ∧ gB X sc tg x (wipe σ (own.map (·.2))) H2 fun σ3 H3 => wipe σ3 (own.map (·.2)) = wipe σ (own.map (·.2)) ∧ Same H2 H3 ∧ eB X sc elt σ3 H3 fun y H4 => Pr i y ∧ Same H3 H4) ∧
      ∀ l H' ys, Same H1 H' → H1 l = none → H' l = some (.lst ys) → ys.length = n → (∀ i y, ys[i]? = some y → Pr i y) → Q (.ref l) H') (hs : ∀ x, foldedSetIterable it X.env x = pure x := by intro _; rfl) : eW X (.ListComp elt [⟨tg, it, [], 0⟩] sc pos) σ H Q := by
  refine e_lc ok ⟨fun pins s I => wpAny_mono (h.run pins s I) (fun v s1 q => wpAny_mono q (fun u s2 ⟨i, fp, tn, J, H2, e, I2, T, t0, f2, n, G, Y, w, hn, q1, q2, q3⟩ => ⟨i, fp, tn, J, H2, e, I2, T, t0, f2, n, G, Y, w, fun D' hD => ⟨fun i H' => Same H2 H' ∧ ∃ acc, H' D' = some (.lst acc) ∧ acc.length = i ∧ ∀ j z, acc[j]? = some z → Pr j z, ⟨fun b o e => by rw [upd_ne (ne_of_none e hD)]; exact e, [], upd_same, rfl, by simp⟩, fun _ _ _ p => q1 _ p.1, fun i x H' H3 hi p y s0 H0 C cl fp => ?_, fun H' p => by
    obtain ⟨p1, acc, p2, p3, p4⟩ := p
    exact q3 D' H' acc p1 hD p2 p3 p4⟩⟩) fun _ _ z => z) fun _ _ z => z⟩ hs
  obtain ⟨k1, k2⟩ := q2 i x H' H3 hi p.1 y
  obtain ⟨p1, acc, p2, p3, p4⟩ := p
  refine ⟨fun pins s' u I r => wpAny_mono ((k2 s0 H0 C cl fp).run pins s' u I r) (fun _ s'' ⟨σ', H'', I'', e1, e2, e3⟩ => ⟨σ', H'', I'', e1, fun s0 H0 C cl fp => ⟨fun pins s' I => wpAny_mono ((e3 s0 H0 C cl fp).run pins s' I) (fun u s4 ⟨v4, H4, I4, r4, ev, e4⟩ => ⟨v4, H4, I4, r4, acc, e4 _ _ (e2 _ _ (k1 _ _ p2)), ?_, ?_, acc ++ [v4], upd_same, ?_, ?_⟩) fun _ _ z => z⟩⟩) fun _ _ z => z⟩
  · rw [p3]
    exact Nat.lt_of_lt_of_le (Nat.lt_of_lt_of_le hi hn) (by decide)
  · intro b o e
    rw [upd_ne (ne_of_none e hD)]
    exact e4 _ _ (e2 _ _ (k1 _ _ (p1 _ _ e)))
  · rw [List.length_append, p3]; rfl
  · intro j z hz
    by_cases hj : j < i
    · rw [List.getElem?_append_left (by omega)] at hz
      exact p4 j z hz
    · rw [List.getElem?_append_right (by omega), p3] at hz
      have hj2 : j = i := by
        have := (List.getElem?_eq_some_iff.mp hz).1
        simp at this
        omega
      subst hj2
      simp at hz
      rw [← hz]
      exact ev
theorem s_setLcP {sc : Scope} {N : List Str} {own : List (Str × Nat)} {y : Str} {i : Nat} [cc : CxC X] [cn : CxN X N] [sl : Slt N y i] [nd : NdN N] (ok : BlkOk N X.env.scope sc own) (Pr : Nat → V → Prop)
    (h : jW X tg it σ H fun J H1 => ∃ n G Y, Walk J n G Y ∧ n ≤ 100000 ∧ (∀ H', Same H1 H' → G H') ∧
      (∀ i x H' H2, i < n → Same H1 H' → Y i H' x H2 → Same H' H2 ∧ gB X sc tg x (wipe σ (own.map (·.2))) H2 fun σ3 H3 => wipe σ3 (own.map (·.2)) = wipe σ (own.map (·.2)) ∧ Same H2 H3 ∧ eB X sc elt σ3 H3 fun y H4 => Pr i y ∧ Same H3 H4) ∧
      ∀ l H' ys, Same H1 H' → H1 l = none → H' l = some (.lst ys) → ys.length = n → (∀ i y, ys[i]? = some y → Pr i y) → D.nx (σ.set i (some (.ref l))) H') (hyl : X.env.scope.names.lookup y = some .local := by rfl)
    (hsw : swapsWith (.ListComp elt [⟨tg, it, [], 0⟩] sc pos) (some (.Name y p2)) p3.line X.env = pure true := by exact sw_true rfl rfl rfl (by decide +kernel)) (hs : ∀ x, foldedSetIterable it X.env x = pure x := by intro _; rfl) : sW X (.Assign [.Name y p2] (.ListComp elt [⟨tg, it, [], 0⟩] sc pos) p3) D σ H := by
  refine s_setLc ok ⟨fun pins s I => wpAny_mono (h.run pins s I) (fun v s1 q => wpAny_mono q (fun u s2 ⟨i, fp, tn, J, H2, e, I2, T, t0, f2, n, G, Y, w, hn, q1, q2, q3⟩ => ⟨i, fp, tn, J, H2, e, I2, T, t0, f2, n, G, Y, w, fun D' hD => ⟨fun i H' => Same H2 H' ∧ ∃ acc, H' D' = some (.lst acc) ∧ acc.length = i ∧ ∀ j z, acc[j]? = some z → Pr j z, ⟨fun b o e => by rw [upd_ne (ne_of_none e hD)]; exact e, [], upd_same, rfl, by simp⟩, fun _ _ _ p => q1 _ p.1, fun i x H' H3 hi p y s0 H0 C cl fp => ?_, fun H' p => by
    obtain ⟨p1, acc, p2, p3, p4⟩ := p
    exact q3 D' H' acc p1 hD p2 p3 p4⟩⟩) fun _ _ z => z) fun _ _ z => z⟩ hyl hsw hs
  obtain ⟨k1, k2⟩ := q2 i x H' H3 hi p.1 y
  obtain ⟨p1, acc, p2, p3, p4⟩ := p
  refine ⟨fun pins s' u I r => wpAny_mono ((k2 s0 H0 C cl fp).run pins s' u I r) (fun _ s'' ⟨σ', H'', I'', e1, e2, e3⟩ => ⟨σ', H'', I'', e1, fun s0 H0 C cl fp => ⟨fun pins s' I => wpAny_mono ((e3 s0 H0 C cl fp).run pins s' I) (fun u s4 ⟨v4, H4, I4, r4, ev, e4⟩ => ⟨v4, H4, I4, r4, acc, e4 _ _ (e2 _ _ (k1 _ _ p2)), ?_, ?_, acc ++ [v4], upd_same, ?_, ?_⟩) fun _ _ z => z⟩⟩) fun _ _ z => z⟩
  · rw [p3]
    exact Nat.lt_of_lt_of_le (Nat.lt_of_lt_of_le hi hn) (by decide)
  · intro b o e
    rw [upd_ne (ne_of_none e hD)]
    exact e4 _ _ (e2 _ _ (k1 _ _ (p1 _ _ e)))
  · rw [List.length_append, p3]; rfl
  · intro j z hz
    by_cases hj : j < i
    · rw [List.getElem?_append_left (by omega)] at hz
      exact p4 j z hz
    · rw [List.getElem?_append_right (by omega), p3] at hz
      have hj2 : j = i := by
        have := (List.getElem?_eq_some_iff.mp hz).1
        simp at this
        omega
      subst hj2
      simp at hz
      rw [← hz]
      exact ev
/-- raise X('..') -/
theorem s_raise {x m : Str} {C : Addr} {j : Nat} {W : WX} [cc : CxC X] [ct : CxT X W] (T : ExcF X.K X.mg x C) (h : W (.ref C) none σ H) (hg : Gl X x := by rfl) (hdb : (x == ("__debug__" : Str)) = false := by decide) : sW X (.Raise (some (.Call (.Name x p2) [.Constant (.str m) j p3] [] p4)) none pos) D σ H :=
  sI (ps_raise cc.h ct.h (pmk_own PySem.F.excBase_ValueError T.ex T.mg T.kp (raises_own T.be T.ty) hg hdb)) h
end
theorem range_map {α β : Type} (f : α → β) (d : β) : ∀ (l : List α), (List.range l.length).map (fun i => (l[i]?.map f).getD d) = l.map f
  | [] => rfl
  | a :: l => by
    rw [List.length_cons, List.range_succ_eq_map, List.map_cons, List.map_map, List.map_cons, ← range_map f d l]
    simp [Function.comp_def]
theorem sIx_nn (n d : Nat) {i : Int} (h : 0 ≤ i) : HT.sIx n d (some i) = min i.toNat n := by
  show (if i < 0 then (i + (n : Int)).toNat else min i.toNat n) = _
  rw [if_neg (by omega)]
theorem cutL_from {α : Type} (xs : List α) {n : Nat} (hn : xs.length = n) {i : Int} (h : 0 ≤ i) : (xs.drop (HT.sIx n 0 (some i))).take (HT.sIx n n none - HT.sIx n 0 (some i)) = xs.drop i.toNat := by
  rw [sIx_nn _ _ h, HT.sIx_none, ← hn]
  by_cases k : i.toNat ≤ xs.length
  · rw [Nat.min_eq_left k, List.take_of_length_le (by rw [List.length_drop]; omega)]
  · rw [Nat.min_eq_right (by omega), List.drop_length, List.drop_of_length_le (by omega)]
    simp
theorem cutL_to {α : Type} (xs : List α) {n : Nat} (hn : xs.length = n) {i : Int} (h : 0 ≤ i) : (xs.drop (HT.sIx n 0 none)).take (HT.sIx n n (some i) - HT.sIx n 0 none) = xs.take i.toNat := by
  rw [sIx_nn _ _ h, HT.sIx_none, ← hn, List.drop_zero, Nat.sub_zero]
  by_cases k : i.toNat ≤ xs.length
  · rw [Nat.min_eq_left k]
  · rw [Nat.min_eq_right (by omega), List.take_length, List.take_of_length_le (by omega)]
theorem cutL_mid {α : Type} (xs : List α) {n : Nat} (hn : xs.length = n) {i j : Int} (h : 0 ≤ i) (h2 : i ≤ j) : (xs.drop (HT.sIx n 0 (some i))).take (HT.sIx n n (some j) - HT.sIx n 0 (some i)) = (xs.drop i.toNat).take (j.toNat - i.toNat) := by
  rw [sIx_nn _ _ h, sIx_nn _ _ (by omega), ← hn]
  by_cases k : i.toNat ≤ xs.length
  · rw [Nat.min_eq_left k]
    by_cases k2 : j.toNat ≤ xs.length
    · rw [Nat.min_eq_left k2]
    · rw [Nat.min_eq_right (by omega), List.take_of_length_le (by rw [List.length_drop]; omega), List.take_of_length_le (by rw [List.length_drop]; omega)]
  · rw [Nat.min_eq_right (a := i.toNat) (by omega), List.drop_length, List.drop_of_length_le (by omega)]
    simp
theorem cutV_from (xs : List V) {i : Int} (h : 0 ≤ i) : cutV xs (some i) none = xs.drop i.toNat := cutL_from xs rfl h
theorem cutV_to (xs : List V) {i : Int} (h : 0 ≤ i) : cutV xs none (some i) = xs.take i.toNat := cutL_to xs rfl h
theorem cutV_mid (xs : List V) {i j : Int} (h : 0 ≤ i) (h2 : i ≤ j) : cutV xs (some i) (some j) = (xs.drop i.toNat).take (j.toNat - i.toNat) := cutL_mid xs rfl h h2
theorem cutV_last (xs : List V) : cutV xs none (some (-1)) = xs.dropLast := by
  have h : HT.sIx xs.length xs.length (some (-1)) = xs.length - 1 := by
    show (if (-1 : Int) < 0 then (-1 + (xs.length : Int)).toNat else min (-1 : Int).toNat xs.length) = _
    rw [if_pos (by decide)]
    omega
  unfold cutV
  rw [h, HT.sIx_none, List.drop_zero, Nat.sub_zero, List.dropLast_eq_take]
theorem cutS_from (z : Str) {i : Int} (h : 0 ≤ i) : tl (cutS z (some i) none) = (tl z).drop i.toNat := cutL_from (tl z) (len_tl z).symm h
theorem cutS_to (z : Str) {i : Int} (h : 0 ≤ i) : tl (cutS z none (some i)) = (tl z).take i.toNat := cutL_to (tl z) (len_tl z).symm h
theorem cutS_mid (z : Str) {i j : Int} (h : 0 ≤ i) (h2 : i ≤ j) : tl (cutS z (some i) (some j)) = ((tl z).drop i.toNat).take (j.toNat - i.toNat) := cutL_mid (tl z) (len_tl z).symm h h2

/-! ### data that == may be asked of -/
structure Sh (k : Nat) (d : PyData) : Prop where
  can : d.canLay0 = true
  dep : d.depth ≤ k
theorem Sh.int {k : Nat} (i : Int) : Sh k (.int i) := ⟨rfl, Nat.zero_le _⟩
theorem Sh.bl {k : Nat} (i : Bool) : Sh k (.bool i) := ⟨rfl, Nat.zero_le _⟩
theorem Sh.non {k : Nat} : Sh k .none := ⟨rfl, Nat.zero_le _⟩
theorem Sh.str {k : Nat} {z : Str} (h : ∀ c ∈ tl z, c < 1114112) : Sh k (.str z) := ⟨by
  show z.cps.all (· < 0x110000) = true
  rw [← Array.all_toList]
  exact List.all_eq_true.mpr fun c hc => decide_eq_true (h c hc), Nat.zero_le _⟩
theorem can_all : ∀ {ds : List PyData}, (∀ d ∈ ds, d.canLay0 = true) → PyData.canLayAll0 ds = true
  | [], _ => rfl
  | d :: ds, h => by
    show (d.canLay0 && PyData.canLayAll0 ds) = true
    rw [h d (List.mem_cons_self ..), can_all fun x hx => h x (List.mem_cons_of_mem _ hx)]
    rfl
theorem depth_all {k : Nat} : ∀ {ds : List PyData}, (∀ d ∈ ds, d.depth ≤ k) → PyData.depthAll ds ≤ k
  | [], _ => Nat.zero_le _
  | d :: ds, h => by
    show max d.depth (PyData.depthAll ds) ≤ k
    exact Nat.max_le.mpr ⟨h d (List.mem_cons_self ..), depth_all fun x hx => h x (List.mem_cons_of_mem _ hx)⟩
theorem Sh.lst {k : Nat} {ds : List PyData} (h : ∀ d ∈ ds, Sh k d) : Sh (k + 1) (.list ds) := ⟨can_all fun d hd => (h d hd).can, Nat.succ_le_succ (depth_all fun d hd => (h d hd).dep)⟩
theorem Sh.tup {k : Nat} {ds : List PyData} (h : ∀ d ∈ ds, Sh k d) : Sh (k + 1) (.tuple ds) := ⟨can_all fun d hd => (h d hd).can, Nat.succ_le_succ (depth_all fun d hd => (h d hd).dep)⟩
theorem Sh.ok {k : Nat} {d : PyData} (h : Sh k d) (hk : k ≤ 64 := by decide) : SeqAt.shaped d = true := by
  show (d.canLay0 && decide (d.depth ≤ 64)) = true
  rw [h.can, decide_eq_true (Nat.le_trans h.dep hk)]
  rfl
theorem Sh.refl {k : Nat} {d : PyData} (h : Sh k d) : PyData.eqv d d = true := SeqAt.eqv_refl d h.can
theorem dp_strs {K : PySem.W.Frag} {H : Hp} : ∀ (l : List Str), DpAll K H (l.map V.str) (l.map PyData.str)
  | [] => .nil
  | z :: l => .cons (.str z) (dp_strs l)
theorem dp_ints {K : PySem.W.Frag} {H : Hp} : ∀ (l : List Int), DpAll K H (l.map V.int) (l.map PyData.int)
  | [] => .nil
  | z :: l => .cons (.int z) (dp_ints l)

/-! ### what kind of goal stands here -/
/-- a word of one value, once for all that follows -/
theorem eVia {X : Cx} {e : Expr} {σ : L2.St} {H : Hp} {Q : VK} (v : V) (h1 : ∀ Q' : VK, Q' v H → eW X e σ H Q') (h2 : Q v H) : eW X e σ H Q := h1 Q h2
/-- .., where the heap may grow -/
theorem eViaS {X : Cx} {e : Expr} {σ : L2.St} {H : Hp} {Q : VK} (P : V → Hp → Prop) (h1 : ∀ Q' : VK, (∀ v H', P v H' → Q' v H') → eW X e σ H Q') (h2 : ∀ v H', P v H' → Q v H') : eW X e σ H Q := h1 Q h2
theorem oMono {X : Cx} {f : Value → Value → Sem Value} {x y : V} {H : Hp} {Q Q' : VK} (h : oW X f x y H Q) (i : ∀ v H', Q v H' → Q' v H') : oW X f x y H Q' := ⟨fun pins s σ v u I rx ry => wpAny_mono (h.run pins s σ v u I rx ry) (fun _ _ ⟨v, H', a, b, c⟩ => ⟨v, H', a, b, i v H' c⟩) fun _ _ x => x⟩
theorem e_chainJ {X : Cx} {σ : L2.St} {H : Hp} {Q : VK} {pos : Pos} {a b c : Expr} {op op' : CmpOp} {d : Bool} (h : eW X a σ H fun x H1 => eW X b σ H1 fun y H2 => oW X (compareOp op) x y H2 fun z H3 => ∃ k, z = .bl k ∧ (k = true → ∀ Q' : VK, Q' (.bl d) H3 → eW X c σ H3 (fun w' H4 => oW X (compareOp op') y w' H4 Q')) ∧ Q (.bl (k && d)) H3)
    (hm : lastMarks [op, op'] [b, c] = false := by with_unfolding_all rfl) : eW X (.Compare a [op, op'] [b, c] pos) σ H Q :=
  e_chain (eMono h fun x H1 h1 => eMono h1 fun y H2 h2 => oMono h2 fun z H3 ⟨k, e, h3, q⟩ => ⟨k, e, by
    cases k with
    | true => exact iteT (h3 rfl _ q)
    | false => exact iteF q⟩) hm
theorem s_augA {X : Cx} {σ : L2.St} {H : Hp} {D : Ends} {pos p2 : Pos} {e : Expr} {N : List Str} {x : Str} {i : Nat} {v : Int} [cn : CxN X N] [sl : Slt N x i] [nd : NdN N] (hs : σ[i]? = some (some (.int v))) (h : eW X e σ H fun y H1 => ∃ j, y = .int j ∧ D.nx (σ.set i (some (.int (v + j)))) H1) (hx : Loc X.env.scope x := by first | exact Or.inl rfl | exact Or.inr rfl)
    (hf : X.fn x = true ∨ X.env.scope.names.lookup x = some .local := by first | exact .inl rfl | exact .inr rfl | assumption) : sW X (.AugAssign (.Name x p2) .Add e pos) D σ H :=
  sI (ps_aug (i := i) (by rw [cn.h]; exact nd.h) (by rw [cn.h]; exact sl.h) hx PEw ip_add hf) ⟨.int v, hs, eMono h fun y H1 ⟨j, e, q⟩ => ⟨v, j, rfl, e, q⟩⟩
theorem e_neg {X : Cx} {a : Expr} {σ : L2.St} {H : Hp} {Q : VK} {pos : Pos} (h : eW X a σ H fun x H1 => ∃ i, x = .int i ∧ Q (.int (-i)) H1) : eW X (.UnaryOp .USub a pos) σ H Q := e_un (eMono h fun x H1 ⟨i, e, q⟩ => by subst e; exact u_neg q)
/-- a test of one truth, once for all that follows -/
theorem tVia {X : Cx} {e : Expr} {σ : L2.St} {H : Hp} {R : Bool → Hp → Prop} (b : Bool) (P : Hp → Prop) (h1 : ∀ R' : Bool → Hp → Prop, (∀ H', P H' → R' b H') → tW X e σ H R') (h2 : ∀ H', P H' → R b H') : tW X e σ H R := h1 R h2
/-! ### dict displays -/
theorem sameU {H : Hp} {p : Addr} {o : HO} (hp : H p = none) : Same H (upd H p o) := fun x u e => by rw [upd_ne (ne_of_none e hp)]; exact e
section
variable {X : Cx} {σ : L2.St} {H : Hp} {Q : VK} {pos : Pos} {a b : Expr}
theorem e_dct0 (h : ∀ p H2, Same H H2 → H p = none → H2 p = some (.dK []) → (∀ b, b ≠ p → H2 b = H b) → Q (.ref p) H2) : eW X (.Dict [] [] pos) σ H Q :=
  eI pe_dnewK fun p hp => h p _ (sameU hp) hp upd_same fun _ hb => upd_ne hb
theorem e_dct1 (h : ∀ p H', Same H H' → H p = none → H' p = some (.dK []) → (∀ b, b ≠ p → H' b = H b) → eW X a σ H' fun x H1 => eW X b σ H1 fun y H2 => H2 p = some (.dK []) ∧ ∃ k : Key, x = kV k ∧ ∀ H3, H3 p = some (.dK (mergeK [] [(k, y)])) → (∀ b, b ≠ p → H3 b = H2 b) → Q (.ref p) H3) : eW X (.Dict [some a] [b] pos) σ H Q :=
  eI (pe_disp (pps_cons PEw PEw pps_nil) rfl rfl (fun z => nomatch z) (Nat.le_of_ble_eq_true rfl)) fun p hp => eMono (h p _ (sameU hp) hp upd_same fun _ hb => upd_ne hb) fun x H1 h1 => eMono h1 fun y H2 ⟨e, k, ek, q⟩ => ⟨e, [(k, y)], by rw [ek]; rfl, Nat.le_of_ble_eq_true rfl, q _ upd_same fun _ hb => upd_ne hb⟩
end
/-! ### tuples: parts and sums; dicts -/
/-- all that is a tuple stays -/
def TS (H H' : Hp) : Prop := ∀ b xs, H b = some (.tup xs) → H' b = some (.tup xs)
theorem TS.refl (H : Hp) : TS H H := fun _ _ h => h
theorem TS.trans {H H1 H2 : Hp} (a : TS H H1) (b : TS H1 H2) : TS H H2 := fun c o h => b c o (a c o h)
theorem Same.ts {H H' : Hp} (s : Same H H') : TS H H' := fun _ _ h => s _ _ h
/-- a list's or dict's place is stored anew: tuples stay -/
theorem TS.but {H H' : Hp} {l : Addr} {o : HO} (h : H l = some o) (hn : ∀ xs, o ≠ .tup xs) (k : ∀ b, b ≠ l → H' b = H b) : TS H H' := fun b xs e => by
  rw [k b fun z => hn xs (by rw [z, h] at e; exact Option.some.inj e)]
  exact e
theorem TS.butL {H H' : Hp} {l : Addr} {ys : List V} (h : H l = some (.lst ys)) (k : ∀ b, b ≠ l → H' b = H b) : TS H H' := TS.but h (fun _ z => nomatch z) k
theorem TS.butD {H H' : Hp} {l : Addr} {ys : List (Key × V)} (h : H l = some (.dK ys)) (k : ∀ b, b ≠ l → H' b = H b) : TS H H' := TS.but h (fun _ z => nomatch z) k
section
variable {X : Cx} {σ : L2.St} {H : Hp} {Q : VK} {pos p2 : Pos} {p q : Addr} {xs ys : List V} {lo hi : Option Int}
theorem n_tup (h : H p = some (.tup xs)) (k : ∀ t H2, Same H H2 → H2 t = some (.tup (cutV xs lo hi)) → Q (.ref t) H2) : nW X (.ref p) lo hi H Q :=
  nI sl_tupA ⟨p, xs, rfl, SqT.of h, fun ⟨e1, e2⟩ => k p H (Same.refl _) (by
    have e : cutV xs lo hi = xs := by
      unfold cutV
      rw [e1, e2, List.drop_zero, Nat.sub_zero, List.take_length]
    rw [e]; exact h), fun _ t ht => k t _ (sameU ht) upd_same⟩
theorem n_tupS (h : SqT X.K H p xs) (k : ∀ t H2, Same H H2 → SqT X.K H2 t (cutV xs lo hi) → Q (.ref t) H2) : nW X (.ref p) lo hi H Q :=
  nI sl_tupA ⟨p, xs, rfl, h, fun ⟨e1, e2⟩ => k p H (Same.refl _) (by
    have e : cutV xs lo hi = xs := by
      unfold cutV
      rw [e1, e2, List.drop_zero, Nat.sub_zero, List.take_length]
    rw [e]; exact h), fun _ t ht => k t _ (sameU ht) (SqT.of upd_same)⟩
theorem o_catT (h1 : H p = some (.tup xs)) (h2 : H q = some (.tup ys)) (hz : xs.length + ys.length ≤ 100000) (k : ∀ t H2, Same H H2 → H2 t = some (.tup (xs ++ ys)) → Q (.ref t) H2) : oW X (binaryOp .Add) (.ref p) (.ref q) H Q :=
  oI op_catA ⟨p, q, xs, ys, rfl, rfl, SqT.of h1, SqT.of h2, Nat.le_trans hz (by decide), fun e => k q H (Same.refl _) (by rw [e]; exact h2), fun _ e => k p H (Same.refl _) (by rw [e, List.append_nil]; exact h1), fun _ _ t ht => k t _ (sameU ht) upd_same⟩
theorem k_listD {d : Addr} {kvs : List (Key × V)} [cc : CxC X] (h : H d = some (.dK kvs)) (k : ∀ l H2, Same H H2 → H l = none → H2 l = some (.lst (kvs.map fun kv => kV kv.1)) → (∀ b, b ≠ l → H2 b = H b) → Q (.ref l) H2) : kW X (.type "list") [.ref d] H Q :=
  kI (call_listD cc.h) ⟨d, kvs, rfl, .inl h, fun l hl => k l _ (sameU hl) hl upd_same fun b hb => upd_ne hb⟩
/-- o[i] = v, o a dict whose keys are ints and texts -/
theorem g_setD {o i : Expr} {v : V} {R : L2.St → Hp → Prop} (hu : X.A.units + 1 < cLine) (h : eW X o σ H fun x H1 => eW X i σ H1 fun y H2 => ∃ d kvs k, x = .ref d ∧ H2 d = some (.dK kvs) ∧ y = kV k ∧ kvs.length ≤ 100000 ∧ ∀ H3, H3 d = some (.dK (putK kvs k v)) → (∀ b, b ≠ d → H3 b = H2 b) → R σ H3)
    (ha : ∀ v, assign (.Subscript o i pos) X.env v = (holding [v] (eval o X.env) >>= fun ov => holding [v, ov] (eval i X.env) >>= fun iv => standAt pos >>= fun _ => holding [v, ov, iv] (setItem ov iv v) >>= fun _ => release [v, ov, iv] []) := by intro _; rfl) : gW X (.Subscript o i pos) v σ H R :=
  gI (pg_sub PEw PEw (set_dict hu) ha) (eMono h fun x H1 h1 => eMono h1 fun y H2 ⟨d, kvs, k, e1, e2, e3, e4, q⟩ => ⟨d, _, e1, by rw [e3]; exact .k e2 (Nat.lt_of_le_of_lt e4 (by decide)), q _ upd_same fun b hb => upd_ne hb⟩)
theorem g_setL {o i : Expr} {v : V} {R : L2.St → Hp → Prop} (h : eW X o σ H fun x H1 => eW X i σ H1 fun y H2 => ∃ p xs k j, x = .ref p ∧ y = .int k ∧ H2 p = some (.lst xs) ∧ ixN xs.length k = some j ∧ ∀ H3, H3 p = some (.lst (xs.set j v)) → (∀ b, b ≠ p → H3 b = H2 b) → R σ H3)
    (ha : ∀ v, assign (.Subscript o i pos) X.env v = (holding [v] (eval o X.env) >>= fun ov => holding [v, ov] (eval i X.env) >>= fun iv => standAt pos >>= fun _ => holding [v, ov, iv] (setItem ov iv v) >>= fun _ => release [v, ov, iv] []) := by intro _; rfl) : gW X (.Subscript o i pos) v σ H R :=
  gI (pg_sub PEw PEw set_list ha) (eMono h fun x H1 h1 => eMono h1 fun y H2 ⟨p, xs, k, j, e1, e2, e3, e4, q⟩ => ⟨p, xs, k, j, e1, e2, e3, e4, q _ upd_same fun b hb => upd_ne hb⟩)
/-- a comprehension, its elements by a word of the heap that holds while tuples stay -/
theorem lcH_h {it tg elt : Expr} {sc : Scope} {own : List (Str × Nat)} {R : Addr → Hp → Prop} (Pr : Nat → V → Hp → Prop) (hP : ∀ i y H H', TS H H' → Pr i y H → Pr i y H')
    (h : jW X tg it σ H fun J H1 => ∃ n G Y, Walk J n G Y ∧ n ≤ 100000 ∧ (∀ H', Same H1 H' → G H') ∧
      (∀ i x H' H2, i < n → Same H1 H' → Y i H' x H2 → Same H' H2 ∧ gB X sc tg x (wipe σ (own.map (·.2))) H2 fun σ3 H3 => wipe σ3 (own.map (·.2)) = wipe σ (own.map (·.2)) ∧ Same H2 H3 ∧ eB X sc elt σ3 H3 fun y H4 => Pr i y H4 ∧ Same H3 H4) ∧
      ∀ l H' ys, Same H1 H' → H1 l = none → H' l = some (.lst ys) → ys.length = n → (∀ i y, ys[i]? = some y → Pr i y H') → R l H') :
    jW X tg it σ H fun J H1 => ∃ n G Y, Walk J n G Y ∧ ∀ D, H1 D = none → ∃ Pv : Nat → Hp → Prop, Pv 0 (upd H1 D (.lst [])) ∧ (∀ i H', i ≤ n → Pv i H' → G H') ∧
      (∀ i x H' H2, i < n → Pv i H' → Y i H' x H2 → gB X sc tg x (wipe σ (own.map (·.2))) H2 fun σ3 H3 => wipe σ3 (own.map (·.2)) = wipe σ (own.map (·.2)) ∧ eB X sc elt σ3 H3 fun y H4 => ∃ acc, H4 D = some (.lst acc) ∧ acc.length < sizeLine ∧ Pv (i + 1) (upd H4 D (.lst (acc ++ [y])))) ∧
      ∀ H', Pv n H' → R D H' := by
  refine ⟨fun pins s I => wpAny_mono (h.run pins s I) (fun v s1 q => wpAny_mono q (fun u s2 ⟨i, fp, tn, J, H2, e, I2, T, t0, f2, n, G, Y, w, hn, q1, q2, q3⟩ => ⟨i, fp, tn, J, H2, e, I2, T, t0, f2, n, G, Y, w, fun D' hD => ⟨fun i H' => Same H2 H' ∧ ∃ acc, H' D' = some (.lst acc) ∧ acc.length = i ∧ ∀ j z, acc[j]? = some z → Pr j z H', ⟨sameU hD, [], upd_same, rfl, by simp⟩, fun _ _ _ p => q1 _ p.1, fun i x H' H3 hi p y s0 H0 C cl fp => ?_, fun H' p => by
    obtain ⟨p1, acc, p2, p3, p4⟩ := p
    exact q3 D' H' acc p1 hD p2 p3 p4⟩⟩) fun _ _ z => z) fun _ _ z => z⟩
  obtain ⟨k1, k2⟩ := q2 i x H' H3 hi p.1 y
  obtain ⟨p1, acc, p2, p3, p4⟩ := p
  refine ⟨fun pins s' u I r => wpAny_mono ((k2 s0 H0 C cl fp).run pins s' u I r) (fun _ s'' ⟨σ', H'', I'', e1, e2, e3⟩ => ⟨σ', H'', I'', e1, fun s0 H0 C cl fp => ⟨fun pins s' I => wpAny_mono ((e3 s0 H0 C cl fp).run pins s' I) (fun u s4 ⟨v4, H4, I4, r4, ev, e4⟩ => ⟨v4, H4, I4, r4, acc, e4 _ _ (e2 _ _ (k1 _ _ p2)), ?_, ?_, acc ++ [v4], upd_same, ?_, ?_⟩) fun _ _ z => z⟩⟩) fun _ _ z => z⟩
  · rw [p3]
    exact Nat.lt_of_lt_of_le (Nat.lt_of_lt_of_le hi hn) (by decide)
  · intro b o e
    rw [upd_ne (ne_of_none e hD)]
    exact e4 _ _ (e2 _ _ (k1 _ _ (p1 _ _ e)))
  · rw [List.length_append, p3]; rfl
  · have k4 := e4 _ _ (e2 _ _ (k1 _ _ p2))
    have up : TS H4 (upd H4 D' (.lst (acc ++ [v4]))) := TS.butL k4 fun b hb => upd_ne hb
    intro j z hz
    by_cases hj : j < i
    · rw [List.getElem?_append_left (by omega)] at hz
      exact hP _ _ _ _ ((TS.trans (Same.ts k1) (TS.trans (Same.ts e2) (Same.ts e4))).trans up) (p4 j z hz)
    · rw [List.getElem?_append_right (by omega), p3] at hz
      have hj2 : j = i := by
        have := (List.getElem?_eq_some_iff.mp hz).1
        simp at this
        omega
      subst hj2
      simp at hz
      rw [← hz]
      exact hP _ _ _ _ up ev
theorem e_lcH {it tg elt : Expr} {sc : Scope} {N : List Str} {own : List (Str × Nat)} [cc : CxC X] [cn : CxN X N] [nd : NdN N] (ok : BlkOk N X.env.scope sc own) (Pr : Nat → V → Hp → Prop) (hP : ∀ i y H H', TS H H' → Pr i y H → Pr i y H')
    (h : jW X tg it σ H fun J H1 => ∃ n G Y, Walk J n G Y ∧ n ≤ 100000 ∧ (∀ H', Same H1 H' → G H') ∧
      (∀ i x H' H2, i < n → Same H1 H' → Y i H' x H2 → Same H' H2 ∧ gB X sc tg x (wipe σ (own.map (·.2))) H2 fun σ3 H3 => wipe σ3 (own.map (·.2)) = wipe σ (own.map (·.2)) ∧ Same H2 H3 ∧ eB X sc elt σ3 H3 fun y H4 => Pr i y H4 ∧ Same H3 H4) ∧
      ∀ l H' ys, Same H1 H' → H1 l = none → H' l = some (.lst ys) → ys.length = n → (∀ i y, ys[i]? = some y → Pr i y H') → Q (.ref l) H') (hs : ∀ x, foldedSetIterable it X.env x = pure x := by intro _; rfl) : eW X (.ListComp elt [⟨tg, it, [], 0⟩] sc pos) σ H Q :=
  e_lc ok (lcH_h (R := fun l H' => Q (.ref l) H') Pr hP h) hs
theorem s_setLcH {it tg elt : Expr} {sc : Scope} {N : List Str} {own : List (Str × Nat)} {y : Str} {i : Nat} {D : Ends} {p3 : Pos} [cc : CxC X] [cn : CxN X N] [sl : Slt N y i] [nd : NdN N] (ok : BlkOk N X.env.scope sc own) (Pr : Nat → V → Hp → Prop) (hP : ∀ i y H H', TS H H' → Pr i y H → Pr i y H')
    (h : jW X tg it σ H fun J H1 => ∃ n G Y, Walk J n G Y ∧ n ≤ 100000 ∧ (∀ H', Same H1 H' → G H') ∧
      (∀ i x H' H2, i < n → Same H1 H' → Y i H' x H2 → Same H' H2 ∧ gB X sc tg x (wipe σ (own.map (·.2))) H2 fun σ3 H3 => wipe σ3 (own.map (·.2)) = wipe σ (own.map (·.2)) ∧ Same H2 H3 ∧ eB X sc elt σ3 H3 fun y H4 => Pr i y H4 ∧ Same H3 H4) ∧
      ∀ l H' ys, Same H1 H' → H1 l = none → H' l = some (.lst ys) → ys.length = n → (∀ i y, ys[i]? = some y → Pr i y H') → D.nx (σ.set i (some (.ref l))) H') (hyl : X.env.scope.names.lookup y = some .local := by rfl)
    (hsw : swapsWith (.ListComp elt [⟨tg, it, [], 0⟩] sc pos) (some (.Name y p2)) p3.line X.env = pure true := by exact sw_true rfl rfl rfl (by decide +kernel)) (hs : ∀ x, foldedSetIterable it X.env x = pure x := by intro _; rfl) : sW X (.Assign [.Name y p2] (.ListComp elt [⟨tg, it, [], 0⟩] sc pos) p3) D σ H :=
  s_setLc ok (lcH_h (R := fun l H' => D.nx (σ.set i (some (.ref l))) H') Pr hP h) hyl hsw hs
end
/-! ### a text so often -/
theorem fold_app : ∀ (n : Nat) (a : Array Nat) (z : Array Nat), ((List.replicate n z).foldl (· ++ ·) a).toList = a.toList ++ (List.replicate n z.toList).flatten
  | 0, a, z => by simp
  | n + 1, a, z => by
    rw [List.replicate_succ, List.foldl_cons, fold_app n, Array.toList_append, List.replicate_succ, List.flatten_cons, List.append_assoc]
theorem o_repS {X : Cx} {H : Hp} {Q : VK} {z : Str} {n : Int} (h0 : 0 ≤ n) (h1 : n ≤ 100000) (hz : z.length ≤ 100) (q : ∀ y, tl y = (List.replicate n.toNat (tl z)).flatten → Q (.str y) H) : oW X (binaryOp .Mult) (.str z) (.int n) H Q := by
  refine ⟨fun pins s σ v u I rx ry => ?_⟩
  obtain ⟨t, rfl⟩ := rx
  obtain ⟨t', rfl⟩ := ry
  have hm : z.length * n.toNat ≤ 100 * 100000 := Nat.mul_le_mul hz (by omega)
  refine PySem.P.mul_str (by rw [decide_eq_false (by omega), decide_eq_false (by omega)]; rfl) (fun c _ => ?_) (fun _ _ => ?_) ?_
  · have : (z.length : Int) ≤ (2 ^ 63 - 1) / n := by
      refine Int.le_ediv_of_mul_le (by omega) ?_
      have e : (z.length : Int) * n = ((z.length * n.toNat : Nat) : Int) := by
        rw [Int.natCast_mul, Int.toNat_of_nonneg h0]
      rw [e]
      omega
    omega
  · show decide (z.length * n.toNat > sizeLine) = false
    rw [sizeLine_eq]
    exact decide_eq_false (by omega)
  · by_cases c : n < 1
    · rw [if_pos c]
      refine ⟨by decide, ⟨.str Str.empty, H, I.tok _, ⟨_, rfl⟩, q _ ?_⟩⟩
      have : n.toNat = 0 := by omega
      rw [this]
      rfl
    · rw [if_neg c]
      by_cases c2 : (n == 1 || z.length == 0) = true
      · rw [if_pos c2]
        refine ⟨.str z, H, I.tok _, ⟨t, rfl⟩, q z ?_⟩
        rcases Bool.or_eq_true_iff.mp c2 with c3 | c3
        · have : n = 1 := beq_iff_eq.mp c3
          subst this
          simp
        · have e : tl z = [] := List.eq_nil_of_length_eq_zero (by rw [← len_tl]; exact beq_iff_eq.mp c3)
          rw [e]
          simp
      · rw [if_neg c2]
        have e : tl (⟨(List.replicate n.toNat z.cps).foldl (· ++ ·) #[]⟩ : Str) = (List.replicate n.toNat (tl z)).flatten := by
          show ((List.replicate n.toNat z.cps).foldl (· ++ ·) #[]).toList = _
          rw [fold_app]
          rfl
        refine ⟨?_, ⟨.str _, H, I.tok _, ⟨_, rfl⟩, q _ e⟩⟩
        rw [len_tl, e, List.length_flatten, List.map_replicate, List.sum_replicate_nat, ← len_tl, Nat.mul_comm, sizeLine_eq]
        omega
/-! ### exceptions: try, what a clause names, isinstance of what is caught -/
def trX (X : Cx) (pn : List (Addr × Obj)) (xe : Value → Shared → Prop) : Cx := X.tr pn xe
def suX (X : Cx) (a : Addr) (pn : List (Addr × Obj)) : Cx := X.suite a pn
theorem bMono {X : Cx} {b : List Stmt} {D : Ends} {σ : L2.St} {H : Hp} {nx : L2.St → Hp → Prop} (h : bW X b D σ H) (i : ∀ σ' H', D.nx σ' H' → nx σ' H') : bW X b { D with nx := nx } σ H := ⟨fun pins s I => wpAny_mono (h.run pins s I) (fun f s1 q => by
  cases f with
  | next => obtain ⟨σ', H', a, c⟩ := q; exact ⟨σ', H', a, i _ _ c⟩
  | brk => exact q
  | cont => exact q
  | ret v => exact q) fun _ _ x => x⟩
theorem sMono {X : Cx} {st : Stmt} {D : Ends} {σ : L2.St} {H : Hp} (nx : L2.St → Hp → Prop) (h : sW X st (Dnx D nx) σ H) (i : ∀ σ' H', nx σ' H' → D.nx σ' H') : sW X st D σ H := ⟨fun pins s I => wpAny_mono (h.run pins s I) (fun f s1 q => by
  cases f with
  | next => obtain ⟨σ', H', a, c⟩ := q; exact ⟨σ', H', a, i _ _ c⟩
  | brk => exact q
  | cont => exact q
  | ret v => exact q) fun _ _ x => x⟩
section
variable {X : Cx} {pn : List (Addr × Obj)} {xe : Value → Shared → Prop} {a : Addr}
instance {N : List Str} [c : CxN X N] : CxN (trX X pn xe) N := ⟨c.h⟩
instance {K : PySem.W.Frag} [c : CxK X K] : CxK (trX X pn xe) K := ⟨c.h⟩
instance {mg : Str → Option Value} [c : CxM X mg] : CxM (trX X pn xe) mg := ⟨c.h⟩
instance [c : CxC X] : CxC (trX X pn xe) := ⟨c.h⟩
instance {N : List Str} [c : CxN X N] : CxN (suX X a pn) N := ⟨c.h⟩
instance {K : PySem.W.Frag} [c : CxK X K] : CxK (suX X a pn) K := ⟨c.h⟩
instance {mg : Str → Option Value} [c : CxM X mg] : CxM (suX X a pn) mg := ⟨c.h⟩
instance : CxO (suX X a pn) := ⟨PassesOwn.never⟩
instance : CxT (suX X a pn) (fun _ _ _ _ => False) := ⟨takes0 (X := suX X a pn)⟩
end
section
variable {K : PySem.W.Frag} {mg : Str → Option Value} {x y : Str} {C D : Addr} {b : Bool}
theorem ExcF.excC (T : ExcF K mg x C) : ExcC K C := ⟨T.ga, T.gk, T.be, T.hd, T.ha, T.hn, T.ht, T.hm⟩
theorem ExcF.self (T : ExcF K mg x C) : PySem.W.subIn K (.ref C) (.ref C) = some true := by
  have q := T.ex
  unfold PySem.W.excIn at q
  show PySem.W.mroIn K C (.ref C) = some true
  unfold PySem.W.mroIn PySem.W.clsIn
  split at q
  · rename_i dd cd sl ho
    rw [ho]
    dsimp only
    split at q
    · rename_i C' bm k0 k1 k2 k3 n k5 hm hs
      simp only [Bool.and_eq_true, beq_iff_eq] at q
      obtain ⟨⟨⟨⟨⟨e, _⟩, _⟩, _⟩, _⟩, _⟩ := q
      subst e
      rw [Option.bind_some, hm]
      simp
    · cases q
  · cases q
theorem ExcF.kit (TD : ExcF K mg x D) (TC : ExcF K mg y C) (h : PySem.W.subIn K (.ref D) (.ref C) = some b) : PySem.W.kitOne K (.ref D) (.ref C) = some b := by
  by_cases e : D = C
  · subst e
    rw [TD.self] at h
    cases h
    exact kit_self
  · exact kit_refs h TC.ic TC.ty e
theorem ExcF.kitVE (TD : ExcF K mg x D) : PySem.W.kitOne K (.ref D) (.type "ValueError") = some true := by
  have e2 : (Value.ref D == Value.type "ValueError") = false := by simp
  have e3 : PySem.W.kitMeta "ValueError" = true := by decide +kernel
  show (if (Value.ref D == Value.type "ValueError") = true then some true else if PySem.W.kitMeta "ValueError" = true then PySem.W.subIn K (.ref D) (.type "ValueError") else none) = some true
  rw [e2, if_neg Bool.false_ne_true, if_pos e3]
  exact TD.ve
theorem ExcF.exm (TC : ExcF K mg y C) (h : PySem.W.subIn K (.ref D) (.ref C) = some b) : PySem.W.exmOne K (.ref D) (.ref C) = some b := PySem.W.exm_ref TC.be TC.hd TC.ty h
theorem kit_none {t : Value} : ∀ {cs : List Addr}, (∀ c ∈ cs, PySem.W.kitOne K t (.ref c) = some false) → PySem.W.kitAny K t (cs.map Value.ref) = some false
  | [], _ => rfl
  | c :: cs, h => by
    show (match PySem.W.kitOne K t (.ref c) with
      | some true => some true
      | some false => PySem.W.kitAny K t (cs.map Value.ref)
      | none => none) = some false
    rw [h c List.mem_cons_self]
    exact kit_none fun d hd => h d (List.mem_cons_of_mem _ hd)
theorem vals_refs : ∀ {cs : List Addr} {its : List Value}, Vals (cs.map V.ref) its → its = cs.map Value.ref
  | [], _, .nil => rfl
  | c :: cs, _, .cons r t => by
    have e : _ = Value.ref c := r
    rw [e, vals_refs t]
    rfl
end
section
variable {X : Cx} {σ : L2.St} {H : Hp} {D : Ends} {Q : VK} {pos pos' np p2 p3 p4 : Pos} {st b₀ : Stmt} {body suite orelse : List Stmt} {N : List Str} {x y n : Str} {a C E : Addr} {oe : Obj} {pn : List (Addr × Obj)} {b : Bool} {mg : Str → Option Value}
/-- isinstance(e, C), e what the suite holds -/
theorem k_isE (TD : ExcF X.K mg x E) (TC : ExcF X.K mg y C) (hz : Zc (.ref E) none oe) (hf : ∃ vs, oe.data = .fields vs) (h : PySem.W.subIn X.K (.ref E) (.ref C) = some b) (q : Q (.bl b) H) : kW (suX X a ((a, oe) :: pn)) (.builtin "isinstance") [.ref a, .ref C] H Q :=
  kI (X := X.suite a ((a, oe) :: pn)) (call_isE TD.excC hz hf) ⟨_, _, _, rfl, fun _ r => r, TD.kit TC h, q⟩
theorem k_isEV (TD : ExcF X.K mg x E) (hz : Zc (.ref E) none oe) (hf : ∃ vs, oe.data = .fields vs) (q : Q (.bl true) H) : kW (suX X a ((a, oe) :: pn)) (.builtin "isinstance") [.ref a, .ty "ValueError"] H Q :=
  kI (X := X.suite a ((a, oe) :: pn)) (call_isE TD.excC hz hf) ⟨_, _, _, rfl, fun _ r => r, TD.kitVE, q⟩
/-- isinstance(e, (C1, C2, ..)), none of them -/
theorem k_isEN {t : Addr} (cs : List Addr) (TD : ExcF X.K mg x E) (hz : Zc (.ref E) none oe) (hf : ∃ vs, oe.data = .fields vs) (ht : H t = some (.tup (cs.map V.ref))) (h : ∀ c ∈ cs, PySem.W.kitOne X.K (.ref E) (.ref c) = some false) (q : Q (.bl false) H) :
    kW (suX X a ((a, oe) :: pn)) (.builtin "isinstance") [.ref a, .ref t] H Q := by
  refine ⟨fun pins s σ us I r => ?_⟩
  cases r with
  | cons rx rr =>
    cases rr with
    | cons rt rr =>
      cases rr
      cases rx
      cases rt
      obtain ⟨hget, _⟩ := I.pin (a, oe) (List.mem_append.mpr (.inl List.mem_cons_self))
      obtain ⟨vs, hv⟩ := hf
      have J : PySem.W.InstAt s.heap a oe E none := by
        obtain ⟨oc, od, oda, osl⟩ := oe
        obtain ⟨h1, h2⟩ := hz
        dsimp only at h1 h2 hv
        subst h1 h2 hv
        exact ⟨hget, rfl, rfl, trivial⟩
      have C := TD.excC
      obtain ⟨_, its, rv, ho⟩ : ObjOk X.prog X.w H s.heap t (.tup (cs.map V.ref)) := I.hok t _ ht
      have e := vals_refs rv
      subst e
      obtain ⟨⟨oc, dd, dt, osl⟩, hg, e1, nn, e2⟩ := ho
      dsimp only at e1 e2
      subst e1 e2
      exact PySem.W.kia_tup (PySem.W.handS_kitx_exc C.hg C.hk C.hs C.hd C.ha C.hn C.ht C.hm) I.kIn J hg (kit_none h) (fun z => nomatch z) fun tk => ⟨.bl false, H, I.kept (t' := tk) fun _ _ z => z, rfl, q⟩
theorem k_intB {k : Bool} (q : Q (.int (if k then 1 else 0)) H) : kW X (.type "int") [.bl k] H Q := kI call_int1 (.inr ⟨k, rfl, q⟩)
/-- try: body, except x as n: suite -/
theorem s_tryAs {i : Nat} {Wout : WX} [cn : CxN X N] [sl : Slt N n i] [nd : NdN N] [ct : CxT X Wout] (T : ExcF X.K X.mg x C) (W : WX)
    (hw : ∀ cls d σ' H', W cls d σ' H' → (PySem.W.exmOne X.K cls (.ref C) = some true ∧ ∀ a oe pn, H' a = none → Zc cls d oe → (∃ vs, oe.data = .fields vs) →
        bW (suX X a ((a, oe) :: pn)) (b₀ :: suite) { nx := fun σ' H' => D.nx (σ'.set i none) H', rt := D.rt, bk := fun σ' H' => D.bk (σ'.set i none) H', ct := fun σ' H' => D.ct (σ'.set i none) H' } (σ'.set i (some (.ref a))) H') ∨
      (PySem.W.exmOne X.K cls (.ref C) = some false ∧ Wout cls d σ' H'))
    (hb : ∀ pn xe, CxT (trX X pn xe) W → CxO (trX X pn xe) → bW (trX X pn xe) body D σ H)
    (hg : Gl X x := by rfl) (hdb : (x == ("__debug__" : Str)) = false := by decide) (hln : X.env.kindOf n = some .local := by rfl) (hs : X.stack = X.env :: X.outer := by rfl) (hf : X.env.frame = some X.env.locals := by rfl) :
    sW X (.Try body [.ExceptHandler (some (.Name x np)) (some n) (b₀ :: suite) pos'] [] [] pos) D σ H :=
  sI (ps_try_as hs hf (by rw [cn.h]; exact nd.h) (by rw [cn.h]; exact sl.h) hln ⟨hg, hdb, .inl T.mg⟩ ct.h
    (tb := fun W' D' σ' H' => ∀ pn xe, CxT (trX X pn xe) W' → CxO (trX X pn xe) → bW (trX X pn xe) body D' σ' H')
    (ts := fun a cls d D' σ' H' => ∀ oe pn, Zc cls d oe → (∃ vs, oe.data = .fields vs) → bW (suX X a ((a, oe) :: pn)) (b₀ :: suite) D' σ' H')
    (fun W' pn xe tk ow => ⟨fun pins s σ H D I q => (q pn xe ⟨tk⟩ ⟨ow⟩).run pins s I⟩)
    (fun a oe cls d pn hz hf => ⟨fun pins s σ H D I q => (q oe pn hz hf).run pins s I⟩))
   (fun pn xe c1 c2 => hb pn xe ⟨c1.h.imp fun cls d σ' H' w => (hw cls d σ' H' w).elim (fun ⟨h1, h2⟩ => ⟨true, h1, fun _ a ha oe pn hz hf => h2 a oe pn ha hz hf, fun z => nomatch z⟩) fun ⟨h1, h2⟩ => ⟨false, h1, (fun z => nomatch z), fun _ => h2⟩⟩ c2)
/-- try: body, except x: suite, else: orelse -/
theorem s_tryElse {Wout : WX} [ct : CxT X Wout] (T : ExcF X.K X.mg x C) (W : WX)
    (hw : ∀ cls d σ' H', W cls d σ' H' → (PySem.W.exmOne X.K cls (.ref C) = some true ∧ ∀ a oe pn, H' a = none → Zc cls d oe → (∃ vs, oe.data = .fields vs) → bW (suX X a ((a, oe) :: pn)) (b₀ :: suite) D σ' H') ∨ (PySem.W.exmOne X.K cls (.ref C) = some false ∧ Wout cls d σ' H'))
    (hb : ∀ pn xe, CxT (trX X pn xe) W → CxO (trX X pn xe) → bW (trX X pn xe) body (Dsq X orelse D) σ H)
    (hg : Gl X x := by rfl) (hdb : (x == ("__debug__" : Str)) = false := by decide) (hs : X.stack = X.env :: X.outer := by rfl) (hf : X.env.frame = some X.env.locals := by rfl) :
    sW X (.Try body [.ExceptHandler (some (.Name x np)) none (b₀ :: suite) pos'] orelse [] pos) D σ H :=
  sI (ps_try_onlyE (u := bW X orelse) PBw hs hf ⟨hg, hdb, .inl T.mg⟩ ct.h
    (tb := fun W' D' σ' H' => ∀ pn xe, CxT (trX X pn xe) W' → CxO (trX X pn xe) → bW (trX X pn xe) body D' σ' H')
    (ts := fun a cls d D' σ' H' => ∀ oe pn, Zc cls d oe → (∃ vs, oe.data = .fields vs) → bW (suX X a ((a, oe) :: pn)) (b₀ :: suite) D' σ' H')
    (fun W' pn xe tk ow => ⟨fun pins s σ H D I q => (q pn xe ⟨tk⟩ ⟨ow⟩).run pins s I⟩)
    (fun a oe cls d pn hz hf => ⟨fun pins s σ H D I q => (q oe pn hz hf).run pins s I⟩))
   (fun pn xe c1 c2 => hb pn xe ⟨c1.h.imp fun cls d σ' H' w => (hw cls d σ' H' w).elim (fun ⟨h1, h2⟩ => ⟨true, h1, fun _ a ha oe pn hz hf => h2 a oe pn ha hz hf, fun z => nomatch z⟩) fun ⟨h1, h2⟩ => ⟨false, h1, (fun z => nomatch z), fun _ => h2⟩⟩ c2)
/-- try: body, except x: suite -/
theorem s_tryOnly {Wout : WX} [ct : CxT X Wout] (T : ExcF X.K X.mg x C) (W : WX)
    (hw : ∀ cls d σ' H', W cls d σ' H' → (PySem.W.exmOne X.K cls (.ref C) = some true ∧ ∀ a oe pn, H' a = none → Zc cls d oe → (∃ vs, oe.data = .fields vs) → bW (suX X a ((a, oe) :: pn)) (b₀ :: suite) D σ' H') ∨ (PySem.W.exmOne X.K cls (.ref C) = some false ∧ Wout cls d σ' H'))
    (hb : ∀ pn xe, CxT (trX X pn xe) W → CxO (trX X pn xe) → bW (trX X pn xe) body D σ H)
    (hg : Gl X x := by rfl) (hdb : (x == ("__debug__" : Str)) = false := by decide) (hs : X.stack = X.env :: X.outer := by rfl) (hf : X.env.frame = some X.env.locals := by rfl) :
    sW X (.Try body [.ExceptHandler (some (.Name x np)) none (b₀ :: suite) pos'] [] [] pos) D σ H :=
  s_tryElse T W hw (fun pn xe c1 c2 => ⟨fun pins s I => (bMono (hb pn xe c1 c2) (fun σ' H' q => b_nil q)).run pins s I⟩) hg hdb hs hf
end
/-! ### try with clauses of any kind -/
theorem wp_forIn {M : Model} {A : Around} {E : Value → Shared → Prop} {α β : Type} {f : α → β → Sem (ForInStep β)} {init : β} {s : Shared} {Q : β → Shared → Prop} : ∀ L : List α, (∀ c ∈ L, ∀ R : ForInStep β → Shared → Prop, R (.yield init) s → wpAny M A (f c init) R E s) → Q init s → wpAny M A (forIn L init f) Q E s
  | [], _, q => by rw [List.forIn_nil]; exact wpAny_pure q
  | c :: L, h, q => by
    rw [List.forIn_cons]
    exact wpAny_bind (h c (List.mem_cons_self ..) _ (wp_forIn L (fun d hd => h d (List.mem_cons_of_mem _ hd)) q))
theorem exm_none {M : Model} {K : PySem.W.Frag} {cs : List Addr} {cls : Value} {tp e : Addr} {h : Heap} (X : K.In h) (LT : PySem.W.Looks M h (typeOf (.ref e)) cls) (hp : h.get? tp = some { cls := .type "tuple", data := .seq (cs.map Value.ref).toArray })
    (hx : ∀ c ∈ cs, PySem.W.exmOne K cls (.ref c) = some false) : PySem.W.Looks M h (excMatches (.ref e) (.ref tp)) false := by
  intro A Q E s k₀ q
  obtain ⟨hh, g, d, tk, os⟩ := s
  have k : ∀ b o, h.get? b = some o → hh.get? b = some o := k₀
  have LTT : PySem.W.Looks M h (isInstance (.ref tp) (.type "tuple")) true := ((PySem.W.Looks.ld hp).andThen .now).andThen (PySem.W.Looks.of_pure isSubtype_tuple_tuple)
  have hpp := k _ _ hp
  unfold excMatches
  refine wpAny_bind ((LTT.keeps k).at ?_)
  dsimp only
  rw [if_pos rfl]
  first
    | refine wpAny_bind (wpAny_seqItems hpp rfl ?_)
    | refine wpAny_bind (wpAny_bind (wpAny_seqItems hpp rfl (wpAny_pure ?_)))
  dsimp only [Option.getD_some, Option.getD]
  have get : ∀ v ∈ cs.map Value.ref, PySem.W.exmOne K cls v = some false := fun v hv => by
    obtain ⟨c, hc, rfl⟩ := List.mem_map.mp hv
    exact hx c hc
  refine wpAny_bind (wpAny_pure (wpAny_bind (wp_forIn _ (fun c hc R r => ?_) ?_)))
  · have L1 := (PySem.W.exm_cls (M := M) X (get c hc)).1.keeps k
    refine wpAny_bind (L1.at ?_)
    rw [if_neg (by decide)]
    exact wpAny_pure r
  · refine wpAny_bind ((LT.keeps k).at ?_)
    refine wpAny_bind (wp_forIn _ (fun c hc R r => ?_) ?_)
    · have L1 := (PySem.W.exm_cls (M := M) X (get c hc)).2.keeps k
      refine wpAny_bind (L1.at ?_)
      rw [if_neg (by decide)]
      exact wpAny_pure r
    · exact wpAny_pure q
/-- an exception that was caught, kept -/
def ExK (cls : Value) (d : Option Addr) (a : Addr) : HO := .ext fun h => ∃ (oe : Obj) (vs : Array Value), h.get? a = some oe ∧ Zc cls d oe ∧ oe.data = .fields vs
theorem exK_ok {P : Program} {w : World} {H : Hp} {h : Heap} {a : Addr} {cls : Value} {d : Option Addr} {oe : Obj} {vs : Array Value} (e : h.get? a = some oe) (z : Zc cls d oe) (q : oe.data = .fields vs) : ObjOk P w H h a (ExK cls d a) :=
  ⟨⟨oe, vs, e, z, q⟩, ⟨oe, e⟩, fun _ _ ⟨o, v, q, r⟩ k => ⟨o, v, k o q, r⟩⟩
/-- what stood unseen is seen -/
theorem lay_old {X : Cx} {pins : List (Addr × Obj)} {σ : L2.St} {H : Hp} {s : Shared} {a : Addr} {o : HO} (I : Inv X pins σ H s) (hn : H a = none) (h0 : X.s_0.heap.get? a = none) (nl : a ≠ X.env.locals) (nc : ∀ v, ¬ s.heap.IsCell a v)
    (np : ∀ p ∈ X.pn ++ pins, p.1 ≠ a) (new : ObjOk X.prog X.w (upd H a o) s.heap a o) : Inv X pins σ (upd H a o) s where
  ok := I.ok
  os := I.os
  bare := I.bare
  base := { keep := I.base.keep, slot := I.base.slot, there := I.base.there
            free := fun b u q n x => by rw [upd_ne fun z => by rw [z, h0] at q; cases q]; exact I.base.free b u q n x
            tups := fun b xs q => by
              have t := I.base.tups b xs q
              rw [upd_ne fun z => by rw [z, hn] at t; cases t]; exact t
            frzs := fun b u xs q => by
              have t := I.base.frzs b u xs q
              rw [upd_ne fun z => by rw [z, hn] at t; cases t]; exact t
            tbls := fun b ps q => by
              obtain ⟨m, t⟩ := I.base.tbls b ps q
              exact ⟨m, by rw [upd_ne fun z => by rw [z, hn] at t; cases t]; exact t⟩ }
  loc := I.loc
  cell := I.cell
  free := by rw [upd_ne (Ne.symm nl)]; exact I.free
  freeC := fun x c e => by
    rw [upd_ne fun z => by
      obtain ⟨v, hv⟩ := I.cell x c e
      rw [z] at hv
      exact nc v hv]
    exact I.freeC x c e
  pin := fun p hp => by
    obtain ⟨q1, q2, q3⟩ := I.pin p hp
    exact ⟨q1, by rw [upd_ne (np p hp)]; exact q2, q3⟩
  hok := HOk.laidN I.hok (fun _ _ z => z) hn new
  len := I.len
/-- the ends of a suite: what is held is kept -/
def keptD (D : Ends) (f : L2.St → L2.St) (cls : Value) (d : Option Addr) (a : Addr) : Ends where
  nx := fun σ H => ∀ H2, Same H H2 → H2 a = some (ExK cls d a) → D.nx (f σ) H2
  rt := fun v H => ∀ H2, Same H H2 → H2 a = some (ExK cls d a) → D.rt v H2
  bk := fun σ H => ∀ H2, Same H H2 → H2 a = some (ExK cls d a) → D.bk (f σ) H2
  ct := fun σ H => ∀ H2, Same H H2 → H2 a = some (ExK cls d a) → D.ct (f σ) H2
/-- the names of a tuple of classes -/
inductive Tst (X : Cx) : List Expr → List Addr → Prop
  | nil : Tst X [] []
  | cons {x : Str} {c : Addr} {np : Pos} {es : List Expr} {cs : List Addr} (hc : Names X x (.ref c)) (hs : starEach (.Name x np :: es) X.env = (false, eval (.Name x np) X.env) :: starEach es X.env) (t : Tst X es cs) : Tst X (.Name x np :: es) (c :: cs)
/-- what the clauses do with an exception of the class cls -/
inductive Caught (X : Cx) (D : Ends) (Wout : WX) (cls : Value) (d : Option Addr) (σ : L2.St) (H : Hp) : List ExceptHandler → Prop
  | out (w : Wout cls d σ H) : Caught X D Wout cls d σ H []
  | skip {x : Str} {c : Addr} {np pos : Pos} {nm : Option Str} {b₀ : Stmt} {suite : List Stmt} {hds : List ExceptHandler} (hc : Names X x (.ref c)) (hx : PySem.W.exmOne X.K cls (.ref c) = some false) (r : Caught X D Wout cls d σ H hds) : Caught X D Wout cls d σ H (.ExceptHandler (some (.Name x np)) nm (b₀ :: suite) pos :: hds)
  | skipT {es : List Expr} {k : Nat} {cs : List Addr} {tp pos : Pos} {nm : Option Str} {b₀ : Stmt} {suite : List Stmt} {hds : List ExceptHandler} (t : Tst X es cs) (hz : cs.length ≤ 1000) (hx : ∀ c ∈ cs, PySem.W.exmOne X.K cls (.ref c) = some false) (r : Caught X D Wout cls d σ H hds) :
      Caught X D Wout cls d σ H (.ExceptHandler (some (.Tuple es k tp)) nm (b₀ :: suite) pos :: hds)
  | hit {x : Str} {c : Addr} {np pos : Pos} {b₀ : Stmt} {suite : List Stmt} {hds : List ExceptHandler} (hc : Names X x (.ref c)) (hx : PySem.W.exmOne X.K cls (.ref c) = some true)
      (q : ∀ a oe pn, H a = none → Zc cls d oe → (∃ vs, oe.data = .fields vs) → bW (suX X a ((a, oe) :: pn)) (b₀ :: suite) (keptD D id cls d a) σ H) : Caught X D Wout cls d σ H (.ExceptHandler (some (.Name x np)) none (b₀ :: suite) pos :: hds)
  | hitAs {x n : Str} {i : Nat} {c : Addr} {np pos : Pos} {b₀ : Stmt} {suite : List Stmt} {hds : List ExceptHandler} (hN : X.N.Nodup) (hi : X.N[i]? = some n) (hln : X.env.kindOf n = some .local) (hc : Names X x (.ref c)) (hx : PySem.W.exmOne X.K cls (.ref c) = some true)
      (q : ∀ a oe pn, H a = none → Zc cls d oe → (∃ vs, oe.data = .fields vs) → bW (suX X a ((a, oe) :: pn)) (b₀ :: suite) (keptD D (·.set i none) cls d a) (σ.set i (some (.ref a))) H) : Caught X D Wout cls d σ H (.ExceptHandler (some (.Name x np)) (some n) (b₀ :: suite) pos :: hds)
theorem tst_name {X : Cx} {a : Addr} {pn pins : List (Addr × Obj)} {σ : L2.St} {H : Hp} {s : Shared} {x : Str} {np : Pos} {c : Value} (hc : Names X x c) (S : Inv (X.suite a pn) pins σ H s) {Q : Value → Shared → Prop} {E : Value → Shared → Prop} (q : Q c s) :
    wpAny (model X.prog X.w) (X.A.mark (some (.ref a))) (eval (.Name x np) X.env) Q E s := by
  obtain ⟨hg, hdb, hm | ⟨hm, hv, hn⟩⟩ := hc
  · exact ld_glob (X := X.suite a pn) S hg hm q hdb
  · exact ld_blt (X := X.suite a pn) S hg hm hv q hn hdb
theorem tst_run {X : Cx} {a : Addr} {pn pins : List (Addr × Obj)} {σ : L2.St} {H : Hp} {s : Shared} {pos : Pos} (S : Inv (X.suite a pn) pins σ H s) {E : Value → Shared → Prop} : ∀ {es : List Expr} {cs : List Addr}, Tst X es cs → ∀ {Q : List Value → Shared → Prop}, Q (cs.map Value.ref) s →
    wpAny (model X.prog X.w) (X.A.mark (some (.ref a))) (spliced (backTo pos (starEach es X.env))) Q E s
  | _, _, .nil, Q, q => wpAny_pure q
  | _, _, .cons hc hs t, Q, q => by
    rw [hs]
    show wpAny _ _ (spliced ((false, eval _ X.env) :: backTo pos _)) _ _ s
    exact Calls.spliced_cons (tst_name hc S (tst_run S t q))
theorem s_tryC {X : Cx} {σ : L2.St} {H : Hp} {D : Ends} {pos : Pos} {body orelse : List Stmt} {h₀ : ExceptHandler} {hds : List ExceptHandler} {Wout : WX} [ct : CxT X Wout] (W : WX)
    (hw : ∀ cls d σ' H', W cls d σ' H' → Caught X D Wout cls d σ' H' (h₀ :: hds))
    (hb : ∀ pn xe, CxT (trX X pn xe) W → CxO (trX X pn xe) → bW (trX X pn xe) body (Dsq X orelse D) σ H)
    (hs : X.stack = X.env :: X.outer := by rfl) (hf : X.env.frame = some X.env.locals := by rfl) (hex : X.ex = [] := by rfl) : sW X (.Try body (h₀ :: hds) orelse [] pos) D σ H := by
  refine ⟨fun pins s I => ?_⟩
  have ok := I.ok
  have fr0 : X.A.frames = some (X.env :: X.outer) := by rw [ok.frames, hs]
  refine wpAny_Try_except ?_
  refine wpAny_mono ((hb (X.pn ++ pins) (fun e s1 => wpAny (model X.prog X.w) X.A (noteFrame e X.env) (fun _ s2 => wpAny (model X.prog X.w) X.A (setFlight e none) (fun _ s3 => wpAny (model X.prog X.w) X.A (handleBy e X.env (h₀ :: hds)) (SP X pins D) X.xe s3) X.xe s2) X.xe s1)
    ⟨fun u s' xx => ?_⟩ ⟨PassesOwn.looking⟩).run [] s (I.toTry _)) (fun f s1 hsp => ?_) (fun e s1 he => he)
  · obtain ⟨a, B, sI, pins', σ', H', cls, d, rfl, J0, nb, up, sky, na, os, ag, w⟩ := xx
    have JJ : Inv X pins σ' H' sI := J0.ofTry ok
    have sky2 : Sky B (X.env :: X.outer) a (Zc cls d) X.env.locals s'.heap := by rw [← hs]; exact sky
    show wpAny (model X.prog X.w) X.A (noteFrame (.ref a) X.env) _ _ _
    refine Sky.land Zc.steady fr0 hf sky2 fun h3 fl3 up3 => ?_
    have aB : B.get? a = none := fl3.2.1
    have nfr : a ∉ frs (X.env :: X.outer) := fun hm => by
      obtain ⟨oe3, vs3, he3, _, hd3⟩ := fl3.there
      obtain ⟨_, o', e', hnf⟩ := fl3.2.2.1.mem hm; rw [he3] at e'; cases e'; exact hnf _ hd3
    have nL : a ≠ X.env.locals := fun z => nfr (List.mem_filterMap.mpr ⟨X.env, List.mem_cons_self .., by rw [hf, z]⟩)
    have nF : a ∉ X.fs := fun hm => by
      obtain ⟨e, he, q⟩ := List.mem_filterMap.mp hm; exact nfr (List.mem_filterMap.mpr ⟨e, List.mem_cons_of_mem _ he, q⟩)
    have ngr : ∀ o, ¬ sI.heap.get? a = some o := fun o e => by
      have t := nb a o e (by show a ∉ frs X.stack; rw [hs]; exact nfr); rw [aB] at t; cases t
    have h0 : X.s_0.heap.get? a = none := by
      cases e : X.s_0.heap.get? a with
      | none => rfl
      | some o => obtain ⟨o', q⟩ := JJ.base.there a o e (by rw [hex]; simp); exact absurd q (ngr o')
    have np : ∀ p ∈ X.pn ++ pins, p.1 ≠ a := fun p hp z => ngr p.2 (by rw [← z]; exact (JJ.pin p hp).1)
    have fac : ∀ h, HandSPX.FlyingZ B (X.env :: X.outer) a (Zc cls d) h → sI.heap.UpToSlots h → Inv X pins σ' H' { s' with heap := h } ∧ ∃ oe, Zc cls d oe ∧ (∃ vs, oe.data = .fields vs) ∧ h.get? a = some oe ∧ Inv (X.suite a ((a, oe) :: (X.pn ++ pins))) [] σ' H' { s' with heap := h } := fun h fl u => by
      obtain ⟨oe, vs, he, hz, hd⟩ := fl.there
      have J : Inv X pins σ' H' { s' with heap := h } := JJ.landed nb fl.1 u os ag
      exact ⟨J, oe, hz, ⟨vs, hd⟩, he, J.suite he hd na nL nF⟩
    have kept6 : ∀ {oe : Obj} {σ6 : L2.St} {H6 : Hp} {s6 : Shared}, Zc cls d oe → (∃ vs, oe.data = .fields vs) → Inv (X.suite a ((a, oe) :: (X.pn ++ pins))) [] σ6 H6 s6 → Inv X pins σ6 (upd H6 a (ExK cls d a)) s6 ∧ Same H6 (upd H6 a (ExK cls d a)) := fun {oe σ6 H6 s6} hz hd S6 => by
      obtain ⟨vs, hd⟩ := hd
      obtain ⟨p1, p2, p3, p4, p5⟩ := S6.pin (a, oe) (List.mem_append_left _ (List.mem_cons_self ..))
      exact ⟨lay_old (S6.unsuite ok) p2 h0 nL (fun v ⟨o, q1, q2⟩ => by rw [p1] at q1; cases q1; exact p5 v q2) np (exK_ok p1 hz hd), sameU p2⟩
    have go : ∀ {hs2 : List ExceptHandler}, Caught X D Wout cls d σ' H' hs2 → ∀ h, HandSPX.FlyingZ B (X.env :: X.outer) a (Zc cls d) h → sI.heap.UpToSlots h → wpAny (model X.prog X.w) X.A (handleBy (.ref a) X.env hs2) (SP X pins D) X.xe { s' with heap := h } := by
      intro hs2 hk
      induction hk with
      | out w =>
        intro h fl u
        refine wpAny_handleBy_nil ?_
        obtain ⟨_, _, _, oe, vs, T, oT, ts, he, hz, hd, h1, hr⟩ := id fl
        unfold PySem.passOn; refine wpAny_bind (wpAny_field he hd h1 ?_); rw [if_neg (show ¬ ((Value.ref T == Value.none) = true) from by simp)]
        have fin : wpAny (model X.prog X.w) X.A (setFlight (.ref a) X.env.frame) (fun _ s4 => wpAny (model X.prog X.w) X.A (throw (.ref a) : Sem Flow) (SP X pins D) X.xe s4) X.xe { s' with heap := h } := by
          rw [hf]; exact HandSPX.setFlight_upZ fl fun h4 hh4 up4 => wpAny_throw (ct.h _ _ ⟨a, B, sI, pins, σ', H', cls, d, rfl, JJ, nb, u.trans up4, .inr (.inr (by rw [hs]; exact hh4)), na, os, ag, w⟩)
        first | exact wpAny_bind (wpAny_pure (wpAny_bind fin)) | exact wpAny_bind fin
      | skip hc hx r ih =>
        intro h fl u
        obtain ⟨J, oe, hz, hd, he, S⟩ := fac h fl u
        refine wpAny_handleBy_cons (codeAny_handlers_test ?_) (by intro q; cases q)
        have LT : PySem.W.Looks (model X.prog X.w) h (typeOf (.ref a)) cls := fun A Q E s k q => wpAny_typeOf_ref (k _ _ he) (by rw [hz.1]; exact q)
        refine tst_name hc S ((PySem.W.exm_one (M := model X.prog X.w) J.kIn LT hx).here ?_)
        exact ih h fl u
      | @skipT es k cs tp pos nm b₀ suite hds t hz1 hx r ih =>
        intro h fl u
        obtain ⟨J, oe, hz, hd, he, S⟩ := fac h fl u
        refine wpAny_handleBy_cons (codeAny_handlers_test ?_) (by intro q; cases q)
        refine wpAny_Tuple_spliced (tst_run S t ⟨by rw [List.length_map]; exact Nat.le_trans hz1 (by decide), ?_⟩)
        have kp : ∀ b o, h.get? b = some o → (h.push { cls := .type "tuple", data := .seq (cs.map Value.ref).toArray }).get? b = some o := fun b o e => Heap.get?_push_of_some _ e
        have fl2 : HandSPX.FlyingZ B (X.env :: X.outer) a (Zc cls d) (h.push { cls := .type "tuple", data := .seq (cs.map Value.ref).toArray }) := by
          obtain ⟨q1, q2, q3, oe', vs, T, oT, ts, r1, r2, r3, r4, r5, r6, r7, r8⟩ := id fl
          exact ⟨fun b o e => kp b o (q1 b o e), q2, q3.of_keeps fun b o e _ => ⟨o, kp b o e, rfl⟩, oe', vs, T, oT, ts, kp _ _ r1, r2, r3, r4, r5, r6, kp _ _ r7, r8⟩
        have u2 : sI.heap.UpToSlots (h.push { cls := .type "tuple", data := .seq (cs.map Value.ref).toArray }) := u.trans fun b o e _ => ⟨o.slots, kp b o e⟩
        have LT : PySem.W.Looks (model X.prog X.w) (h.push { cls := .type "tuple", data := .seq (cs.map Value.ref).toArray }) (typeOf (.ref a)) cls := fun A Q E s k q => wpAny_typeOf_ref (k _ _ (kp _ _ he)) (by rw [hz.1]; exact q)
        refine (exm_none (M := model X.prog X.w) (fac _ fl2 u2).1.kIn LT (Heap.get?_push_size _ rfl) hx).here ?_
        exact ih _ fl2 u2
      | hit hc hx q =>
        intro h fl u
        obtain ⟨J, oe, hz, hd, he, S⟩ := fac h fl u
        refine wpAny_handleBy_cons (codeAny_handlers_test ?_) (by intro q; cases q)
        have LT : PySem.W.Looks (model X.prog X.w) h (typeOf (.ref a)) cls := fun A Q E s k q => wpAny_typeOf_ref (k _ _ he) (by rw [hz.1]; exact q)
        refine tst_name hc S ((PySem.W.exm_one (M := model X.prog X.w) J.kIn LT hx).here ?_)
        refine codeAny_handlers_suite (HandSPX.lands_againZ fl fun h4 fl4 up4 => ?_)
        obtain ⟨J4, oe4, hz4, hd4, he4, S4⟩ := fac h4 fl4 (u.trans up4)
        refine wpAny_mono ((q a oe4 (X.pn ++ pins) na hz4 hd4).run [] _ S4) (fun f s6 hsp => ?_) fun _ _ z => False.elim z
        cases f with
        | next => obtain ⟨σ6, H6, S6, q6⟩ := hsp; obtain ⟨k1, k2⟩ := kept6 hz4 hd4 S6; exact ⟨_, _, k1, q6 _ k2 upd_same⟩
        | brk => obtain ⟨σ6, H6, S6, q6⟩ := hsp; obtain ⟨k1, k2⟩ := kept6 hz4 hd4 S6; exact ⟨_, _, k1, q6 _ k2 upd_same⟩
        | cont => obtain ⟨σ6, H6, S6, q6⟩ := hsp; obtain ⟨k1, k2⟩ := kept6 hz4 hd4 S6; exact ⟨_, _, k1, q6 _ k2 upd_same⟩
        | ret v => obtain ⟨v6, σ6, H6, S6, r6, q6⟩ := hsp; obtain ⟨k1, k2⟩ := kept6 hz4 hd4 S6; exact ⟨_, _, _, k1, r6, q6 _ k2 upd_same⟩
      | @hitAs x n i c np pos b₀ suite hds hN hi hln hc hx q =>
        intro h fl u
        obtain ⟨J, oe, hz, hd, he, S⟩ := fac h fl u
        refine wpAny_handleBy_cons (codeAny_handlers_test ?_) (by intro q; cases q)
        have LT : PySem.W.Looks (model X.prog X.w) h (typeOf (.ref a)) cls := fun A Q E s k q => wpAny_typeOf_ref (k _ _ he) (by rw [hz.1]; exact q)
        refine tst_name hc S ((PySem.W.exm_one (M := model X.prog X.w) J.kIn LT hx).here ?_)
        refine codeAny_handlers_suite_as (HandSPX.lands_againZ fl fun h4 fl4 up4 => ?_)
        obtain ⟨J4, oe4, hz4, hd4, he4, S4⟩ := fac h4 fl4 (u.trans up4)
        have hloc : Loc X.env.scope n := .inl hln
        refine store_ok (X := X.suite a ((a, oe4) :: (X.pn ++ pins))) (v := .ref a) S4 hN hi hloc rfl (fun s5 S5 => ?_) (.inr hln)
        refine wpAny_mono ((q a oe4 (X.pn ++ pins) na hz4 hd4).run [] s5 S5) (fun f s6 hsp => ?_) fun _ _ z => False.elim z
        cases f with
        | next => obtain ⟨σ6, H6, S6, q6⟩ := hsp; obtain ⟨k1, k2⟩ := kept6 hz4 hd4 S6; exact gone_ok k1 hN hi hln fun s7 J7 => ⟨_, _, J7, q6 _ k2 upd_same⟩
        | brk => obtain ⟨σ6, H6, S6, q6⟩ := hsp; obtain ⟨k1, k2⟩ := kept6 hz4 hd4 S6; exact gone_ok k1 hN hi hln fun s7 J7 => ⟨_, _, J7, q6 _ k2 upd_same⟩
        | cont => obtain ⟨σ6, H6, S6, q6⟩ := hsp; obtain ⟨k1, k2⟩ := kept6 hz4 hd4 S6; exact gone_ok k1 hN hi hln fun s7 J7 => ⟨_, _, J7, q6 _ k2 upd_same⟩
        | ret v => obtain ⟨v6, σ6, H6, S6, r6, q6⟩ := hsp; obtain ⟨k1, k2⟩ := kept6 hz4 hd4 S6; exact gone_ok k1 hN hi hln fun s7 J7 => ⟨_, _, _, J7, r6, q6 _ k2 upd_same⟩
    exact go (hw cls d σ' H' w) h3 fl3 (up.trans up3)
  · cases f with
    | next => obtain ⟨σ2, H2, J2, q⟩ := hsp; exact q.run pins s1 (J2.ofTry ok)
    | brk => obtain ⟨σ2, H2, J2, q⟩ := hsp; exact ⟨σ2, H2, J2.ofTry ok, q⟩
    | cont => obtain ⟨σ2, H2, J2, q⟩ := hsp; exact ⟨σ2, H2, J2.ofTry ok, q⟩
    | ret v => obtain ⟨v, σ2, H2, J2, r, q⟩ := hsp; exact ⟨v, σ2, H2, J2.ofTry ok, r, q⟩
section
variable {X : Cx} {H : Hp} {Q : VK} {x y : Str} {a C E : Addr} {b : Bool} {mg : Str → Option Value}
theorem instK {pins : List (Addr × Obj)} {σ : L2.St} {s : Shared} (I : Inv X pins σ H s) (hk : H a = some (ExK (.ref E) none a)) : ∃ oe, PySem.W.InstAt s.heap a oe E none := by
  obtain ⟨⟨oe, vs, e, z, hv⟩, _⟩ : ObjOk X.prog X.w H s.heap a (ExK (.ref E) none a) := I.hok a _ hk
  refine ⟨oe, ?_⟩
  obtain ⟨oc, od, oda, osl⟩ := oe
  obtain ⟨h1, h2⟩ := z
  dsimp only at h1 h2 hv
  subst h1 h2 hv
  exact ⟨e, rfl, rfl, trivial⟩
/-- isinstance(e, C), e an exception that was caught and kept -/
theorem k_isK (TD : ExcF X.K mg x E) (TC : ExcF X.K mg y C) (hk : H a = some (ExK (.ref E) none a)) (h : PySem.W.subIn X.K (.ref E) (.ref C) = some b) (q : Q (.bl b) H) : kW X (.builtin "isinstance") [.ref a, .ref C] H Q := by
  refine ⟨fun pins s σ us I r => ?_⟩
  cases r with
  | cons rx rr =>
    cases rr with
    | cons rt rr =>
      cases rr; cases rx; cases rt
      obtain ⟨oe, J⟩ := instK I hk
      have K := TD.excC
      exact PySem.W.kia_one (PySem.W.handS_kitx_exc K.hg K.hk K.hs K.hd K.ha K.hn K.ht K.hm) I.kIn J (TD.kit TC h) (fun z => nomatch z) fun tk => ⟨.bl b, H, I.kept (t' := tk) fun _ _ z => z, rfl, q⟩
theorem k_isKV (TD : ExcF X.K mg x E) (hk : H a = some (ExK (.ref E) none a)) (q : Q (.bl true) H) : kW X (.builtin "isinstance") [.ref a, .ty "ValueError"] H Q := by
  refine ⟨fun pins s σ us I r => ?_⟩
  cases r with
  | cons rx rr =>
    cases rr with
    | cons rt rr =>
      cases rr; cases rx; cases rt
      obtain ⟨oe, J⟩ := instK I hk
      have K := TD.excC
      exact PySem.W.kia_one (PySem.W.handS_kitx_exc K.hg K.hk K.hs K.hd K.ha K.hn K.ht K.hm) I.kIn J TD.kitVE (fun z => nomatch z) fun tk => ⟨.bl true, H, I.kept (t' := tk) fun _ _ z => z, rfl, q⟩
end
/-! ### list(reversed(xs)) -/
section
open RT
section
variable {prog : Program} {w : World} {A : Around} {E : Value → Shared → Prop} {s : Shared}
theorem wpAny_extend_rev {R : Result → Shared → Prop} (hh : A.handled = none) {it l : Addr} {items : Array Value} (S : Addr) (res : Value) (c₀ : Nat) (hS : s.heap.get? S = some { cls := .type "list", data := .seq #[] c₀ })
    (hit : s.heap.IsRevIter it l ((items.size : Int) - 1)) (hl : s.heap.IsList l items) (hne : l ≠ it) (hSi : S ≠ it) (hSl : S ≠ l) (hn : items.size ≤ sizeLine)
    (hR : ∀ h' tk acc' c', (∀ b o, b ≠ S → b ≠ it → s.heap.get? b = some o → h'.get? b = some o) → h'.get? S = some { cls := .type "list", dict := none, data := .seq acc' c', slots := #[] } →
      ItemsOf (fun i v => items[items.size - 1 - i]? = some v) acc' items.size → R (.ok (.ret res)) { s with heap := h', toks := tk }) :
    wpAny (model prog w) A.in1 (Builtin.List.listExtendWith (.ref S) (.ref it) res)
      (fun fin s' => match fin with | .done f => R (.ok f) s' | .again c' => c'.quiet = true ∧ codeAny (model prog w) A c' R s') (fun e s' => R (.error e) s') s := by
  have W := (Walks.listRev (prog := prog) (w := w) (A := A.in1) hh it l hne items).toS
  have hSf : S ∉ [it, l] := by simp only [List.mem_cons, List.not_mem_nil, or_false, not_or]; exact ⟨hSi, hSl⟩
  have hT : s.TypeIs (.ref it) "list_reverseiterator" := Heap.IsRevIter.typeIs hit
  have h1 : Builtin.List.listSameRef (.ref S) (.ref it) = false := by simp [Builtin.List.listSameRef, hSi]
  unfold Builtin.List.listExtendWith
  refine wpAny_bind (wpAny_typeOf hT ?_)
  rw [if_neg (by rw [h1]; decide)]
  refine wpAny_bind (wpAny_pyIter_revIter hit ?_)
  refine wpAny_bind (wpAny_holding ?_)
  unfold Builtin.List.listLengthHint
  refine wpAny_bind (wpAny_specialOf hT nolen_lri ?_)
  show wpAny _ A.in1 (specialOf (Value.ref it) (Str.ofString "__length_hint__") >>= _) _ _ _
  refine wpAny_bind (wpAny_specialOf hT hint_lri ?_)
  generalize hid : ("list_reverseiterator.__length_hint__" : String) = id0
  wp_delta
  rw [show splitId id0 = some ("list_reverseiterator", "__length_hint__") from by subst hid; decide +kernel]
  subst hid
  refine wpAny_bind (wpAny_isInstance (b := true) hT (by rw [isSubtype_type]; kernel_rfl) ?_)
  refine wpAny_pure ?_
  rw [if_neg (by decide)]
  have e0 : ((items.size : Nat) : Int) - 1 - ((0 : Nat) : Int) = (items.size : Int) - 1 := by omega
  refine wpAny_pure ⟨plainId_quiet F.plain_extend_loop _, codeAny_extend_loopS W hn _ hSf _ items.size 0 _ _ _ rfl (Nat.zero_le _) ⟨Nat.zero_le _, by rw [e0]; exact hit, hl⟩ hS (ItemsOf.nil _) fun s' acc' c' hm hS' hacc => ?_⟩
  rw [Moved.eq_with hm]
  refine hR s'.heap s'.toks acc' c' (fun b o hb hb2 e => hm.heap b o (fun hmem => ?_) e) hS' hacc
  rcases List.mem_cons.mp hmem with e' | hmem
  · exact hb e'
  · exact hb2 (List.mem_singleton.mp hmem)
theorem call_list_rev {it l : Addr} {items : Array Value} {Q : Value → Shared → Prop} (hh : A.handled = none) (hit : s.heap.IsRevIter it l ((items.size : Int) - 1)) (hl : s.heap.IsList l items) (hne : l ≠ it) (hn : items.size ≤ sizeLine)
    (hQ : ∀ h' tk acc' c', (∀ b o, b ≠ it → s.heap.get? b = some o → h'.get? b = some o) →
      h'.get? s.heap.objs.size = some { cls := .type "list", dict := none, data := .seq acc' c', slots := #[] } → ItemsOf (fun i v => items[items.size - 1 - i]? = some v) acc' items.size → Q (.ref s.heap.objs.size) { s with heap := h', toks := tk }) :
    wpAny (model prog w) A (call (.type "list") [.ref it]) Q E s := by
  obtain ⟨oi, hoi, _⟩ := id hit
  obtain ⟨ol, hol, _⟩ := id hl
  have hSi : s.heap.objs.size ≠ it := Nat.ne_of_gt (Heap.lt_size hoi)
  have hSl : s.heap.objs.size ≠ l := Nat.ne_of_gt (Heap.lt_size hol)
  refine callType_codes (Q₁ := fun obj s₁ => obj = .ref s.heap.objs.size ∧ s₁ = { s with heap := s.heap.push { cls := .type "list", data := .seq #[] } }) F.called_list (F.typeCall_list_1 _) F.entry_list_init
    (code_list_new _ ⟨rfl, rfl⟩) fun obj s₁ h₁ => ?_
  obtain ⟨rfl, rfl⟩ := h₁
  have hS : (s.heap.push { cls := .type "list", data := .seq #[] }).get? s.heap.objs.size = some { cls := .type "list", data := .seq #[] } := Heap.get?_push_size _ rfl
  have hit1 : (s.heap.push { cls := .type "list", data := .seq #[] }).IsRevIter it l ((items.size : Int) - 1) := hit.at fun o e => Heap.get?_push_of_some _ e
  have hl1 : (s.heap.push { cls := .type "list", data := .seq #[] }).IsList l items := hl.push _
  refine ⟨⟨_, hS, rfl⟩, F.args_list_init_2 _ _, ?_⟩
  show wpAny _ _ (do let old ← Builtin.List.listItems (.ref s.heap.objs.size); Builtin.List.listUpdate (.ref s.heap.objs.size) (fun _ => #[]); letGo old.toList.reverse; Builtin.List.listExtendWith (.ref s.heap.objs.size) (.ref it) .none) _ _ _
  refine wpAny_bind ?_
  unfold Builtin.List.listItems
  refine wpAny_bind (wpAny_seqItems hS rfl (wpAny_pure ?_))
  show wpAny _ _ (updateSeq s.heap.objs.size (fun _ => #[]) >>= fun _ => letGo (#[] : Array Value).toList.reverse >>= fun _ => Builtin.List.listExtendWith (.ref s.heap.objs.size) (.ref it) .none) _ _ _
  refine wpAny_bind (wpAny_updateSeq hS rfl ?_)
  have hS₂ := Heap.get?_update_self (Obj.mapSeq (fun _ => (#[] : Array Value))) hS rfl
  have oth : ∀ b o, b ≠ s.heap.objs.size → (s.heap.push { cls := .type "list", data := .seq #[] }).get? b = some o → ((s.heap.push { cls := .type "list", data := .seq #[] }).update s.heap.objs.size (Obj.mapSeq (fun _ => (#[] : Array Value)))).get? b = some o :=
    fun b o hb e => (Heap.get?_update_other _ _ (Ne.symm hb)).trans e
  have hit2 : ((s.heap.push { cls := .type "list", data := .seq #[] }).update s.heap.objs.size (Obj.mapSeq (fun _ => (#[] : Array Value)))).IsRevIter it l ((items.size : Int) - 1) := hit1.at fun o e => oth it o hSi.symm e
  have hl2 : ((s.heap.push { cls := .type "list", data := .seq #[] }).update s.heap.objs.size (Obj.mapSeq (fun _ => (#[] : Array Value)))).IsList l items := by
    obtain ⟨o, ho, r⟩ := hl1
    exact ⟨o, oth l o hSl.symm ho, r⟩
  refine wpAny_bind (wpAny_letGo ?_)
  refine wpAny_extend_rev (s := { s with heap := (s.heap.push { cls := .type "list", data := .seq #[] }).update s.heap.objs.size (Obj.mapSeq (fun _ => (#[] : Array Value))) }) (R := wants (fun r s₂ => r = Value.none ∧ Q (Value.ref s.heap.objs.size) s₂) E) (A := A.in1) hh s.heap.objs.size .none _ hS₂ hit2 hl2 hne hSi hSl hn fun h' tk acc' c' hk hS' hacc => ?_
  exact ⟨rfl, hQ h' tk acc' c' (fun b o hb e => hk b o (Nat.ne_of_lt (Heap.lt_size e)) hb (oth b o (Nat.ne_of_lt (Heap.lt_size e)) (Heap.get?_push_of_some _ e))) hS' hacc⟩
end
/-- list(reversed(xs)), xs a list -/
theorem e_listRev {X : Cx} {σ : L2.St} {H : Hp} {Q : VK} {e : Expr} {p p2 pos pos2 : Pos} {mg : Str → Option Value} [cc : CxC X] [cm : CxM X mg] [g1 : Gn mg "list" none] [g2 : Gn mg "reversed" none]
    (h : eW X e σ H fun v H1 => ∃ (a : Addr) (xs : List V), v = .ref a ∧ SqL X.K H1 a xs ∧ ∀ l H2, Same H1 H2 → H1 l = none → H2 l = some (.lst xs.reverse) → (∀ b, b ≠ l → H2 b = H1 b) → Q (.ref l) H2)
    (hg : Gl X "list" := by rfl) (hg2 : Gl X "reversed" := by rfl) (hs : starEach [e] X.env = (false, eval e X.env) :: starEach [] X.env := by rfl)
    (hs2 : starEach [.Call (.Name "reversed" p2) [e] [] pos2] X.env = (false, eval (.Call (.Name "reversed" p2) [e] [] pos2) X.env) :: starEach [] X.env := by rfl) : eW X (.Call (.Name "list" p) [.Call (.Name "reversed" p2) [e] [] pos2] [] pos) σ H Q := by
  refine ⟨fun pins s I => ?_⟩
  have hm : X.mg "list" = none := by rw [cm.h]; exact g1.h
  have hm2 : X.mg "reversed" = none := by rw [cm.h]; exact g2.h
  refine Call_ (ld_blt I hg hm boot_list (PyProof.Rows.callWith_type1 (args_cons (Call_ (ld_blt I hg2 hm2 PyProof.Rows.boot_reversed (PyProof.Rows.callWith_type1 (args_cons (thn (h.run pins s I) fun u s1 ⟨v, H1, I1, r1, q1⟩ => args_nil ?_) hs) hs rfl))) hs2) hs2 rfl))
  obtain ⟨a, xs, ev, hq, q⟩ := q1
  subst ev
  obtain rfl : u = Value.ref a := r1
  obtain ⟨its, rv, p', hz⟩ := I1.list hq
  refine call_reversed_list p'.isList (args_nil ?_)
  have k0 : ∀ b o, s1.heap.get? b = some o → (s1.heap.push (revObj a ((its.toArray.size : Int) - 1))).get? b = some o := fun b o e => Heap.get?_push_of_some _ e
  have I2 : Inv X pins σ H1 { s1 with heap := s1.heap.push (revObj a ((its.toArray.size : Int) - 1)) } := I1.kept (t' := s1.toks) k0
  obtain ⟨f0, f1, f2, f3, f4, f5⟩ := I1.fpOk (H' := H1) (b := s1.heap.objs.size) (Nat.le_refl _) (I1.hok.fresh (Nat.le_refl _))
  have hl := p'.isList
  obtain ⟨ol, hol, _⟩ := id hl
  have hne : a ≠ s1.heap.objs.size := Nat.ne_of_lt (Heap.lt_size hol)
  have hn : its.toArray.size ≤ sizeLine := by rw [List.size_toArray, ← rv.length]; exact hz
  refine call_list_rev (s := { s1 with heap := s1.heap.push (revObj a ((its.toArray.size : Int) - 1)) }) (I1.ok.hd cc.h) ⟨_, Heap.get?_push_size _ rfl, rfl, rfl⟩ (hl.push _) hne hn fun h' tk acc c' hk hS hi => ?_
  have I3 : Inv X pins σ H1 { s1 with heap := h', toks := tk } := I2.turned (t' := tk) (fun b o hb e => hk b o hb e) f0 f1 f3 f4 f5
  have hn1 : H1 (s1.heap.push (revObj a ((its.toArray.size : Int) - 1))).objs.size = none := I2.hok.fresh (Nat.le_refl _)
  refine ⟨.ref _, upd H1 (s1.heap.push (revObj a ((its.toArray.size : Int) - 1))).objs.size (.lst xs.reverse), I1.laid (t' := tk) (fun b u e => hk b u (Nat.ne_of_lt (Heap.lt_size e)) (k0 b u e)) ?_ ⟨by rw [List.length_reverse]; exact hz, acc.toList, c', RT.vals_rev rv hi, by simpa using hS⟩, rfl, q _ _ (sameU hn1) hn1 upd_same fun b hb => upd_ne hb⟩
  show s1.heap.objs.size ≤ _
  rw [Heap.size_push]
  omega
end
/-! ### comprehensions with one if, told turn by turn -/
section
variable {X : Cx} {σ : L2.St} {H : Hp} {Q : VK} {pos p2 p3 : Pos} {it tg elt cnd : Expr} {D : Ends}
theorem lcF_h {sc : Scope} {own : List (Str × Nat)} {R : Addr → Hp → Prop} (c : Nat → Bool) (ys : Nat → V)
    (h : jW X tg it σ H fun J H1 => ∃ n G Y, Walk J n G Y ∧ n ≤ 100000 ∧ (∀ H', Same H1 H' → G H') ∧
      (∀ i x H' H2, i < n → Same H1 H' → Y i H' x H2 → Same H' H2 ∧ gB X sc tg x (wipe σ (own.map (·.2))) H2 fun σ3 H3 => wipe σ3 (own.map (·.2)) = wipe σ (own.map (·.2)) ∧ Same H2 H3 ∧ tB' X sc cnd σ3 H3 fun k H4 => Same H3 H4 ∧ k = c i ∧ (k = true → eB X sc elt σ3 H4 fun y H5 => y = ys i ∧ Same H4 H5)) ∧
      ∀ l H', Same H1 H' → H1 l = none → H' l = some (.lst (((List.range n).filter c).map ys)) → R l H') :
    jW X tg it σ H fun J H1 => ∃ n G Y, Walk J n G Y ∧ ∀ D, H1 D = none → ∃ Pv : Nat → Hp → Prop, Pv 0 (upd H1 D (.lst [])) ∧ (∀ i H', i ≤ n → Pv i H' → G H') ∧
      (∀ i x H' H2, i < n → Pv i H' → Y i H' x H2 → gB X sc tg x (wipe σ (own.map (·.2))) H2 fun σ3 H3 => wipe σ3 (own.map (·.2)) = wipe σ (own.map (·.2)) ∧ tB' X sc cnd σ3 H3 fun k H4 => if k = true then eB X sc elt σ3 H4 fun y H5 => ∃ acc, H5 D = some (.lst acc) ∧ acc.length < sizeLine ∧ Pv (i + 1) (upd H5 D (.lst (acc ++ [y]))) else Pv (i + 1) H4) ∧
      ∀ H', Pv n H' → R D H' := by
  refine ⟨fun pins s I => wpAny_mono (h.run pins s I) (fun v s1 q => wpAny_mono q (fun u s2 ⟨i, fp, tn, J, H2, e, I2, T, t0, f2, n, G, Y, w, hn, q1, q2, q3⟩ => ⟨i, fp, tn, J, H2, e, I2, T, t0, f2, n, G, Y, w, fun D' hD => ⟨fun i H' => Same H2 H' ∧ H' D' = some (.lst (((List.range i).filter c).map ys)), ⟨sameU hD, upd_same⟩, fun _ _ _ p => q1 _ p.1, fun i x H' H3 hi p y s0 H0 C cl fp => ?_, fun H' p => q3 D' H' p.1 hD p.2⟩⟩) fun _ _ z => z) fun _ _ z => z⟩
  obtain ⟨k1, k2⟩ := q2 i x H' H3 hi p.1 y
  obtain ⟨p1, p2⟩ := p
  have step : (List.range (i + 1)).filter c = (List.range i).filter c ++ (if c i = true then [i] else []) := by
    rw [List.range_succ, List.filter_append]
    congr 1
    by_cases q : c i = true
    · rw [if_pos q, List.filter_cons_of_pos q, List.filter_nil]
    · rw [if_neg q, List.filter_cons_of_neg q, List.filter_nil]
  refine ⟨fun pins s' u I r => wpAny_mono ((k2 s0 H0 C cl fp).run pins s' u I r) (fun _ s'' ⟨σ', H'', I'', e1, e2, e3⟩ => ⟨σ', H'', I'', e1, fun s0 H0 C cl fp => ⟨fun pins s' I => wpAny_mono ((e3 s0 H0 C cl fp).run pins s' I) (fun u s4 ⟨H4, I4, e4, ek, ey⟩ => ⟨H4, I4, ?_⟩) fun _ _ z => z⟩⟩) fun _ _ z => z⟩
  have s4' : Same H' H4 := fun b o q => e4 _ _ (e2 _ _ (k1 _ _ q))
  cases u with
  | false =>
    refine iteF ⟨fun b o q => s4' _ _ (p1 _ _ q), ?_⟩
    rw [step, if_neg (by rw [← ek]; exact Bool.false_ne_true), List.append_nil]
    exact s4' _ _ p2
  | true =>
    refine iteT fun s0 H0 C cl fp => ⟨fun pins s' I => wpAny_mono ((ey rfl s0 H0 C cl fp).run pins s' I) (fun u s5 ⟨v5, H5, I5, r5, ev, e5⟩ => ⟨v5, H5, I5, r5, _, e5 _ _ (s4' _ _ p2), ?_, ?_, ?_⟩) fun _ _ z => z⟩
    · rw [List.length_map]
      have := List.length_filter_le c (List.range i)
      rw [List.length_range] at this
      rw [sizeLine_eq]
      omega
    · intro b o e
      rw [upd_ne (ne_of_none e hD)]
      exact e5 _ _ (s4' _ _ (p1 _ _ e))
    · rw [upd_same, step, if_pos ek.symm, List.map_append, ev]
      rfl
theorem e_lcF {sc : Scope} {N : List Str} {own : List (Str × Nat)} [cc : CxC X] [cn : CxN X N] [nd : NdN N] (ok : BlkOk N X.env.scope sc own) (c : Nat → Bool) (ys : Nat → V)
    (h : jW X tg it σ H fun J H1 => ∃ n G Y, Walk J n G Y ∧ n ≤ 100000 ∧ (∀ H', Same H1 H' → G H') ∧
      (∀ i x H' H2, i < n → Same H1 H' → Y i H' x H2 → Same H' H2 ∧ gB X sc tg x (wipe σ (own.map (·.2))) H2 fun σ3 H3 => wipe σ3 (own.map (·.2)) = wipe σ (own.map (·.2)) ∧ Same H2 H3 ∧ tB' X sc cnd σ3 H3 fun k H4 => Same H3 H4 ∧ k = c i ∧ (k = true → eB X sc elt σ3 H4 fun y H5 => y = ys i ∧ Same H4 H5)) ∧
      ∀ l H', Same H1 H' → H1 l = none → H' l = some (.lst (((List.range n).filter c).map ys)) → Q (.ref l) H') (hs : ∀ x, foldedSetIterable it X.env x = pure x := by intro _; rfl) : eW X (.ListComp elt [⟨tg, it, [cnd], 0⟩] sc pos) σ H Q :=
  e_lcI ok (lcF_h (R := fun l H' => Q (.ref l) H') c ys h) hs
theorem s_setLcF {sc : Scope} {N : List Str} {own : List (Str × Nat)} {y : Str} {i : Nat} [cc : CxC X] [cn : CxN X N] [sl : Slt N y i] [nd : NdN N] (ok : BlkOk N X.env.scope sc own) (c : Nat → Bool) (ys : Nat → V)
    (h : jW X tg it σ H fun J H1 => ∃ n G Y, Walk J n G Y ∧ n ≤ 100000 ∧ (∀ H', Same H1 H' → G H') ∧
      (∀ i x H' H2, i < n → Same H1 H' → Y i H' x H2 → Same H' H2 ∧ gB X sc tg x (wipe σ (own.map (·.2))) H2 fun σ3 H3 => wipe σ3 (own.map (·.2)) = wipe σ (own.map (·.2)) ∧ Same H2 H3 ∧ tB' X sc cnd σ3 H3 fun k H4 => Same H3 H4 ∧ k = c i ∧ (k = true → eB X sc elt σ3 H4 fun y H5 => y = ys i ∧ Same H4 H5)) ∧
      ∀ l H', Same H1 H' → H1 l = none → H' l = some (.lst (((List.range n).filter c).map ys)) → D.nx (σ.set i (some (.ref l))) H') (hyl : X.env.scope.names.lookup y = some .local := by rfl)
    (hsw : swapsWith (.ListComp elt [⟨tg, it, [cnd], 0⟩] sc pos) (some (.Name y p2)) p3.line X.env = pure true := by exact sw_true rfl rfl rfl (by decide +kernel)) (hs : ∀ x, foldedSetIterable it X.env x = pure x := by intro _; rfl) : sW X (.Assign [.Name y p2] (.ListComp elt [⟨tg, it, [cnd], 0⟩] sc pos) p3) D σ H :=
  s_setLcI ok (lcF_h (R := fun l H' => D.nx (σ.set i (some (.ref l))) H') c ys h) hyl hsw hs
theorem lcG_h {sc : Scope} {own : List (Str × Nat)} {R : Addr → Hp → Prop}
    (h : jW X tg it σ H fun J H1 => ∃ c : Nat → Bool, ∃ ys : Nat → V, ∃ n G Y, Walk J n G Y ∧ n ≤ 100000 ∧ (∀ H', Same H1 H' → G H') ∧
      (∀ i x H' H2, i < n → Same H1 H' → Y i H' x H2 → Same H' H2 ∧ gB X sc tg x (wipe σ (own.map (·.2))) H2 fun σ3 H3 => wipe σ3 (own.map (·.2)) = wipe σ (own.map (·.2)) ∧ Same H2 H3 ∧ tB' X sc cnd σ3 H3 fun k H4 => Same H3 H4 ∧ k = c i ∧ (k = true → eB X sc elt σ3 H4 fun y H5 => y = ys i ∧ Same H4 H5)) ∧
      ∀ l H', Same H1 H' → H1 l = none → H' l = some (.lst (((List.range n).filter c).map ys)) → R l H') :
    jW X tg it σ H fun J H1 => ∃ n G Y, Walk J n G Y ∧ ∀ D, H1 D = none → ∃ Pv : Nat → Hp → Prop, Pv 0 (upd H1 D (.lst [])) ∧ (∀ i H', i ≤ n → Pv i H' → G H') ∧
      (∀ i x H' H2, i < n → Pv i H' → Y i H' x H2 → gB X sc tg x (wipe σ (own.map (·.2))) H2 fun σ3 H3 => wipe σ3 (own.map (·.2)) = wipe σ (own.map (·.2)) ∧ tB' X sc cnd σ3 H3 fun k H4 => if k = true then eB X sc elt σ3 H4 fun y H5 => ∃ acc, H5 D = some (.lst acc) ∧ acc.length < sizeLine ∧ Pv (i + 1) (upd H5 D (.lst (acc ++ [y]))) else Pv (i + 1) H4) ∧
      ∀ H', Pv n H' → R D H' := by
  refine ⟨fun pins s I => wpAny_mono (h.run pins s I) (fun v s1 q => wpAny_mono q (fun u s2 ⟨i, fp, tn, J, H2, e, I2, T, t0, f2, c, ys, n, G, Y, w, hn, q1, q2, q3⟩ => ⟨i, fp, tn, J, H2, e, I2, T, t0, f2, n, G, Y, w, fun D' hD => ⟨fun i H' => Same H2 H' ∧ H' D' = some (.lst (((List.range i).filter c).map ys)), ⟨sameU hD, upd_same⟩, fun _ _ _ p => q1 _ p.1, fun i x H' H3 hi p y s0 H0 C cl fp => ?_, fun H' p => q3 D' H' p.1 hD p.2⟩⟩) fun _ _ z => z) fun _ _ z => z⟩
  obtain ⟨k1, k2⟩ := q2 i x H' H3 hi p.1 y
  obtain ⟨p1, p2⟩ := p
  have step : (List.range (i + 1)).filter c = (List.range i).filter c ++ (if c i = true then [i] else []) := by
    rw [List.range_succ, List.filter_append]
    congr 1
    by_cases q : c i = true
    · rw [if_pos q, List.filter_cons_of_pos q, List.filter_nil]
    · rw [if_neg q, List.filter_cons_of_neg q, List.filter_nil]
  refine ⟨fun pins s' u I r => wpAny_mono ((k2 s0 H0 C cl fp).run pins s' u I r) (fun _ s'' ⟨σ', H'', I'', e1, e2, e3⟩ => ⟨σ', H'', I'', e1, fun s0 H0 C cl fp => ⟨fun pins s' I => wpAny_mono ((e3 s0 H0 C cl fp).run pins s' I) (fun u s4 ⟨H4, I4, e4, ek, ey⟩ => ⟨H4, I4, ?_⟩) fun _ _ z => z⟩⟩) fun _ _ z => z⟩
  have s4' : Same H' H4 := fun b o q => e4 _ _ (e2 _ _ (k1 _ _ q))
  cases u with
  | false =>
    refine iteF ⟨fun b o q => s4' _ _ (p1 _ _ q), ?_⟩
    rw [step, if_neg (by rw [← ek]; exact Bool.false_ne_true), List.append_nil]
    exact s4' _ _ p2
  | true =>
    refine iteT fun s0 H0 C cl fp => ⟨fun pins s' I => wpAny_mono ((ey rfl s0 H0 C cl fp).run pins s' I) (fun u s5 ⟨v5, H5, I5, r5, ev, e5⟩ => ⟨v5, H5, I5, r5, _, e5 _ _ (s4' _ _ p2), ?_, ?_, ?_⟩) fun _ _ z => z⟩
    · rw [List.length_map]
      have := List.length_filter_le c (List.range i)
      rw [List.length_range] at this
      rw [sizeLine_eq]
      omega
    · intro b o e
      rw [upd_ne (ne_of_none e hD)]
      exact e5 _ _ (s4' _ _ (p1 _ _ e))
    · rw [upd_same, step, if_pos ek.symm, List.map_append, ev]
      rfl
theorem e_lcG {sc : Scope} {N : List Str} {own : List (Str × Nat)} [cc : CxC X] [cn : CxN X N] [nd : NdN N] (ok : BlkOk N X.env.scope sc own)
    (h : jW X tg it σ H fun J H1 => ∃ c : Nat → Bool, ∃ ys : Nat → V, ∃ n G Y, Walk J n G Y ∧ n ≤ 100000 ∧ (∀ H', Same H1 H' → G H') ∧
      (∀ i x H' H2, i < n → Same H1 H' → Y i H' x H2 → Same H' H2 ∧ gB X sc tg x (wipe σ (own.map (·.2))) H2 fun σ3 H3 => wipe σ3 (own.map (·.2)) = wipe σ (own.map (·.2)) ∧ Same H2 H3 ∧ tB' X sc cnd σ3 H3 fun k H4 => Same H3 H4 ∧ k = c i ∧ (k = true → eB X sc elt σ3 H4 fun y H5 => y = ys i ∧ Same H4 H5)) ∧
      ∀ l H', Same H1 H' → H1 l = none → H' l = some (.lst (((List.range n).filter c).map ys)) → Q (.ref l) H') (hs : ∀ x, foldedSetIterable it X.env x = pure x := by intro _; rfl) : eW X (.ListComp elt [⟨tg, it, [cnd], 0⟩] sc pos) σ H Q :=
  e_lcI ok (lcG_h (R := fun l H' => Q (.ref l) H') h) hs
theorem s_setLcG {sc : Scope} {N : List Str} {own : List (Str × Nat)} {y : Str} {i : Nat} [cc : CxC X] [cn : CxN X N] [sl : Slt N y i] [nd : NdN N] (ok : BlkOk N X.env.scope sc own)
    (h : jW X tg it σ H fun J H1 => ∃ c : Nat → Bool, ∃ ys : Nat → V, ∃ n G Y, Walk J n G Y ∧ n ≤ 100000 ∧ (∀ H', Same H1 H' → G H') ∧
      (∀ i x H' H2, i < n → Same H1 H' → Y i H' x H2 → Same H' H2 ∧ gB X sc tg x (wipe σ (own.map (·.2))) H2 fun σ3 H3 => wipe σ3 (own.map (·.2)) = wipe σ (own.map (·.2)) ∧ Same H2 H3 ∧ tB' X sc cnd σ3 H3 fun k H4 => Same H3 H4 ∧ k = c i ∧ (k = true → eB X sc elt σ3 H4 fun y H5 => y = ys i ∧ Same H4 H5)) ∧
      ∀ l H', Same H1 H' → H1 l = none → H' l = some (.lst (((List.range n).filter c).map ys)) → D.nx (σ.set i (some (.ref l))) H') (hyl : X.env.scope.names.lookup y = some .local := by rfl)
    (hsw : swapsWith (.ListComp elt [⟨tg, it, [cnd], 0⟩] sc pos) (some (.Name y p2)) p3.line X.env = pure true := by exact sw_true rfl rfl rfl (by decide +kernel)) (hs : ∀ x, foldedSetIterable it X.env x = pure x := by intro _; rfl) : sW X (.Assign [.Name y p2] (.ListComp elt [⟨tg, it, [cnd], 0⟩] sc pos) p3) D σ H :=
  s_setLcI ok (lcG_h (R := fun l H' => D.nx (σ.set i (some (.ref l))) H') h) hyl hsw hs
theorem e_lcQ {sc : Scope} {N : List Str} {own : List (Str × Nat)} [cc : CxC X] [cn : CxN X N] [nd : NdN N] (ok : BlkOk N X.env.scope sc own)
    (h : jW X tg it σ H fun J H1 => ∃ Pr : Nat → V → Prop, ∃ n G Y, Walk J n G Y ∧ n ≤ 100000 ∧ (∀ H', Same H1 H' → G H') ∧
      (∀ i x H' H2, i < n → Same H1 H' → Y i H' x H2 → Same H' H2 ∧ gB X sc tg x (wipe σ (own.map (·.2))) H2 fun σ3 H3 => wipe σ3 (own.map (·.2)) = wipe σ (own.map (·.2)) ∧ Same H2 H3 ∧ eB X sc elt σ3 H3 fun y H4 => Pr i y ∧ Same H3 H4) ∧
      ∀ l H' ys, Same H1 H' → H1 l = none → H' l = some (.lst ys) → ys.length = n → (∀ i y, ys[i]? = some y → Pr i y) → Q (.ref l) H') (hs : ∀ x, foldedSetIterable it X.env x = pure x := by intro _; rfl) : eW X (.ListComp elt [⟨tg, it, [], 0⟩] sc pos) σ H Q := by
  refine e_lc ok ⟨fun pins s I => wpAny_mono (h.run pins s I) (fun v s1 q => wpAny_mono q (fun u s2 ⟨i, fp, tn, J, H2, e, I2, T, t0, f2, Pr, n, G, Y, w, hn, q1, q2, q3⟩ => ⟨i, fp, tn, J, H2, e, I2, T, t0, f2, n, G, Y, w, fun D' hD => ⟨fun i H' => Same H2 H' ∧ ∃ acc, H' D' = some (.lst acc) ∧ acc.length = i ∧ ∀ j z, acc[j]? = some z → Pr j z, ⟨fun b o e => by rw [upd_ne (ne_of_none e hD)]; exact e, [], upd_same, rfl, by simp⟩, fun _ _ _ p => q1 _ p.1, fun i x H' H3 hi p y s0 H0 C cl fp => ?_, fun H' p => by
    obtain ⟨p1, acc, p2, p3, p4⟩ := p
    exact q3 D' H' acc p1 hD p2 p3 p4⟩⟩) fun _ _ z => z) fun _ _ z => z⟩ hs
  obtain ⟨k1, k2⟩ := q2 i x H' H3 hi p.1 y
  obtain ⟨p1, acc, p2, p3, p4⟩ := p
  refine ⟨fun pins s' u I r => wpAny_mono ((k2 s0 H0 C cl fp).run pins s' u I r) (fun _ s'' ⟨σ', H'', I'', e1, e2, e3⟩ => ⟨σ', H'', I'', e1, fun s0 H0 C cl fp => ⟨fun pins s' I => wpAny_mono ((e3 s0 H0 C cl fp).run pins s' I) (fun u s4 ⟨v4, H4, I4, r4, ev, e4⟩ => ⟨v4, H4, I4, r4, acc, e4 _ _ (e2 _ _ (k1 _ _ p2)), ?_, ?_, acc ++ [v4], upd_same, ?_, ?_⟩) fun _ _ z => z⟩⟩) fun _ _ z => z⟩
  · rw [p3]
    exact Nat.lt_of_lt_of_le (Nat.lt_of_lt_of_le hi hn) (by decide)
  · intro b o e
    rw [upd_ne (ne_of_none e hD)]
    exact e4 _ _ (e2 _ _ (k1 _ _ (p1 _ _ e)))
  · rw [List.length_append, p3]; rfl
  · intro j z hz
    by_cases hj : j < i
    · rw [List.getElem?_append_left (by omega)] at hz
      exact p4 j z hz
    · rw [List.getElem?_append_right (by omega), p3] at hz
      have hj2 : j = i := by
        have := (List.getElem?_eq_some_iff.mp hz).1
        simp at this
        omega
      subst hj2
      simp at hz
      rw [← hz]
      exact ev
theorem s_setLcQ {sc : Scope} {N : List Str} {own : List (Str × Nat)} {y : Str} {i : Nat} [cc : CxC X] [cn : CxN X N] [sl : Slt N y i] [nd : NdN N] (ok : BlkOk N X.env.scope sc own)
    (h : jW X tg it σ H fun J H1 => ∃ Pr : Nat → V → Prop, ∃ n G Y, Walk J n G Y ∧ n ≤ 100000 ∧ (∀ H', Same H1 H' → G H') ∧
      (∀ i x H' H2, i < n → Same H1 H' → Y i H' x H2 → Same H' H2 ∧ gB X sc tg x (wipe σ (own.map (·.2))) H2 fun σ3 H3 => wipe σ3 (own.map (·.2)) = wipe σ (own.map (·.2)) ∧ Same H2 H3 ∧ eB X sc elt σ3 H3 fun y H4 => Pr i y ∧ Same H3 H4) ∧
      ∀ l H' ys, Same H1 H' → H1 l = none → H' l = some (.lst ys) → ys.length = n → (∀ i y, ys[i]? = some y → Pr i y) → D.nx (σ.set i (some (.ref l))) H') (hyl : X.env.scope.names.lookup y = some .local := by rfl)
    (hsw : swapsWith (.ListComp elt [⟨tg, it, [], 0⟩] sc pos) (some (.Name y p2)) p3.line X.env = pure true := by exact sw_true rfl rfl rfl (by decide +kernel)) (hs : ∀ x, foldedSetIterable it X.env x = pure x := by intro _; rfl) : sW X (.Assign [.Name y p2] (.ListComp elt [⟨tg, it, [], 0⟩] sc pos) p3) D σ H := by
  refine s_setLc ok ⟨fun pins s I => wpAny_mono (h.run pins s I) (fun v s1 q => wpAny_mono q (fun u s2 ⟨i, fp, tn, J, H2, e, I2, T, t0, f2, Pr, n, G, Y, w, hn, q1, q2, q3⟩ => ⟨i, fp, tn, J, H2, e, I2, T, t0, f2, n, G, Y, w, fun D' hD => ⟨fun i H' => Same H2 H' ∧ ∃ acc, H' D' = some (.lst acc) ∧ acc.length = i ∧ ∀ j z, acc[j]? = some z → Pr j z, ⟨fun b o e => by rw [upd_ne (ne_of_none e hD)]; exact e, [], upd_same, rfl, by simp⟩, fun _ _ _ p => q1 _ p.1, fun i x H' H3 hi p y s0 H0 C cl fp => ?_, fun H' p => by
    obtain ⟨p1, acc, p2, p3, p4⟩ := p
    exact q3 D' H' acc p1 hD p2 p3 p4⟩⟩) fun _ _ z => z) fun _ _ z => z⟩ hyl hsw hs
  obtain ⟨k1, k2⟩ := q2 i x H' H3 hi p.1 y
  obtain ⟨p1, acc, p2, p3, p4⟩ := p
  refine ⟨fun pins s' u I r => wpAny_mono ((k2 s0 H0 C cl fp).run pins s' u I r) (fun _ s'' ⟨σ', H'', I'', e1, e2, e3⟩ => ⟨σ', H'', I'', e1, fun s0 H0 C cl fp => ⟨fun pins s' I => wpAny_mono ((e3 s0 H0 C cl fp).run pins s' I) (fun u s4 ⟨v4, H4, I4, r4, ev, e4⟩ => ⟨v4, H4, I4, r4, acc, e4 _ _ (e2 _ _ (k1 _ _ p2)), ?_, ?_, acc ++ [v4], upd_same, ?_, ?_⟩) fun _ _ z => z⟩⟩) fun _ _ z => z⟩
  · rw [p3]
    exact Nat.lt_of_lt_of_le (Nat.lt_of_lt_of_le hi hn) (by decide)
  · intro b o e
    rw [upd_ne (ne_of_none e hD)]
    exact e4 _ _ (e2 _ _ (k1 _ _ (p1 _ _ e)))
  · rw [List.length_append, p3]; rfl
  · intro j z hz
    by_cases hj : j < i
    · rw [List.getElem?_append_left (by omega)] at hz
      exact p4 j z hz
    · rw [List.getElem?_append_right (by omega), p3] at hz
      have hj2 : j = i := by
        have := (List.getElem?_eq_some_iff.mp hz).1
        simp at this
        omega
      subst hj2
      simp at hz
      rw [← hz]
      exact ev
end
theorem filter_ix {α : Type} (f : α → V) (p : α → Bool) (d : V) : ∀ (l : List α), ((List.range l.length).filter fun i => (l[i]?.map p).getD false).map (fun i => (l[i]?.map f).getD d) = (l.filter p).map f
  | [] => rfl
  | a :: l => by
    rw [List.length_cons, List.range_succ_eq_map, List.filter_cons, List.filter_map]
    have ih := filter_ix f p d l
    have e1 : ((fun i => ((a :: l)[i]?.map p).getD false) ∘ Nat.succ) = fun i => (l[i]?.map p).getD false := by
      funext i
      simp
    rw [e1]
    simp only [List.getElem?_cons_zero, Option.map_some, Option.getD_some]
    by_cases q : p a = true
    · rw [if_pos q, List.filter_cons_of_pos q, List.map_cons, List.map_cons, List.map_map, ← ih]
      simp [Function.comp_def]
    · rw [if_neg q, List.filter_cons_of_neg q, List.map_map, ← ih]
      simp [Function.comp_def]
/-! ### a dict that is walked is locked -/
def lockD (D : Ends) (d : Addr) (u : HO) (od : Obj) : Ends where
  nx := fun σ H => H d = some (.frz od u) ∧ ∀ H2, H2 d = some u → (∀ b, b ≠ d → H2 b = H b) → D.nx σ H2
  rt := fun v H => H d = some (.frz od u) ∧ ∀ H2, H2 d = some u → (∀ b, b ≠ d → H2 b = H b) → D.rt v H2
  bk := fun σ H => H d = some (.frz od u) ∧ ∀ H2, H2 d = some u → (∀ b, b ≠ d → H2 b = H b) → D.bk σ H2
  ct := fun σ H => H d = some (.frz od u) ∧ ∀ H2, H2 d = some u → (∀ b, b ≠ d → H2 b = H b) → D.ct σ H2
theorem s_lock {X : Cx} {st : Stmt} {D : Ends} {σ : L2.St} {H : Hp} {d : Addr} {u : HO} (hd : H d = some u) (mu : Mut (some u)) (h : ∀ od H1, H1 d = some (.frz od u) → (∀ b, b ≠ d → H1 b = H b) → sW X st (lockD D d u od) σ H1) : sW X st D σ H :=
  sI (ps_lock PSw) ⟨d, u, hd, mu, fun od => ⟨fun pins s I => wpAny_mono ((h od _ upd_same fun b hb => upd_ne hb).run pins s I) (fun f s1 q => by
    cases f with
    | next => obtain ⟨σ', H', a, e, c⟩ := q; exact ⟨σ', H', a, e, c _ upd_same fun b hb => upd_ne hb⟩
    | brk => obtain ⟨σ', H', a, e, c⟩ := q; exact ⟨σ', H', a, e, c _ upd_same fun b hb => upd_ne hb⟩
    | cont => obtain ⟨σ', H', a, e, c⟩ := q; exact ⟨σ', H', a, e, c _ upd_same fun b hb => upd_ne hb⟩
    | ret v => obtain ⟨x, σ', H', a, r, e, c⟩ := q; exact ⟨x, σ', H', a, r, e, c _ upd_same fun b hb => upd_ne hb⟩) fun _ _ z => z⟩⟩
/-! ### words that want that a token was given out; replace -/
structure eT (X : Cx) (e : Expr) (σ : L2.St) (H : Hp) (Q : VK) : Prop where
  run : ∀ pins s, 1 ≤ s.toks → Inv X pins σ H s → wpAny (model X.prog X.w) X.A (eval e X.env) (EP X pins σ Q) X.xe s
structure aT (X : Cx) (es : List Expr) (σ : L2.St) (H : Hp) (Q : List V → Hp → Prop) : Prop where
  run : ∀ pos pins s, 1 ≤ s.toks → Inv X pins σ H s → wpAny (model X.prog X.w) X.A (spliced (backTo pos (starEach es X.env))) (AP X pins σ Q) X.xe s
section
variable {X : Cx} {σ : L2.St} {H : Hp} {Q : VK} {R : List V → Hp → Prop} {pos p2 apos : Pos} {a o : Expr} {es : List Expr} {c y z : Str} {j k : Nat} {c0 c1 : Pos}
theorem eT_of (h : eW X a σ H Q) : eT X a σ H Q := ⟨fun pins s _ I => h.run pins s I⟩
theorem aT_of (h : aW X es σ H R) : aT X es σ H R := ⟨fun pos pins s _ I => h.run pos pins s I⟩
theorem aT_cons (h : eT X a σ H fun x H1 => aT X es σ H1 fun xs H2 => R (x :: xs) H2) (hs : starEach (a :: es) X.env = (false, eval a X.env) :: starEach es X.env := by rfl) : aT X (a :: es) σ H R := ⟨fun pos pins s ht I => by
  rw [hs]
  show wpAny _ _ (spliced ((false, eval a X.env) :: backTo pos (starEach es X.env))) _ _ s
  exact Calls.spliced_cons (wpAny_mono (PySem.wpAny_toks (h.run pins s ht I)) (fun u s1 ⟨hk, x, H1, I1, r1, q1⟩ => wpAny_mono (q1.run pos pins s1 (Nat.le_trans ht hk) I1) (fun us s2 ⟨xs, H2, I2, r2, q2⟩ => ⟨x :: xs, H2, I2, .cons r1 r2, q2⟩) fun _ _ w => w) fun _ _ w => w.2)⟩
theorem a_binS {op : Operator} (h : eW X a σ H fun x H1 => oW X (binaryOp op) x (.str c) H1 fun v H2 => aT X es σ H2 fun xs H3 => R (v :: xs) H3)
    (hs : starEach (.BinOp a op (.Constant (.str c) j p2) pos :: es) X.env = (false, eval (.BinOp a op (.Constant (.str c) j p2) pos) X.env) :: starEach es X.env := by rfl) : aW X (.BinOp a op (.Constant (.str c) j p2) pos :: es) σ H R := ⟨fun pos2 pins s I => by
  rw [hs]
  show wpAny _ _ (spliced ((false, eval _ X.env) :: backTo pos2 (starEach es X.env))) _ _ s
  exact Calls.spliced_cons (wpAny_BinOp (thn (h.run pins s I) fun v s1 ⟨x, H1, I1, r1, q1⟩ => Calls.Constant_str (wpAny_mono (PySem.wpAny_toks (q1.run pins _ σ v _ (I1.tok (s1.toks + 1)) r1 ⟨s1.toks, rfl⟩)) (fun u s3 ⟨hk, w, H3, I3, r3, q3⟩ =>
    wpAny_mono (q3.run pos2 pins s3 (Nat.le_trans (Nat.le_add_left 1 _) hk) I3) (fun us s4 ⟨xs, H4, I4, r4, q4⟩ => ⟨w :: xs, H4, I4, .cons r3 r4, q4⟩) fun _ _ w => w) fun _ _ w => w.2)))⟩
theorem eT_repl (h : eW X o σ H fun v H1 => ∃ x, v = .str x ∧ x.length + (x.length + 1) * z.length ≤ 16777216 ∧ Q (.str (Txt.replace x y z)) H1) (hyz : (y == z) = false := by decide)
    (hst : starEach [.Constant (.str y) j c0, .Constant (.str z) k c1] X.env = [(false, eval (.Constant (.str y) j c0) X.env), (false, eval (.Constant (.str z) k c1) X.env)] := by rfl)
    (hbase : attributeBase o "replace" X.env (eval o X.env) = eval o X.env := by rfl) (hline : (apos.endLine == pos.line) = true := by rfl) : eT X (.Call (.Attribute o "replace" apos) [.Constant (.str y) j c0, .Constant (.str z) k c1] [] pos) σ H Q :=
  ⟨fun pins s ht I => CwR.pet_replC PEw hyz hst hbase hline pins s σ H Q ht I h⟩
theorem e_lower (h : eW X o σ H fun v H1 => ∃ x, v = .str x ∧ x.length ≤ 5592405 ∧ Q (.str (Txt.lower x)) H1) (hbase : attributeBase o "lower" X.env (eval o X.env) = eval o X.env := by rfl) (hline : (apos.endLine == pos.line) = true := by rfl) : eW X (.Call (.Attribute o "lower" apos) [] [] pos) σ H Q :=
  eI (pe_lower PEw hbase hline) (eMono h fun v H1 ⟨x, e, hz, q⟩ => ⟨⟨x, e⟩, x, e, rfl, hz, q⟩)
end
/-! ### the longer walk: what stands in a heap, found by itself -/
theorem _root_.L2.Same.none {G H : Hp} {p : Addr} (s : Same G H) (h : H p = Option.none) : G p = Option.none := by
  cases e : G p with
  | none => rfl
  | some o => rw [s _ _ e] at h; cases h
theorem Same.at' {G H : Hp} {p : Addr} {o : HO} (s : Same G H) (h : G p = some o) : H p = some o := s _ _ h
theorem Same.seq' {K : PySem.W.Frag} {G H : Hp} {a : Addr} {xs : List V} (s : Same G H) (h : SqL K G a xs) : SqL K H a xs := s.seq h
theorem Same.seqT' {K : PySem.W.Frag} {G H : Hp} {a : Addr} {xs : List V} (s : Same G H) (h : SqT K G a xs) : SqT K H a xs := sq_more s h
theorem Same.th' {K : PySem.W.Frag} {G H : Hp} {v : V} {d : PyData} (s : Same G H) (h : Th K G v d) : Th K H v d := Th.more s d v h
theorem Same.thA' {K : PySem.W.Frag} {G H : Hp} {v : List V} {d : List PyData} (s : Same G H) (h : ThAll K G v d) : ThAll K H v d := ThAll.more s d v h
theorem Same.tr' {F G H : Hp} (s : Same G H) (h : Same F G) : Same F H := h.trans s
mutual
theorem Th.dp {K : PySem.W.Frag} {H : Hp} : ∀ (d : PyData) (v : V), Th K H v d → d.canLay0 = true → Dp K H v d
  | .none, _, h, _ => by cases h; exact .non
  | .bool _, _, h, _ => by cases h; exact .bl _
  | .int _, _, h, _ => by cases h; exact .int _
  | .str _, _, h, _ => by cases h; exact .str _
  | .list ds, _, h, c => by cases h with | lst hs ha => exact .lst hs (ThAll.dp ds _ ha c)
  | .tuple ds, _, h, c => by cases h with | tup hs ha => exact .tup hs (ThAll.dp ds _ ha c)
  | .dict _, _, _, c => by cases c
theorem ThAll.dp {K : PySem.W.Frag} {H : Hp} : ∀ (ds : List PyData) (vs : List V), ThAll K H vs ds → PyData.canLayAll0 ds = true → DpAll K H vs ds
  | [], _, h, _ => by cases h; exact .nil
  | d :: ds, _, h, c => by
    have c2 : (d.canLay0 && PyData.canLayAll0 ds) = true := c
    rw [Bool.and_eq_true] at c2
    cases h with | cons h1 h2 => exact .cons (Th.dp d _ h1 c2.1) (ThAll.dp ds _ h2 c2.2)
end
theorem Th.dpS {K : PySem.W.Frag} {H : Hp} {k : Nat} {d : PyData} {v : V} (h : Th K H v d) (s : Sh k d) : Dp K H v d := Th.dp d v h s.can
theorem vals_signs : ∀ (cs : List Nat) (vs : List Value), vs.length = cs.length → (∀ (j : Nat) (v : Value), vs[j]? = some v → ∃ c u, cs[j]? = some c ∧ v = Value.str ⟨#[c]⟩ u) → Vals (cs.map fun c => V.str ⟨#[c]⟩) vs
  | [], [], _, _ => .nil
  | c :: cs, v :: vs, h, k => by
    obtain ⟨c', u, e1, e2⟩ := k 0 v rfl
    cases e1
    exact .cons ⟨u, e2⟩ (vals_signs cs vs (by simpa using h) fun j w e => by simpa using k (j + 1) w (by simpa using e))
  | [], _ :: _, h, _ => by simp at h
  | _ :: _, [], h, _ => by simp at h
/-- list(s), s a text -/
theorem k_listS {X : Cx} {H : Hp} {Q : VK} {z : Str} [cc : CxC X] (hz : z.length ≤ 100000) (q : ∀ l H2, Same H H2 → H l = none → H2 l = some (.lst ((tl z).map fun c => V.str ⟨#[c]⟩)) → (∀ b, b ≠ l → H2 b = H b) → Q (.ref l) H2) : kW X (.type "list") [.str z] H Q := ⟨fun pins s σ us I r => by
  obtain ⟨u, rfl, rx⟩ := vals1 r
  obtain ⟨t, rfl⟩ := rx
  have hz2 : z.cps.size ≤ sizeLine := Nat.le_trans (show z.length ≤ 100000 from hz) (by decide)
  refine PySem.call_list_str (I.ok.hd cc.h) z t (fun h' tk acc' c' k e hit => ?_) hz2
  have hn := I.hok.fresh (Nat.le_refl s.heap.objs.size)
  refine ⟨.ref _, upd H s.heap.objs.size (.lst ((tl z).map fun c => V.str ⟨#[c]⟩)), I.laid (t' := tk) k (Nat.le_refl _) ⟨?_, acc'.toList, c', vals_signs _ _ ?_ fun j v hv => ?_, by simpa using e⟩, rfl, q _ _ (sameU hn) hn upd_same fun b hb => upd_ne hb⟩
  · rw [List.length_map]; exact hz2
  · rw [Array.length_toList, hit.1]
    rfl
  · obtain ⟨c, u, q1, q2⟩ := hit.2 j v (by simpa using hv)
    exact ⟨c, u, by simpa [tl] using q1, q2⟩⟩
/-! ### enumerate over a tuple, over a text -/
section
open PySem.Builtin PySem.W
set_option maxHeartbeats 2000000 in
theorem meets_enum1 {v : Value} {o : Obj} {H : Heap → Prop} (B : Begins v o H) :
    Meets (Builtin.«enumerate.__new__» ⟨[.type "enumerate", v], []⟩) (fun _ R s => H s.heap ∧
      R (.ok (.ret (.ref (s.heap.push o).objs.size))) { s with heap := (s.heap.push o).push { cls := .type "enumerate", data := .fields #[.none, .bool false, .ref s.heap.objs.size, rawInt 0, .none, .none] } }) :=
  .of_wp fun prog w A R s h => by
    obtain ⟨hp, g, d, tk, os⟩ := s; obtain ⟨h1, h⟩ := h
    have hsub := sub_enumerate
    have q1 : ∀ {A' : Around} {E : Value → Shared → Prop} {Q : Value → Shared → Prop}, Q (.ref hp.objs.size) ⟨hp.push o, g, d, tk, os⟩ → wpAny (model prog w) A' (pyIter v) Q E ⟨hp, g, d, tk, os⟩ :=
      fun q => B.iter prog w _ _ ⟨hp, g, d, tk, os⟩ _ h1 q
    wp_walk using q1
    refine wpAny_stack_any fun st => wpAny_pure ?_
    split
    · rename_i c _ _ _ _ _
      cases (c == Value.type "enumerate")
      · wp_walk using q1
        exact ⟨_, rfl, h⟩
      · wp_walk using q1
        exact ⟨_, rfl, h⟩
    · wp_walk using q1
      exact ⟨_, rfl, h⟩
theorem enum_begins1 {prog : Program} {w : World} {A : Around} {E : Value → Shared → Prop} {s : Shared} {v : Value} {o : Obj} {H : Heap → Prop} {Q : Value → Shared → Prop} (B : Begins v o H) (h1 : H s.heap)
    (h : ∀ h', IsEnum h' (s.heap.objs.size + 1) s.heap.objs.size 0 .none → h'.get? s.heap.objs.size = some o → h'.objs.size = s.heap.objs.size + 2 →
      (∀ b o, s.heap.get? b = some o → h'.get? b = some o) → Q (.ref (s.heap.objs.size + 1)) { s with heap := h' }) :
    wpAny (model prog w) A (call (.type "enumerate") [v]) Q E s := by
  refine callType_new F.called_enumerate (by decide) (F.typeCall_enumerate_1 _) (F.newCall_enumerate_1 _) (fun obj => F.args_object_init_2 obj _) F.entry_enumerate_new
    (meets_enum1 B) ⟨h1, ?_⟩
  have hz : (s.heap.push o).objs.size = s.heap.objs.size + 1 := Heap.size_push ..
  show _ ∧ _
  rw [hz]
  have he : IsEnum ((s.heap.push o).push { cls := .type "enumerate", data := .fields #[.none, .bool false, .ref s.heap.objs.size, rawInt 0, .none, .none] }) (s.heap.objs.size + 1) s.heap.objs.size 0 .none := by
    have := Heap.get?_push_size (s.heap.push o) (o := { cls := .type "enumerate", data := .fields #[.none, .bool false, .ref s.heap.objs.size, rawInt 0, .none, .none] }) rfl
    rw [hz] at this; exact this
  refine ⟨⟨_, he, rfl⟩, h _ he (Heap.get?_push_of_some _ (Heap.get?_push_size _ B.free)) (by rw [Heap.size_push, hz]) fun b o x => Heap.get?_push_of_some _ (Heap.get?_push_of_some _ x)⟩
def IteT (K : PySem.W.Frag) (a : Addr) : It :=
  ⟨fun i H => ∃ (xs : List V) (x : V), SqT K H a xs ∧ xs[i]? = some x, fun i H v H' => ∃ T x, v = .ref T ∧ H T = none ∧ H' = upd H T (.tup [.int (i : Nat), x]) ∧ ∀ xs, SqT K H a xs → xs[i]? = some x, fun i H => ∃ xs : List V, SqT K H a xs ∧ xs.length = i⟩
def IteS (z : Str) : It :=
  ⟨fun i _ => i < z.cps.size, fun i H v H' => ∃ T c, v = .ref T ∧ H T = none ∧ H' = upd H T (.tup [.int (i : Nat), .str ⟨#[c]⟩]) ∧ z.cps[i]? = some c, fun i _ => i = z.cps.size⟩
theorem enum_turn {X : Cx} {pins : List (Addr × Obj)} {s : Shared} {σ : L2.St} {H : Hp} {E : Value → Shared → Prop} {elts : List Expr} {kk : Nat} {tpos : Pos} {e it : Addr} {fp : List Addr} {n i : Nat} {Pu : Nat → Value → Prop} {St : Nat → Heap → Prop} {PV : V → Prop} {old : Value}
    (I : Inv X pins σ H s) (hf : ∀ b ∈ [e, it], FpOk X pins H b) (D : Draws X.prog X.w X.A.in1 it fp n Pu St) (he : IsEnum s.heap e it ((i : Nat) : Int) old) (hst : St i s.heap) (hlt : i < n) (hne : e ≠ it) (hef : e ∉ fp)
    (hPV : ∀ u, Pu i u → ∃ x, RelV x u ∧ PV x) :
    wpAny (model X.prog X.w) X.A (pyNext (.ref e)) (fun r s1 => ∃ u, r = some u ∧ wpAny (model X.prog X.w) X.A (letOwnedTupleGo (.Tuple elts kk tpos) (.ref e) u) (fun _ s2 => ∃ x H', Inv X pins σ H' s2 ∧ RelV x u ∧
      (∃ T y, x = .ref T ∧ H T = none ∧ H' = upd H T (.tup [.int (i : Nat), y]) ∧ PV y) ∧ ((∃ old, IsEnum s2.heap e it ((i + 1 : Nat) : Int) old) ∧ St (i + 1) s2.heap) ∧ ∀ b ∈ [e, it], H' b = none) E s1) E s := by
  have hel : e < s.heap.objs.size := Heap.lt_size he
  have hil : it < s.heap.objs.size := by obtain ⟨_, q⟩ := D.live _ _ hst; exact Heap.lt_size q
  refine wpAny_pyNext_enum_itemD D he hst hlt hne hef fun u h' tk hPu ho hst' hT hsz hk => ?_
  obtain ⟨x, ru, px⟩ := hPV u hPu
  refine ⟨_, rfl, wpAny_letOwnedTupleGo_enum (s := { s with heap := h', toks := tk + 1 }) ho fun h'' he' sb => ?_⟩
  have hT2 : h''.get? s.heap.objs.size = some { cls := .type "tuple", data := .seq #[.int i tk, u] } := (sb.2 _ (Nat.ne_of_gt hel)).trans hT
  have new : ObjOk X.prog X.w (upd H s.heap.objs.size (.tup [.int (i : Nat), x])) h'' s.heap.objs.size (.tup [.int (i : Nat), x]) :=
    ⟨by show 2 ≤ sizeLine; decide, [.int i tk, u], .cons ⟨_, rfl⟩ (.cons ru .nil), ⟨_, hT2, rfl, _, rfl⟩⟩
  have I1 : Inv X pins σ (upd H s.heap.objs.size (.tup [.int (i : Nat), x])) { s with heap := h'', toks := tk + 1 } :=
    I.turnedNew (ch := [e, it]) (fun b ob hb q => (sb.2 b (fun z => hb (by simp [z]))).trans (hk b ob (fun z => hb (by simp [z])) (fun z => hb (by simp [z])) q)) hf (Nat.le_refl _) new
  refine ⟨.ref s.heap.objs.size, _, I1, rfl, ⟨_, x, rfl, I.hok.fresh (Nat.le_refl _), rfl, px⟩, ⟨⟨u, ?_⟩, D.frame _ _ _ hst' fun b hb o q => (sb.2 b fun z => hef (z ▸ hb)).trans q⟩, fun b hb => ?_⟩
  · have e1 : ((i + 1 : Nat) : Int) = (i : Int) + 1 := by omega
    rw [e1]; exact he'
  · have hb' : b < s.heap.objs.size := by
      have e' : b = e ∨ b = it := by simpa using hb
      rcases e' with z | z
      · rw [z]; exact hel
      · rw [z]; exact hil
    rw [upd_ne (Nat.ne_of_lt hb')]
    exact (hf b hb).1
theorem turn_enumT {P : Program} {w : World} {K : PySem.W.Frag} {elts : List Expr} {kk : Nat} {tpos : Pos} (a e it : Addr) :
    Turn P w K (.Tuple elts kk tpos) (IteT K a) [e, it] e (fun i h => (∃ old, IsEnum h e it ((i : Nat) : Int) old) ∧ h.IsTupleIter it a i ∧ e ≠ it ∧ a ≠ it ∧ a ≠ e) where
  mem := by simp
  obj := fun i h st b hb => by
    obtain ⟨⟨old, he⟩, ⟨o, ho, hc, hd⟩, _⟩ := st
    have e' : b = e ∨ b = it := by simpa using hb
    rcases e' with z | z
    · rw [z]; exact ⟨_, he, fun v q => nomatch q⟩
    · rw [z]; exact ⟨o, ho, fun v q => by rw [hd] at q; cases q⟩
  keep := fun i h h' st k => let ⟨⟨old, he⟩, hi, hne⟩ := st; ⟨⟨old, k e (by simp) _ he⟩, hi.at fun o q => k it (by simp) o q, hne⟩
  item := by
    intro X hP hw hK hc i pins s σ H E I hf st hg
    subst hP hw hK
    obtain ⟨⟨old, he⟩, hit, hne, hai, hae⟩ := st
    obtain ⟨xs, x, hq, hx⟩ := hg
    obtain ⟨its, rv, p, hz⟩ := I.tuple hq
    obtain ⟨u, hu, ru⟩ := rv.get hx
    have hli : i < its.toArray.size := by
      have := (List.getElem?_eq_some_iff.mp hu).1
      simpa using this
    refine wpAny_mono (enum_turn (PV := fun y => ∀ xs, SqT X.K H a xs → xs[i]? = some y) I hf (Draws.tuple (A := X.A.in1) (show X.A.in1.handled = Option.none from I.ok.hd hc) it a hai its.toArray) he ⟨hit, p⟩ hli hne (by simp only [List.mem_cons, List.not_mem_nil, or_false, not_or]; exact ⟨hne, hae.symm⟩) fun u' hu' => ?_) (fun r s1 ⟨u1, e1, h1⟩ => ⟨u1, e1, wpAny_mono h1 (fun _ s2 ⟨x2, H', I2, r2, y2, ⟨q1, q2, _⟩, q3⟩ => ⟨x2, H', I2, r2, y2, ⟨q1, q2, hne, hai, hae⟩, q3⟩) fun _ _ z => z⟩) fun _ _ z => z
    have e2 : u' = u := by
      have hu' : its.toArray[i]? = some u' := hu'
      rw [List.getElem?_toArray, hu] at hu'
      exact (Option.some.inj hu').symm
    subst e2
    exact ⟨x, ru, fun ys hy => by rw [I.tuple_inj hy hq]; exact hx⟩
  done := by
    intro X hP hw hK hc i pins s σ H E I hf st hg
    subst hP hw hK
    obtain ⟨⟨old, he⟩, hit, hne, hai, hae⟩ := st
    obtain ⟨xs, hq, hx⟩ := hg
    obtain ⟨its, rv, p, hz⟩ := I.tuple hq
    obtain ⟨f0, f1, f2, f3, f4, f5⟩ := hf it (by simp)
    have hl := rv.length
    refine wpAny_pyNext_enum_endD (Draws.tuple (A := X.A.in1) (show X.A.in1.handled = Option.none from I.ok.hd hc) it a hai its.toArray) he (St := fun i h => h.IsTupleIter it a i ∧ h.IsTuple a its.toArray) ⟨?_, p⟩ fun h' eb => ⟨rfl, I.turned (t' := s.toks) (fun b o hb q => eb b o hb q) f0 f1 f3 f4 f5⟩
    rw [List.size_toArray, ← hl, hx]
    exact hit
  self := fun A i s Q E st h => let ⟨⟨_, he⟩, _⟩ := st; wpAny_pyIter_enum he h
theorem j_enumT {X : Cx} {σ : L2.St} {H : Hp} {R : It → Hp → Prop} {a : Expr} {p2 p3 pos : Pos} {mg : Str → Option Value} {elts : List Expr} {kk : Nat} [cm : CxM X mg] [g : Gn mg "enumerate" none] (h : eW X a σ H fun v H1 => ∃ (p : Addr) (xs : List V), v = .ref p ∧ SqT X.K H1 p xs ∧ R (IteT X.K p) H1) (hg : Gl X "enumerate" := by rfl) (hs : starEach [a] X.env = (false, eval a X.env) :: starEach [] X.env := by rfl) :
    jW X (.Tuple elts kk p3) (.Call (.Name "enumerate" p2) [a] [] pos) σ H R := ⟨fun pins s I => by
  have hm : X.mg "enumerate" = none := by rw [cm.h]; exact g.h
  refine Call_ (ld_blt I hg hm boot_enumerate (PyProof.Rows.callWith_type1 (args_cons (thn (h.run pins s I) fun u s1 ⟨v, H1, I1, r1, q1⟩ => args_nil ?_) hs) hs rfl))
  obtain ⟨p, xs, ev, hq, q⟩ := q1
  subst ev
  obtain rfl : u = Value.ref p := r1
  obtain ⟨its, rv, p', hz⟩ := I1.tuple hq
  refine enum_begins1 (begins_tuple p its.toArray) p' fun h' he hit hsz hk => wpAny_pyIter_enum he ?_
  have I2 : Inv X pins σ H1 { s1 with heap := h' } := I1.kept (t' := s1.toks) hk
  have hpl : p < s1.heap.objs.size := by obtain ⟨o, ho, _⟩ := p'; exact Heap.lt_size ho
  refine ⟨s1.heap.objs.size + 1, [s1.heap.objs.size + 1, s1.heap.objs.size], _, _, H1, rfl, I2, turn_enumT p (s1.heap.objs.size + 1) s1.heap.objs.size, ⟨⟨.none, he⟩, ⟨_, hit, rfl, rfl⟩, Nat.succ_ne_self _, Nat.ne_of_lt hpl, Nat.ne_of_lt (Nat.lt_succ_of_lt hpl)⟩, fun b hb => ?_, q⟩
  have e' : b = s1.heap.objs.size + 1 ∨ b = s1.heap.objs.size := by simpa using hb
  have hle : s1.heap.objs.size ≤ b := by
    rcases e' with z | z
    · rw [z]; exact Nat.le_add_right _ _
    · rw [z]; exact Nat.le_refl _
  exact I1.fpOk hle (I1.hok.fresh hle)⟩
theorem walk_enumT {K : PySem.W.Frag} {a : Addr} {xs : List V} : Walk (IteT K a) xs.length (fun H => SqT K H a xs) (fun i H v H' => ∃ T x, v = .ref T ∧ H T = none ∧ H' = upd H T (.tup [.int (i : Nat), x]) ∧ xs[i]? = some x) :=
  ⟨fun i _ hi q => ⟨xs, xs[i], q, by simp [hi]⟩, fun _ q => ⟨xs, q, rfl⟩, fun _ _ _ _ _ q ⟨T, x, e1, e2, e3, e4⟩ => ⟨T, x, e1, e2, e3, e4 xs q⟩⟩
theorem walk_enumL {K : PySem.W.Frag} {a : Addr} {xs : List V} : Walk (Ite K a) xs.length (fun H => SqL K H a xs) (fun i H v H' => ∃ T x, v = .ref T ∧ H T = none ∧ H' = upd H T (.tup [.int (i : Nat), x]) ∧ xs[i]? = some x) :=
  ⟨fun i _ hi q => ⟨xs, xs[i], q, by simp [hi]⟩, fun _ q => ⟨xs, q, Nat.le_refl _⟩, fun _ _ _ _ _ q ⟨T, x, e1, e2, e3, e4⟩ => ⟨T, x, e1, e2, e3, e4 xs q⟩⟩
theorem turn_enumS {P : Program} {w : World} {K : PySem.W.Frag} {elts : List Expr} {kk : Nat} {tpos : Pos} (z : Str) (t : Tok) (e it : Addr) :
    Turn P w K (.Tuple elts kk tpos) (IteS z) [e, it] e (fun i h => (∃ old, IsEnum h e it ((i : Nat) : Int) old) ∧ h.IsStrIter it (strIterType z) z t i ∧ e ≠ it) where
  mem := by simp
  obj := fun i h st b hb => by
    obtain ⟨⟨old, he⟩, ⟨o, ho, hc, hd⟩, _⟩ := st
    have e' : b = e ∨ b = it := by simpa using hb
    rcases e' with z | z
    · rw [z]; exact ⟨_, he, fun v q => nomatch q⟩
    · rw [z]; exact ⟨o, ho, fun v q => by rw [hd] at q; cases q⟩
  keep := fun i h h' st k => let ⟨⟨old, he⟩, ⟨o, ho, r⟩, hne⟩ := st; ⟨⟨old, k e (by simp) _ he⟩, ⟨o, k it (by simp) o ho, r⟩, hne⟩
  item := by
    intro X hP hw hK hc i pins s σ H E I hf st hg
    subst hP hw hK
    obtain ⟨⟨old, he⟩, hit, hne⟩ := st
    have hg : i < z.cps.size := hg
    refine wpAny_mono (enum_turn (PV := fun y => ∃ c, z.cps[i]? = some c ∧ y = V.str ⟨#[c]⟩) I hf (Draws.text (A := X.A.in1) (show X.A.in1.handled = Option.none from I.ok.hd hc) it z t) he hit hg hne (by simp only [List.mem_cons, List.not_mem_nil, or_false]; exact hne) fun u' hu' => ?_) (fun r s1 ⟨u1, e1, h1⟩ => ⟨u1, e1, wpAny_mono h1 (fun _ s2 ⟨x2, H', I2, r2, ⟨T, y, y1, y2, y3, c, y4, y5⟩, ⟨q1, q2⟩, q3⟩ => ⟨x2, H', I2, r2, ⟨T, c, y1, y2, by rw [y3, y5], y4⟩, ⟨q1, q2, hne⟩, q3⟩) fun _ _ z => z⟩) fun _ _ z => z
    obtain ⟨c, u, q1, rfl⟩ := hu'
    exact ⟨.str ⟨#[c]⟩, ⟨u, rfl⟩, c, q1, rfl⟩
  done := by
    intro X hP hw hK hc i pins s σ H E I hf st hg
    subst hP hw hK
    obtain ⟨⟨old, he⟩, hit, hne⟩ := st
    have hg : i = z.cps.size := hg
    obtain ⟨f0, f1, f2, f3, f4, f5⟩ := hf it (by simp)
    exact wpAny_pyNext_enum_endD (Draws.text (A := X.A.in1) (show X.A.in1.handled = Option.none from I.ok.hd hc) it z t) he (by rw [← hg]; exact hit) fun h' eb => ⟨rfl, I.turned (t' := s.toks) (fun b o hb q => eb b o hb q) f0 f1 f3 f4 f5⟩
  self := fun A i s Q E st h => let ⟨⟨_, he⟩, _⟩ := st; wpAny_pyIter_enum he h
theorem j_enumS {X : Cx} {σ : L2.St} {H : Hp} {R : It → Hp → Prop} {a : Expr} {p2 p3 pos : Pos} {mg : Str → Option Value} {elts : List Expr} {kk : Nat} [cm : CxM X mg] [g : Gn mg "enumerate" none] (h : eW X a σ H fun v H1 => ∃ (z : Str), v = .str z ∧ R (IteS z) H1) (hg : Gl X "enumerate" := by rfl) (hs : starEach [a] X.env = (false, eval a X.env) :: starEach [] X.env := by rfl) :
    jW X (.Tuple elts kk p3) (.Call (.Name "enumerate" p2) [a] [] pos) σ H R := ⟨fun pins s I => by
  have hm : X.mg "enumerate" = none := by rw [cm.h]; exact g.h
  refine Call_ (ld_blt I hg hm boot_enumerate (PyProof.Rows.callWith_type1 (args_cons (thn (h.run pins s I) fun u s1 ⟨v, H1, I1, r1, q1⟩ => args_nil ?_) hs) hs rfl))
  obtain ⟨z, ev, q⟩ := q1
  subst ev
  obtain ⟨t, rfl⟩ := r1
  refine enum_begins1 (begins_text z t) trivial fun h' he hit hsz hk => wpAny_pyIter_enum he ?_
  have I2 : Inv X pins σ H1 { s1 with heap := h' } := I1.kept (t' := s1.toks) hk
  refine ⟨s1.heap.objs.size + 1, [s1.heap.objs.size + 1, s1.heap.objs.size], _, _, H1, rfl, I2, turn_enumS z t (s1.heap.objs.size + 1) s1.heap.objs.size, ⟨⟨.none, he⟩, ⟨_, hit, rfl, rfl⟩, Nat.succ_ne_self _⟩, fun b hb => ?_, q⟩
  have e' : b = s1.heap.objs.size + 1 ∨ b = s1.heap.objs.size := by simpa using hb
  have hle : s1.heap.objs.size ≤ b := by
    rcases e' with z | z
    · rw [z]; exact Nat.le_add_right _ _
    · rw [z]; exact Nat.le_refl _
  exact I1.fpOk hle (I1.hok.fresh hle)⟩
theorem walk_enumS {z : Str} : Walk (IteS z) z.cps.size (fun _ => True) (fun i H v H' => ∃ T c, v = .ref T ∧ H T = none ∧ H' = upd H T (.tup [.int (i : Nat), .str ⟨#[c]⟩]) ∧ z.cps[i]? = some c) :=
  ⟨fun i _ hi _ => hi, fun _ _ => rfl, fun _ _ _ _ _ _ y => y⟩
end
/-! ### a part's first sign -/
def isSg (p : Str) : Bool := (tl p).head? == some 39
section
variable {X : Cx} {σ : L2.St} {H : Hp} {R : Bool → Hp → Prop} {p1 p2 p3 p4 : Pos} {e : Expr} {j1 j2 : Nat}
theorem isq (a : Nat) : decide ((⟨#[a]⟩ : Str) = Str.ofString "'") = decide (a = 39) := decide_eq_decide.mpr (by
  have h : tl (Str.ofString "'") = [39] := by decide +kernel
  constructor
  · intro e
    have : tl (⟨#[a]⟩ : Str) = [39] := by rw [e, h]
    exact (List.cons.inj this).1
  · intro e
    exact ext_tl (by rw [h, e]))
theorem isq_sg {p : Str} {c : Nat} {l : List Nat} (h : tl p = c :: l) : isSg p = decide (c = 39) := by
  unfold isSg
  rw [h]
  show (some c == some 39) = _
  by_cases q : c = 39
  · rw [q]; rfl
  · rw [decide_eq_false q]; simp [q]
theorem o_sgN {p : Str} {c : Nat} {l : List Nat} (h : tl p = c :: l) {Q : VK} (q : Q (.bl (!isSg p)) H) : oW X (compareOp .NotEq) (.str ⟨#[c]⟩) (.str (Str.ofString "'")) H Q := o_neS (by rw [isq, ← isq_sg h]; exact q)
theorem o_sgE {p : Str} {c : Nat} {l : List Nat} (h : tl p = c :: l) {Q : VK} (q : Q (.bl (isSg p)) H) : oW X (compareOp .Eq) (.str ⟨#[c]⟩) (.str (Str.ofString "'")) H Q := o_eqS (by rw [isq, ← isq_sg h]; exact q)
/-- e[0] != "'" -/
theorem t_sg (h : eW X e σ H fun x H1 => ∃ p, x = .str p ∧ ((∃ c l, tl p = c :: l) ∧ p.length ≤ 1000000) ∧ R (!isSg p) H1) : tW X (.Compare (.Subscript e (.Constant (.int 0) j1 p1) p2) [.NotEq] [.Constant (.str (Str.ofString "'")) j2 p3] p4) σ H R :=
  t_cmp (e_ix (eMono h fun x H1 ⟨p, ex, ⟨⟨c, l, hc⟩, hl⟩, q⟩ => by
    subst ex
    exact e_int (i_str (sz1m hl) (c := c) (by rw [show p.cps.toList = c :: l from hc]; exact atI_nat (by decide) rfl) (e_str (o_sgN hc ⟨_, rfl, q⟩)))))
theorem t_sgE (h : eW X e σ H fun x H1 => ∃ p, x = .str p ∧ ((∃ c l, tl p = c :: l) ∧ p.length ≤ 1000000) ∧ R (isSg p) H1) : tW X (.Compare (.Subscript e (.Constant (.int 0) j1 p1) p2) [.Eq] [.Constant (.str (Str.ofString "'")) j2 p3] p4) σ H R :=
  t_cmp (e_ix (eMono h fun x H1 ⟨p, ex, ⟨⟨c, l, hc⟩, hl⟩, q⟩ => by
    subst ex
    exact e_int (i_str (sz1m hl) (c := c) (by rw [show p.cps.toList = c :: l from hc]; exact atI_nat (by decide) rfl) (e_str (o_sgE hc ⟨_, rfl, q⟩)))))
end
/-! ### dicts by values: what stands at a key -/
theorem subTail {M : Model} {A : Around} {E : Value → Shared → Prop} {s : Shared} {prog : Program} {w : World} {value slice : Expr} {o i : Value} {T id : String} {Q : Value → Shared → Prop} (hT : s.TypeIs o T)
    (hl : typeLookup (.type T) "__getitem__" = pure (some (.builtin id))) (h : wpAny (model prog w) A (getItem o i) Q E s)
    (hs : subscripted slice false o i = operate [o, i] (getItem o i)) : wpAny (model prog w) A (subscriptTail value slice o i) Q E s := by
  unfold subscriptTail
  refine wpAny_bind ?_
  rw [getitemInPython_of_ne hT.not_modules]
  refine wpAny_bind (wpAny_specialOf hT hl ?_)
  have fin : wpAny (model prog w) A (subscripted slice false o i) (fun r s₃ => wpAny (model prog w) A (letTemporaryGo value o r >>= fun _ => pure r) Q E s₃) E s := by
    rw [hs]
    exact wpAny_operating (wpAny_mono h (fun r s₃ h₃ => wpAny_bind (wpAny_letTemporaryGo (wpAny_pure h₃))) fun _ _ x => x)
  first
    | exact wpAny_pure (wpAny_bind fin)
    | exact wpAny_bind (wpAny_pure (wpAny_bind fin))
    | exact wpAny_bind fin
section
variable {X : Cx} {σ : L2.St} {H : Hp} {Q : VK} {a b : Addr} {y v : V} {r : Option V} {pos p2 apos : Pos} {o e f : Expr}
theorem i_dget (hu : X.A.units + 1 < cLine) (g : DGet H a y (some v)) (q : Q v H) : iW X (.ref a) y H Q := ⟨fun value slice pins s σ u' u I rx ry hs => by
  obtain rfl : u' = Value.ref a := rx
  exact subTail (M := model X.prog X.w) (dict_typeIs I g) PySem.F.slot_dict_getitem.lookup (d_getItem hu I g ry fun w' s3 I3 rw' => ⟨v, H, I3, rw', q⟩) hs⟩
theorem o_din (hu : X.A.units + 1 < cLine) (g : DGet H a y r) (q : Q (.bl r.isSome) H) : oW X (compareOp .In) y (.ref a) H Q := ⟨fun pins s σ u u' I ry rx => by
  obtain rfl : u' = Value.ref a := rx
  exact d_in hu I g ry fun s3 I3 => ⟨.bl r.isSome, H, I3, rfl, q⟩⟩
theorem o_dni (hu : X.A.units + 1 < cLine) (g : DGet H a y r) (q : Q (.bl (!r.isSome)) H) : oW X (compareOp .NotIn) y (.ref a) H Q := ⟨fun pins s σ u u' I ry rx => by
  obtain rfl : u' = Value.ref a := rx
  exact d_notIn hu I g ry fun s3 I3 => ⟨.bl (!r.isSome), H, I3, rfl, q⟩⟩
theorem e_dget1 (hu : X.A.units + 1 < cLine) (h : eW X o σ H fun x H1 => ∃ a, x = .ref a ∧ IsD H1 a ∧ eW X e σ H1 fun y H2 => ∃ r, DGet H2 a y r ∧ Q (r.getD .non) H2) (hb : attributeBase o "get" X.env (eval o X.env) = eval o X.env := by rfl)
    (hf : ((backTo pos (starEach [e] X.env)).all (fun x => !x.1) && (backToKw pos (keywordEach [] X.env)).all (fun x => x.1.isSome) && decide (([e] : List Expr).length + ([] : List Keyword).length + (if ([] : List Keyword).isEmpty then 0 else 1) < 30)) = true := by rfl)
    (hl : (apos.endLine == pos.line) = true := by rfl) (ht : backTo pos (starEach [e] X.env) = [(false, eval e X.env)] := by rfl) : eW X (.Call (.Attribute o "get" apos) [e] [] pos) σ H Q := eI (pe_dget1 hu PEw PEw ⟨hb, hf, hl, ht⟩) h
theorem e_dget2 (hu : X.A.units + 1 < cLine) (h : eW X o σ H fun x H1 => ∃ a, x = .ref a ∧ IsD H1 a ∧ eW X e σ H1 fun y H2 => eW X f σ H2 fun z H3 => ∃ r, DGet H3 a y r ∧ Q (r.getD z) H3) (hb : attributeBase o "get" X.env (eval o X.env) = eval o X.env := by rfl)
    (hf : ((backTo pos (starEach [e, f] X.env)).all (fun x => !x.1) && (backToKw pos (keywordEach [] X.env)).all (fun x => x.1.isSome) && decide (([e, f] : List Expr).length + ([] : List Keyword).length + (if ([] : List Keyword).isEmpty then 0 else 1) < 30)) = true := by rfl)
    (hl : (apos.endLine == pos.line) = true := by rfl) (ht : backTo pos (starEach [e, f] X.env) = [(false, eval e X.env), (false, eval f X.env)] := by rfl) : eW X (.Call (.Attribute o "get" apos) [e, f] [] pos) σ H Q := eI (pe_dget2 hu PEw PEw PEw ⟨hb, hf, hl, ht⟩) h
theorem e_dsetd (h : eW X o σ H fun x H1 => ∃ a, x = .ref a ∧ IsD H1 a ∧ eW X e σ H1 fun y H2 => eW X f σ H2 fun z H3 => ∃ (kvs : List (Key × V)) (k : Key), H3 a = some (.dK kvs) ∧ y = kV k ∧ kvs.length ≤ 100000 ∧ (∀ v, valV kvs k = some v → Q v H3) ∧ (valV kvs k = none → ∀ H4, H4 a = some (.dK (putK kvs k z)) → (∀ b, b ≠ a → H4 b = H3 b) → Q z H4)) (hb : attributeBase o "setdefault" X.env (eval o X.env) = eval o X.env := by rfl)
    (hf : ((backTo pos (starEach [e, f] X.env)).all (fun x => !x.1) && (backToKw pos (keywordEach [] X.env)).all (fun x => x.1.isSome) && decide (([e, f] : List Expr).length + ([] : List Keyword).length + (if ([] : List Keyword).isEmpty then 0 else 1) < 30)) = true := by rfl)
    (hl : (apos.endLine == pos.line) = true := by rfl) (ht : backTo pos (starEach [e, f] X.env) = [(false, eval e X.env), (false, eval f X.env)] := by rfl) : eW X (.Call (.Attribute o "setdefault" apos) [e, f] [] pos) σ H Q :=
  eI (pe_dsetd PEw PEw PEw ⟨hb, hf, hl, ht⟩) (eMono h fun x H1 ⟨a, ea, d, h1⟩ => ⟨a, ea, d, eMono h1 fun y H2 h2 => eMono h2 fun z H3 ⟨kvs, k, e1, e2, e3, q1, q2⟩ => ⟨kvs, k, e1, e2, Nat.lt_of_le_of_lt e3 (by decide), q1, fun hn => q2 hn _ upd_same fun b hb => upd_ne hb⟩⟩)
/-- o[i] = v, o a dict whose keys are tuples -/
theorem g_setT {i : Expr} {R : L2.St → Hp → Prop} (hu : X.A.units + 1 < cLine) (h : eW X o σ H fun x H1 => eW X i σ H1 fun y H2 => ∃ (d : Addr) (kvs : List (List Key × V)) (k : List Key) (b : Addr), x = .ref d ∧ H2 d = some (.dT kvs) ∧ y = .ref b ∧ H2 b = some (.tup (k.map kV)) ∧ kvs.length ≤ 1000000 ∧ ∀ H3, H3 d = some (.dT (putK kvs k v)) → (∀ b, b ≠ d → H3 b = H2 b) → R σ H3)
    (ha : ∀ v, assign (.Subscript o i pos) X.env v = (holding [v] (eval o X.env) >>= fun ov => holding [v, ov] (eval i X.env) >>= fun iv => standAt pos >>= fun _ => holding [v, ov, iv] (setItem ov iv v) >>= fun _ => release [v, ov, iv] []) := by intro _; rfl) : gW X (.Subscript o i pos) v σ H R :=
  gI (pg_sub PEw PEw (set_dict hu) ha) (eMono h fun x H1 h1 => eMono h1 fun y H2 ⟨d, kvs, k, b, e1, e2, e3, e4, e5, q⟩ => ⟨d, _, e1, by rw [e3]; exact .t e2 e4 (Nat.lt_of_le_of_lt e5 (by decide)), q _ upd_same fun b hb => upd_ne hb⟩)
theorem e_dctT (h : ∀ p H2, Same H H2 → H p = none → H2 p = some (.dT []) → (∀ b, b ≠ p → H2 b = H b) → Q (.ref p) H2) : eW X (.Dict [] [] pos) σ H Q :=
  eI pe_dnewT fun p hp => h p _ (sameU hp) hp upd_same fun _ hb => upd_ne hb
end
theorem rm1 {k : Nat} {A : Around} (hr : Room k A) : A.units + 1 < cLine := by have := hr.units; omega
/-! ### two lists, one by one -/
inductive All2 {α β : Type} (R : α → β → Prop) : List α → List β → Prop
  | nil : All2 R [] []
  | cons {a : α} {b : β} {as : List α} {bs : List β} : R a b → All2 R as bs → All2 R (a :: as) (b :: bs)
section
variable {α β : Type} {R S : α → β → Prop}
theorem All2.len : ∀ {as : List α} {bs : List β}, All2 R as bs → as.length = bs.length
  | _, _, .nil => rfl
  | _, _, .cons _ h => congrArg (· + 1) h.len
theorem All2.mono (i : ∀ a b, R a b → S a b) : ∀ {as : List α} {bs : List β}, All2 R as bs → All2 S as bs
  | _, _, .nil => .nil
  | _, _, .cons h t => .cons (i _ _ h) (t.mono i)
theorem All2.get : ∀ {as : List α} {bs : List β} {i : Nat} {a : α}, All2 R as bs → as[i]? = some a → ∃ b, bs[i]? = some b ∧ R a b
  | _, _, _, _, .nil, e => by simp at e
  | _, _, 0, _, .cons h _, e => by simp at e; subst e; exact ⟨_, rfl, h⟩
  | _, _, i + 1, a, .cons _ t, e => by
    obtain ⟨d, h1, h2⟩ := All2.get (i := i) (a := a) t (by simpa using e)
    exact ⟨d, by simpa using h1, h2⟩
theorem All2.get' : ∀ {as : List α} {bs : List β} {i : Nat} {b : β}, All2 R as bs → bs[i]? = some b → ∃ a, as[i]? = some a ∧ R a b
  | _, _, _, _, .nil, e => by simp at e
  | _, _, 0, _, .cons h _, e => by simp at e; subst e; exact ⟨_, rfl, h⟩
  | _, _, i + 1, a, .cons _ t, e => by
    obtain ⟨d, h1, h2⟩ := All2.get' (i := i) (b := a) t (by simpa using e)
    exact ⟨d, by simpa using h1, h2⟩
theorem All2.app : ∀ {as : List α} {bs : List β} {cs : List α} {ds : List β}, All2 R as bs → All2 R cs ds → All2 R (as ++ cs) (bs ++ ds)
  | _, _, _, _, .nil, k => k
  | _, _, _, _, .cons h t, k => .cons h (t.app k)
theorem All2.snoc {as : List α} {bs : List β} {a : α} {b : β} (h : All2 R as bs) (k : R a b) : All2 R (as ++ [a]) (bs ++ [b]) := h.app (.cons k .nil)
theorem All2.take : ∀ {as : List α} {bs : List β} (n : Nat), All2 R as bs → All2 R (as.take n) (bs.take n)
  | _, _, 0, _ => by simp; exact .nil
  | _, _, _ + 1, .nil => by simp; exact .nil
  | _, _, n + 1, .cons h t => .cons h (t.take n)
theorem All2.drop : ∀ {as : List α} {bs : List β} (n : Nat), All2 R as bs → All2 R (as.drop n) (bs.drop n)
  | _, _, 0, h => by simpa using h
  | _, _, _ + 1, .nil => by simp; exact .nil
  | _, _, n + 1, .cons _ t => t.drop n
theorem All2.rev : ∀ {as : List α} {bs : List β}, All2 R as bs → All2 R as.reverse bs.reverse
  | _, _, .nil => .nil
  | _, _, .cons h t => by simp only [List.reverse_cons]; exact t.rev.snoc h
theorem All2.ex {P : α → Prop} (h : ∀ a, P a → ∃ b, R a b) : ∀ {as : List α}, (∀ a ∈ as, P a) → ∃ bs, All2 R as bs
  | [], _ => ⟨[], .nil⟩
  | a :: as, k => by
    obtain ⟨b, hb⟩ := h a (k a (List.mem_cons_self ..))
    obtain ⟨bs, hbs⟩ := All2.ex h (as := as) fun x hx => k x (List.mem_cons_of_mem _ hx)
    exact ⟨b :: bs, .cons hb hbs⟩
end
theorem thAll_of {K : PySem.W.Frag} {H : Hp} : ∀ {vs : List V} {ds : List PyData}, All2 (Th K H) vs ds → ThAll K H vs ds
  | _, _, .nil => .nil
  | _, _, .cons h t => .cons h (thAll_of t)
theorem thAll_to {K : PySem.W.Frag} {H : Hp} : ∀ {vs : List V} {ds : List PyData}, ThAll K H vs ds → All2 (Th K H) vs ds
  | _, _, .nil => .nil
  | _, _, .cons h t => .cons h (thAll_to t)
theorem ThAll.app {K : PySem.W.Frag} {H : Hp} {xs ys : List V} {ds es : List PyData} (h : ThAll K H xs ds) (k : ThAll K H ys es) : ThAll K H (xs ++ ys) (ds ++ es) := thAll_of ((thAll_to h).app (thAll_to k))
theorem ThAll.take {K : PySem.W.Frag} {H : Hp} {xs : List V} {ds : List PyData} (n : Nat) (h : ThAll K H xs ds) : ThAll K H (xs.take n) (ds.take n) := thAll_of ((thAll_to h).take n)
theorem ThAll.drop {K : PySem.W.Frag} {H : Hp} {xs : List V} {ds : List PyData} (n : Nat) (h : ThAll K H xs ds) : ThAll K H (xs.drop n) (ds.drop n) := thAll_of ((thAll_to h).drop n)
theorem walk_range0 {n : Nat} : Walk (Itr 0 n) n (fun _ => True) (fun i H v H' => H' = H ∧ v = .int ((i : Nat) : Int)) :=
  ⟨fun _ _ hi _ => hi, fun _ _ => Nat.le_refl _, fun i H x H' _ _ y => ⟨y.1, y.2.trans (by show V.int (0 + (i : Int)) = _; rw [Int.zero_add])⟩⟩
/-! ### a number in a list of numbers -/
theorem inV_int (h : Int) : ∀ hs : List Int, inV (.int h) (hs.map V.int) = decide (h ∈ hs)
  | [] => rfl
  | a :: hs => by
    have ih := inV_int h hs
    unfold inV at ih ⊢
    rw [List.map_cons, List.any_cons, ih]
    have e : eqV (.int a) (.int h) = decide (a = h) := by
      by_cases q : a = h
      · subst q
        rw [decide_eq_true rfl]
        simp [eqV]
      · rw [decide_eq_false q]
        simp [eqV, q]
    rw [e]
    by_cases q : a = h
    · subst q; simp
    · have q2 : ¬ h = a := fun z => q z.symm
      simp [q, q2]
theorem inV_nat (h : Nat) (hs : List Nat) : inV (.int (h : Nat)) (hs.map fun k => V.int (k : Nat)) = decide (h ∈ hs) := by
  have e : (hs.map fun k => V.int ((k : Nat) : Int)) = (hs.map fun k => ((k : Nat) : Int)).map V.int := by rw [List.map_map]; rfl
  rw [e, inV_int]
  refine decide_eq_decide.mpr ⟨fun q => ?_, fun q => List.mem_map.mpr ⟨h, q, rfl⟩⟩
  obtain ⟨x, hx, ex⟩ := List.mem_map.mp q
  have : x = h := by omega
  rw [← this]
  exact hx
theorem flat_nats (hs : List Nat) : (hs.map fun k => V.int ((k : Nat) : Int)).all flatV = true := by
  rw [List.all_map]
  exact List.all_eq_true.mpr fun _ _ => rfl
theorem o_inN {X : Cx} {H : Hp} {Q : VK} {p : Addr} {h : Nat} {hs : List Nat} (k : SqL X.K H p (hs.map fun k => V.int ((k : Nat) : Int))) (q : Q (.bl (decide (h ∈ hs))) H) : oW X (compareOp .In) (.int (h : Nat)) (.ref p) H Q :=
  oI op_in_seq ⟨p, _, rfl, .inl k, rfl, flat_nats hs, by rw [if_neg Bool.false_ne_true, inV_nat]; exact q⟩
theorem o_niN {X : Cx} {H : Hp} {Q : VK} {p : Addr} {h : Nat} {hs : List Nat} (k : SqL X.K H p (hs.map fun k => V.int ((k : Nat) : Int))) (q : Q (.bl (!decide (h ∈ hs))) H) : oW X (compareOp .NotIn) (.int (h : Nat)) (.ref p) H Q :=
  oI op_notIn_seq ⟨p, _, rfl, .inl k, rfl, flat_nats hs, by rw [if_pos rfl, inV_nat]; exact q⟩
theorem dp_nats {K : PySem.W.Frag} {H : Hp} : ∀ (l : List Nat), DpAll K H (l.map fun k => V.int ((k : Nat) : Int)) (l.map fun k => PyData.int ((k : Nat) : Int))
  | [] => .nil
  | z :: l => .cons (.int _) (dp_nats l)
theorem th_nats {K : PySem.W.Frag} {H : Hp} : ∀ (l : List Nat), ThAll K H (l.map fun k => V.int ((k : Nat) : Int)) (l.map fun k => PyData.int ((k : Nat) : Int))
  | [] => .nil
  | z :: l => .cons (.int _) (th_nats l)
theorem nat_get {ks : List Nat} {i : Nat} {k : Nat} (h : ks[i]? = some k) {j : Int} (hj : j = (i : Nat)) : atI (ks.map fun k => V.int ((k : Nat) : Int)) j = some (.int ((k : Nat) : Int)) := by
  subst hj
  exact atI_nat (by omega) (by rw [show ((i : Nat) : Int).toNat = i by omega, List.getElem?_map, h]; rfl)
theorem nats_sh (l : List Nat) : Sh 1 (.list (l.map fun k => PyData.int ((k : Nat) : Int))) := .lst fun d hd => by
  obtain ⟨k, _, rfl⟩ := List.mem_map.mp hd
  exact .int _
theorem eqvAll_nats : ∀ (l m : List Nat), PyData.eqvAll (l.map fun k => PyData.int ((k : Nat) : Int)) (m.map fun k => PyData.int ((k : Nat) : Int)) = decide (l = m)
  | [], [] => rfl
  | [], _ :: _ => by rw [decide_eq_false (by simp)]; rfl
  | _ :: _, [] => by rw [decide_eq_false (by simp)]; rfl
  | a :: l, b :: m => by
    show (((a : Int) == (b : Int)) && PyData.eqvAll (l.map fun k => PyData.int ((k : Nat) : Int)) (m.map fun k => PyData.int ((k : Nat) : Int))) = _
    rw [eqvAll_nats l m]
    by_cases e : a = b
    · subst e
      by_cases e2 : l = m
      · subst e2; simp
      · rw [decide_eq_false e2, decide_eq_false fun z => e2 (List.cons.inj z).2]; simp
    · rw [decide_eq_false fun z => e (List.cons.inj z).1]
      have : ((a : Int) == (b : Int)) = false := by rw [beq_eq_false_iff_ne]; omega
      rw [this]; rfl
theorem eqv_nats (l m : List Nat) : PyData.eqv (.list (l.map fun k => PyData.int ((k : Nat) : Int))) (.list (m.map fun k => PyData.int ((k : Nat) : Int))) = decide (l = m) := eqvAll_nats l m
/-! ### existences whose first word is an equation of values -/
section
theorem xV1 {A1 : Type} {v : V} {f : A1 → V} {p : A1 → Prop} (h : ∃ x1, v = f x1 ∧ p x1) : ∃ x1, v = f x1 ∧ p x1 := h
theorem xL1 {A1 : Type} {v : List V} {f : A1 → List V} {p : A1 → Prop} (h : ∃ x1, v = f x1 ∧ p x1) : ∃ x1, v = f x1 ∧ p x1 := h
theorem xV2 {A1 : Type} {A2 : Type} {v : V} {f : A1 → A2 → V} {p : A1 → A2 → Prop} (h : ∃ x1 x2, v = f x1 x2 ∧ p x1 x2) : ∃ x1 x2, v = f x1 x2 ∧ p x1 x2 := h
theorem xL2 {A1 : Type} {A2 : Type} {v : List V} {f : A1 → A2 → List V} {p : A1 → A2 → Prop} (h : ∃ x1 x2, v = f x1 x2 ∧ p x1 x2) : ∃ x1 x2, v = f x1 x2 ∧ p x1 x2 := h
theorem xV3 {A1 : Type} {A2 : Type} {A3 : Type} {v : V} {f : A1 → A2 → A3 → V} {p : A1 → A2 → A3 → Prop} (h : ∃ x1 x2 x3, v = f x1 x2 x3 ∧ p x1 x2 x3) : ∃ x1 x2 x3, v = f x1 x2 x3 ∧ p x1 x2 x3 := h
theorem xL3 {A1 : Type} {A2 : Type} {A3 : Type} {v : List V} {f : A1 → A2 → A3 → List V} {p : A1 → A2 → A3 → Prop} (h : ∃ x1 x2 x3, v = f x1 x2 x3 ∧ p x1 x2 x3) : ∃ x1 x2 x3, v = f x1 x2 x3 ∧ p x1 x2 x3 := h
theorem xV4 {A1 : Type} {A2 : Type} {A3 : Type} {A4 : Type} {v : V} {f : A1 → A2 → A3 → A4 → V} {p : A1 → A2 → A3 → A4 → Prop} (h : ∃ x1 x2 x3 x4, v = f x1 x2 x3 x4 ∧ p x1 x2 x3 x4) : ∃ x1 x2 x3 x4, v = f x1 x2 x3 x4 ∧ p x1 x2 x3 x4 := h
theorem xL4 {A1 : Type} {A2 : Type} {A3 : Type} {A4 : Type} {v : List V} {f : A1 → A2 → A3 → A4 → List V} {p : A1 → A2 → A3 → A4 → Prop} (h : ∃ x1 x2 x3 x4, v = f x1 x2 x3 x4 ∧ p x1 x2 x3 x4) : ∃ x1 x2 x3 x4, v = f x1 x2 x3 x4 ∧ p x1 x2 x3 x4 := h
theorem xV5 {A1 : Type} {A2 : Type} {A3 : Type} {A4 : Type} {A5 : Type} {v : V} {f : A1 → A2 → A3 → A4 → A5 → V} {p : A1 → A2 → A3 → A4 → A5 → Prop} (h : ∃ x1 x2 x3 x4 x5, v = f x1 x2 x3 x4 x5 ∧ p x1 x2 x3 x4 x5) : ∃ x1 x2 x3 x4 x5, v = f x1 x2 x3 x4 x5 ∧ p x1 x2 x3 x4 x5 := h
theorem xL5 {A1 : Type} {A2 : Type} {A3 : Type} {A4 : Type} {A5 : Type} {v : List V} {f : A1 → A2 → A3 → A4 → A5 → List V} {p : A1 → A2 → A3 → A4 → A5 → Prop} (h : ∃ x1 x2 x3 x4 x5, v = f x1 x2 x3 x4 x5 ∧ p x1 x2 x3 x4 x5) : ∃ x1 x2 x3 x4 x5, v = f x1 x2 x3 x4 x5 ∧ p x1 x2 x3 x4 x5 := h
theorem xV6 {A1 : Type} {A2 : Type} {A3 : Type} {A4 : Type} {A5 : Type} {A6 : Type} {v : V} {f : A1 → A2 → A3 → A4 → A5 → A6 → V} {p : A1 → A2 → A3 → A4 → A5 → A6 → Prop} (h : ∃ x1 x2 x3 x4 x5 x6, v = f x1 x2 x3 x4 x5 x6 ∧ p x1 x2 x3 x4 x5 x6) : ∃ x1 x2 x3 x4 x5 x6, v = f x1 x2 x3 x4 x5 x6 ∧ p x1 x2 x3 x4 x5 x6 := h
theorem xL6 {A1 : Type} {A2 : Type} {A3 : Type} {A4 : Type} {A5 : Type} {A6 : Type} {v : List V} {f : A1 → A2 → A3 → A4 → A5 → A6 → List V} {p : A1 → A2 → A3 → A4 → A5 → A6 → Prop} (h : ∃ x1 x2 x3 x4 x5 x6, v = f x1 x2 x3 x4 x5 x6 ∧ p x1 x2 x3 x4 x5 x6) : ∃ x1 x2 x3 x4 x5 x6, v = f x1 x2 x3 x4 x5 x6 ∧ p x1 x2 x3 x4 x5 x6 := h
theorem xV7 {A1 : Type} {A2 : Type} {A3 : Type} {A4 : Type} {A5 : Type} {A6 : Type} {A7 : Type} {v : V} {f : A1 → A2 → A3 → A4 → A5 → A6 → A7 → V} {p : A1 → A2 → A3 → A4 → A5 → A6 → A7 → Prop} (h : ∃ x1 x2 x3 x4 x5 x6 x7, v = f x1 x2 x3 x4 x5 x6 x7 ∧ p x1 x2 x3 x4 x5 x6 x7) : ∃ x1 x2 x3 x4 x5 x6 x7, v = f x1 x2 x3 x4 x5 x6 x7 ∧ p x1 x2 x3 x4 x5 x6 x7 := h
theorem xL7 {A1 : Type} {A2 : Type} {A3 : Type} {A4 : Type} {A5 : Type} {A6 : Type} {A7 : Type} {v : List V} {f : A1 → A2 → A3 → A4 → A5 → A6 → A7 → List V} {p : A1 → A2 → A3 → A4 → A5 → A6 → A7 → Prop} (h : ∃ x1 x2 x3 x4 x5 x6 x7, v = f x1 x2 x3 x4 x5 x6 x7 ∧ p x1 x2 x3 x4 x5 x6 x7) : ∃ x1 x2 x3 x4 x5 x6 x7, v = f x1 x2 x3 x4 x5 x6 x7 ∧ p x1 x2 x3 x4 x5 x6 x7 := h
theorem iteBT {b : Bool} {A B : Prop} (hb : b = true) (h : A) : if b = true then A else B := by subst hb; exact iteT h
theorem iteBF {b : Bool} {A B : Prop} (hb : b = false) (h : B) : if b = true then A else B := by subst hb; exact iteF h
theorem xA {v u : V} {p : Prop} (h : v = u ∧ p) : v = u ∧ p := h
theorem xC {v u : Bool} {p : Prop} (h : v = u ∧ p) : v = u ∧ p := h
theorem xB {v u : List V} {p : Prop} (h : v = u ∧ p) : v = u ∧ p := h
end
section
variable {X : Cx} {σ : L2.St} {H : Hp} {Q : VK} {D : Ends} {e : Expr} {es : List Expr} {st : Stmt} {b : List Stmt} {R : Bool → Hp → Prop} {U : List V → Hp → Prop} {x y : V} {f : Value → Value → Sem Value} {g : Value} {xs : List V}
theorem is_e (h : eW X e σ H Q) : eW X e σ H Q := h
theorem is_call {n : Str} {p2 pos : Pos} {ks : List Keyword} (h : eW X (.Call (.Name n p2) es ks pos) σ H Q) : eW X (.Call (.Name n p2) es ks pos) σ H Q := h
theorem is_raise {e o : Option Expr} {pos : Pos} (h : sW X (.Raise e o pos) D σ H) : sW X (.Raise e o pos) D σ H := h
theorem is_ex {α : Type} {p : α → Prop} (h : ∃ x, p x) : ∃ x, p x := h
theorem is_and {α : Type} {a b : α} {p : Prop} (h : a = b ∧ p) : a = b ∧ p := h
theorem is_bo {op : Operator} (h : oW X (binaryOp op) x y H Q) : oW X (binaryOp op) x y H Q := h
theorem is_ixP {n : Nat} {o : OfNat Int n} (h : iW X x (.int (@OfNat.ofNat Int n o)) H Q) : iW X x (.int (@OfNat.ofNat Int n o)) H Q := h
theorem is_ixN {n : Nat} {o : OfNat Int n} (h : iW X x (.int (-(@OfNat.ofNat Int n o))) H Q) : iW X x (.int (-(@OfNat.ofNat Int n o))) H Q := h
theorem is_o (h : oW X f x y H Q) : oW X f x y H Q := h
theorem is_k (h : kW X g xs H Q) : kW X g xs H Q := h
theorem is_i (h : iW X x y H Q) : iW X x y H Q := h
theorem is_a (h : aW X es σ H U) : aW X es σ H U := h
theorem is_s (h : sW X st D σ H) : sW X st D σ H := h
theorem is_b (h : bW X b D σ H) : bW X b D σ H := h
theorem is_t (h : tW X e σ H R) : tW X e σ H R := h
theorem is_c (h : cW X e σ H R) : cW X e σ H R := h
theorem is_p {e : Option Expr} {q : Option Int → Hp → Prop} (h : pW X e σ H q) : pW X e σ H q := h
theorem is_g {v : V} {q : L2.St → Hp → Prop} (h : gW X e v σ H q) : gW X e v σ H q := h
theorem is_iteD {p : Prop} {d : Decidable p} {e : Decidable (decide p = true)} {A B : Prop} (h : @ite Prop (decide p = true) e A B) : @ite Prop (decide p = true) e A B := h
theorem is_iteND {p : Prop} {d : Decidable p} {e : Decidable ((!decide p) = true)} {A B : Prop} (h : @ite Prop ((!decide p) = true) e A B) : @ite Prop ((!decide p) = true) e A B := h
theorem iteDT {p : Prop} [Decidable p] {A B : Prop} (hp : p) (h : A) : if decide p = true then A else B := by rw [decide_eq_true hp]; exact iteT h
theorem iteDF {p : Prop} [Decidable p] {A B : Prop} (hp : ¬ p) (h : B) : if decide p = true then A else B := by rw [decide_eq_false hp]; exact iteF h
theorem iteNDT {p : Prop} [Decidable p] {A B : Prop} (hp : ¬ p) (h : A) : if (!decide p) = true then A else B := by rw [decide_eq_false hp]; exact iteT h
theorem iteNDF {p : Prop} [Decidable p] {A B : Prop} (hp : p) (h : B) : if (!decide p) = true then A else B := by rw [decide_eq_true hp]; exact iteF h
theorem ref_ne_non {a : Addr} : ¬ V.ref a = V.non := fun z => nomatch z
theorem int_ne_non {a : Int} : ¬ V.int a = V.non := fun z => nomatch z
theorem str_ne_non {a : Str} : ¬ V.str a = V.non := fun z => nomatch z
theorem bl_ne_non {a : Bool} : ¬ V.bl a = V.non := fun z => nomatch z
theorem is_ite {p : Prop} {d : Decidable p} {A B : Prop} (h : @ite Prop p d A B) : @ite Prop p d A B := h
end
end G

namespace Lw
open PySem PySem.Spec PyProof.Rows L2 TL G
local macro_rules | `(tactic| kby_none) => `(tactic| first | exact Same.refl _ | assumption | exact Same.tr' (by assumption) (by kby_none))
local macro_rules | `(tactic| ki_room) => `(tactic| first | assumption | exact Same.at' (by assumption) (by ki_room))
local macro_rules | `(tactic| kt_chr) => `(tactic| first | assumption | exact Th.non | exact Th.int _ | exact Th.bl _ | exact Same.th' (by assumption) (by kt_chr) | exact Same.thA' (by assumption) (by kt_chr))
local macro_rules | `(tactic| kpc_check) => `(tactic| first | decide +kernel | (simp only [sizeLine_eq]; omega) | omega)
local macro_rules | `(tactic| kl_some) => `(tactic| first | assumption | exact SqL.of (by ki_room) | exact Same.seq' (by assumption) (by kl_some))
local macro_rules | `(tactic| k_units) => `(tactic| first | assumption | exact SqT.of (by ki_room) | exact Same.seqT' (by assumption) (by k_units))
local macro_rules | `(tactic| kl_room) => `(tactic| first | assumption | exact SqT.of (by ki_room) | exact SqL.of (by ki_room) | kl_some | k_units)
local macro_rules | `(tactic| units_room1) => `(tactic| first | assumption | grind [Same])
local macro_rules | `(tactic| wrow_post) => `(tactic| first | assumption | (intro b9 o9 h9; grind [Same]))
local macro_rules | `(tactic| tupd_mem) => `(tactic| first | assumption | (intro h9; grind [Same]))
local macro_rules | `(tactic| wp_step) => `(tactic| repeat first | ((with_reducible refine is_ite ?_); first | (with_reducible refine iteT ?_) | (with_reducible refine iteF ?_) | ((with_reducible refine is_iteD ?_); first | refine iteDT (by first | with_reducible rfl | decide +kernel) ?_ | refine iteDF (by first | exact ref_ne_non | exact int_ne_non | exact str_ne_non | exact bl_ne_non | decide +kernel) ?_) | ((with_reducible refine is_iteND ?_); first | refine iteNDF (by first | with_reducible rfl | decide +kernel) ?_ | refine iteNDT (by first | exact ref_ne_non | exact int_ne_non | exact str_ne_non | exact bl_ne_non | decide +kernel) ?_) | ((fail_if_success (with_reducible refine is_iteD ?_)); (fail_if_success (with_reducible refine is_iteND ?_)); first | refine iteT ?_ | refine iteF ?_)) | ((fail_if_success (with_reducible refine is_ite ?_)); first | (refine is_e ?_; first | refine e_var rfl ?_ | refine e_int ?_ | refine e_str ?_ | refine e_bl ?_ | refine e_non ?_ | refine e_bin ?_ | refine e_slice ?_ | refine e_ix ?_ | refine e_isN ?_ | refine e_notN ?_ | refine e_cmp ?_ | refine e_callB ?_ | refine e_listRev ?_ | refine e_callTy ?_ | refine e_globR ?_ | refine e_globI ?_ | refine e_globS ?_ | refine e_ty ?_ | refine e_neg ?_ | refine e_not ?_ | refine e_one ?_ | refine e_ifE ?_ | refine e_tupN ?_ | refine e_lstN ?_ | refine e_dct0 ?_) | (refine is_o ?_; first | (with_reducible refine o_add ?_) | (with_reducible refine o_sub ?_) | ((with_reducible refine is_bo (op := .Mod) ?_); refine o_mod (by decide) ?_) | ((with_reducible refine is_bo (op := .FloorDiv) ?_); refine o_div ⟨by decide, by decide⟩ ?_) | (with_reducible refine o_eqI ?_) | (with_reducible refine o_neI ?_) | (with_reducible refine o_eqS ?_) | (with_reducible refine o_neS ?_) | (with_reducible refine o_lt ?_) | (with_reducible refine o_le ?_) | (with_reducible refine o_gt ?_) | (with_reducible refine o_ge ?_) | (with_reducible refine o_p60 ?_) | (with_reducible refine o_p30 ?_) | ((with_reducible refine is_bo (op := .Pow) ?_); refine o_pow ⟨by decide, by decide, by decide⟩ ?_) | (with_reducible refine o_leS ?_) | (with_reducible refine o_ltS ?_) | (with_reducible refine o_inC ?_) | (with_reducible refine o_niC ?_) | (with_reducible refine o_eqB ?_) | (with_reducible refine o_neB ?_)) | (refine is_a ?_; first | refine a_cons ?_ | refine a_nil ?_) | (refine is_b ?_; first | refine b_cons ?_ | refine b_nil ?_) | (refine is_p ?_; first | refine p_none ?_ | refine p_some ?_) | (refine is_s ?_; first | refine s_set ?_ | refine s_if ?_ | refine s_ret ?_ | refine s_expr ?_ | refine s_retN ?_ | refine s_brk ?_ | refine s_cont ?_ | refine s_pass ?_ | refine s_augA rfl ?_) | (refine is_t ?_; first | refine t_isN ?_ | refine t_notN ?_ | refine t_cmp ?_ | refine t_chain ?_ | refine t_not ?_ | refine t_and ?_ | refine t_or ?_ | refine t_val ?_) | (refine is_c ?_; first | refine c_and1 ?_ | refine c_or1 ?_ | refine c_and ?_ | refine c_or ?_) | (refine is_g ?_; first | refine g_name ?_ | refine g_tup ⟨_, _, rfl, (by k_units), (by rfl), ?_⟩ | refine g_lst ⟨_, _, rfl, (by kl_some), (by rfl), ?_⟩) | (refine is_h ?_; first | refine h_cons ?_ | refine h_nil ?_) | (refine is_k ?_; first | refine k_min ?_ | refine k_max ?_ | refine k_ordC ?_) | (refine is_and ?_; refine ⟨rfl, ?_⟩) | (refine is_ex ?_; first | refine ⟨_, rfl, ?_⟩ | refine ⟨_, _, rfl, ?_⟩ | refine ⟨_, _, _, rfl, ?_⟩ | refine ⟨_, _, rfl, rfl, ?_⟩ | refine ⟨_, _, _, rfl, rfl, rfl, ?_⟩ | refine ⟨_, _, _, _, rfl, ?_⟩ | refine ⟨_, _, _, _, _, rfl, ?_⟩ | refine ⟨_, _, _, _, _, _, rfl, ?_⟩)))
local macro_rules | `(tactic| tm_side) => `(tactic| repeat first | ((with_reducible refine is_ite ?_); first | (with_reducible refine iteT ?_) | (with_reducible refine iteF ?_) | ((with_reducible refine is_iteD ?_); first | refine iteDT (by first | with_reducible rfl | decide +kernel) ?_ | refine iteDF (by first | exact ref_ne_non | exact int_ne_non | exact str_ne_non | exact bl_ne_non | decide +kernel) ?_) | ((with_reducible refine is_iteND ?_); first | refine iteNDF (by first | with_reducible rfl | decide +kernel) ?_ | refine iteNDT (by first | exact ref_ne_non | exact int_ne_non | exact str_ne_non | exact bl_ne_non | decide +kernel) ?_) | ((fail_if_success (with_reducible refine is_iteD ?_)); (fail_if_success (with_reducible refine is_iteND ?_)); first | refine iteT ?_ | refine iteF ?_)) | ((fail_if_success (with_reducible refine is_ite ?_)); first | (refine is_e ?_; first | refine e_var rfl ?_ | refine e_int ?_ | refine e_str ?_ | refine e_bl ?_ | refine e_non ?_ | refine e_bin ?_ | refine e_slice ?_ | refine e_ix ?_ | refine e_isN ?_ | refine e_notN ?_ | refine e_cmp ?_ | refine e_callB ?_ | refine e_listRev ?_ | refine e_callTy ?_ | refine e_globR ?_ | refine e_globI ?_ | refine e_globS ?_ | refine e_ty ?_ | refine e_neg ?_ | refine e_not ?_ | refine e_one ?_ | refine e_ifE ?_ | refine e_tupN ?_ | refine e_lstN ?_ | refine e_dct0 ?_ | (refine is_call ?_; top_name) | refine e_append ?_ | refine e_and ?_ | refine e_or ?_) | (refine is_o ?_; first | (with_reducible refine o_add ?_) | (with_reducible refine o_sub ?_) | ((with_reducible refine is_bo (op := .Mod) ?_); refine o_mod (by decide) ?_) | ((with_reducible refine is_bo (op := .FloorDiv) ?_); refine o_div ⟨by decide, by decide⟩ ?_) | (with_reducible refine o_eqI ?_) | (with_reducible refine o_neI ?_) | (with_reducible refine o_eqS ?_) | (with_reducible refine o_neS ?_) | (with_reducible refine o_lt ?_) | (with_reducible refine o_le ?_) | (with_reducible refine o_gt ?_) | (with_reducible refine o_ge ?_) | (with_reducible refine o_p60 ?_) | (with_reducible refine o_p30 ?_) | ((with_reducible refine is_bo (op := .Pow) ?_); refine o_pow ⟨by decide, by decide, by decide⟩ ?_) | (with_reducible refine o_leS ?_) | (with_reducible refine o_ltS ?_) | (with_reducible refine o_inC ?_) | (with_reducible refine o_niC ?_) | (with_reducible refine o_eqB ?_) | (with_reducible refine o_neB ?_)) | (refine is_a ?_; first | refine a_cons ?_ | refine a_nil ?_) | (refine is_b ?_; first | refine b_cons ?_ | refine b_nil ?_) | (refine is_p ?_; first | refine p_none ?_ | refine p_some ?_) | (refine is_s ?_; first | refine s_set ?_ | refine s_if ?_ | refine s_ret ?_ | refine s_expr ?_ | refine s_retN ?_ | refine s_brk ?_ | refine s_cont ?_ | refine s_pass ?_ | refine s_augA rfl ?_ | refine s_asgT ?_ | (refine is_raise ?_; top_raise)) | (refine is_t ?_; first | refine t_isN ?_ | refine t_notN ?_ | refine t_cmp ?_ | refine t_chain ?_ | refine t_not ?_ | refine t_and ?_ | refine t_or ?_ | refine t_val ?_) | (refine is_c ?_; first | refine c_and1 ?_ | refine c_or1 ?_ | refine c_and ?_ | refine c_or ?_) | (refine is_g ?_; first | refine g_name ?_ | refine g_tup ⟨_, _, rfl, (by k_units), (by rfl), ?_⟩ | refine g_lst ⟨_, _, rfl, (by kl_some), (by rfl), ?_⟩) | (refine is_h ?_; first | refine h_cons ?_ | refine h_nil ?_) | (refine is_k ?_; first | refine k_min ?_ | refine k_max ?_ | refine k_ordC ?_ | refine k_lenL (by kl_some) ?_ | refine k_lenT (by k_units) ?_ | refine k_lenS (by kpc_check) ?_) | (refine is_and ?_; refine ⟨rfl, ?_⟩) | (refine is_ex ?_; first | refine ⟨_, rfl, ?_⟩ | refine ⟨_, _, rfl, ?_⟩ | refine ⟨_, _, _, rfl, ?_⟩ | refine ⟨_, _, rfl, rfl, ?_⟩ | refine ⟨_, _, _, rfl, rfl, rfl, ?_⟩ | refine ⟨_, _, _, _, rfl, ?_⟩ | refine ⟨_, _, _, _, _, rfl, ?_⟩ | refine ⟨_, _, _, _, _, _, rfl, ?_⟩) | ((first | (with_reducible refine is_ixP ?_) | (with_reducible refine is_ixN ?_)); first | refine i_tup (by k_units) rfl ?_ | refine i_lst (by kl_some) rfl ?_ | refine i_tup (by k_units) (atI_nat (by decide) rfl) ?_ | refine i_lst (by kl_some) (atI_nat (by decide) rfl) ?_) | intro (_ : Addr) _ _ _ _ _))
local macro_rules | `(tactic| kxs_still) => `(tactic| repeat first | ((with_reducible refine is_ite ?_); first | (with_reducible refine iteT ?_) | (with_reducible refine iteF ?_) | ((with_reducible refine is_iteD ?_); first | refine iteDT (by first | with_reducible rfl | decide +kernel) ?_ | refine iteDF (by first | exact ref_ne_non | exact int_ne_non | exact str_ne_non | exact bl_ne_non | decide +kernel) ?_ | refine iteDT (by omega) ?_ | refine iteDF (by omega) ?_) | ((with_reducible refine is_iteND ?_); first | refine iteNDF (by first | with_reducible rfl | decide +kernel) ?_ | refine iteNDT (by first | exact ref_ne_non | exact int_ne_non | exact str_ne_non | exact bl_ne_non | decide +kernel) ?_ | refine iteNDF (by omega) ?_ | refine iteNDT (by omega) ?_) | ((fail_if_success (with_reducible refine is_iteD ?_)); (fail_if_success (with_reducible refine is_iteND ?_)); first | refine iteBT rfl ?_ | refine iteBF rfl ?_)) | ((fail_if_success (with_reducible refine is_ite ?_)); first | (refine is_e ?_; first | refine e_var rfl ?_ | refine e_int ?_ | refine e_str ?_ | refine e_bl ?_ | refine e_non ?_ | refine e_bin ?_ | refine e_slice ?_ | refine e_ix ?_ | refine e_isN ?_ | refine e_notN ?_ | refine e_cmp ?_ | refine e_callB ?_ | refine e_listRev ?_ | refine e_callTy ?_ | refine e_globR ?_ | refine e_globI ?_ | refine e_globS ?_ | refine e_ty ?_ | refine e_neg ?_ | refine e_not ?_ | refine e_one ?_ | refine e_ifE ?_ | refine e_tupN ?_ | refine e_lstN ?_ | refine e_dct0 ?_ | (refine is_call ?_; top_name) | refine e_append ?_ | refine e_and ?_ | refine e_or ?_) | (refine is_o ?_; first | (with_reducible refine o_add ?_) | (with_reducible refine o_sub ?_) | ((with_reducible refine is_bo (op := .Mod) ?_); refine o_mod (by decide) ?_) | ((with_reducible refine is_bo (op := .FloorDiv) ?_); refine o_div ⟨by decide, by decide⟩ ?_) | (with_reducible refine o_eqI ?_) | (with_reducible refine o_neI ?_) | (with_reducible refine o_eqS ?_) | (with_reducible refine o_neS ?_) | (with_reducible refine o_lt ?_) | (with_reducible refine o_le ?_) | (with_reducible refine o_gt ?_) | (with_reducible refine o_ge ?_) | (with_reducible refine o_p60 ?_) | (with_reducible refine o_p30 ?_) | ((with_reducible refine is_bo (op := .Pow) ?_); refine o_pow ⟨by decide, by decide, by decide⟩ ?_) | (with_reducible refine o_leS ?_) | (with_reducible refine o_ltS ?_) | (with_reducible refine o_inC ?_) | (with_reducible refine o_niC ?_) | (with_reducible refine o_eqB ?_) | (with_reducible refine o_neB ?_)) | (refine is_a ?_; first | refine a_cons ?_ | refine a_nil ?_) | (refine is_b ?_; first | refine b_cons ?_ | refine b_nil ?_) | (refine is_p ?_; first | refine p_none ?_ | refine p_some ?_) | (refine is_s ?_; first | refine s_set ?_ | refine s_if ?_ | refine s_ret ?_ | refine s_expr ?_ | refine s_retN ?_ | refine s_brk ?_ | refine s_cont ?_ | refine s_pass ?_ | refine s_augA rfl ?_ | refine s_asgT ?_ | (refine is_raise ?_; top_raise)) | (refine is_t ?_; first | refine t_sg ?_ | refine t_sgE ?_ | refine t_isN ?_ | refine t_notN ?_ | refine t_cmp ?_ | refine t_chain ?_ | refine t_not ?_ | refine t_and ?_ | refine t_or ?_ | refine t_val ?_) | (refine is_c ?_; first | refine c_and1 ?_ | refine c_or1 ?_ | refine c_and ?_ | refine c_or ?_) | (refine is_g ?_; first | refine g_name ?_ | refine g_tup ⟨_, _, rfl, (by k_units), (by rfl), ?_⟩ | refine g_lst ⟨_, _, rfl, (by kl_some), (by rfl), ?_⟩) | (refine is_h ?_; first | refine h_cons ?_ | refine h_nil ?_) | (refine is_k ?_; first | refine k_min ?_ | refine k_max ?_ | refine k_ordC ?_ | refine k_lenL (by kl_some) ?_ | refine k_lenT (by k_units) ?_ | refine k_lenS (by kpc_check) ?_) | ((first | (with_reducible refine xA ?_) | (with_reducible refine xB ?_) | (with_reducible refine xC ?_)); refine ⟨rfl, ?_⟩) | (refine xV1 ?_; refine ⟨_, rfl, ?_⟩) | (refine xL1 ?_; refine ⟨_, rfl, ?_⟩) | (refine xL2 ?_; refine ⟨_, _, rfl, ?_⟩) | (refine xL3 ?_; refine ⟨_, _, _, rfl, ?_⟩) | (refine xL4 ?_; refine ⟨_, _, _, _, rfl, ?_⟩) | (refine xL5 ?_; refine ⟨_, _, _, _, _, rfl, ?_⟩) | (refine xL6 ?_; refine ⟨_, _, _, _, _, _, rfl, ?_⟩) | (refine xL7 ?_; refine ⟨_, _, _, _, _, _, _, rfl, ?_⟩) | ((first | (with_reducible refine is_ixP ?_) | (with_reducible refine is_ixN ?_)); first | refine i_tup (by k_units) rfl ?_ | refine i_lst (by kl_some) rfl ?_ | refine i_tup (by k_units) (atI_nat (by decide) rfl) ?_ | refine i_lst (by kl_some) (atI_nat (by decide) rfl) ?_) | (refine is_i ?_; first | refine i_lst (by kl_some) (atI_nat (by decide) (by assumption)) ?_ | refine i_tup (by k_units) (atI_nat (by decide) (by assumption)) ?_ | refine i_lst (by kl_some) (by assumption) ?_ | refine i_tup (by k_units) (by assumption) ?_)))
local macro_rules | `(tactic| k_here) => `(tactic| repeat first | ((with_reducible refine is_ite ?_); first | (with_reducible refine iteT ?_) | (with_reducible refine iteF ?_) | ((with_reducible refine is_iteD ?_); first | refine iteDT (by first | with_reducible rfl | decide +kernel) ?_ | refine iteDF (by first | exact ref_ne_non | exact int_ne_non | exact str_ne_non | exact bl_ne_non | decide +kernel) ?_ | refine iteDT (by omega) ?_ | refine iteDF (by omega) ?_) | ((with_reducible refine is_iteND ?_); first | refine iteNDF (by first | with_reducible rfl | decide +kernel) ?_ | refine iteNDT (by first | exact ref_ne_non | exact int_ne_non | exact str_ne_non | exact bl_ne_non | decide +kernel) ?_ | refine iteNDF (by omega) ?_ | refine iteNDT (by omega) ?_) | ((fail_if_success (with_reducible refine is_iteD ?_)); (fail_if_success (with_reducible refine is_iteND ?_)); first | refine iteBT rfl ?_ | refine iteBF rfl ?_)) | ((fail_if_success (with_reducible refine is_ite ?_)); first | (refine is_e ?_; first | refine e_var rfl ?_ | refine e_int ?_ | refine e_str ?_ | refine e_bl ?_ | refine e_non ?_ | refine e_bin ?_ | refine e_slice ?_ | refine e_ix ?_ | refine e_isN ?_ | refine e_notN ?_ | refine e_cmp ?_ | refine e_callB ?_ | refine e_listRev ?_ | refine e_callTy ?_ | refine e_globR ?_ | refine e_globI ?_ | refine e_globS ?_ | refine e_ty ?_ | refine e_neg ?_ | refine e_not ?_ | refine e_one ?_ | refine e_ifE ?_ | refine e_tupN ?_ | refine e_lstN ?_ | refine e_dct0 ?_ | (refine is_call ?_; top_name) | refine e_append ?_ | refine e_and ?_ | refine e_or ?_) | (refine is_o ?_; first | (with_reducible refine o_add ?_) | (with_reducible refine o_sub ?_) | ((with_reducible refine is_bo (op := .Mod) ?_); refine o_mod (by decide) ?_) | ((with_reducible refine is_bo (op := .FloorDiv) ?_); refine o_div ⟨by decide, by decide⟩ ?_) | (with_reducible refine o_eqI ?_) | (with_reducible refine o_neI ?_) | (with_reducible refine o_eqS ?_) | (with_reducible refine o_neS ?_) | (with_reducible refine o_lt ?_) | (with_reducible refine o_le ?_) | (with_reducible refine o_gt ?_) | (with_reducible refine o_ge ?_) | (with_reducible refine o_p60 ?_) | (with_reducible refine o_p30 ?_) | ((with_reducible refine is_bo (op := .Pow) ?_); refine o_pow ⟨by decide, by decide, by decide⟩ ?_) | (with_reducible refine o_leS ?_) | (with_reducible refine o_ltS ?_) | (with_reducible refine o_inC ?_) | (with_reducible refine o_niC ?_) | (with_reducible refine o_eqB ?_) | (with_reducible refine o_neB ?_)) | (refine is_a ?_; first | refine a_cons ?_ | refine a_nil ?_) | (refine is_b ?_; first | refine b_cons ?_ | refine b_nil ?_) | (refine is_p ?_; first | refine p_none ?_ | refine p_some ?_) | (refine is_s ?_; first | refine s_set ?_ | refine s_if ?_ | refine s_ret ?_ | refine s_expr ?_ | refine s_retN ?_ | refine s_brk ?_ | refine s_cont ?_ | refine s_pass ?_ | refine s_augA rfl ?_ | refine s_asgT ?_ | (refine is_raise ?_; top_raise)) | (refine is_t ?_; first | refine t_sg ?_ | refine t_sgE ?_ | refine t_isN ?_ | refine t_notN ?_ | refine t_cmp ?_ | refine t_chain ?_ | refine t_not ?_ | ((fail_if_success refine t_and ?_); (fail_if_success refine t_or ?_); refine t_val ?_)) | (refine is_c ?_; first | refine c_and1 ?_ | refine c_or1 ?_ | refine c_and ?_ | refine c_or ?_) | (refine is_g ?_; first | refine g_name ?_ | refine g_tup ⟨_, _, rfl, (by k_units), (by rfl), ?_⟩ | refine g_lst ⟨_, _, rfl, (by kl_some), (by rfl), ?_⟩) | (refine is_h ?_; first | refine h_cons ?_ | refine h_nil ?_) | (refine is_k ?_; first | refine k_min ?_ | refine k_max ?_ | refine k_ordC ?_ | refine k_lenL (by kl_some) ?_ | refine k_lenT (by k_units) ?_ | refine k_lenS (by kpc_check) ?_) | ((first | (with_reducible refine xA ?_) | (with_reducible refine xB ?_) | (with_reducible refine xC ?_)); refine ⟨rfl, ?_⟩) | (refine xV1 ?_; refine ⟨_, rfl, ?_⟩) | (refine xL1 ?_; refine ⟨_, rfl, ?_⟩) | (refine xL2 ?_; refine ⟨_, _, rfl, ?_⟩) | (refine xL3 ?_; refine ⟨_, _, _, rfl, ?_⟩) | (refine xL4 ?_; refine ⟨_, _, _, _, rfl, ?_⟩) | (refine xL5 ?_; refine ⟨_, _, _, _, _, rfl, ?_⟩) | (refine xL6 ?_; refine ⟨_, _, _, _, _, _, rfl, ?_⟩) | (refine xL7 ?_; refine ⟨_, _, _, _, _, _, _, rfl, ?_⟩) | ((first | (with_reducible refine is_ixP ?_) | (with_reducible refine is_ixN ?_)); first | refine i_tup (by k_units) rfl ?_ | refine i_lst (by kl_some) rfl ?_ | refine i_tup (by k_units) (atI_nat (by decide) rfl) ?_ | refine i_lst (by kl_some) (atI_nat (by decide) rfl) ?_) | (refine is_i ?_; first | refine i_lst (by kl_some) (atI_nat (by decide) (by assumption)) ?_ | refine i_tup (by k_units) (atI_nat (by decide) (by assumption)) ?_ | refine i_lst (by kl_some) (by assumption) ?_ | refine i_tup (by k_units) (by assumption) ?_)))
local macro_rules | `(tactic| kt_ktab) => `(tactic| repeat first | ((with_reducible refine is_ite ?_); first | (with_reducible refine iteT ?_) | (with_reducible refine iteF ?_) | ((with_reducible refine is_iteD ?_); first | refine iteDT (by first | with_reducible rfl | decide +kernel) ?_ | refine iteDF (by first | exact ref_ne_non | exact int_ne_non | exact str_ne_non | exact bl_ne_non | decide +kernel) ?_ | refine iteDT (by omega) ?_ | refine iteDF (by omega) ?_) | ((with_reducible refine is_iteND ?_); first | refine iteNDF (by first | with_reducible rfl | decide +kernel) ?_ | refine iteNDT (by first | exact ref_ne_non | exact int_ne_non | exact str_ne_non | exact bl_ne_non | decide +kernel) ?_ | refine iteNDF (by omega) ?_ | refine iteNDT (by omega) ?_) | ((fail_if_success (with_reducible refine is_iteD ?_)); (fail_if_success (with_reducible refine is_iteND ?_)); first | refine iteBT rfl ?_ | refine iteBF rfl ?_)) | ((fail_if_success (with_reducible refine is_ite ?_)); first | (refine is_e ?_; first | refine e_var rfl ?_ | refine e_int ?_ | refine e_str ?_ | refine e_bl ?_ | refine e_non ?_ | refine e_bin ?_ | refine e_slice ?_ | refine e_ix ?_ | refine e_isN ?_ | refine e_notN ?_ | refine e_cmp ?_ | refine e_callB ?_ | refine e_listRev ?_ | refine e_callTy ?_ | refine e_globR ?_ | refine e_globI ?_ | refine e_globS ?_ | refine e_ty ?_ | refine e_neg ?_ | refine e_not ?_ | refine e_one ?_ | refine e_ifE ?_ | refine e_tupN ?_ | refine e_lstN ?_ | refine e_dct0 ?_ | (refine is_call ?_; top_name) | refine e_append ?_ | refine e_and ?_ | refine e_or ?_) | (refine is_o ?_; first | (with_reducible refine o_add ?_) | (with_reducible refine o_sub ?_) | ((with_reducible refine is_bo (op := .Mod) ?_); refine o_mod (by decide) ?_) | ((with_reducible refine is_bo (op := .FloorDiv) ?_); refine o_div ⟨by decide, by decide⟩ ?_) | (with_reducible refine o_eqI ?_) | (with_reducible refine o_neI ?_) | (with_reducible refine o_eqS ?_) | (with_reducible refine o_neS ?_) | (with_reducible refine o_lt ?_) | (with_reducible refine o_le ?_) | (with_reducible refine o_gt ?_) | (with_reducible refine o_ge ?_) | (with_reducible refine o_p60 ?_) | (with_reducible refine o_p30 ?_) | ((with_reducible refine is_bo (op := .Pow) ?_); refine o_pow ⟨by decide, by decide, by decide⟩ ?_) | (with_reducible refine o_leS ?_) | (with_reducible refine o_ltS ?_) | (with_reducible refine o_inC ?_) | (with_reducible refine o_niC ?_) | (with_reducible refine o_eqB ?_) | (with_reducible refine o_neB ?_)) | (refine is_a ?_; first | refine a_cons ?_ | refine a_nil ?_) | (refine is_b ?_; first | refine b_cons ?_ | refine b_nil ?_) | (refine is_p ?_; first | refine p_none ?_ | refine p_some ?_) | (refine is_s ?_; first | refine s_set ?_ | refine s_if ?_ | refine s_ret ?_ | refine s_expr ?_ | refine s_retN ?_ | refine s_brk ?_ | refine s_cont ?_ | refine s_pass ?_ | refine s_augA rfl ?_ | refine s_asgT ?_ | (refine is_raise ?_; top_raise)) | (refine is_t ?_; first | refine t_sg ?_ | refine t_sgE ?_ | refine t_isN ?_ | refine t_notN ?_ | refine t_cmp ?_ | refine t_chain ?_ | refine t_not ?_ | refine t_and ?_ | refine t_or ?_ | refine t_val ?_) | (refine is_c ?_; first | refine c_and1 ?_ | refine c_or1 ?_ | refine c_and ?_ | refine c_or ?_) | (refine is_g ?_; first | refine g_name ?_ | refine g_tup ⟨_, _, rfl, (by k_units), (by rfl), ?_⟩ | refine g_lst ⟨_, _, rfl, (by kl_some), (by rfl), ?_⟩) | (refine is_h ?_; first | refine h_cons ?_ | refine h_nil ?_) | (refine is_k ?_; first | refine k_min ?_ | refine k_max ?_ | refine k_ordC ?_ | refine k_lenL (by kl_some) ?_ | refine k_lenT (by k_units) ?_ | refine k_lenS (by kpc_check) ?_) | ((first | (with_reducible refine xA ?_) | (with_reducible refine xB ?_) | (with_reducible refine xC ?_)); refine ⟨rfl, ?_⟩) | (refine xV1 ?_; refine ⟨_, rfl, ?_⟩) | (refine xL1 ?_; refine ⟨_, rfl, ?_⟩) | (refine xL2 ?_; refine ⟨_, _, rfl, ?_⟩) | (refine xL3 ?_; refine ⟨_, _, _, rfl, ?_⟩) | (refine xL4 ?_; refine ⟨_, _, _, _, rfl, ?_⟩) | (refine xL5 ?_; refine ⟨_, _, _, _, _, rfl, ?_⟩) | (refine xL6 ?_; refine ⟨_, _, _, _, _, _, rfl, ?_⟩) | (refine xL7 ?_; refine ⟨_, _, _, _, _, _, _, rfl, ?_⟩) | ((first | (with_reducible refine is_ixP ?_) | (with_reducible refine is_ixN ?_)); first | refine i_tup (by k_units) rfl ?_ | refine i_lst (by kl_some) rfl ?_ | refine i_tup (by k_units) (atI_nat (by decide) rfl) ?_ | refine i_lst (by kl_some) (atI_nat (by decide) rfl) ?_) | (refine is_i ?_; first | refine i_lst (by kl_some) (atI_nat (by decide) (by assumption)) ?_ | refine i_tup (by k_units) (atI_nat (by decide) (by assumption)) ?_ | refine i_lst (by kl_some) (by assumption) ?_ | refine i_tup (by k_units) (by assumption) ?_) | intro (_ : Addr) _ _ _ _ _))
local macro_rules | `(tactic| tm_run) => `(tactic| repeat first | ((with_reducible refine is_ite ?_); first | (with_reducible refine iteT ?_) | (with_reducible refine iteF ?_) | ((with_reducible refine is_iteD ?_); first | refine iteDT (by first | with_reducible rfl | decide +kernel) ?_ | refine iteDF (by first | exact ref_ne_non | exact int_ne_non | exact str_ne_non | exact bl_ne_non | decide +kernel) ?_) | ((with_reducible refine is_iteND ?_); first | refine iteNDF (by first | with_reducible rfl | decide +kernel) ?_ | refine iteNDT (by first | exact ref_ne_non | exact int_ne_non | exact str_ne_non | exact bl_ne_non | decide +kernel) ?_) | ((fail_if_success (with_reducible refine is_iteD ?_)); (fail_if_success (with_reducible refine is_iteND ?_)); first | refine iteT ?_ | refine iteF ?_)) | ((fail_if_success (with_reducible refine is_ite ?_)); first | (refine is_e ?_; first | refine e_var rfl ?_ | refine e_int ?_ | refine e_str ?_ | refine e_bl ?_ | refine e_non ?_ | refine e_bin ?_ | refine e_slice ?_ | refine e_ix ?_ | refine e_isN ?_ | refine e_notN ?_ | refine e_cmp ?_ | refine e_callB ?_ | refine e_listRev ?_ | refine e_callTy ?_ | refine e_globR ?_ | refine e_globI ?_ | refine e_globS ?_ | refine e_ty ?_ | refine e_neg ?_ | refine e_not ?_ | refine e_one ?_ | refine e_ifE ?_ | refine e_tupN ?_ | refine e_lstN ?_ | refine e_dct0 ?_ | (refine is_call ?_; top_name) | refine e_append ?_ | refine e_and ?_ | refine e_or ?_) | (refine is_o ?_; first | (with_reducible refine o_add ?_) | (with_reducible refine o_sub ?_) | ((with_reducible refine is_bo (op := .Mod) ?_); refine o_mod (by decide) ?_) | ((with_reducible refine is_bo (op := .FloorDiv) ?_); refine o_div ⟨by decide, by decide⟩ ?_) | (with_reducible refine o_eqI ?_) | (with_reducible refine o_neI ?_) | (with_reducible refine o_eqS ?_) | (with_reducible refine o_neS ?_) | (with_reducible refine o_lt ?_) | (with_reducible refine o_le ?_) | (with_reducible refine o_gt ?_) | (with_reducible refine o_ge ?_) | (with_reducible refine o_p60 ?_) | (with_reducible refine o_p30 ?_) | ((with_reducible refine is_bo (op := .Pow) ?_); refine o_pow ⟨by decide, by decide, by decide⟩ ?_) | (with_reducible refine o_leS ?_) | (with_reducible refine o_ltS ?_) | (with_reducible refine o_inC ?_) | (with_reducible refine o_niC ?_) | (with_reducible refine o_eqB ?_) | (with_reducible refine o_neB ?_)) | (refine is_a ?_; first | refine a_cons ?_ | refine a_nil ?_) | (refine is_b ?_; first | refine b_cons ?_ | refine b_nil ?_) | (refine is_p ?_; first | refine p_none ?_ | refine p_some ?_) | (refine is_s ?_; first | refine s_set ?_ | refine s_if ?_ | refine s_ret ?_ | refine s_expr ?_ | refine s_retN ?_ | refine s_brk ?_ | refine s_cont ?_ | refine s_pass ?_ | refine s_augA rfl ?_ | refine s_asgT ?_ | (refine is_raise ?_; top_raise)) | (refine is_t ?_; first | refine t_isN ?_ | refine t_notN ?_ | refine t_cmp ?_ | refine t_chain ?_ | refine t_not ?_ | refine t_and ?_ | refine t_or ?_ | refine t_val ?_) | (refine is_c ?_; first | refine c_and1 ?_ | refine c_or1 ?_ | refine c_and ?_ | refine c_or ?_) | (refine is_g ?_; first | refine g_name ?_ | refine g_tup ⟨_, _, rfl, (by k_units), (by rfl), ?_⟩ | refine g_lst ⟨_, _, rfl, (by kl_some), (by rfl), ?_⟩) | (refine is_h ?_; first | refine h_cons ?_ | refine h_nil ?_) | (refine is_k ?_; first | refine k_min ?_ | refine k_max ?_ | refine k_ordC ?_ | refine k_lenL (by kl_some) ?_ | refine k_lenT (by k_units) ?_ | refine k_lenS (by kpc_check) ?_) | (refine is_and ?_; refine ⟨rfl, ?_⟩) | (refine is_ex ?_; first | refine ⟨_, rfl, ?_⟩ | refine ⟨_, _, rfl, ?_⟩ | refine ⟨_, _, _, rfl, ?_⟩ | refine ⟨_, _, rfl, rfl, ?_⟩ | refine ⟨_, _, _, rfl, rfl, rfl, ?_⟩ | refine ⟨_, _, _, _, rfl, ?_⟩ | refine ⟨_, _, _, _, _, rfl, ?_⟩ | refine ⟨_, _, _, _, _, _, rfl, ?_⟩) | ((first | (with_reducible refine is_ixP ?_) | (with_reducible refine is_ixN ?_)); first | refine i_tup (by k_units) rfl ?_ | refine i_lst (by kl_some) rfl ?_ | refine i_tup (by k_units) (atI_nat (by decide) rfl) ?_ | refine i_lst (by kl_some) (atI_nat (by decide) rfl) ?_)))
def top (i : Nat) : Stmt := PySem.Challenge.pw_forestread_k71_cost.main.body.getD i (.Pass ⟨0, 0, 0, 0⟩)
abbrev s_is_whole : Stmt := top 15
theorem sc_is_whole : FnScope ["thing"] ["thing"] (defScope s_is_whole) := ⟨rfl, rfl, rfl, by decide +kernel, rfl, by decide +kernel, by decide +kernel⟩
instance : NdN ["thing"] := ⟨sc_is_whole.nd⟩
abbrev X_is_whole (P : Program) (w : World) (K : PySem.W.Frag) (mg : Str → Option Value) (base : Heap) (f : Addr) (cdv : Value) (A : Around) (outer : List Env) (s : Shared) (H : Hp) (E : XK) : Cx := cxr P w K mg base ["thing"] "is_whole" s_is_whole f cdv A outer s H E
abbrev s_may_stand : Stmt := top 16
theorem sc_may_stand : FnScope ["sign"] ["sign"] (defScope s_may_stand) := ⟨rfl, rfl, rfl, by decide +kernel, rfl, by decide +kernel, by decide +kernel⟩
instance : NdN ["sign"] := ⟨sc_may_stand.nd⟩
abbrev X_may_stand (P : Program) (w : World) (K : PySem.W.Frag) (mg : Str → Option Value) (base : Heap) (f : Addr) (cdv : Value) (A : Around) (outer : List Env) (s : Shared) (H : Hp) (E : XK) : Cx := cxr P w K mg base ["sign"] "may_stand" s_may_stand f cdv A outer s H E
abbrev s_is_sign : Stmt := top 17
theorem sc_is_sign : FnScope ["thing"] ["thing"] (defScope s_is_sign) := ⟨rfl, rfl, rfl, by decide +kernel, rfl, by decide +kernel, by decide +kernel⟩
instance : NdN ["thing"] := ⟨sc_is_sign.nd⟩
abbrev X_is_sign (P : Program) (w : World) (K : PySem.W.Frag) (mg : Str → Option Value) (base : Heap) (f : Addr) (cdv : Value) (A : Around) (outer : List Env) (s : Shared) (H : Hp) (E : XK) : Cx := cxr P w K mg base ["thing"] "is_sign" s_is_sign f cdv A outer s H E
abbrev s_checked_text : Stmt := top 18
theorem sc_checked_text : FnScope ["thing", "sign"] ["thing"] (defScope s_checked_text) := ⟨rfl, rfl, rfl, by decide +kernel, rfl, by decide +kernel, by decide +kernel⟩
instance : NdN ["thing", "sign"] := ⟨sc_checked_text.nd⟩
abbrev X_checked_text (P : Program) (w : World) (K : PySem.W.Frag) (mg : Str → Option Value) (base : Heap) (f : Addr) (cdv : Value) (A : Around) (outer : List Env) (s : Shared) (H : Hp) (E : XK) : Cx := cxr P w K mg base ["thing", "sign"] "checked_text" s_checked_text f cdv A outer s H E
abbrev s_is_one_sign : Stmt := top 21
theorem sc_is_one_sign : FnScope ["thing"] ["thing"] (defScope s_is_one_sign) := ⟨rfl, rfl, rfl, by decide +kernel, rfl, by decide +kernel, by decide +kernel⟩
instance : NdN ["thing"] := ⟨sc_is_one_sign.nd⟩
abbrev X_is_one_sign (P : Program) (w : World) (K : PySem.W.Frag) (mg : Str → Option Value) (base : Heap) (f : Addr) (cdv : Value) (A : Around) (outer : List Env) (s : Shared) (H : Hp) (E : XK) : Cx := cxr P w K mg base ["thing"] "is_one_sign" s_is_one_sign f cdv A outer s H E
abbrev s_is_deed : Stmt := top 22
theorem sc_is_deed : FnScope ["thing", "sign"] ["thing"] (defScope s_is_deed) := ⟨rfl, rfl, rfl, by decide +kernel, rfl, by decide +kernel, by decide +kernel⟩
instance : NdN ["thing", "sign"] := ⟨sc_is_deed.nd⟩
abbrev X_is_deed (P : Program) (w : World) (K : PySem.W.Frag) (mg : Str → Option Value) (base : Heap) (f : Addr) (cdv : Value) (A : Around) (outer : List Env) (s : Shared) (H : Hp) (E : XK) : Cx := cxr P w K mg base ["thing", "sign"] "is_deed" s_is_deed f cdv A outer s H E
abbrev s_changed : Stmt := top 23
theorem sc_changed : FnScope ["text", "deeds", "place", "made", "deed"] ["text", "deeds"] (defScope s_changed) := ⟨rfl, rfl, rfl, by decide +kernel, rfl, by decide +kernel, by decide +kernel⟩
instance : NdN ["text", "deeds", "place", "made", "deed"] := ⟨sc_changed.nd⟩
abbrev X_changed (P : Program) (w : World) (K : PySem.W.Frag) (mg : Str → Option Value) (base : Heap) (f : Addr) (cdv : Value) (A : Around) (outer : List Env) (s : Shared) (H : Hp) (E : XK) : Cx := cxr P w K mg base ["text", "deeds", "place", "made", "deed"] "changed" s_changed f cdv A outer s H E
abbrev s_checked_costs : Stmt := top 24
theorem sc_checked_costs : FnScope ["thing", "cost"] ["thing"] (defScope s_checked_costs) := ⟨rfl, rfl, rfl, by decide +kernel, rfl, by decide +kernel, by decide +kernel⟩
instance : NdN ["thing", "cost"] := ⟨sc_checked_costs.nd⟩
abbrev X_checked_costs (P : Program) (w : World) (K : PySem.W.Frag) (mg : Str → Option Value) (base : Heap) (f : Addr) (cdv : Value) (A : Around) (outer : List Env) (s : Shared) (H : Hp) (E : XK) : Cx := cxr P w K mg base ["thing", "cost"] "checked_costs" s_checked_costs f cdv A outer s H E
abbrev s_cost_of : Stmt := top 25
theorem sc_cost_of : FnScope ["text", "deeds", "costs", "put", "cut", "swap", "by_word", "deed"] ["text", "deeds", "costs"] (defScope s_cost_of) := ⟨rfl, rfl, rfl, by decide +kernel, rfl, by decide +kernel, by decide +kernel⟩
instance : NdN ["text", "deeds", "costs", "put", "cut", "swap", "by_word", "deed"] := ⟨sc_cost_of.nd⟩
abbrev X_cost_of (P : Program) (w : World) (K : PySem.W.Frag) (mg : Str → Option Value) (base : Heap) (f : Addr) (cdv : Value) (A : Around) (outer : List Env) (s : Shared) (H : Hp) (E : XK) : Cx := cxr P w K mg base ["text", "deeds", "costs", "put", "cut", "swap", "by_word", "deed"] "cost_of" s_cost_of f cdv A outer s H E
abbrev s_law_cell_at : Stmt := top 27
theorem sc_law_cell_at : FnScope ["_law_script", "_law_k"] ["_law_script", "_law_k"] (defScope s_law_cell_at) := ⟨rfl, rfl, rfl, by decide +kernel, rfl, by decide +kernel, by decide +kernel⟩
instance : NdN ["_law_script", "_law_k"] := ⟨sc_law_cell_at.nd⟩
abbrev X_law_cell_at (P : Program) (w : World) (K : PySem.W.Frag) (mg : Str → Option Value) (base : Heap) (f : Addr) (cdv : Value) (A : Around) (outer : List Env) (s : Shared) (H : Hp) (E : XK) : Cx := cxr P w K mg base ["_law_script", "_law_k"] "_law_cell_at" s_law_cell_at f cdv A outer s H E
abbrev s_law_mixed : Stmt := top 28
theorem sc_law_mixed : FnScope ["_law_script", "_law_k", "_law_cell"] ["_law_script", "_law_k"] (defScope s_law_mixed) := ⟨rfl, rfl, rfl, by decide +kernel, rfl, by decide +kernel, by decide +kernel⟩
instance : NdN ["_law_script", "_law_k", "_law_cell"] := ⟨sc_law_mixed.nd⟩
abbrev X_law_mixed (P : Program) (w : World) (K : PySem.W.Frag) (mg : Str → Option Value) (base : Heap) (f : Addr) (cdv : Value) (A : Around) (outer : List Env) (s : Shared) (H : Hp) (E : XK) : Cx := cxr P w K mg base ["_law_script", "_law_k", "_law_cell"] "_law_mixed" s_law_mixed f cdv A outer s H E
abbrev s_law_all : Stmt := top 29
theorem sc_law_all : FnScope ["_law_some"] [] (defScope s_law_all) := ⟨rfl, rfl, rfl, by decide +kernel, rfl, by decide +kernel, by decide +kernel⟩
instance : NdN ["_law_some"] := ⟨sc_law_all.nd⟩
abbrev X_law_all (P : Program) (w : World) (K : PySem.W.Frag) (mg : Str → Option Value) (base : Heap) (f : Addr) (cdv : Value) (A : Around) (outer : List Env) (s : Shared) (H : Hp) (E : XK) : Cx := cxr P w K mg base ["_law_some"] "_law_all" s_law_all f cdv A outer s H E
abbrev s_law_made : Stmt := top 30
theorem sc_law_made : FnScope ["_law_cells", "_law_most", "_law_some", "_law_signs", "_law_deeds", "_law_cell", "_law_one", "_law_other", "_law_kind"] ["_law_cells", "_law_most"] (defScope s_law_made) := ⟨rfl, rfl, rfl, by decide +kernel, rfl, by decide +kernel, by decide +kernel⟩
instance : NdN ["_law_cells", "_law_most", "_law_some", "_law_signs", "_law_deeds", "_law_cell", "_law_one", "_law_other", "_law_kind"] := ⟨sc_law_made.nd⟩
abbrev X_law_made (P : Program) (w : World) (K : PySem.W.Frag) (mg : Str → Option Value) (base : Heap) (f : Addr) (cdv : Value) (A : Around) (outer : List Env) (s : Shared) (H : Hp) (E : XK) : Cx := cxr P w K mg base ["_law_cells", "_law_most", "_law_some", "_law_signs", "_law_deeds", "_law_cell", "_law_one", "_law_other", "_law_kind"] "_law_made" s_law_made f cdv A outer s H E
abbrev s_law_whole : Stmt := top 31
theorem sc_law_whole : FnScope ["_law_found"] ["_law_found"] (defScope s_law_whole) := ⟨rfl, rfl, rfl, by decide +kernel, rfl, by decide +kernel, by decide +kernel⟩
instance : NdN ["_law_found"] := ⟨sc_law_whole.nd⟩
abbrev X_law_whole (P : Program) (w : World) (K : PySem.W.Frag) (mg : Str → Option Value) (base : Heap) (f : Addr) (cdv : Value) (A : Around) (outer : List Env) (s : Shared) (H : Hp) (E : XK) : Cx := cxr P w K mg base ["_law_found"] "_law_whole" s_law_whole f cdv A outer s H E
abbrev s_law_fits : Stmt := top 32
theorem sc_law_fits : FnScope ["_law_signs", "_law_deeds", "_law_taken", "_law_deed"] ["_law_signs", "_law_deeds"] (defScope s_law_fits) := ⟨rfl, rfl, rfl, by decide +kernel, rfl, by decide +kernel, by decide +kernel⟩
instance : NdN ["_law_signs", "_law_deeds", "_law_taken", "_law_deed"] := ⟨sc_law_fits.nd⟩
abbrev X_law_fits (P : Program) (w : World) (K : PySem.W.Frag) (mg : Str → Option Value) (base : Heap) (f : Addr) (cdv : Value) (A : Around) (outer : List Env) (s : Shared) (H : Hp) (E : XK) : Cx := cxr P w K mg base ["_law_signs", "_law_deeds", "_law_taken", "_law_deed"] "_law_fits" s_law_fits f cdv A outer s H E
abbrev s_law_told : Stmt := top 33
theorem sc_law_told : FnScope ["_law_signs", "_law_deeds", "_law_costs", "_law_word", "_law_found", "e"] ["_law_signs", "_law_deeds", "_law_costs"] (defScope s_law_told) := ⟨rfl, rfl, rfl, by decide +kernel, rfl, by decide +kernel, by decide +kernel⟩
instance : NdN ["_law_signs", "_law_deeds", "_law_costs", "_law_word", "_law_found", "e"] := ⟨sc_law_told.nd⟩
abbrev X_law_told (P : Program) (w : World) (K : PySem.W.Frag) (mg : Str → Option Value) (base : Heap) (f : Addr) (cdv : Value) (A : Around) (outer : List Env) (s : Shared) (H : Hp) (E : XK) : Cx := cxr P w K mg base ["_law_signs", "_law_deeds", "_law_costs", "_law_word", "_law_found", "e"] "_law_told" s_law_told f cdv A outer s H E
abbrev s_law_any : Stmt := top 34
theorem sc_law_any : FnScope ["_law_signs", "_law_deeds", "_law_costs", "_law_good", "e"] ["_law_signs", "_law_deeds", "_law_costs"] (defScope s_law_any) := ⟨rfl, rfl, rfl, by decide +kernel, rfl, by decide +kernel, by decide +kernel⟩
instance : NdN ["_law_signs", "_law_deeds", "_law_costs", "_law_good", "e"] := ⟨sc_law_any.nd⟩
abbrev X_law_any (P : Program) (w : World) (K : PySem.W.Frag) (mg : Str → Option Value) (base : Heap) (f : Addr) (cdv : Value) (A : Around) (outer : List Env) (s : Shared) (H : Hp) (E : XK) : Cx := cxr P w K mg base ["_law_signs", "_law_deeds", "_law_costs", "_law_good", "e"] "_law_any" s_law_any f cdv A outer s H E
abbrev s_law_odd_deed : Stmt := top 35
theorem sc_law_odd_deed : FnScope ["_law_cell", "_law_one", "_law_some"] ["_law_cell"] (defScope s_law_odd_deed) := ⟨rfl, rfl, rfl, by decide +kernel, rfl, by decide +kernel, by decide +kernel⟩
instance : NdN ["_law_cell", "_law_one", "_law_some"] := ⟨sc_law_odd_deed.nd⟩
abbrev X_law_odd_deed (P : Program) (w : World) (K : PySem.W.Frag) (mg : Str → Option Value) (base : Heap) (f : Addr) (cdv : Value) (A : Around) (outer : List Env) (s : Shared) (H : Hp) (E : XK) : Cx := cxr P w K mg base ["_law_cell", "_law_one", "_law_some"] "_law_odd_deed" s_law_odd_deed f cdv A outer s H E
abbrev s_law_cost : Stmt := top 36
theorem sc_law_cost : FnScope ["_law_cell"] ["_law_cell"] (defScope s_law_cost) := ⟨rfl, rfl, rfl, by decide +kernel, rfl, by decide +kernel, by decide +kernel⟩
instance : NdN ["_law_cell"] := ⟨sc_law_cost.nd⟩
abbrev X_law_cost (P : Program) (w : World) (K : PySem.W.Frag) (mg : Str → Option Value) (base : Heap) (f : Addr) (cdv : Value) (A : Around) (outer : List Env) (s : Shared) (H : Hp) (E : XK) : Cx := cxr P w K mg base ["_law_cell"] "_law_cost" s_law_cost f cdv A outer s H E
abbrev s_law_odd_costs : Stmt := top 37
theorem sc_law_odd_costs : FnScope ["_law_costs", "_law_cell", "_law_at", "_law_far", "_law_some", "_law_kind"] ["_law_costs", "_law_cell"] (defScope s_law_odd_costs) := ⟨rfl, rfl, rfl, by decide +kernel, rfl, by decide +kernel, by decide +kernel⟩
instance : NdN ["_law_costs", "_law_cell", "_law_at", "_law_far", "_law_some", "_law_kind"] := ⟨sc_law_odd_costs.nd⟩
abbrev X_law_odd_costs (P : Program) (w : World) (K : PySem.W.Frag) (mg : Str → Option Value) (base : Heap) (f : Addr) (cdv : Value) (A : Around) (outer : List Env) (s : Shared) (H : Hp) (E : XK) : Cx := cxr P w K mg base ["_law_costs", "_law_cell", "_law_at", "_law_far", "_law_some", "_law_kind"] "_law_odd_costs" s_law_odd_costs f cdv A outer s H E
abbrev s_law_due : Stmt := top 38
theorem sc_law_due : FnScope ["_law_signs", "_law_deeds", "_law_costs", "_law_way", "_law_words", "_law_deed", "_law_sums"] ["_law_signs", "_law_deeds", "_law_costs", "_law_way"] (defScope s_law_due) := ⟨rfl, rfl, rfl, by decide +kernel, rfl, by decide +kernel, by decide +kernel⟩
instance : NdN ["_law_signs", "_law_deeds", "_law_costs", "_law_way", "_law_words", "_law_deed", "_law_sums"] := ⟨sc_law_due.nd⟩
abbrev X_law_due (P : Program) (w : World) (K : PySem.W.Frag) (mg : Str → Option Value) (base : Heap) (f : Addr) (cdv : Value) (A : Around) (outer : List Env) (s : Shared) (H : Hp) (E : XK) : Cx := cxr P w K mg base ["_law_signs", "_law_deeds", "_law_costs", "_law_way", "_law_words", "_law_deed", "_law_sums"] "_law_due" s_law_due f cdv A outer s H E
abbrev s_law : Stmt := top 39
theorem sc_law : FnScope ["_law_script", "_law_way", "_law_signs", "_law_deeds", "_law_costs", "_law_at", "_law_due_here", "_law_cell", "_law_handed", "_law_kept", "_law_found", "_law_swaps", "_law_deed"] ["_law_script"] (defScope s_law) := ⟨rfl, rfl, rfl, by decide +kernel, rfl, by decide +kernel, by decide +kernel⟩
instance : NdN ["_law_script", "_law_way", "_law_signs", "_law_deeds", "_law_costs", "_law_at", "_law_due_here", "_law_cell", "_law_handed", "_law_kept", "_law_found", "_law_swaps", "_law_deed"] := ⟨sc_law.nd⟩
abbrev X_law (P : Program) (w : World) (K : PySem.W.Frag) (mg : Str → Option Value) (base : Heap) (f : Addr) (cdv : Value) (A : Around) (outer : List Env) (s : Shared) (H : Hp) (E : XK) : Cx := cxr P w K mg base ["_law_script", "_law_way", "_law_signs", "_law_deeds", "_law_costs", "_law_at", "_law_due_here", "_law_cell", "_law_handed", "_law_kept", "_law_found", "_law_swaps", "_law_deed"] "law" s_law f cdv A outer s H E
structure Cs where
  z : Addr := 0
  ForestError : Addr
  NoGrammar : Addr
  NoText : Addr
  NoRow : Addr
  NoRule : Addr
  NoNumber : Addr
  NoCosts : Addr
  NoChange : Addr
  NoWords : Addr
  Endless : Addr
  TooGreat : Addr
  Barren : Addr
structure Txt (K : PySem.W.Frag) (mg : Str → Option Value) (cs : Cs) : Prop where
  b_ValueError : Gn mg "ValueError" none
  b_bool : Gn mg "bool" none
  b_int : Gn mg "int" none
  b_isinstance : Gn mg "isinstance" none
  b_len : Gn mg "len" none
  b_list : Gn mg "list" none
  b_ord : Gn mg "ord" none
  b_str : Gn mg "str" none
  b_sum : Gn mg "sum" none
  b_tuple : Gn mg "tuple" none
  k_MOST_SIGNS : ∃ t, mg "MOST_SIGNS" = some (.int (60) t)
  k_DEAREST : ∃ t, mg "DEAREST" = some (.int (1000000000000000000000000000000000000000000000000000000000000) t)
  x_ForestError : ExcF K mg "ForestError" cs.ForestError
  x_NoGrammar : ExcF K mg "NoGrammar" cs.NoGrammar
  x_NoText : ExcF K mg "NoText" cs.NoText
  x_NoRow : ExcF K mg "NoRow" cs.NoRow
  x_NoRule : ExcF K mg "NoRule" cs.NoRule
  x_NoNumber : ExcF K mg "NoNumber" cs.NoNumber
  x_NoCosts : ExcF K mg "NoCosts" cs.NoCosts
  x_NoChange : ExcF K mg "NoChange" cs.NoChange
  x_NoWords : ExcF K mg "NoWords" cs.NoWords
  x_Endless : ExcF K mg "Endless" cs.Endless
  x_TooGreat : ExcF K mg "TooGreat" cs.TooGreat
  x_Barren : ExcF K mg "Barren" cs.Barren
  s_NoText_ForestError : PySem.W.subIn K (.ref cs.NoText) (.ref cs.ForestError) = some true
  s_NoText_NoGrammar : PySem.W.subIn K (.ref cs.NoText) (.ref cs.NoGrammar) = some false
  s_NoText_NoText : PySem.W.subIn K (.ref cs.NoText) (.ref cs.NoText) = some true
  s_NoText_NoRow : PySem.W.subIn K (.ref cs.NoText) (.ref cs.NoRow) = some false
  s_NoText_NoRule : PySem.W.subIn K (.ref cs.NoText) (.ref cs.NoRule) = some false
  s_NoText_NoNumber : PySem.W.subIn K (.ref cs.NoText) (.ref cs.NoNumber) = some false
  s_NoText_NoCosts : PySem.W.subIn K (.ref cs.NoText) (.ref cs.NoCosts) = some false
  s_NoText_NoChange : PySem.W.subIn K (.ref cs.NoText) (.ref cs.NoChange) = some false
  s_NoText_NoWords : PySem.W.subIn K (.ref cs.NoText) (.ref cs.NoWords) = some false
  s_NoText_Endless : PySem.W.subIn K (.ref cs.NoText) (.ref cs.Endless) = some false
  s_NoText_TooGreat : PySem.W.subIn K (.ref cs.NoText) (.ref cs.TooGreat) = some false
  s_NoText_Barren : PySem.W.subIn K (.ref cs.NoText) (.ref cs.Barren) = some false
  s_NoCosts_ForestError : PySem.W.subIn K (.ref cs.NoCosts) (.ref cs.ForestError) = some true
  s_NoCosts_NoGrammar : PySem.W.subIn K (.ref cs.NoCosts) (.ref cs.NoGrammar) = some false
  s_NoCosts_NoText : PySem.W.subIn K (.ref cs.NoCosts) (.ref cs.NoText) = some false
  s_NoCosts_NoRow : PySem.W.subIn K (.ref cs.NoCosts) (.ref cs.NoRow) = some false
  s_NoCosts_NoRule : PySem.W.subIn K (.ref cs.NoCosts) (.ref cs.NoRule) = some false
  s_NoCosts_NoNumber : PySem.W.subIn K (.ref cs.NoCosts) (.ref cs.NoNumber) = some false
  s_NoCosts_NoCosts : PySem.W.subIn K (.ref cs.NoCosts) (.ref cs.NoCosts) = some true
  s_NoCosts_NoChange : PySem.W.subIn K (.ref cs.NoCosts) (.ref cs.NoChange) = some false
  s_NoCosts_NoWords : PySem.W.subIn K (.ref cs.NoCosts) (.ref cs.NoWords) = some false
  s_NoCosts_Endless : PySem.W.subIn K (.ref cs.NoCosts) (.ref cs.Endless) = some false
  s_NoCosts_TooGreat : PySem.W.subIn K (.ref cs.NoCosts) (.ref cs.TooGreat) = some false
  s_NoCosts_Barren : PySem.W.subIn K (.ref cs.NoCosts) (.ref cs.Barren) = some false
  s_NoChange_ForestError : PySem.W.subIn K (.ref cs.NoChange) (.ref cs.ForestError) = some true
  s_NoChange_NoGrammar : PySem.W.subIn K (.ref cs.NoChange) (.ref cs.NoGrammar) = some false
  s_NoChange_NoText : PySem.W.subIn K (.ref cs.NoChange) (.ref cs.NoText) = some false
  s_NoChange_NoRow : PySem.W.subIn K (.ref cs.NoChange) (.ref cs.NoRow) = some false
  s_NoChange_NoRule : PySem.W.subIn K (.ref cs.NoChange) (.ref cs.NoRule) = some false
  s_NoChange_NoNumber : PySem.W.subIn K (.ref cs.NoChange) (.ref cs.NoNumber) = some false
  s_NoChange_NoCosts : PySem.W.subIn K (.ref cs.NoChange) (.ref cs.NoCosts) = some false
  s_NoChange_NoChange : PySem.W.subIn K (.ref cs.NoChange) (.ref cs.NoChange) = some true
  s_NoChange_NoWords : PySem.W.subIn K (.ref cs.NoChange) (.ref cs.NoWords) = some false
  s_NoChange_Endless : PySem.W.subIn K (.ref cs.NoChange) (.ref cs.Endless) = some false
  s_NoChange_TooGreat : PySem.W.subIn K (.ref cs.NoChange) (.ref cs.TooGreat) = some false
  s_NoChange_Barren : PySem.W.subIn K (.ref cs.NoChange) (.ref cs.Barren) = some false
  f_is_whole : At K mg "is_whole" "is_whole" s_is_whole ["thing"]
  f_may_stand : At K mg "may_stand" "may_stand" s_may_stand ["sign"]
  f_is_sign : At K mg "is_sign" "is_sign" s_is_sign ["thing"]
  f_checked_text : At K mg "checked_text" "checked_text" s_checked_text ["thing"]
  f_is_one_sign : At K mg "is_one_sign" "is_one_sign" s_is_one_sign ["thing"]
  f_is_deed : At K mg "is_deed" "is_deed" s_is_deed ["thing"]
  f_changed : At K mg "changed" "changed" s_changed ["text", "deeds"]
  f_checked_costs : At K mg "checked_costs" "checked_costs" s_checked_costs ["thing"]
  f_cost_of : At K mg "cost_of" "cost_of" s_cost_of ["text", "deeds", "costs"]
  f_law_cell_at : At K mg "_law_cell_at" "_law_cell_at" s_law_cell_at ["_law_script", "_law_k"]
  f_law_mixed : At K mg "_law_mixed" "_law_mixed" s_law_mixed ["_law_script", "_law_k"]
  f_law_all : At K mg "_law_all" "_law_all" s_law_all []
  f_law_made : At K mg "_law_made" "_law_made" s_law_made ["_law_cells", "_law_most"]
  f_law_whole : At K mg "_law_whole" "_law_whole" s_law_whole ["_law_found"]
  f_law_fits : At K mg "_law_fits" "_law_fits" s_law_fits ["_law_signs", "_law_deeds"]
  f_law_told : At K mg "_law_told" "_law_told" s_law_told ["_law_signs", "_law_deeds", "_law_costs"]
  f_law_any : At K mg "_law_any" "_law_any" s_law_any ["_law_signs", "_law_deeds", "_law_costs"]
  f_law_odd_deed : At K mg "_law_odd_deed" "_law_odd_deed" s_law_odd_deed ["_law_cell"]
  f_law_cost : At K mg "_law_cost" "_law_cost" s_law_cost ["_law_cell"]
  f_law_odd_costs : At K mg "_law_odd_costs" "_law_odd_costs" s_law_odd_costs ["_law_costs", "_law_cell"]
  f_law_due : At K mg "_law_due" "_law_due" s_law_due ["_law_signs", "_law_deeds", "_law_costs", "_law_way"]
section
variable {P : Program} {w : World} {K : PySem.W.Frag} {mg : Str → Option Value} {base : Heap} {cs : Cs}
def okc (c : Nat) : Bool := decide (32 ≤ c) && (decide (c ≤ 126) && !decide (c = 37))
def isNameS (z : Str) : Bool := (decide (1 ≤ z.length) && decide (z.length ≤ 8)) && (tl z).all fun c => decide (65 ≤ c) && decide (c ≤ 90)
def isSignL : List Nat → Bool
  | [a, c] => decide (a = 39) && okc c
  | _ => false
def isSignS (z : Str) : Bool := isSignL (tl z)
def isNameD : PyData → Bool
  | .str z => isNameS z
  | _ => false
def isSignD : PyData → Bool
  | .str z => isSignS z
  | _ => false
def isWholeD (d : PyData) : Bool := isK d "int" && !isK d "bool"
theorem no_str {d : PyData} : (∃ z, d = .str z) ∨ (isK d "str" = false ∧ isNameD d = false ∧ isSignD d = false) := by
  cases d <;> first | exact .inl ⟨_, rfl⟩ | exact .inr ⟨rfl, rfl, rfl⟩
theorem tl_str (l : List Nat) : tl (⟨l.toArray⟩ : Str) = l := rfl
theorem str_tl (z : Str) : z = ⟨(tl z).toArray⟩ := (mk_tl z).symm
theorem lo_sp (c : Nat) : (!decide (tl (⟨#[c]⟩ : Str) < tl (Str.ofString " "))) = decide (32 ≤ c) := by
  have e : tl (Str.ofString " ") = [32] := by decide +kernel
  rw [e]
  by_cases h : 32 ≤ c
  · rw [decide_eq_true h, decide_eq_false (show ¬ ([c] < [32]) from fun q => by have := (lt1 c 32).mp q; omega)]; rfl
  · rw [decide_eq_false h, decide_eq_true (show ([c] < [32]) from (lt1 c 32).mpr (by omega))]; rfl
theorem hi_ti (c : Nat) : (!decide (tl (Str.ofString "~") < tl (⟨#[c]⟩ : Str))) = decide (c ≤ 126) := by
  have e : tl (Str.ofString "~") = [126] := by decide +kernel
  rw [e]
  by_cases h : c ≤ 126
  · rw [decide_eq_true h, decide_eq_false (show ¬ ([126] < [c]) from fun q => by have := (lt1 126 c).mp q; omega)]; rfl
  · rw [decide_eq_false h, decide_eq_true (show ([126] < [c]) from (lt1 126 c).mpr (by omega))]; rfl
theorem lo_A (c : Nat) : (!decide (tl (⟨#[c]⟩ : Str) < tl (Str.ofString "A"))) = decide (65 ≤ c) := by
  have e : tl (Str.ofString "A") = [65] := by decide +kernel
  rw [e]
  by_cases h : 65 ≤ c
  · rw [decide_eq_true h, decide_eq_false (show ¬ ([c] < [65]) from fun q => by have := (lt1 c 65).mp q; omega)]; rfl
  · rw [decide_eq_false h, decide_eq_true (show ([c] < [65]) from (lt1 c 65).mpr (by omega))]; rfl
theorem hi_Z (c : Nat) : (!decide (tl (Str.ofString "Z") < tl (⟨#[c]⟩ : Str))) = decide (c ≤ 90) := by
  have e : tl (Str.ofString "Z") = [90] := by decide +kernel
  rw [e]
  by_cases h : c ≤ 90
  · rw [decide_eq_true h, decide_eq_false (show ¬ ([90] < [c]) from fun q => by have := (lt1 90 c).mp q; omega)]; rfl
  · rw [decide_eq_false h, decide_eq_true (show ([90] < [c]) from (lt1 90 c).mpr (by omega))]; rfl
theorem one_eq (a : Nat) (l : List Nat) (t : String) (h : tl (Str.ofString t) = l) : ((⟨#[a]⟩ : Str) = Str.ofString t) ↔ [a] = l := by
  constructor
  · intro e
    rw [← h, ← e]
  · intro e
    exact ext_tl (by rw [h, ← e])
theorem is_quote (a : Nat) : decide ((⟨#[a]⟩ : Str) = Str.ofString "'") = decide (a = 39) := decide_eq_decide.mpr (by rw [one_eq a [39] "'" (by decide +kernel)]; simp)
def R_is_whole (K : PySem.W.Frag) : V → Hp → VK → XK → Prop := fun x H Q _ => ∃ d, Th K H x d ∧ Q (.bl (isWholeD d)) H
section
theorem ok_is_whole {f : Addr} {fd : FuncData} (F : Fun K "is_whole" "is_whole" s_is_whole f fd) (T : Txt K mg cs) : FnOk P w K mg base (L2.CX P w) 1 f fd ["thing"] (sp1 (R_is_whole K)) := by
  refine F.okX sc_is_whole (fun vs H Q E h => sp1_len h) (fun cdv A outer s H vs Q E hr h => ⟨_, PBw (X := X_is_whole P w K mg base f cdv A outer s H E), ?_⟩)
  obtain ⟨a0, rfl, h⟩ := h
  have ib_isinstance := T.b_isinstance
  have ib_int := T.b_int
  have ib_bool := T.b_bool
  have hr' : Room 0 (X_is_whole P w K mg base f cdv A outer s H E).A := hr
  replace hr := hr'
  clear hr'
  obtain ⟨d, hd, h⟩ := h
  wp_step
  refine e_andJ (d := !isK d "bool") ?_
  wp_step
  refine k_isInt hd ⟨_, rfl, fun _ Q' q => ?_, h⟩
  wp_step
  refine k_isBool hd ?_
  wp_step
  exact q
end
theorem df_is_whole (T : Txt K mg cs) : Df P w K mg base "is_whole" 1 ["thing"] (sp1 (R_is_whole K)) := by
  obtain ⟨f, fd, hm, F, hb⟩ := T.f_is_whole.ex
  exact ⟨f, fd, hm, F.kp, hb, ok_is_whole F T⟩
def R_may_stand : V → Hp → VK → XK → Prop := fun x H Q _ => ∃ c, x = .str ⟨#[c]⟩ ∧ Q (.bl (okc c)) H
section
theorem ok_may_stand {f : Addr} {fd : FuncData} (F : Fun K "may_stand" "may_stand" s_may_stand f fd) (T : Txt K mg cs) : FnOk P w K mg base (L2.CX P w) 1 f fd ["sign"] (sp1 (R_may_stand)) := by
  refine F.okX sc_may_stand (fun vs H Q E h => sp1_len h) (fun cdv A outer s H vs Q E hr h => ⟨_, PBw (X := X_may_stand P w K mg base f cdv A outer s H E), ?_⟩)
  obtain ⟨a0, rfl, h⟩ := h
  have ib_ord := T.b_ord
  have hr' : Room 0 (X_may_stand P w K mg base f cdv A outer s H E).A := hr
  replace hr := hr'
  clear hr'
  obtain ⟨c, rfl, h⟩ := h
  wp_step
  refine e_and ?_
  refine e_chain ?_
  wp_step
  rw [lo_sp]
  refine iteD (fun c1 => ?_) fun c1 => ?_
  · wp_step
    rw [hi_ti]
    refine iteD (fun c2 => ?_) fun c2 => ?_
    · wp_step
      have e : okc c = !decide ((c : Int) = 37) := by
        simp only [okc, decide_eq_true c1, decide_eq_true c2, Bool.true_and]
        congr 1
        exact decide_eq_decide.mpr (by omega)
      rw [e] at h
      exact h
    · have e : okc c = false := by simp only [okc, decide_eq_false c2, Bool.false_and, Bool.and_false]
      rw [e] at h
      exact h
  · wp_step
    have e : okc c = false := by simp only [okc, decide_eq_false c1, Bool.false_and]
    rw [e] at h
    exact h
end
theorem df_may_stand (T : Txt K mg cs) : Df P w K mg base "may_stand" 1 ["sign"] (sp1 (R_may_stand)) := by
  obtain ⟨f, fd, hm, F, hb⟩ := T.f_may_stand.ex
  exact ⟨f, fd, hm, F.kp, hb, ok_may_stand F T⟩
def R_is_sign (K : PySem.W.Frag) : V → Hp → VK → XK → Prop := fun x H Q _ => ∃ d, Th K H x d ∧ Q (.bl (isSignD d)) H
section
set_option hygiene false in
local macro_rules | `(tactic| top_name) => `(tactic| first | refine e_call (df_may_stand T) (hr.mono (by decide)) ?_)
theorem ok_is_sign {f : Addr} {fd : FuncData} (F : Fun K "is_sign" "is_sign" s_is_sign f fd) (T : Txt K mg cs) : FnOk P w K mg base (L2.CX P w) 2 f fd ["thing"] (sp1 (R_is_sign K)) := by
  refine F.okX sc_is_sign (fun vs H Q E h => sp1_len h) (fun cdv A outer s H vs Q E hr h => ⟨_, PBw (X := X_is_sign P w K mg base f cdv A outer s H E), ?_⟩)
  obtain ⟨a0, rfl, h⟩ := h
  have ib_isinstance := T.b_isinstance
  have ib_str := T.b_str
  have ib_len := T.b_len
  have hr' : Room 1 (X_is_sign P w K mg base f cdv A outer s H E).A := hr
  replace hr := hr'
  clear hr'
  obtain ⟨d, hd, h⟩ := h
  wp_step
  refine e_and ?_
  wp_step
  refine k_isStr hd ⟨_, rfl, ?_⟩
  rcases no_str (d := d) with ⟨z, rfl⟩ | ⟨e1, _, e2⟩
  · cases hd with
    | str _ hz =>
    wp_step
    refine e_and ?_
    wp_step
    refine k_lenS (sz1m hz) ?_
    wp_step
    generalize hl : tl z = l at *
    have hlen : z.length = l.length := by rw [len_tl, hl]
    have hs : isSignD (.str z) = isSignL l := by show isSignL (tl z) = _; rw [hl]
    rw [hs] at h
    refine iteD (fun c => ?_) fun c => ?_
    · match l, hl, hlen, h, hs with
      | [a, c'], hl, hlen, h, _ =>
        refine e_and ?_
        wp_step
        refine i_str (sz1m hz) (c := a) ?_ ?_
        · rw [show z.cps.toList = [a, c'] from hl]
          rfl
        wp_step
        rw [is_quote]
        refine iteD (fun c2 => ?_) fun c2 => ?_
        · wp_step
          refine e_call (df_may_stand T) (hr.mono (by decide)) ?_
          wp_step
          refine i_str (sz1m hz) (c := c') ?_ ?_
          · rw [show z.cps.toList = [a, c'] from hl]
            rfl
          wp_step
          have e : isSignL [a, c'] = okc c' := by simp only [isSignL, decide_eq_true c2, Bool.true_and]
          rw [e] at h
          exact h
        · have e : isSignL [a, c'] = false := by simp only [isSignL, decide_eq_false c2, Bool.false_and]
          rw [e] at h
          exact h
      | [], _, hlen, _, _ => simp at hlen; omega
      | [_], _, hlen, _, _ => simp at hlen; omega
      | _ :: _ :: _ :: _, _, hlen, _, _ => simp at hlen; omega
    · have e : isSignL l = false := by
        match l, hlen with
        | [], _ => rfl
        | [_], _ => rfl
        | [_, _], hlen => simp at hlen; omega
        | _ :: _ :: _ :: _, _ => rfl
      rw [e] at h
      exact h
  · rw [e1]
    rw [e2] at h
    exact iteF h
end
theorem df_is_sign (T : Txt K mg cs) : Df P w K mg base "is_sign" 2 ["thing"] (sp1 (R_is_sign K)) := by
  obtain ⟨f, fd, hm, F, hb⟩ := T.f_is_sign.ex
  exact ⟨f, fd, hm, F.kp, hb, ok_is_sign F T⟩
abbrev top60 : Int := 1000000000000000000000000000000000000000000000000000000000000
def isPartD (d : PyData) : Bool := isSignD d || isNameD d
def arePartsD : PyData → Bool
  | .tuple ds => decide (ds.length ≤ 6) && ds.all isPartD
  | _ => false
def isWorthD : PyData → Bool
  | .int i => decide (0 ≤ i) && decide (i ≤ top60)
  | _ => false
def isRuleL : List PyData → Bool
  | [h, p, w] => (isNameD h && arePartsD p) && isWorthD w
  | _ => false
def isRuleD : PyData → Bool
  | .tuple ds => isRuleL ds
  | _ => false
theorem no_tup {d : PyData} : (∃ ds, d = .tuple ds) ∨ (isK d "tuple" = false ∧ arePartsD d = false ∧ isRuleD d = false) := by
  cases d <;> first | exact .inl ⟨_, rfl⟩ | exact .inr ⟨rfl, rfl, rfl⟩
theorem len3 {α : Type} {l : List α} (h : l.length = 3) : ∃ a b c, l = [a, b, c] := by
  match l, h with
  | [a, b, c], _ => exact ⟨a, b, c, rfl⟩
theorem rule_len {ds : List PyData} (h : ¬ ds.length = 3) : isRuleL ds = false := by
  match ds, h with
  | [], _ => rfl
  | [_], _ => rfl
  | [_, _], _ => rfl
  | [_, _, _], h => exact absurd rfl h
  | _ :: _ :: _ :: _ :: _, _ => rfl
theorem th3 {K : PySem.W.Frag} {H : Hp} {vs : List V} {a b c : PyData} (h : ThAll K H vs [a, b, c]) : ∃ x y z, vs = [x, y, z] ∧ Th K H x a ∧ Th K H y b ∧ Th K H z c := by
  cases h with
  | cons h0 h => cases h with
    | cons h1 h => cases h with
      | cons h2 h => cases h; exact ⟨_, _, _, rfl, h0, h1, h2⟩
theorem th_whole {K : PySem.W.Frag} {H : Hp} {v : V} {d : PyData} (h : Th K H v d) : (∃ n, d = .int n ∧ v = .int n) ∨ (isWholeD d = false ∧ isWorthD d = false) := by
  cases h <;> first | exact .inl ⟨_, rfl, rfl⟩ | exact .inr ⟨rfl, rfl⟩
def abcL : List Nat := [65, 66, 67, 68, 69, 70, 71, 72, 73, 74, 75, 76, 77, 78, 79, 80, 81, 82, 83, 84, 85, 86, 87, 88, 89, 90]
theorem abc_at {i : Int} (h0 : 0 ≤ i) (h1 : i < 26) {L : List Nat} (hL : L = abcL) : ∃ c, atI L i = some c ∧ 65 ≤ c ∧ c ≤ 90 := by
  subst hL
  exact atI_all (P := fun c => 65 ≤ c ∧ c ≤ 90) h0 (by simpa [abcL] using h1) (by decide)
theorem abc_tl : tl (Str.ofString "ABCDEFGHIJKLMNOPQRSTUVWXYZ") = abcL := by decide +kernel
/-- n letters -/
structure Letters (n : Nat) (z : Str) : Prop where
  len : z.length = n
  all : ∀ c ∈ tl z, 65 ≤ c ∧ c ≤ 90
theorem Letters.name {n : Nat} {z : Str} (h : Letters n z) (h1 : 1 ≤ n) (h2 : n ≤ 8) : isNameS z = true := by
  unfold isNameS
  rw [h.len, decide_eq_true h1, decide_eq_true h2]
  simp only [Bool.and_self, Bool.true_and, List.all_eq_true, Bool.and_eq_true, decide_eq_true_eq]
  exact h.all
theorem Letters.snoc {n : Nat} {z : Str} {c : Nat} (h : Letters n z) (h1 : 65 ≤ c) (h2 : c ≤ 90) : Letters (n + 1) (z ++ ⟨#[c]⟩) := by
  refine ⟨?_, fun d hd => ?_⟩
  · rw [len_tl, tl_append, List.length_append, ← len_tl, h.len]
    rfl
  · rw [tl_append] at hd
    rcases List.mem_append.mp hd with q | q
    · exact h.all d q
    · have : d = c := by simpa [tl] using q
      rw [this]
      exact ⟨h1, h2⟩
theorem lenA (x y : Str) : (x ++ y).length = x.length + y.length := by rw [len_tl, tl_append, List.length_append, ← len_tl, ← len_tl]
theorem Letters.zero : Letters 0 (Str.ofString "") := ⟨by decide +kernel, by
  have e : tl (Str.ofString "") = [] := by decide +kernel
  rw [e]
  simp⟩
theorem Letters.one {c : Nat} (h1 : 65 ≤ c) (h2 : c ≤ 90) : Letters 1 ⟨#[c]⟩ := ⟨rfl, fun d hd => by
  have : d = c := by simpa [tl] using hd
  rw [this]
  exact ⟨h1, h2⟩⟩
theorem Letters.app {n m : Nat} {a b : Str} (h : Letters n a) (k : Letters m b) : Letters (n + m) (a ++ b) := ⟨by rw [lenA, h.len, k.len], fun c hc => by
  rw [tl_append] at hc
  rcases List.mem_append.mp hc with q | q
  · exact h.all c q
  · exact k.all c q⟩
theorem Letters.to {n : Nat} {z : Str} {i : Int} (h : Letters n z) (h0 : 0 ≤ i) (h1 : i ≤ n) : Letters i.toNat (cutS z none (some i)) := ⟨by
  rw [len_tl, cutS_to z h0, List.length_take, ← len_tl, h.len]
  omega, fun c hc => by
  rw [cutS_to z h0] at hc
  exact h.all c (List.mem_of_mem_take hc)⟩
theorem Letters.from {n : Nat} {z : Str} {i : Int} (h : Letters n z) (h0 : 0 ≤ i) (h1 : i ≤ n) : Letters (n - i.toNat) (cutS z (some i) none) := ⟨by
  rw [len_tl, cutS_from z h0, List.length_drop, ← len_tl, h.len], fun c hc => by
  rw [cutS_from z h0] at hc
  exact h.all c (List.mem_of_mem_drop hc)⟩
theorem Letters.rep {n k : Nat} {z y : Str} (h : Letters n z) (e : tl y = (List.replicate k (tl z)).flatten) : Letters (k * n) y := ⟨by
  rw [len_tl, e, List.length_flatten, List.map_replicate, List.sum_replicate_nat, ← len_tl, h.len], fun c hc => by
  rw [e] at hc
  obtain ⟨l, hl, hc2⟩ := List.mem_flatten.mp hc
  rw [List.eq_of_mem_replicate hl] at hc2
  exact h.all c hc2⟩
theorem strs_of {ys : List V} {P : Str → Prop} (h : ∀ y ∈ ys, ∃ p, y = .str p ∧ P p) : ∃ ps : List Str, ys = ps.map V.str ∧ ∀ p ∈ ps, P p := by
  induction ys with
  | nil => exact ⟨[], rfl, by simp⟩
  | cons y ys ih =>
    obtain ⟨p, rfl, hp⟩ := h y (List.mem_cons_self ..)
    obtain ⟨ps, rfl, hps⟩ := ih fun z hz => h z (List.mem_cons_of_mem _ hz)
    exact ⟨p :: ps, rfl, fun q hq => by
      rcases List.mem_cons.mp hq with rfl | hq
      · exact hp
      · exact hps q hq⟩
theorem ix_any {H : Hp} {p : Addr} {xs : List V} {i : Int} (k : H p = some (.lst xs)) (P : V → Prop) (hP : ∀ x ∈ xs, P x) (h0 : 0 ≤ i) (h1 : i < xs.length) : ∃ v, atI xs i = some v ∧ P v := atI_all (P := P) h0 h1 hP

def isTextD : PyData → Bool
  | .str z => decide (z.length ≤ 60) && (tl z).all okc
  | _ => false
theorem textD_no {d : PyData} (h : isK d "str" = false) : isTextD d = false := by
  cases d <;> first | rfl | (exact Bool.noConfusion h)
def R_checked_text (K : PySem.W.Frag) (cs : Cs) : V → Hp → VK → XK → Prop := fun x H Q E => ∃ d, Th K H x d ∧ (isTextD d = true → Q x H) ∧ (isTextD d = false → E (.ref cs.NoText) none H)
section
set_option hygiene false in
local macro_rules | `(tactic| top_name) => `(tactic| first | refine e_call (df_may_stand T) (hr.mono (by decide)) ?_)
set_option hygiene false in
local macro_rules | `(tactic| top_raise) => `(tactic| first | refine s_raise T.x_NoText ?_)
theorem ok_checked_text {f : Addr} {fd : FuncData} (F : Fun K "checked_text" "checked_text" s_checked_text f fd) (T : Txt K mg cs) : FnOk P w K mg base (L2.CX P w) 2 f fd ["thing"] (sp1 (R_checked_text K cs)) := by
  refine F.okX sc_checked_text (fun vs H Q E h => sp1_len h) (fun cdv A outer s H vs Q E hr h => ⟨_, PBw (X := X_checked_text P w K mg base f cdv A outer s H E), ?_⟩)
  obtain ⟨a0, rfl, h⟩ := h
  obtain ⟨t_MOST_SIGNS, h_MOST_SIGNS⟩ := T.k_MOST_SIGNS
  have ib_MOST_SIGNS : Gn mg "MOST_SIGNS" (some _) := ⟨h_MOST_SIGNS⟩
  have ib_NoText : Gn mg "NoText" (some _) := ⟨T.x_NoText.mg⟩
  have ib_isinstance := T.b_isinstance
  have ib_str := T.b_str
  have ib_len := T.b_len
  have hr' : Room 1 (X_checked_text P w K mg base f cdv A outer s H E).A := hr
  replace hr := hr'
  clear hr'
  obtain ⟨d, hd, h1, h2⟩ := h
  wp_step
  refine k_isStr hd ⟨_, rfl, ?_⟩
  rcases no_str (d := d) with ⟨z, rfl⟩ | ⟨e1, _, _⟩
  · cases hd with
    | str _ hz =>
    wp_step
    refine k_lenS (sz1m hz) ?_
    wp_step
    refine iteD (fun c => ?_) fun c => ?_
    · wp_step
      refine s_raise T.x_NoText ?_
      refine h2 ?_
      show (decide (z.length ≤ 60) && _) = false
      rw [decide_eq_false (by omega), Bool.false_and]
    · wp_step
      have hgood : isTextD (.str z) = (tl z).all okc := by
        show (decide (z.length ≤ 60) && _) = _
        rw [decide_eq_true (by omega), Bool.true_and]
      rw [hgood] at h1 h2
      refine s_for (j_str ?_)
      wp_step
      refine ⟨_, _, _, walk_str, fun i σ' H' => (∃ v, σ' = [some (.str z), v]) ∧ H' = H ∧ ((tl z).take i).all okc = true, ⟨⟨_, rfl⟩, rfl, rfl⟩, fun _ _ _ _ _ => trivial, ?_, ?_⟩
      · rintro i x σ' H' H2 hi ⟨⟨v, rfl⟩, rfl, hall⟩ ⟨rfl, c, hc, rfl⟩
        have hc' : (tl z)[i]? = some c := by simpa [tl] using hc
        wp_step
        refine e_call (df_may_stand T) (hr.mono (by decide)) ?_
        wp_step
        cases ho : okc c with
        | true =>
          wp_step
          exact ⟨⟨_, rfl⟩, rfl, by rw [all_snoc hc', hall, ho]; rfl⟩
        | false =>
          wp_step
          refine s_raise T.x_NoText ?_
          exact h2 (all_cut hc' ho)
      · rintro σ' H' ⟨⟨v, rfl⟩, rfl, hall⟩
        wp_step
        rw [show z.cps.size = (tl z).length by simp [tl], List.take_length] at hall
        exact h1 hall
  · rw [e1]
    wp_step
    refine s_raise T.x_NoText ?_
    exact h2 (textD_no e1)

end
theorem df_checked_text (T : Txt K mg cs) : Df P w K mg base "checked_text" 2 ["thing"] (sp1 (R_checked_text K cs)) := by
  obtain ⟨f, fd, hm, F, hb⟩ := T.f_checked_text.ex
  exact ⟨f, fd, hm, F.kp, hb, ok_checked_text F T⟩
inductive Deed where
  | keep (c : Nat) | cut (c : Nat) | put (c : Nat) | swap (c d : Nat)
  deriving DecidableEq
def oneL : List Nat → Option Nat
  | [c] => if okc c = true then some c else none
  | _ => none
def oneD : PyData → Option Nat
  | .str z => oneL (tl z)
  | _ => none
def deedL (w : Str) : List PyData → Option Deed
  | [a] => (oneD a).bind fun c => if w = Str.ofString "keep" then some (.keep c) else if w = Str.ofString "cut" then some (.cut c) else if w = Str.ofString "put" then some (.put c) else none
  | [a, b] => (oneD a).bind fun c => (oneD b).bind fun d => if w = Str.ofString "swap" ∧ ¬ c = d then some (.swap c d) else none
  | _ => none
def deedD : PyData → Option Deed
  | .tuple (.str w :: r) => deedL w r
  | _ => none
/-- what a change makes of signs -/
def changeL : List Nat → List Deed → Option (List Nat)
  | l, [] => if l = [] then some [] else none
  | l, .put c :: r => (changeL l r).map (c :: ·)
  | x :: l, .keep c :: r => if x = c then (changeL l r).map (c :: ·) else none
  | x :: l, .cut c :: r => if x = c then changeL l r else none
  | x :: l, .swap c d :: r => if x = c then (changeL l r).map (d :: ·) else none
  | [], _ :: _ => none
theorem one_of {z : Str} : isSignS (Str.ofString "'" ++ z) = (oneL (tl z)).isSome := by
  have e : tl (Str.ofString "'" ++ z) = 39 :: tl z := by rw [tl_append, show tl (Str.ofString "'") = [39] from by decide +kernel]; rfl
  unfold isSignS
  rw [e]
  match tl z with
  | [] => rfl
  | [c] =>
    show (decide (39 = 39) && okc c) = (oneL [c]).isSome
    cases h : okc c <;> simp [oneL, h]
  | _ :: _ :: _ => rfl
/-- texts in a thing are short -/
def shortD : PyData → Prop
  | .str z => z.length ≤ 1000
  | _ => True
theorem one_no {d : PyData} (h : isK d "str" = false) : oneD d = none := by
  cases d <;> first | rfl | (exact Bool.noConfusion h)
def R_is_one_sign (K : PySem.W.Frag) : V → Hp → VK → XK → Prop := fun x H Q _ => ∃ d, Th K H x d ∧ shortD d ∧ Q (.bl (oneD d).isSome) H
section
set_option hygiene false in
local macro_rules | `(tactic| top_name) => `(tactic| first | refine e_call (df_is_sign T) (hr.mono (by decide)) ?_)
theorem ok_is_one_sign {f : Addr} {fd : FuncData} (F : Fun K "is_one_sign" "is_one_sign" s_is_one_sign f fd) (T : Txt K mg cs) : FnOk P w K mg base (L2.CX P w) 3 f fd ["thing"] (sp1 (R_is_one_sign K)) := by
  refine F.okX sc_is_one_sign (fun vs H Q E h => sp1_len h) (fun cdv A outer s H vs Q E hr h => ⟨_, PBw (X := X_is_one_sign P w K mg base f cdv A outer s H E), ?_⟩)
  obtain ⟨a0, rfl, h⟩ := h
  have ib_isinstance := T.b_isinstance
  have ib_str := T.b_str
  have hr' : Room 2 (X_is_one_sign P w K mg base f cdv A outer s H E).A := hr
  replace hr := hr'
  clear hr'
  obtain ⟨d, hd, hb, h⟩ := h
  wp_step
  refine e_and ?_
  wp_step
  refine k_isStr hd ⟨_, rfl, ?_⟩
  rcases no_str (d := d) with ⟨z, rfl⟩ | ⟨e1, _, _⟩
  · have hz : z.length ≤ 1000 := hb
    cases hd with
    | str _ _ =>
    wp_step
    refine e_call (df_is_sign T) (hr.mono (by decide)) ?_
    wp_step
    have q1 : (Str.ofString "'").length = 1 := by decide +kernel
    have la : (Str.ofString "'" ++ z).length = 1 + z.length := by rw [len_tl, tl_append, List.length_append, ← len_tl, ← len_tl, q1]
    refine o_cat (by rw [q1, sizeLine_eq]; omega) ?_
    wp_step
    refine ⟨_, .str _ (by rw [la]; omega), ?_⟩
    rw [show isSignD (.str (Str.ofString "'" ++ z)) = (oneL (tl z)).isSome from one_of]
    exact h
  · rw [e1]
    rw [one_no e1] at h
    exact iteF h
end
theorem df_is_one_sign (T : Txt K mg cs) : Df P w K mg base "is_one_sign" 3 ["thing"] (sp1 (R_is_one_sign K)) := by
  obtain ⟨f, fd, hm, F, hb⟩ := T.f_is_one_sign.ex
  exact ⟨f, fd, hm, F.kp, hb, ok_is_one_sign F T⟩
def shortAll (ds : List PyData) : Prop := ∀ d ∈ ds, shortD d
theorem deed_len {w : Str} {r : List PyData} (h : ¬ (r.length = 1 ∨ r.length = 2)) : deedL w r = none := by
  match r, h with
  | [], _ => rfl
  | [_], h => exact absurd (.inl rfl) h
  | [_, _], h => exact absurd (.inr rfl) h
  | _ :: _ :: _ :: _, _ => rfl
theorem deed_bad {w : Str} {r : List PyData} {d : PyData} (hm : d ∈ r) (h : oneD d = none) : deedL w r = none := by
  match r, hm with
  | [a], hm =>
    rw [List.mem_singleton] at hm
    subst hm
    simp [deedL, h]
  | [a, b], hm =>
    simp only [List.mem_cons, List.not_mem_nil, or_false] at hm
    rcases hm with rfl | rfl
    · simp [deedL, h]
    · cases e : oneD a <;> simp [deedL, h, e]
  | _ :: _ :: _ :: _, _ => rfl
theorem th_tup {K : PySem.W.Frag} {H : Hp} {v : V} {d : PyData} (h : Th K H v d) : (∃ a vs ds, v = .ref a ∧ d = .tuple ds ∧ SqT K H a vs ∧ ThAll K H vs ds) ∨ isK d "tuple" = false := by
  cases h <;> first | exact .inl ⟨_, _, _, rfl, rfl, ‹_›, ‹_›⟩ | exact .inr rfl
theorem two_of {K : PySem.W.Frag} {H : Hp} {vs : List V} {ds : List PyData} (h : ThAll K H vs ds) (hl : vs.length = 2) : ∃ a b x y, ds = [a, b] ∧ vs = [x, y] ∧ Th K H x a ∧ Th K H y b := by
  cases h with
  | nil => simp at hl
  | cons h0 h => cases h with
    | nil => simp at hl
    | cons h1 h => cases h with
      | nil => exact ⟨_, _, _, _, rfl, rfl, h0, h1⟩
      | cons h2 h => simp at hl
theorem one_of2 {K : PySem.W.Frag} {H : Hp} {vs : List V} {ds : List PyData} (h : ThAll K H vs ds) (hl : vs.length = 1) : ∃ a x, ds = [a] ∧ vs = [x] ∧ Th K H x a := by
  cases h with
  | nil => simp at hl
  | cons h0 h => cases h with
    | nil => exact ⟨_, _, rfl, rfl, h0⟩
    | cons h1 h => simp at hl
theorem one_is {K : PySem.W.Frag} {H : Hp} {v : V} {d : PyData} (h : Th K H v d) (ho : (oneD d).isSome = true) : ∃ z c, d = .str z ∧ v = .str z ∧ oneD (.str z) = some c := by
  cases h <;> first | (obtain ⟨c, hc⟩ := Option.isSome_iff_exists.mp ho; exact ⟨_, c, rfl, rfl, hc⟩) | (exact Bool.noConfusion ho)
theorem one_tl {z : Str} {c : Nat} (h : oneD (.str z) = some c) : tl z = [c] := by
  have h : oneL (tl z) = some c := h
  match e : tl z, h with
  | [x], h =>
    have h : (if okc x = true then some x else none) = some c := h
    by_cases q : okc x = true
    · rw [if_pos q] at h
      rw [Option.some.inj h]
    · rw [if_neg q] at h
      cases h
  | [], h => cases h
  | _ :: _ :: _, h => cases h
theorem swap_is {za zb : Str} {ca cb : Nat} (ea : oneD (.str za) = some ca) (eb : oneD (.str zb) = some cb) : (deedL (Str.ofString "swap") [.str za, .str zb]).isSome = !decide (za = zb) := by
  have e : (za = zb) ↔ ca = cb := ⟨fun q => by
    have := one_tl ea
    rw [q, one_tl eb] at this
    simpa using this.symm, fun q => ext_tl (by rw [one_tl ea, one_tl eb, q])⟩
  simp only [deedL, ea, eb, Option.bind_some]
  by_cases q : ca = cb
  · rw [if_neg (by simp [q]), decide_eq_true (e.mpr q)]; rfl
  · rw [if_pos (by simp [q]), decide_eq_false (fun z => q (e.mp z))]; rfl
theorem ne_w {a b : String} (h : ¬ Str.ofString a = Str.ofString b) : ¬ Str.ofString a = Str.ofString b := h
theorem swap_no {dr : List PyData} (h : ¬ dr.length = 2) : deedL (Str.ofString "swap") dr = none := by
  match dr, h with
  | [], _ => rfl
  | [a], _ =>
    have n1 : ¬ Str.ofString "swap" = Str.ofString "keep" := by decide +kernel
    have n2 : ¬ Str.ofString "swap" = Str.ofString "cut" := by decide +kernel
    have n3 : ¬ Str.ofString "swap" = Str.ofString "put" := by decide +kernel
    simp only [deedL, if_neg n1, if_neg n2, if_neg n3]
    cases oneD a <;> rfl
  | [_, _], h => exact absurd rfl h
  | _ :: _ :: _ :: _, _ => rfl
theorem word_no {w : Str} {dr : List PyData} (hw : ¬ w = Str.ofString "swap") (h : ¬ dr.length = 1) : deedL w dr = none := by
  match dr, h with
  | [], _ => rfl
  | [_], h => exact absurd rfl h
  | [a, b], _ =>
    simp only [deedL, hw, false_and, if_false]
    cases oneD a <;> cases oneD b <;> rfl
  | _ :: _ :: _ :: _, _ => rfl
theorem eqV_str (a b : Str) : eqV (.str a) (.str b) = decide (a = b) := by
  by_cases q : a = b
  · subst q; simp [eqV]
  · rw [decide_eq_false q]; simp [eqV, q]
theorem word_is {w za : Str} {ca : Nat} (ea : oneD (.str za) = some ca) : (deedL w [.str za]).isSome = inV (.str w) [.str (Str.ofString "keep"), .str (Str.ofString "cut"), .str (Str.ofString "put")] := by
  unfold inV
  simp only [List.any_cons, List.any_nil, Bool.or_false, eqV_str, deedL, ea, Option.bind_some]
  by_cases q1 : w = Str.ofString "keep"
  · rw [if_pos q1, decide_eq_true q1.symm]; rfl
  · rw [if_neg q1, decide_eq_false (fun z => q1 z.symm)]
    by_cases q2 : w = Str.ofString "cut"
    · rw [if_pos q2, decide_eq_true q2.symm]; rfl
    · rw [if_neg q2, decide_eq_false (fun z => q2 z.symm)]
      by_cases q3 : w = Str.ofString "put"
      · rw [if_pos q3, decide_eq_true q3.symm]; rfl
      · rw [if_neg q3, decide_eq_false (fun z => q3 z.symm)]; rfl
def R_is_deed (K : PySem.W.Frag) : V → Hp → VK → XK → Prop := fun x H Q _ => ∃ d, Th K H x d ∧ (∀ ds, d = .tuple ds → shortAll ds ∧ ds.length ≤ 1000) ∧ ∀ H', Same H H' → Q (.bl (deedD d).isSome) H'
section
set_option hygiene false in
local macro_rules | `(tactic| top_name) => `(tactic| first | refine e_call (df_is_one_sign T) (hr.mono (by decide)) ?_)
theorem ok_is_deed {f : Addr} {fd : FuncData} (F : Fun K "is_deed" "is_deed" s_is_deed f fd) (T : Txt K mg cs) : FnOk P w K mg base (L2.CX P w) 4 f fd ["thing"] (sp1 (R_is_deed K)) := by
  refine F.okX sc_is_deed (fun vs H Q E h => sp1_len h) (fun cdv A outer s H vs Q E hr h => ⟨_, PBw (X := X_is_deed P w K mg base f cdv A outer s H E), ?_⟩)
  obtain ⟨a0, rfl, h⟩ := h
  have ib_isinstance := T.b_isinstance
  have ib_tuple := T.b_tuple
  have ib_len := T.b_len
  have ib_str := T.b_str
  have hr' : Room 3 (X_is_deed P w K mg base f cdv A outer s H E).A := hr
  replace hr := hr'
  clear hr'
  obtain ⟨d, hd, hb, h'⟩ := h
  have h := h' _ (Same.refl _)
  wp_step
  refine k_isTuple hd ⟨_, rfl, ?_⟩
  rcases th_tup hd with ⟨a, vs, ds, rfl, rfl, hs, ha⟩ | e1
  · obtain ⟨hsh, hl⟩ := hb ds rfl
    have hlen := ha.len
    wp_step
    refine k_lenT hs ?_
    wp_step
    refine iteD (fun c => ?_) fun c => ?_
    · wp_step
      have e : deedD (.tuple ds) = none := by
        match ds, (show ds.length < 2 by omega) with
        | [], _ => rfl
        | [d], _ => cases d <;> rfl
      rw [e] at h
      exact h
    · obtain ⟨d0, dr, v0, vr, rfl, rfl, h0, hr0⟩ : ∃ d0 dr v0 vr, ds = d0 :: dr ∧ vs = v0 :: vr ∧ Th K H v0 d0 ∧ ThAll K H vr dr := by
        cases ha with
        | nil => simp at hlen c
        | cons a b => exact ⟨_, _, _, _, rfl, rfl, a, b⟩
      wp_step
      refine i_tup hs (v := v0) (atI_nat (by decide) rfl) ?_
      wp_step
      refine k_isStr h0 ⟨_, rfl, ?_⟩
      rcases no_str (d := d0) with ⟨w', rfl⟩ | ⟨e1, _, _⟩
      · cases h0 with
        | str _ hw =>
        have e : deedD (.tuple (.str w' :: dr)) = deedL w' dr := rfl
        rw [e] at h h'
        wp_step
        refine s_for (j_tup ?_)
        wp_step
        refine n_tupS hs fun t H1 s1 k1 => ?_
        rw [cutV_from _ (by decide)] at k1
        have k1 : SqT K H1 t vr := k1
        refine ⟨t, rfl, ⟨_, k1⟩, _, _, _, walk_tup (xs := vr), fun i σ' H' => (∃ v, σ' = [some (.ref a), v]) ∧ H' = H1 ∧ (dr.take i).all (fun d => (oneD d).isSome) = true, ⟨⟨_, rfl⟩, rfl, rfl⟩, fun _ _ _ _ ⟨_, e, _⟩ => by rw [e]; exact k1, ?_, ?_⟩
        · rintro i x σ' H' H2 hi ⟨⟨v, rfl⟩, rfl, hall⟩ ⟨rfl, hx⟩
          obtain ⟨d, hd1, hd2⟩ := hr0.get hx
          wp_step
          refine e_call (df_is_one_sign T) (hr.mono (by decide)) ?_
          wp_step
          refine ⟨d, hd2.more s1, hsh d (List.mem_cons_of_mem _ (List.mem_of_getElem? hd1)), ?_⟩
          wp_step
          cases ho : oneD d with
          | none =>
            wp_step
            have h' := h' _ s1
            rw [deed_bad (List.mem_of_getElem? hd1) ho] at h'
            exact h'
          | some c =>
            wp_step
            exact ⟨⟨_, rfl⟩, rfl, by rw [all_snoc hd1, hall, ho]; rfl⟩
        · rintro σ' H' ⟨⟨v, rfl⟩, rfl, hall⟩
          rw [hr0.len, List.take_length] at hall
          have hs1 := sq_more s1 hs
          wp_step
          refine i_tup hs1 (v := .str w') (atI_nat (by decide) rfl) ?_
          wp_step
          refine iteD (fun cs => ?_) fun cs => ?_
          · wp_step
            subst cs
            refine e_and ?_
            wp_step
            refine k_lenT hs1 ?_
            wp_step
            refine iteD (fun c3 => ?_) fun c3 => ?_
            · obtain ⟨da, db, va, vb, rfl, rfl, ha1, hb1⟩ := two_of hr0 (by simp only [List.length_cons] at c3; omega)
              simp only [List.all_cons, List.all_nil, Bool.and_true, Bool.and_eq_true] at hall
              obtain ⟨za, ca, rfl, rfl, ea⟩ := one_is ha1 hall.1
              obtain ⟨zb, cb, rfl, rfl, eb⟩ := one_is hb1 hall.2
              wp_step
              refine i_tup hs1 (v := .str za) (atI_nat (by decide) rfl) ?_
              wp_step
              refine i_tup hs1 (v := .str zb) (atI_nat (by decide) rfl) ?_
              wp_step
              have h' := h' _ s1
              rw [show (deedL (Str.ofString "swap") [.str za, .str zb]).isSome = !decide (za = zb) from swap_is ea eb] at h'
              exact h'
            · have h' := h' _ s1
              rw [show (deedL (Str.ofString "swap") dr) = none from swap_no fun q => c3 (by
                have := hr0.len
                simp only [List.length_cons]
                omega)] at h'
              exact h'
          · wp_step
            refine e_and ?_
            wp_step
            refine k_lenT hs1 ?_
            wp_step
            refine iteD (fun c3 => ?_) fun c3 => ?_
            · obtain ⟨da, va, rfl, rfl, ha1⟩ := one_of2 hr0 (by simp only [List.length_cons] at c3; omega)
              simp only [List.all_cons, List.all_nil, Bool.and_true] at hall
              obtain ⟨za, ca, rfl, rfl, ea⟩ := one_is ha1 hall
              wp_step
              refine i_tup hs1 (v := .str w') (atI_nat (by decide) rfl) ?_
              wp_step
              intro t2 H2 s2 n2 k2 _
              have h' := h' _ (s1.trans s2)
              rw [show (deedL w' [.str za]).isSome = inV (.str w') [.str (Str.ofString "keep"), .str (Str.ofString "cut"), .str (Str.ofString "put")] from word_is ea] at h'
              exact oI op_in_seq ⟨t2, _, rfl, .inr (SqT.of k2), rfl, rfl, h'⟩
            · have h' := h' _ s1
              rw [show (deedL w' dr) = none from word_no cs fun q => c3 (by
                have := hr0.len
                simp only [List.length_cons]
                omega)] at h'
              exact h'
      · rw [e1]
        wp_step
        have e : deedD (.tuple (d0 :: dr)) = none := by
          cases d0 <;> first | rfl | (exact Bool.noConfusion e1)
        rw [e] at h
        exact h
  · rw [e1]
    wp_step
    have e : deedD d = none := by
      cases d <;> first | rfl | (exact Bool.noConfusion e1)
    rw [e] at h
    exact h
end
theorem df_is_deed (T : Txt K mg cs) : Df P w K mg base "is_deed" 4 ["thing"] (sp1 (R_is_deed K)) := by
  obtain ⟨f, fd, hm, F, hb⟩ := T.f_is_deed.ex
  exact ⟨f, fd, hm, F.kp, hb, ok_is_deed F T⟩
def deedsD : List PyData → Option (List Deed)
  | [] => some []
  | d :: r => (deedD d).bind fun e => (deedsD r).map (e :: ·)
def changedD (T : List Nat) : PyData → Option (List Nat)
  | .list ds => (deedsD ds).bind (changeL T)
  | _ => none
theorem deeds_cut : ∀ {ds : List PyData} {i : Nat} {d : PyData}, ds[i]? = some d → deedD d = none → deedsD ds = none
  | [], _, _, h, _ => by simp at h
  | a :: ds, 0, d, h, k => by
    have : a = d := by simpa using h
    subst this
    simp [deedsD, k]
  | a :: ds, i + 1, d, h, k => by
    have := deeds_cut (ds := ds) (i := i) (by simpa using h) k
    cases e : deedD a <;> simp [deedsD, e, this]
theorem deeds_app : ∀ (xs ys : List PyData), deedsD (xs ++ ys) = (deedsD xs).bind fun a => (deedsD ys).map (a ++ ·)
  | [], ys => by cases e : deedsD ys <;> simp [deedsD, e]
  | x :: xs, ys => by
    show ((deedD x).bind fun e => (deedsD (xs ++ ys)).map (e :: ·)) = ((deedD x).bind fun e => (deedsD xs).map (e :: ·)).bind fun a => (deedsD ys).map (a ++ ·)
    rw [deeds_app xs ys]
    cases deedD x <;> simp
    cases deedsD xs <;> simp
    cases deedsD ys <;> simp
/-- as far as the first deeds l: place and what is made -/
structure Way (T : List Nat) (l : List Deed) (place : Nat) (made : List Nat) : Prop where
  le : place ≤ T.length
  eq : ∀ r, changeL T (l ++ r) = (changeL (T.drop place) r).map (made ++ ·)
theorem Way.start (T : List Nat) : Way T [] 0 [] := ⟨Nat.zero_le _, fun r => by simp⟩
theorem Way.put {T : List Nat} {l : List Deed} {p : Nat} {m : List Nat} (w : Way T l p m) (c : Nat) : Way T (l ++ [.put c]) p (m ++ [c]) := ⟨w.le, fun r => by
  rw [List.append_assoc, w.eq]
  show ((changeL (T.drop p) (.put c :: r)).map _) = _
  have e : changeL (T.drop p) (.put c :: r) = (changeL (T.drop p) r).map (c :: ·) := by cases T.drop p <;> rfl
  rw [e]
  cases changeL (T.drop p) r <;> simp⟩
theorem drop_at {T : List Nat} {p c : Nat} (h : T[p]? = some c) : T.drop p = c :: T.drop (p + 1) := by
  have hl := (List.getElem?_eq_some_iff.mp h).1
  rw [List.drop_eq_getElem_cons hl, (List.getElem?_eq_some_iff.mp h).2]
theorem Way.keep {T : List Nat} {l : List Deed} {p c : Nat} {m : List Nat} (w : Way T l p m) (h : T[p]? = some c) : Way T (l ++ [.keep c]) (p + 1) (m ++ [c]) := ⟨(List.getElem?_eq_some_iff.mp h).1, fun r => by
  rw [List.append_assoc, w.eq, drop_at h]
  show ((if c = c then (changeL (T.drop (p + 1)) r).map (c :: ·) else none).map _) = _
  rw [if_pos rfl]
  cases changeL (T.drop (p + 1)) r <;> simp⟩
theorem Way.cut {T : List Nat} {l : List Deed} {p c : Nat} {m : List Nat} (w : Way T l p m) (h : T[p]? = some c) : Way T (l ++ [.cut c]) (p + 1) m := ⟨(List.getElem?_eq_some_iff.mp h).1, fun r => by
  rw [List.append_assoc, w.eq, drop_at h]
  show ((if c = c then changeL (T.drop (p + 1)) r else none).map _) = _
  rw [if_pos rfl]⟩
theorem Way.swap {T : List Nat} {l : List Deed} {p c d : Nat} {m : List Nat} (w : Way T l p m) (h : T[p]? = some c) : Way T (l ++ [.swap c d]) (p + 1) (m ++ [d]) := ⟨(List.getElem?_eq_some_iff.mp h).1, fun r => by
  rw [List.append_assoc, w.eq, drop_at h]
  show ((if c = c then (changeL (T.drop (p + 1)) r).map (d :: ·) else none).map _) = _
  rw [if_pos rfl]
  cases changeL (T.drop (p + 1)) r <;> simp⟩
def takes : Deed → Option Nat
  | .keep c => some c
  | .cut c => some c
  | .swap c _ => some c
  | .put _ => none
theorem Way.stop {T : List Nat} {l : List Deed} {p c : Nat} {m : List Nat} {e : Deed} (w : Way T l p m) (he : takes e = some c) (h : ¬ T[p]? = some c) (r : List Deed) : changeL T (l ++ e :: r) = none := by
  rw [w.eq]
  have q : changeL (T.drop p) (e :: r) = none := by
    cases hd : T.drop p with
    | nil => cases e <;> first | rfl | cases he
    | cons x t =>
      have hx : T[p]? = some x := by
        have : (T.drop p)[0]? = some x := by rw [hd]; rfl
        rw [List.getElem?_drop] at this
        simpa using this
      have n : ¬ x = c := fun z => h (by rw [hx, z])
      cases e with
      | put c => cases he
      | keep c' => cases he; exact if_neg n
      | cut c' => cases he; exact if_neg n
      | swap c' d => cases he; exact if_neg n
  rw [q]
  rfl
theorem Way.last {T : List Nat} {l : List Deed} {p : Nat} {m : List Nat} (w : Way T l p m) : changeL T l = if p < T.length then none else some m := by
  have q := w.eq []
  rw [List.append_nil] at q
  rw [q]
  have := w.le
  by_cases h : p < T.length
  · rw [if_pos h]
    cases hd : T.drop p with
    | nil => have := List.drop_eq_nil_iff.mp hd; omega
    | cons x t => rfl
  · rw [if_neg h, List.drop_eq_nil_of_le (by omega)]
    simp [changeL]
/-- deeds whose texts are short -/
def shortDs (ds : List PyData) : Prop := ds.length ≤ 1000 ∧ ∀ d ∈ ds, ∀ es, d = .tuple es → shortAll es ∧ es.length ≤ 1000
theorem text_of {d : PyData} (h : isTextD d = true) : ∃ z, d = .str z ∧ z.length ≤ 60 := by
  cases d with
  | str z =>
    have h : (decide (z.length ≤ 60) && (tl z).all okc) = true := h
    rw [Bool.and_eq_true, decide_eq_true_eq] at h
    exact ⟨z, rfl, h.1⟩
  | _ => exact Bool.noConfusion h
theorem chg_no {T : List Nat} {d : PyData} (h : isK d "list" = false) : changedD T d = none := by
  cases d <;> first | rfl | (exact Bool.noConfusion h)
theorem no_lst2 {K : PySem.W.Frag} {H : Hp} {v : V} {d : PyData} (h : Th K H v d) : (∃ a vs ds, v = .ref a ∧ d = .list ds ∧ SqL K H a vs ∧ ThAll K H vs ds) ∨ isK d "list" = false := by
  cases h <;> first | exact .inl ⟨_, _, _, rfl, rfl, ‹_›, ‹_›⟩ | exact .inr rfl
/-- a deed as it stands -/
inductive DeedAt (K : PySem.W.Frag) (H : Hp) (a : Addr) : Deed → Prop
  | keep {z : Str} {c : Nat} : SqT K H a [.str (Str.ofString "keep"), .str z] → tl z = [c] → DeedAt K H a (.keep c)
  | cut {z : Str} {c : Nat} : SqT K H a [.str (Str.ofString "cut"), .str z] → tl z = [c] → DeedAt K H a (.cut c)
  | put {z : Str} {c : Nat} : SqT K H a [.str (Str.ofString "put"), .str z] → tl z = [c] → DeedAt K H a (.put c)
  | swap {z y : Str} {c d : Nat} : SqT K H a [.str (Str.ofString "swap"), .str z, .str y] → tl z = [c] → tl y = [d] → DeedAt K H a (.swap c d)
theorem deed_at {K : PySem.W.Frag} {H : Hp} {v : V} {d : PyData} {e : Deed} (h : Th K H v d) (q : deedD d = some e) : ∃ a, v = .ref a ∧ DeedAt K H a e := by
  rcases th_tup h with ⟨a, vs, ds, rfl, rfl, hs, ha⟩ | n
  · refine ⟨a, rfl, ?_⟩
    cases ha with
    | nil => cases q
    | @cons v0 vr d0 dr h0 hr =>
      cases h0 with
      | str w _ =>
        have q : deedL w dr = some e := q
        cases hr with
        | nil => cases q
        | @cons v1 vr2 d1 dr2 h1 hr2 =>
          cases ho : oneD d1 with
          | none => rw [deed_bad (List.mem_cons_self ..) ho] at q; cases q
          | some c1 =>
            obtain ⟨z1, _, rfl, rfl, _⟩ := one_is h1 (by rw [ho]; rfl)
            have t1 := one_tl ho
            cases hr2 with
            | nil =>
              simp only [deedL, ho, Option.bind_some] at q
              by_cases k1 : w = Str.ofString "keep"
              · rw [if_pos k1] at q; cases q; subst k1; exact .keep hs t1
              · rw [if_neg k1] at q
                by_cases k2 : w = Str.ofString "cut"
                · rw [if_pos k2] at q; cases q; subst k2; exact .cut hs t1
                · rw [if_neg k2] at q
                  by_cases k3 : w = Str.ofString "put"
                  · rw [if_pos k3] at q; cases q; subst k3; exact .put hs t1
                  · rw [if_neg k3] at q; cases q
            | @cons v2 vr3 d2 dr3 h2 hr3 =>
              cases hr3 with
              | cons _ _ => cases q
              | nil =>
                cases ho2 : oneD d2 with
                | none => rw [deed_bad (d := d2) (by simp) ho2] at q; cases q
                | some c2 =>
                  obtain ⟨z2, _, rfl, rfl, _⟩ := one_is h2 (by rw [ho2]; rfl)
                  have t2 := one_tl ho2
                  simp only [deedL, ho, ho2, Option.bind_some] at q
                  by_cases k : w = Str.ofString "swap" ∧ ¬ c1 = c2
                  · rw [if_pos k] at q; cases q; obtain ⟨k, _⟩ := k; subst k; exact .swap hs t1 t2
                  · rw [if_neg k] at q; cases q
      | _ => cases q
  · have : deedD d = none := by cases d <;> first | rfl | (exact Bool.noConfusion n)
    rw [this] at q
    cases q
theorem tl_join0 (ms : List Str) : tl (Txt.join (Str.ofString "") ms) = ms.flatMap tl := by
  have e : tl (Str.ofString "") = [] := by decide +kernel
  have q : ∀ l : List (List Nat), joinL [] l = l.flatten := by
    intro l
    induction l with
    | nil => rfl
    | cons a l ih =>
      cases l with
      | nil => simp [joinL]
      | cons b l =>
        show a ++ ([] ++ joinL [] (b :: l)) = _
        rw [ih]
        simp
  rw [join_eq, tl_join, e, q, List.flatMap_def]
theorem sum_ones : ∀ {l : List Str}, (∀ x ∈ l, x.length = 1) → (l.map Str.length).sum = l.length
  | [], _ => rfl
  | a :: l, h => by
    have := h a (List.mem_cons_self ..)
    have := sum_ones (l := l) fun x hx => h x (List.mem_cons_of_mem _ hx)
    simp only [List.map_cons, List.sum_cons, List.length_cons]
    omega
def R_changed (K : PySem.W.Frag) (cs : Cs) : V → V → Hp → VK → XK → Prop := fun x y H Q E => ∃ dt dd, Th K H x dt ∧ Th K H y dd ∧ (∀ ds, dd = .list ds → shortDs ds) ∧ (isTextD dt = false → E (.ref cs.NoText) none H) ∧
  ∀ z, dt = .str z → isTextD dt = true → (changedD (tl z) dd = none → ∀ H', Same H H' → E (.ref cs.NoChange) none H') ∧ (∀ l, changedD (tl z) dd = some l → ∀ H', Same H H' → Q (.str ⟨l.toArray⟩) H')
section
set_option hygiene false in
local macro_rules | `(tactic| top_name) => `(tactic| first | refine e_call (df_checked_text T) (hr.mono (by decide)) ?_ | refine e_call (df_is_deed T) (hr.mono (by decide)) ?_)
set_option hygiene false in
local macro_rules | `(tactic| top_raise) => `(tactic| first | refine s_raise T.x_NoChange ?_)
theorem ok_changed {f : Addr} {fd : FuncData} (F : Fun K "changed" "changed" s_changed f fd) (T : Txt K mg cs) : FnOk P w K mg base (L2.CX P w) 5 f fd ["text", "deeds"] (sp2 (R_changed K cs)) := by
  refine F.okX sc_changed (fun vs H Q E h => sp2_len h) (fun cdv A outer s H vs Q E hr h => ⟨_, PBw (X := X_changed P w K mg base f cdv A outer s H E), ?_⟩)
  obtain ⟨a0, a1, rfl, h⟩ := h
  have ib_isinstance := T.b_isinstance
  have ib_list := T.b_list
  have ib_NoChange : Gn mg "NoChange" (some _) := ⟨T.x_NoChange.mg⟩
  have ib_len := T.b_len
  have hr' : Room 4 (X_changed P w K mg base f cdv A outer s H E).A := hr
  replace hr := hr'
  clear hr'
  obtain ⟨dt, dd, ht, hd, hsd, h1, h2⟩ := h
  wp_step
  refine e_call (df_checked_text T) (hr.mono (by decide)) ?_
  wp_step
  refine ⟨dt, ht, fun hg => ?_, h1⟩
  obtain ⟨z, rfl, hz⟩ := text_of hg
  obtain ⟨h3, h4⟩ := h2 z rfl hg
  clear h1 h2
  cases ht with
  | str _ _ =>
  wp_step
  refine k_isList hd ⟨_, rfl, ?_⟩
  rcases no_lst2 hd with ⟨a, vs, ds, rfl, rfl, hs, ha⟩ | e1
  case' inr =>
    rw [e1]
    wp_step
    refine s_raise T.x_NoChange ?_
    exact h3 (chg_no e1) _ (Same.refl _)
  obtain ⟨hl, hsh⟩ := hsd ds rfl
  have hlen := ha.len
  wp_step
  intro l1 H1 s1 n1 k1 e1
  wp_step
  have sam : ∀ {H' : Hp}, (∀ b, b ≠ l1 → H' b = H1 b) → Same H H' := fun k b o e => by
    rw [k b (ne_of_none e n1)]
    exact s1 _ _ e
  have l0 : ∀ {z : Str} {p : Nat}, cutS z (some (p : Int)) (some ((p : Int) + 1)) = ⟨(((tl z).drop p).take 1).toArray⟩ := fun {z p} => ext_tl (by
    rw [cutS_mid z (by omega) (by omega), show ((p : Int) + 1).toNat - (p : Int).toNat = 1 by omega, show ((p : Int)).toNat = p by omega])
  refine s_for (j_list ?_)
  wp_step
  refine ⟨⟨_, s1.seq hs⟩, _, _, _, walk_list (xs := vs), fun i σ' H' => ∃ (v : Option V) (l : List Deed) (p : Nat) (ms : List Str), σ' = [some (.str z), some (.ref a), some (.int (p : Nat)), some (.ref l1), v] ∧ H' l1 = some (.lst (ms.map V.str)) ∧ (∀ b o, b ≠ l1 → H1 b = some o → H' b = some o) ∧ deedsD (ds.take i) = some l ∧ (∀ m ∈ ms, m.length = 1) ∧ ms.length ≤ i ∧ Way (tl z) l p (ms.flatMap tl), ⟨none, [], 0, [], rfl, k1, fun _ _ _ e => e, rfl, by simp, Nat.le_refl _, Way.start _⟩, ?_, ?_, ?_⟩
  · rintro i σ' H' hi ⟨_, _, _, _, _, _, e, _⟩
    exact Same.seq (fun b o q => e b o (fun z => by rw [z, n1] at q; cases q) (s1 _ _ q)) hs
  · rintro i x σ' H' H2 hi ⟨v, l, p, ms, rfl, k2, e2, hd2, hm1, hml, hw⟩ ⟨rfl, hx⟩
    obtain ⟨d, hd1, hd3⟩ := ha.get hx
    wp_step
    have sH : Same H H2 := fun b o q => e2 b o (fun z => by rw [z, n1] at q; cases q) (s1 _ _ q)
    refine e_call (df_is_deed T) (hr.mono (by decide)) ?_
    wp_step
    refine ⟨d, hd3.more sH, hsh d (List.mem_of_getElem? hd1), fun H3 s3 => ?_⟩
    wp_step
    have hH3 : H3 = H2 ∨ True := .inr trivial
    have s13 : ∀ b o, b ≠ l1 → H1 b = some o → H3 b = some o := fun b o hb e => s3 _ _ (e2 b o hb e)
    have k3 := s3 _ _ k2
    cases hdd : deedD d with
    | none =>
      wp_step
      refine s_raise T.x_NoChange ?_
      refine h3 ?_ _ (sH.trans s3)
      show (deedsD ds).bind _ = none
      rw [deeds_cut hd1 hdd]
      rfl
    | some e =>
      have hd4 : deedsD (ds.take (i + 1)) = some (l ++ [e]) := by
        rw [← List.take_append_getElem (List.getElem?_eq_some_iff.mp hd1).1, (List.getElem?_eq_some_iff.mp hd1).2, deeds_app, hd2]
        simp [deedsD, hdd]
      have stop : ∀ c, takes e = some c → ¬ (tl z)[p]? = some c → changedD (tl z) (.list ds) = none := fun c h1 h2 => by
        have e3 : ds = ds.take i ++ d :: ds.drop (i + 1) := by
          rw [← (List.getElem?_eq_some_iff.mp hd1).2, ← List.drop_eq_getElem_cons (List.getElem?_eq_some_iff.mp hd1).1, List.take_append_drop]
        show (deedsD ds).bind _ = none
        rw [e3, deeds_app, hd2]
        simp only [deedsD, hdd, Option.bind_some]
        cases deedsD (ds.drop (i + 1)) with
        | none => rfl
        | some r => exact hw.stop h1 h2 r
      have same : ∀ {c : Nat} {y : Str}, tl y = [c] → (cutS z (some (p : Int)) (some ((p : Int) + 1)) = y ↔ (tl z)[p]? = some c) := fun {c y} hy => by
        have e0 : tl (cutS z (some (p : Int)) (some ((p : Int) + 1))) = ((tl z).drop p).take 1 := by rw [l0]
        have e4 : ((tl z).drop p).take 1 = [c] ↔ (tl z)[p]? = some c := by
          cases hdp : (tl z).drop p with
          | nil =>
            have : (tl z)[p]? = none := List.getElem?_eq_none (List.drop_eq_nil_iff.mp hdp)
            simp [this]
          | cons x t =>
            have : (tl z)[p]? = some x := by
              have : ((tl z).drop p)[0]? = some x := by rw [hdp]; rfl
              rw [List.getElem?_drop] at this
              simpa using this
            simp [this]
        rw [← e4, ← e0, ← hy]
        exact ⟨fun q => by rw [q], fun q => ext_tl q⟩
      have go : ∀ (ms' : List Str) (p' : Nat) (H4 : Hp) (v : Option V), H4 l1 = some (.lst (ms'.map V.str)) → (∀ b, b ≠ l1 → H4 b = H3 b) → (∀ m ∈ ms', m.length = 1) → ms'.length ≤ i + 1 → Way (tl z) (l ++ [e]) p' (ms'.flatMap tl) →
          (∃ (v2 : Option V) (l' : List Deed) (q : Nat) (ns : List Str), [some (V.str z), some (V.ref a), some (V.int (p' : Nat)), some (V.ref l1), v] = [some (.str z), some (.ref a), some (.int (q : Nat)), some (.ref l1), v2] ∧ H4 l1 = some (.lst (ns.map V.str)) ∧ (∀ b o, b ≠ l1 → H1 b = some o → H4 b = some o) ∧ deedsD (ds.take (i + 1)) = some l' ∧ (∀ m ∈ ns, m.length = 1) ∧ ns.length ≤ i + 1 ∧ Way (tl z) l' q (ns.flatMap tl)) :=
        fun ms' p' H4 v q1 q2 q3 q4 q5 => ⟨_, _, _, _, rfl, q1, fun b o hb e => by rw [q2 b hb]; exact s13 b o hb e, hd4, q3, q4, q5⟩
      have roomy : (ms.map V.str).length < 16000000 := by rw [List.length_map]; omega
      have one1 : ∀ {y : Str} {c : Nat}, tl y = [c] → y.length = 1 := fun {y c} h => by rw [len_tl, h]; rfl
      have snoc : ∀ {y : Str} {c : Nat}, tl y = [c] → (∀ m ∈ ms ++ [y], m.length = 1) ∧ (ms ++ [y]).length ≤ i + 1 ∧ (ms ++ [y]).flatMap tl = ms.flatMap tl ++ [c] ∧ (ms ++ [y]).map V.str = ms.map V.str ++ [.str y] := fun {y c} h =>
        ⟨fun m hm => by
          rcases List.mem_append.mp hm with q | q
          · exact hm1 m q
          · rw [List.mem_singleton.mp q]; exact one1 h, by rw [List.length_append]; simp; omega, by rw [List.flatMap_append]; simp [h], by rw [List.map_append]; rfl⟩
      obtain ⟨b, rfl, hda⟩ := deed_at (hd3.more (sH.trans s3)) hdd
      have pz : (p : Int) + 1 = ((p + 1 : Nat) : Int) := by omega
      cases hda with
      | put hq hc =>
        tm_run
        refine ⟨ty_l k3, ?_⟩
        tm_run
        obtain ⟨q1, q2, q3, q4⟩ := snoc hc
        refine m_append k3 roomy fun H4 k4 e4 => ?_
        tm_run
        exact go _ _ _ _ (by rw [q4]; exact k4) e4 q1 q2 (by rw [q3]; exact hw.put _)
      | keep hq hc =>
        tm_run
        refine n_str (by rw [sizeLine_eq]; omega) ?_
        tm_run
        refine iteND (fun c => ?_) fun c => ?_
        · tm_run
          exact h3 (stop _ rfl fun q => c ((same hc).mpr q)) _ (sH.trans s3)
        have c := (same hc).mp c
        tm_run
        refine ⟨ty_l k3, ?_⟩
        tm_run
        obtain ⟨q1, q2, q3, q4⟩ := snoc hc
        refine m_append k3 roomy fun H4 k4 e4 => ?_
        tm_run
        rw [pz]
        exact go _ _ _ _ (by rw [q4]; exact k4) e4 q1 q2 (by rw [q3]; exact hw.keep c)
      | swap hq hc hc2 =>
        tm_run
        refine n_str (by rw [sizeLine_eq]; omega) ?_
        tm_run
        refine iteND (fun c => ?_) fun c => ?_
        · tm_run
          exact h3 (stop _ rfl fun q => c ((same hc).mpr q)) _ (sH.trans s3)
        have c := (same hc).mp c
        tm_run
        refine ⟨ty_l k3, ?_⟩
        tm_run
        obtain ⟨q1, q2, q3, q4⟩ := snoc hc2
        refine m_append k3 roomy fun H4 k4 e4 => ?_
        tm_run
        rw [pz]
        exact go _ _ _ _ (by rw [q4]; exact k4) e4 q1 q2 (by rw [q3]; exact hw.swap c)
      | cut hq hc =>
        tm_run
        refine n_str (by rw [sizeLine_eq]; omega) ?_
        tm_run
        refine iteND (fun c => ?_) fun c => ?_
        · tm_run
          exact h3 (stop _ rfl fun q => c ((same hc).mpr q)) _ (sH.trans s3)
        have c := (same hc).mp c
        tm_run
        rw [pz]
        exact go ms _ _ _ k3 (fun _ _ => rfl) hm1 (by omega) (hw.cut c)
  · rintro σ' H' ⟨v, l, p, ms, rfl, k2, e2, hd2, hm1, hml, hw⟩
    rw [hlen, List.take_length] at hd2
    have sH : Same H H' := fun b o q => e2 b o (fun z => by rw [z, n1] at q; cases q) (s1 _ _ q)
    have eq : changedD (tl z) (.list ds) = if p < (tl z).length then none else some (ms.flatMap tl) := by
      show (deedsD ds).bind _ = _
      rw [hd2]
      exact hw.last
    tm_run
    refine iteD (fun c => ?_) fun c => ?_
    · tm_run
      exact h3 (eq.trans (if_pos (by rw [← len_tl]; omega))) _ sH
    · tm_run
      refine e_join ?_
      tm_run
      refine ⟨⟨_, rfl⟩, ?_⟩
      tm_run
      have e0 : (Str.ofString "").length = 0 := by decide +kernel
      have es : (ms.map Str.length).sum = ms.length := sum_ones hm1
      refine m_join (.inl (SqL.of k2)) (by rw [e0, es]; omega) ?_
      have q := h4 _ (eq.trans (if_neg (by rw [← len_tl]; omega))) _ sH
      rw [← tl_join0] at q
      exact q

end
theorem df_changed (T : Txt K mg cs) : Df P w K mg base "changed" 5 ["text", "deeds"] (sp2 (R_changed K cs)) := by
  obtain ⟨f, fd, hm, F, hb⟩ := T.f_changed.ex
  exact ⟨f, fd, hm, F.kp, hb, ok_changed F T⟩
def cellAt (ns : List Int) (i : Int) : Int := ns.getD i.toNat 0
theorem get_ints {ns : List Int} {i : Int} (h0 : 0 ≤ i) (h1 : i < ns.length) : atI (ns.map V.int) i = some (.int (cellAt ns i)) := by
  refine atI_nat h0 ?_
  rw [List.getElem?_map, List.getElem?_eq_getElem (by omega)]
  show some (V.int _) = _
  rw [show cellAt ns i = ns[i.toNat] from by unfold cellAt; rw [List.getD_eq_getElem?_getD, List.getElem?_eq_getElem (by omega)]; rfl]
def R_law_cell_at (K : PySem.W.Frag) : V → V → Hp → VK → XK → Prop := fun x y H Q _ => ∃ (a : Addr) (ns : List Int) (i : Int), x = .ref a ∧ SqL K H a (ns.map V.int) ∧ y = .int i ∧ 0 ≤ i ∧ Q (.int (cellAt ns i)) H
section
theorem ok_law_cell_at {f : Addr} {fd : FuncData} (F : Fun K "_law_cell_at" "_law_cell_at" s_law_cell_at f fd) (T : Txt K mg cs) : FnOk P w K mg base (L2.CX P w) 1 f fd ["_law_script", "_law_k"] (sp2 (R_law_cell_at K)) := by
  refine F.okX sc_law_cell_at (fun vs H Q E h => sp2_len h) (fun cdv A outer s H vs Q E hr h => ⟨_, PBw (X := X_law_cell_at P w K mg base f cdv A outer s H E), ?_⟩)
  obtain ⟨a0, a1, rfl, h⟩ := h
  have ib_len := T.b_len
  have hr' : Room 0 (X_law_cell_at P w K mg base f cdv A outer s H E).A := hr
  replace hr := hr'
  clear hr'
  obtain ⟨a, ns, i, rfl, hS, rfl, h0, h⟩ := h
  wp_step
  refine k_lenL hS ?_
  wp_step
  rw [List.length_map]
  refine iteD (fun c => ?_) fun c => ?_
  · wp_step
    refine i_lst hS (get_ints h0 c) ?_
    exact h
  · wp_step
    have e : cellAt ns i = 0 := by
      unfold cellAt
      rw [List.getD_eq_getElem?_getD, List.getElem?_eq_none (by omega)]
      rfl
    rw [e] at h
    exact h
end
theorem df_law_cell_at (T : Txt K mg cs) : Df P w K mg base "_law_cell_at" 1 ["_law_script", "_law_k"] (sp2 (R_law_cell_at K)) := by
  obtain ⟨f, fd, hm, F, hb⟩ := T.f_law_cell_at.ex
  exact ⟨f, fd, hm, F.kp, hb, ok_law_cell_at F T⟩
def R_law_whole (K : PySem.W.Frag) : V → Hp → VK → XK → Prop := fun x H Q _ => ∃ d, Th K H x d ∧ Q (.bl (isWholeD d)) H
section
theorem ok_law_whole {f : Addr} {fd : FuncData} (F : Fun K "_law_whole" "_law_whole" s_law_whole f fd) (T : Txt K mg cs) : FnOk P w K mg base (L2.CX P w) 1 f fd ["_law_found"] (sp1 (R_law_whole K)) := by
  refine F.okX sc_law_whole (fun vs H Q E h => sp1_len h) (fun cdv A outer s H vs Q E hr h => ⟨_, PBw (X := X_law_whole P w K mg base f cdv A outer s H E), ?_⟩)
  obtain ⟨a0, rfl, h⟩ := h
  have ib_isinstance := T.b_isinstance
  have ib_int := T.b_int
  have ib_bool := T.b_bool
  have hr' : Room 0 (X_law_whole P w K mg base f cdv A outer s H E).A := hr
  replace hr := hr'
  clear hr'
  obtain ⟨d, hd, h⟩ := h
  wp_step
  refine e_andJ (d := !isK d "bool") ?_
  wp_step
  refine k_isInt hd ⟨_, rfl, fun _ Q' q => ?_, h⟩
  wp_step
  refine k_isBool hd ?_
  wp_step
  exact q

end
theorem df_law_whole (T : Txt K mg cs) : Df P w K mg base "_law_whole" 1 ["_law_found"] (sp1 (R_law_whole K)) := by
  obtain ⟨f, fd, hm, F, hb⟩ := T.f_law_whole.ex
  exact ⟨f, fd, hm, F.kp, hb, ok_law_whole F T⟩
def someS : Str := (Str.ofString " !\"#$&'()*+,-./0123456789:;<=>?@ABCDEFGHIJKLMNOPQRSTUVWXYZ[\\]^_`") ++ (Str.ofString "abcdefghijklmnopqrstuvwxyz{|}~")
theorem some_len : someS.length = 94 := by decide +kernel
theorem some_ok : (tl someS).all okc = true := by decide +kernel
theorem some_at {i : Int} (h0 : 0 ≤ i) (h1 : i < 94) : ∃ c, atI (tl someS) i = some c ∧ okc c = true :=
  atI_all (P := fun c => okc c = true) h0 (by rw [← len_tl, some_len]; exact h1) fun c hc => List.all_eq_true.mp some_ok c hc
theorem mem_some (c : Nat) : decide (c ∈ tl someS) = okc c := by
  by_cases h : c < 127
  · exact (by decide +kernel : ∀ m : Fin 127, decide ((m : Nat) ∈ tl someS) = okc m) ⟨c, h⟩
  · have e1 : okc c = false := by
      show (decide (32 ≤ c) && (decide (c ≤ 126) && _)) = false
      rw [decide_eq_false (show ¬ c ≤ 126 by omega), Bool.false_and, Bool.and_false]
    rw [e1]
    exact decide_eq_false fun q => h ((by decide +kernel : ∀ x ∈ tl someS, x < 127) c q)
theorem one_len (c : Nat) : (⟨#[c]⟩ : Str).length = 1 := rfl
theorem cutS_to_len (z : Str) {i : Int} (h : 0 ≤ i) : (cutS z none (some i)).length ≤ z.length := by
  rw [len_tl, cutS_to z h, len_tl]
  exact List.length_take_le' ..
theorem cutS_from_len (z : Str) {i : Int} (h : 0 ≤ i) : (cutS z (some i) none).length ≤ z.length := by
  rw [len_tl, cutS_from z h, len_tl, List.length_drop]
  omega
def R_law_all : Hp → VK → XK → Prop := fun H Q _ => Q (.str someS) H
section
theorem ok_law_all {f : Addr} {fd : FuncData} (F : Fun K "_law_all" "_law_all" s_law_all f fd) (T : Txt K mg cs) : FnOk P w K mg base (L2.CX P w) 1 f fd [] (sp0 (R_law_all)) := by
  refine F.okX sc_law_all (fun vs H Q E h => sp0_len h) (fun cdv A outer s H vs Q E hr h => ⟨_, PBw (X := X_law_all P w K mg base f cdv A outer s H E), ?_⟩)
  obtain ⟨rfl, h⟩ := h
  have hr' : Room 0 (X_law_all P w K mg base f cdv A outer s H E).A := hr
  replace hr := hr'
  clear hr'
  wp_step
  refine o_cat (by decide +kernel) ?_
  exact h
end
theorem df_law_all (T : Txt K mg cs) : Df P w K mg base "_law_all" 1 [] (sp0 (R_law_all)) := by
  obtain ⟨f, fd, hm, F, hb⟩ := T.f_law_all.ex
  exact ⟨f, fd, hm, F.kp, hb, ok_law_all F T⟩
def R_law_mixed (K : PySem.W.Frag) : V → V → Hp → VK → XK → Prop := fun x y H Q _ => ∃ (a : Addr) (ns : List Int) (i : Int), x = .ref a ∧ SqL K H a (ns.map V.int) ∧ y = .int i ∧ 0 ≤ i ∧ i ≤ 1000 ∧ ∀ j, 0 ≤ j → j < 2147483647 → Q (.int j) H
section
set_option hygiene false in
local macro_rules | `(tactic| top_name) => `(tactic| first | refine e_call (df_law_cell_at T) (hr.mono (by decide)) ?_)
theorem ok_law_mixed {f : Addr} {fd : FuncData} (F : Fun K "_law_mixed" "_law_mixed" s_law_mixed f fd) (T : Txt K mg cs) : FnOk P w K mg base (L2.CX P w) 2 f fd ["_law_script", "_law_k"] (sp2 (R_law_mixed K)) := by
  refine F.okX sc_law_mixed (fun vs H Q E h => sp2_len h) (fun cdv A outer s H vs Q E hr h => ⟨_, PBw (X := X_law_mixed P w K mg base f cdv A outer s H E), ?_⟩)
  obtain ⟨a0, a1, rfl, h⟩ := h
  have hr' : Room 1 (X_law_mixed P w K mg base f cdv A outer s H E).A := hr
  replace hr := hr'
  clear hr'
  obtain ⟨a, ns, i, rfl, hS, rfl, h0, h1, h⟩ := h
  tm_run
  refine ⟨_, _, _, rfl, hS, rfl, h0, ?_⟩
  generalize hj : cellAt ns i = j
  have m0 : 0 ≤ j % 2147483629 := Int.emod_nonneg _ (by decide)
  have m1 : j % 2147483629 < 2147483629 := Int.emod_lt_of_pos _ (by decide)
  tm_run
  refine o_mulS (.inl ⟨by omega, by omega⟩) ?_
  tm_run
  refine o_mulS (.inl ⟨by omega, by omega⟩) ?_
  tm_run
  refine o_mulS (.inl ⟨by omega, by omega⟩) ?_
  tm_run
  refine o_mulS (.inr ⟨by omega, by omega⟩) ?_
  tm_run
  exact h _ (Int.emod_nonneg _ (by decide)) (Int.emod_lt_of_pos _ (by decide))
end
theorem df_law_mixed (T : Txt K mg cs) : Df P w K mg base "_law_mixed" 2 ["_law_script", "_law_k"] (sp2 (R_law_mixed K)) := by
  obtain ⟨f, fd, hm, F, hb⟩ := T.f_law_mixed.ex
  exact ⟨f, fd, hm, F.kp, hb, ok_law_mixed F T⟩
theorem len_to (z : Str) {i : Int} (h : 0 ≤ i) : (cutS z none (some i)).length = min i.toNat z.length := by rw [len_tl, cutS_to z h, List.length_take, ← len_tl]
theorem len_from (z : Str) {i : Int} (h : 0 ≤ i) : (cutS z (some i) none).length = z.length - i.toNat := by rw [len_tl, cutS_from z h, List.length_drop, ← len_tl]

theorem eqV_int (i j : Int) : eqV (.int i) (.int j) = decide (i = j) := by
  by_cases q : i = j
  · subst q; simp [eqV]
  · rw [decide_eq_false q]; simp [eqV, q]
theorem okc_lt {c : Nat} (h : okc c = true) : c < 1114112 := by
  unfold okc at h
  simp only [Bool.and_eq_true, decide_eq_true_eq] at h
  omega
theorem deed_word {K : PySem.W.Frag} {H : Hp} {b : Addr} {e : Deed} (h : DeedAt K H b e) : ∃ w v r, SqT K H b (.str w :: v :: r) ∧ True := by
  cases h with
  | keep h _ => exact ⟨_, _, _, h, trivial⟩
  | cut h _ => exact ⟨_, _, _, h, trivial⟩
  | put h _ => exact ⟨_, _, _, h, trivial⟩
  | swap h _ _ => exact ⟨_, _, _, h, trivial⟩
def deedVals : Deed → List V
  | .keep c => [.str (Str.ofString "keep"), .str ⟨#[c]⟩]
  | .cut c => [.str (Str.ofString "cut"), .str ⟨#[c]⟩]
  | .put c => [.str (Str.ofString "put"), .str ⟨#[c]⟩]
  | .swap c d => [.str (Str.ofString "swap"), .str ⟨#[c]⟩, .str ⟨#[d]⟩]
def deedSign : Deed → Nat
  | .keep c => c
  | .cut c => c
  | .put c => c
  | .swap c _ => c
def okDeed : Deed → Prop
  | .keep c => okc c = true
  | .cut c => okc c = true
  | .put c => okc c = true
  | .swap c d => okc c = true ∧ okc d = true
def DeedV (H : Hp) (v : V) (e : Deed) : Prop := ∃ b, v = .ref b ∧ H b = some (.tup (deedVals e)) ∧ okDeed e
theorem DeedV.ts {H H' : Hp} {v : V} {e : Deed} (s : TS H H') : DeedV H v e → DeedV H' v e := fun ⟨b, h1, h2, h3⟩ => ⟨b, h1, s _ _ h2, h3⟩
/-- a thing that may stand among deeds -/
structure Item (d : PyData) : Prop where
  sh : Sh 2 d
  tup : ∀ es, d = .tuple es → shortAll es ∧ es.length ≤ 3 ∧ ∃ w r, es = .str w :: r
def leafOk : PyData → Prop
  | .str z => z.length ≤ 100 ∧ ∀ c ∈ tl z, c < 1114112
  | .int _ => True
  | _ => False
theorem leaf_sh {d : PyData} (h : leafOk d) : Sh 1 d := by
  cases d <;> first | exact Sh.str h.2 | exact Sh.int _ | exact h.elim
theorem leaf_short {d : PyData} (h : leafOk d) : shortD d := by
  cases d with
  | str z => exact Nat.le_trans h.1 (by decide)
  | _ => trivial
theorem leaf_th {K : PySem.W.Frag} {H : Hp} {z : Str} (h : leafOk (.str z)) : Th K H (.str z) (.str z) := .str _ (Nat.le_trans h.1 (by decide))
theorem Item.of_tup {w : Str} {r : List PyData} (h : ∀ e ∈ PyData.str w :: r, leafOk e) (hl : r.length ≤ 2) : Item (.tuple (.str w :: r)) := ⟨.tup fun e he => leaf_sh (h e he), fun es e => by
  cases e
  exact ⟨fun e he => leaf_short (h e he), by simp only [List.length_cons]; omega, _, _, rfl⟩⟩
theorem Item.of_leaf {d : PyData} (h : leafOk d) : Item d := ⟨⟨(leaf_sh h).can, Nat.le_trans (leaf_sh h).dep (by decide)⟩, fun es e => by subst e; exact h.elim⟩
theorem leaf_one {c : Nat} (h : okc c = true) : leafOk (.str ⟨#[c]⟩) := ⟨by rw [one_len]; decide, fun d hd => by
  have : d = c := by simpa [tl] using hd
  rw [this]
  exact okc_lt h⟩
theorem leaf_app {a b : Str} (h : leafOk (.str a)) (k : leafOk (.str b)) (hl : a.length + b.length ≤ 100) : leafOk (.str (a ++ b)) := ⟨by rw [lenA]; exact hl, fun c hc => by
  rw [tl_append] at hc
  rcases List.mem_append.mp hc with q | q
  · exact h.2 c q
  · exact k.2 c q⟩
instance {z : Str} : Decidable (leafOk (.str z)) := by unfold leafOk; infer_instance
def deedData : Deed → PyData
  | .keep c => .tuple [.str (Str.ofString "keep"), .str ⟨#[c]⟩]
  | .cut c => .tuple [.str (Str.ofString "cut"), .str ⟨#[c]⟩]
  | .put c => .tuple [.str (Str.ofString "put"), .str ⟨#[c]⟩]
  | .swap c d => .tuple [.str (Str.ofString "swap"), .str ⟨#[c]⟩, .str ⟨#[d]⟩]
theorem DeedV.th {K : PySem.W.Frag} {H : Hp} {v : V} {e : Deed} (h : DeedV H v e) : Th K H v (deedData e) ∧ Item (deedData e) := by
  obtain ⟨b, rfl, hb, ho⟩ := h
  have l1 : leafOk (.str (Str.ofString "keep")) := by decide +kernel
  have l2 : leafOk (.str (Str.ofString "cut")) := by decide +kernel
  have l3 : leafOk (.str (Str.ofString "put")) := by decide +kernel
  have l4 : leafOk (.str (Str.ofString "swap")) := by decide +kernel
  cases e with
  | keep c => exact ⟨.tup (SqT.of hb) (.cons (leaf_th l1) (.cons (leaf_th (leaf_one ho)) .nil)), .of_tup (by simp [l1, leaf_one ho]) (by simp)⟩
  | cut c => exact ⟨.tup (SqT.of hb) (.cons (leaf_th l2) (.cons (leaf_th (leaf_one ho)) .nil)), .of_tup (by simp [l2, leaf_one ho]) (by simp)⟩
  | put c => exact ⟨.tup (SqT.of hb) (.cons (leaf_th l3) (.cons (leaf_th (leaf_one ho)) .nil)), .of_tup (by simp [l3, leaf_one ho]) (by simp)⟩
  | swap c d => exact ⟨.tup (SqT.of hb) (.cons (leaf_th l4) (.cons (leaf_th (leaf_one ho.1)) (.cons (leaf_th (leaf_one ho.2)) .nil))), .of_tup (by simp [l4, leaf_one ho.1, leaf_one ho.2]) (by simp)⟩
theorem some_atS {i : Int} (h0 : 0 ≤ i) (h1 : i < 94) : ∃ c, atI someS.cps.toList i = some c ∧ okc c = true := some_at h0 h1
theorem keep1 {H H' : Hp} {a b : Addr} {o : HO} (n : ∀ x, x ≠ a → H' x = H x) (h : H b = some o) (ne : b ≠ a) : H' b = some o := by rw [n b ne]; exact h
theorem item1 {K : PySem.W.Frag} {H : Hp} {t : Addr} {w : Str} (h : SqT K H t [.str w]) (h1 : leafOk (.str w)) : ∃ d, Th K H (.ref t) d ∧ Item d := ⟨_, .tup h (.cons (leaf_th h1) .nil), .of_tup (by simp [h1]) (by simp)⟩
theorem item2 {K : PySem.W.Frag} {H : Hp} {t : Addr} {w a : Str} (h : SqT K H t [.str w, .str a]) (h1 : leafOk (.str w)) (h2 : leafOk (.str a)) : ∃ d, Th K H (.ref t) d ∧ Item d := ⟨_, .tup h (.cons (leaf_th h1) (.cons (leaf_th h2) .nil)), .of_tup (by simp [h1, h2]) (by simp)⟩
theorem item2i {K : PySem.W.Frag} {H : Hp} {t : Addr} {w : Str} {a : Int} (h : SqT K H t [.str w, .int a]) (h1 : leafOk (.str w)) : ∃ d, Th K H (.ref t) d ∧ Item d := ⟨_, .tup h (.cons (leaf_th h1) (.cons (.int _) .nil)), .of_tup (fun e he => by
  simp only [List.mem_cons, List.not_mem_nil, or_false] at he
  rcases he with rfl | rfl
  · exact h1
  · trivial) (by simp)⟩
theorem item3 {K : PySem.W.Frag} {H : Hp} {t : Addr} {w a b : Str} (h : SqT K H t [.str w, .str a, .str b]) (h1 : leafOk (.str w)) (h2 : leafOk (.str a)) (h3 : leafOk (.str b)) : ∃ d, Th K H (.ref t) d ∧ Item d := ⟨_, .tup h (.cons (leaf_th h1) (.cons (leaf_th h2) (.cons (leaf_th h3) .nil))), .of_tup (by simp [h1, h2, h3]) (by simp)⟩
theorem itemL {K : PySem.W.Frag} {H : Hp} {t : Addr} {w a : Str} (h : SqL K H t [.str w, .str a]) (h1 : leafOk (.str w)) (h2 : leafOk (.str a)) : ∃ d, Th K H (.ref t) d ∧ Item d := ⟨_, .lst h (.cons (leaf_th h1) (.cons (leaf_th h2) .nil)), ⟨.lst fun d hd => leaf_sh (by
  simp only [List.mem_cons, List.not_mem_nil, or_false] at hd
  rcases hd with rfl | rfl
  · exact h1
  · exact h2), fun _ e => nomatch e⟩⟩
/-- a list among which deeds may stand -/
structure Itms (K : PySem.W.Frag) (H : Hp) (a : Addr) (vs : List V) (ds : List PyData) : Prop where
  sq : SqL K H a vs
  th : ThAll K H vs ds
  it : ∀ d ∈ ds, Item d
  len : ds.length ≤ 900
theorem item_sh {ds : List PyData} (h : ∀ d ∈ ds, Item d) : Sh 3 (.list ds) := .lst fun d hd => (h d hd).sh
/-- what is handed in as deeds -/
inductive Hand (K : PySem.W.Frag) (H : Hp) : V → PyData → Prop
  | lst {a : Addr} {vs : List V} {ds : List PyData} : Itms K H a vs ds → Hand K H (.ref a) (.list ds)
  | oth {v : V} {d : PyData} : Th K H v d → Sh 3 d → isK d "list" = false → Hand K H v d
  | dct {a : Addr} : H a = some (.dK []) → Hand K H (.ref a) (.dict [])
theorem items_th {K : PySem.W.Frag} {H : Hp} : ∀ {vs : List V} {es : List Deed}, All2 (DeedV H) vs es → ThAll K H vs (es.map deedData) ∧ ∀ d ∈ es.map deedData, Item d
  | _, _, .nil => ⟨.nil, by simp⟩
  | _, _, .cons h t => by
    obtain ⟨a, b⟩ := items_th (K := K) t
    exact ⟨.cons (h.th (K := K)).1 a, by simp only [List.map_cons, List.mem_cons, forall_eq_or_imp]; exact ⟨(h.th (K := K)).2, b⟩⟩
theorem deed_sq {K : PySem.W.Frag} {H : Hp} {v : V} {e : Deed} (h : DeedV H v e) : ∃ b xs, v = .ref b ∧ SqT K H b xs ∧ xs[1]? = some (.str ⟨#[deedSign e]⟩) ∧ okc (deedSign e) = true := by
  obtain ⟨b, rfl, hb, ho⟩ := h
  refine ⟨b, _, rfl, SqT.of hb, ?_, ?_⟩
  · cases e <;> rfl
  · cases e with
    | swap c d => exact ho.1
    | _ => exact ho
theorem signs_th {K : PySem.W.Frag} {H : Hp} : ∀ l : List Nat, ThAll K H (l.map fun c => V.str ⟨#[c]⟩) (l.map fun c => PyData.str ⟨#[c]⟩)
  | [] => .nil
  | c :: l => .cons (.str _ (by rw [one_len]; decide)) (signs_th l)
theorem wordD_no {P : Prop} (h : P) : P := h
/-- what the law's own asking tells of a change -/
def toldW (dt dd : PyData) : Str × V :=
  if isTextD dt = true then match dt with
    | .str z => match changedD (tl z) dd with
      | none => (Str.ofString "change", .non)
      | some l => (Str.ofString "", .str ⟨l.toArray⟩)
    | _ => (Str.ofString "text", .non)
  else (Str.ofString "text", .non)
theorem hand_th {K : PySem.W.Frag} {H : Hp} {v : V} {d : PyData} (h : Hand K H v d) : Th K H v d ∧ (∀ ds, d = .list ds → shortDs ds) ∧ (∀ ds, d = .list ds → ds.length ≤ 1000 ∧ ∀ d ∈ ds, ∀ es, d = .tuple es → ∃ w r, es = .str w :: r) := by
  cases h with
  | lst i => exact ⟨.lst i.sq i.th, fun ds e => by
      cases e
      exact ⟨Nat.le_trans i.len (by decide), fun d hd es e => ⟨((i.it d hd).tup es e).1, Nat.le_trans ((i.it d hd).tup es e).2.1 (by decide)⟩⟩, fun ds e => by
      cases e
      exact ⟨Nat.le_trans i.len (by decide), fun d hd es e => ((i.it d hd).tup es e).2.2⟩⟩
  | oth t _ n => exact ⟨t, (fun ds e => by subst e; cases n), (fun ds e => by subst e; cases n)⟩
  | dct h => exact ⟨.dct h, (fun ds e => nomatch e), (fun ds e => nomatch e)⟩
theorem Hand.more {K : PySem.W.Frag} {H H' : Hp} {v : V} {d : PyData} (s : Same H H') (h : Hand K H v d) : Hand K H' v d := by
  cases h with
  | lst i => exact .lst ⟨s.seq i.sq, i.th.more s, i.it, i.len⟩
  | oth t a b => exact .oth (t.more s) a b
  | dct h => exact .dct (s _ _ h)
theorem deed_ok {d : PyData} {e : Deed} (h : deedD d = some e) : okDeed e := by
  have one : ∀ {x : PyData} {c : Nat}, oneD x = some c → okc c = true := by
    intro x c hx
    cases x with
    | str z =>
      have hx : oneL (tl z) = some c := hx
      match tl z, hx with
      | [y], hx =>
        have hx : (if okc y = true then some y else none) = some c := hx
        by_cases q : okc y = true
        · rw [if_pos q] at hx; rw [← Option.some.inj hx]; exact q
        · rw [if_neg q] at hx; cases hx
      | [], hx => cases hx
      | _ :: _ :: _, hx => cases hx
    | _ => cases hx
  match d, h with
  | .tuple (.str w :: r), h =>
    have h : deedL w r = some e := h
    match r, h with
    | [], h => cases h
    | [a], h =>
      simp only [deedL] at h
      cases ha : oneD a with
      | none => rw [ha] at h; cases h
      | some c =>
        rw [ha, Option.bind_some] at h
        split at h
        · cases h; exact one ha
        · split at h
          · cases h; exact one ha
          · split at h
            · cases h; exact one ha
            · cases h
    | [a, b], h =>
      simp only [deedL] at h
      cases ha : oneD a with
      | none => rw [ha] at h; cases h
      | some c =>
        cases hb : oneD b with
        | none => rw [ha, hb] at h; cases h
        | some c2 =>
          rw [ha, hb, Option.bind_some, Option.bind_some] at h
          split at h
          · cases h; exact ⟨one ha, one hb⟩
          · cases h
    | _ :: _ :: _ :: _, h => cases h
theorem deeds_ok : ∀ {ds : List PyData} {l : List Deed}, deedsD ds = some l → ∀ e ∈ l, okDeed e
  | [], l, h => by cases h; simp
  | d :: ds, l, h => by
    simp only [deedsD] at h
    cases hd : deedD d with
    | none => rw [hd] at h; cases h
    | some e =>
      rw [hd, Option.bind_some] at h
      cases hl : deedsD ds with
      | none => rw [hl] at h; cases h
      | some l' =>
        rw [hl] at h
        cases h
        simp only [List.mem_cons, forall_eq_or_imp]
        exact ⟨deed_ok hd, deeds_ok hl⟩
theorem change_ok : ∀ {T : List Nat} {es : List Deed} {l : List Nat}, changeL T es = some l → (∀ e ∈ es, okDeed e) → ∀ c ∈ l, okc c = true
  | T, [], l, h, _ => by
    simp only [changeL] at h
    split at h
    · cases h; simp
    · cases h
  | T, e :: r, l, h, k => by
    have ke := k e (List.mem_cons_self ..)
    have kr : ∀ e ∈ r, okDeed e := fun x hx => k x (List.mem_cons_of_mem _ hx)
    have step : ∀ {T' : List Nat} {d : Nat}, okc d = true → (changeL T' r).map (d :: ·) = some l → ∀ c ∈ l, okc c = true := fun {T' d} hd q => by
      cases e2 : changeL T' r with
      | none => rw [e2] at q; cases q
      | some l' =>
        rw [e2] at q
        cases q
        simp only [List.mem_cons, forall_eq_or_imp]
        exact ⟨hd, change_ok e2 kr⟩
    cases e with
    | put c => exact step (T' := T) ke (by cases T <;> exact h)
    | keep c =>
      cases T with
      | nil => cases h
      | cons x T =>
        simp only [changeL] at h
        split at h
        · exact step ke h
        · cases h
    | cut c =>
      cases T with
      | nil => cases h
      | cons x T =>
        simp only [changeL] at h
        split at h
        · exact change_ok h kr
        · cases h
    | swap c d =>
      cases T with
      | nil => cases h
      | cons x T =>
        simp only [changeL] at h
        split at h
        · exact step ke.2 h
        · cases h
theorem changed_ok {T : List Nat} {d : PyData} {l : List Nat} (h : changedD T d = some l) : ∀ c ∈ l, okc c = true := by
  cases d with
  | list ds =>
    have h : (deedsD ds).bind (changeL T) = some l := h
    cases e : deedsD ds with
    | none => rw [e] at h; cases h
    | some es =>
      rw [e] at h
      exact change_ok h (deeds_ok e)
  | _ => cases h
theorem told_dp {K : PySem.W.Frag} {H : Hp} (dt dd : PyData) : ∃ e, DpAll K H [.str (toldW dt dd).1, (toldW dt dd).2] [.str (toldW dt dd).1, e] ∧ Sh 2 (.tuple [.str (toldW dt dd).1, e]) := by
  have w1 : ∀ c ∈ tl (Str.ofString "text"), c < 1114112 := by decide +kernel
  have w2 : ∀ c ∈ tl (Str.ofString "change"), c < 1114112 := by decide +kernel
  have w3 : ∀ c ∈ tl (Str.ofString ""), c < 1114112 := by decide +kernel
  have two : ∀ {a b : PyData}, Sh 1 a → Sh 1 b → Sh 2 (.tuple [a, b]) := fun ha hb => .tup fun d hd => by
    simp only [List.mem_cons, List.not_mem_nil, or_false] at hd
    rcases hd with rfl | rfl
    · exact ha
    · exact hb
  cases et : isTextD dt with
  | false =>
    rw [show toldW dt dd = (Str.ofString "text", .non) from by unfold toldW; rw [et]; rfl]
    exact ⟨.none, .cons (.str _) (.cons .non .nil), two (Sh.str w1) Sh.non⟩
  | true =>
    obtain ⟨z, rfl, _⟩ := text_of et
    cases hc : changedD (tl z) dd with
    | none =>
      rw [show toldW (.str z) dd = (Str.ofString "change", .non) from by unfold toldW; rw [et]; simp only [if_pos, hc]]
      exact ⟨.none, .cons (.str _) (.cons .non .nil), two (Sh.str w2) Sh.non⟩
    | some l =>
      rw [show toldW (.str z) dd = (Str.ofString "", .str ⟨l.toArray⟩) from by unfold toldW; rw [et]; simp only [if_pos, hc]]
      exact ⟨.str ⟨l.toArray⟩, .cons (.str _) (.cons (.str _) .nil), two (Sh.str w3) (Sh.str fun c hc' => okc_lt (changed_ok hc c hc'))⟩
theorem list_by {α : Type} {ys : List V} {xs : List α} {f : α → V} (hl : ys.length = xs.length) (h : ∀ (i : Nat) (y : V), ys[i]? = some y → ∃ x, xs[i]? = some x ∧ y = f x) : ys = xs.map f := by
  apply List.ext_getElem?
  intro i
  rw [List.getElem?_map]
  cases e : ys[i]? with
  | none =>
    rw [List.getElem?_eq_none (by have := List.getElem?_eq_none_iff.mp e; omega)]
    rfl
  | some y =>
    obtain ⟨x, h1, h2⟩ := h i y e
    rw [h1, h2]
    rfl
theorem plainAll_strs : ∀ l : List Str, PyData.plainAll (l.map PyData.str) = true
  | [] => rfl
  | _ :: l => plainAll_strs l
theorem depthAll_strs : ∀ l : List Str, PyData.depthAll (l.map PyData.str) = 0
  | [] => rfl
  | _ :: l => by
    show max 0 (PyData.depthAll (l.map PyData.str)) = 0
    rw [depthAll_strs l]
    rfl
theorem count_strs (k : Str) : ∀ l : List Str, (l.map PyData.str).countP (fun y => PyData.eqv y (.str k)) = l.count k
  | [] => rfl
  | a :: l => by
    rw [List.map_cons, List.countP_cons, count_strs k l, List.count_cons]
    congr 1
theorem mt_countS {X : Cx} (hu : X.A.units + 64 < cLine) : MtR X "list.count" (fun x xs H Q => ∃ (p : Addr) (ns : List Str) (k : Str), x = .ref p ∧ xs = [.str k] ∧ SqL X.K H p (ns.map V.str) ∧ Q (.int (ns.count k : Nat)) H) := by
  intro pins s σ H x xs v us Q I rx rxs h
  obtain ⟨p, ns, k, rfl, rfl, hs, q⟩ := h
  cases rx
  obtain ⟨u, rfl, ru⟩ := rxs.one
  obtain ⟨its, rv, hl, _⟩ := I.list hs
  obtain ⟨as, rs⟩ := Dp.readsAll I (ns.map .str) _ _ (dp_strs ns) rv
  obtain ⟨bs, rb⟩ := Dp.reads I (.str k) _ _ (.str k) ru
  refine PySem.SeqAt.count_list_data (vs := its.toArray) hl.isList rs rb (plainAll_strs ns) rfl (by rw [depthAll_strs]; omega) ⟨.int (ns.count k : Nat), H, I.tok _, ⟨s.toks, ?_⟩, q⟩
  rw [count_strs]
theorem e_count {X : Cx} {σ : L2.St} {H : Hp} {Q : VK} {o e : Expr} {apos pos : Pos} (h : eW X o σ H fun x H1 => tyV X.K "list" x H1 ∧ aW X [e] σ H1 fun xs H2 => mW X "list.count" x xs H2 Q) (hbase : attributeBase o "count" X.env (eval o X.env) = eval o X.env := by rfl)
    (hfew : ((backTo pos (starEach [e] X.env)).all (fun x => !x.1) && (backToKw pos (keywordEach [] X.env)).all (fun x => x.1.isSome) && decide ([e].length + ([] : List Keyword).length + (if ([] : List Keyword).isEmpty then 0 else 1) < 30)) = true := by rfl)
    (hline : (apos.endLine == pos.line) = true := by rfl) (hs : starEach [e] X.env = (false, eval e X.env) :: starEach [] X.env := by rfl) : eW X (.Call (.Attribute o "count" apos) [e] [] pos) σ H Q :=
  e_bm PySem.F.plainAttrs_list PySem.F.slot_list_count PySem.F.type_list_count h hbase hfew hline hs rfl
theorem m_countS {X : Cx} {H : Hp} {Q : VK} {p : Addr} {ns : List Str} {k : Str} (hu : X.A.units + 64 < cLine) (hs : SqL X.K H p (ns.map V.str)) (q : Q (.int (ns.count k : Nat)) H) : mW X "list.count" (.ref p) [.str k] H Q := mI (mt_countS hu) ⟨p, ns, k, rfl, rfl, hs, q⟩
theorem e_dct4 {X : Cx} {σ : L2.St} {H : Hp} {Q : VK} {a1 a2 a3 a4 b1 b2 b3 b4 : Expr} {pos : Pos} (h : ∀ p H', Same H H' → H p = none → H' p = some (.dK []) → (∀ b, b ≠ p → H' b = H b) → eW X a1 σ H' fun x1 H1 => eW X b1 σ H1 fun y1 H2 => eW X a2 σ H2 fun x2 H3 => eW X b2 σ H3 fun y2 H4 => eW X a3 σ H4 fun x3 H5 => eW X b3 σ H5 fun y3 H6 => eW X a4 σ H6 fun x4 H7 => eW X b4 σ H7 fun y4 H8 =>
    H8 p = some (.dK []) ∧ ∃ k1 k2 k3 k4 : Str, x1 = .str k1 ∧ x2 = .str k2 ∧ x3 = .str k3 ∧ x4 = .str k4 ∧ ∀ H9, H9 p = some (.dK (mergeK [] [((.inr k1 : Key), y1), (.inr k2, y2), (.inr k3, y3), (.inr k4, y4)])) → (∀ b, b ≠ p → H9 b = H8 b) → Q (.ref p) H9) : eW X (.Dict [some a1, some a2, some a3, some a4] [b1, b2, b3, b4] pos) σ H Q :=
  eI (pe_disp (pps_cons PEw PEw (pps_cons PEw PEw (pps_cons PEw PEw (pps_cons PEw PEw pps_nil)))) rfl rfl (fun z => nomatch z) (Nat.le_of_ble_eq_true rfl)) fun p hp => eMono (h p _ (sameU hp) hp upd_same fun _ hb => upd_ne hb) fun x1 H1 h1 => eMono h1 fun y1 H2 h2 => eMono h2 fun x2 H3 h3 => eMono h3 fun y2 H4 h4 => eMono h4 fun x3 H5 h5 => eMono h5 fun y3 H6 h6 => eMono h6 fun x4 H7 h7 => eMono h7 fun y4 H8 ⟨e, k1, k2, k3, k4, e1, e2, e3, e4, q⟩ =>
    ⟨e, [(.inr k1, y1), (.inr k2, y2), (.inr k3, y3), (.inr k4, y4)], by rw [e1, e2, e3, e4]; rfl, Nat.le_of_ble_eq_true rfl, q _ upd_same fun _ hb => upd_ne hb⟩
/-! ### costs -/
def isCostsD : PyData → Bool
  | .tuple [a, b, c] => isWorthD a && (isWorthD b && isWorthD c)
  | _ => false
theorem costs_is {K : PySem.W.Frag} {H : Hp} {v : V} {d : PyData} (h : Th K H v d) (e : isCostsD d = true) : ∃ (a : Addr) (p c s : Int), v = .ref a ∧ d = .tuple [.int p, .int c, .int s] ∧ SqT K H a [.int p, .int c, .int s] ∧ (0 ≤ p ∧ p ≤ top60) ∧ (0 ≤ c ∧ c ≤ top60) ∧ (0 ≤ s ∧ s ≤ top60) := by
  rcases th_tup h with ⟨a, vs, ds, rfl, rfl, hs, ha⟩ | n
  · match ds, ha, e with
    | [x, y, z], ha, e =>
      obtain ⟨v1, v2, v3, rfl, h1, h2, h3⟩ := th3 ha
      have e : (isWorthD x && (isWorthD y && isWorthD z)) = true := e
      simp only [Bool.and_eq_true] at e
      have one : ∀ {v : V} {d : PyData}, Th K H v d → isWorthD d = true → ∃ n, d = .int n ∧ v = .int n ∧ 0 ≤ n ∧ n ≤ top60 := fun {v d} h e => by
        rcases th_whole h with ⟨n, rfl, rfl⟩ | ⟨_, f⟩
        · refine ⟨n, rfl, rfl, ?_⟩
          simp only [isWorthD, Bool.and_eq_true, decide_eq_true_eq] at e
          exact e
        · rw [f] at e; cases e
      obtain ⟨p, rfl, rfl, p1⟩ := one h1 e.1
      obtain ⟨c, rfl, rfl, c1⟩ := one h2 e.2.1
      obtain ⟨s, rfl, rfl, s1⟩ := one h3 e.2.2
      exact ⟨a, p, c, s, rfl, rfl, hs, p1, c1, s1⟩
  · cases d <;> first | (exact Bool.noConfusion n) | cases e
def R_checked_costs (K : PySem.W.Frag) (cs : Cs) : V → Hp → VK → XK → Prop := fun x H Q E => ∃ d, Th K H x d ∧ (isCostsD d = true → Q x H) ∧ (isCostsD d = false → E (.ref cs.NoCosts) none H)
section
set_option hygiene false in
local macro_rules | `(tactic| top_name) => `(tactic| first | refine e_call (df_is_whole T) (hr.mono (by decide)) ?_)
set_option hygiene false in
local macro_rules | `(tactic| top_raise) => `(tactic| first | refine s_raise T.x_NoCosts ?_)
theorem ok_checked_costs {f : Addr} {fd : FuncData} (F : Fun K "checked_costs" "checked_costs" s_checked_costs f fd) (T : Txt K mg cs) : FnOk P w K mg base (L2.CX P w) 2 f fd ["thing"] (sp1 (R_checked_costs K cs)) := by
  refine F.okX sc_checked_costs (fun vs H Q E h => sp1_len h) (fun cdv A outer s H vs Q E hr h => ⟨_, PBw (X := X_checked_costs P w K mg base f cdv A outer s H E), ?_⟩)
  obtain ⟨a0, rfl, h⟩ := h
  have ib_NoCosts : Gn mg "NoCosts" (some _) := ⟨T.x_NoCosts.mg⟩
  have ib_isinstance := T.b_isinstance
  have ib_tuple := T.b_tuple
  have ib_len := T.b_len
  obtain ⟨t_DEAREST, h_DEAREST⟩ := T.k_DEAREST
  have ib_DEAREST : Gn mg "DEAREST" (some _) := ⟨h_DEAREST⟩
  have hr' : Room 1 (X_checked_costs P w K mg base f cdv A outer s H E).A := hr
  replace hr := hr'
  clear hr'
  obtain ⟨d, hd, h1, h2⟩ := h
  kxs_still
  refine k_isTuple hd ?_
  rcases th_tup hd with ⟨a, vs, ds, rfl, rfl, hs, ha⟩ | n
  · rw [show isK (.tuple ds) "tuple" = true from rfl]
    have hal := ha.len
    kxs_still
    refine iteND (fun c3 => ?_) fun c3 => ?_
    · kxs_still
      refine h2 ?_
      match ds, hal with
      | [], _ => rfl
      | [_], _ => rfl
      | [_, _], _ => rfl
      | [_, _, _], e => exact absurd (by rw [e]; rfl) c3
      | _ :: _ :: _ :: _ :: _, _ => rfl
    · kxs_still
      have c3 : vs.length = 3 := by omega
      obtain ⟨x0, y0, z0, rfl⟩ := len3 (hal ▸ c3)
      have good : isCostsD (.tuple [x0, y0, z0]) = [x0, y0, z0].all isWorthD := by
        show (isWorthD x0 && (isWorthD y0 && isWorthD z0)) = (isWorthD x0 && (isWorthD y0 && (isWorthD z0 && true)))
        rw [Bool.and_true]
      rw [good] at h1 h2
      refine s_for (j_tup ?_)
      kxs_still
      refine ⟨⟨_, hs⟩, _, _, _, walk_tup (xs := vs), fun i σ' H' => ∃ v, σ' = [some (.ref a), v] ∧ H' = H ∧ ([x0, y0, z0].take i).all isWorthD = true, ⟨none, rfl, rfl, rfl⟩, fun _ _ _ _ ⟨_, _, e, _⟩ => by rw [e]; exact hs, ?_, ?_⟩
      · rintro i x σ' H' H2 hi ⟨v, rfl, rfl, hall⟩ ⟨rfl, hx⟩
        obtain ⟨d, hd1, hd2⟩ := ha.get hx
        have bad : isWorthD d = false → E (.ref cs.NoCosts) none H2 := fun e => h2 (all_cut hd1 e)
        kxs_still
        refine ⟨d, hd2, ?_⟩
        rcases th_whole hd2 with ⟨n, rfl, rfl⟩ | ⟨f1, f2⟩
        · rw [show isWholeD (.int n) = true from rfl]
          have ew : isWorthD (.int n) = (decide (0 ≤ n) && decide (n ≤ top60)) := rfl
          kxs_still
          refine iteD (fun c0 => ?_) fun c0 => ?_
          · kxs_still
            exact bad (by rw [ew, decide_eq_false (by omega), Bool.false_and])
          · kxs_still
            refine iteD (fun c1 => ?_) fun c1 => ?_
            · kxs_still
              exact bad (by rw [ew, decide_eq_false (show ¬ n ≤ top60 by have c1 : top60 < n := c1; omega), Bool.and_false])
            · kxs_still
              refine ⟨_, rfl, rfl, ?_⟩
              rw [all_snoc hd1, hall, ew, decide_eq_true (by omega), decide_eq_true (show n ≤ top60 by have c1 : ¬ top60 < n := c1; omega)]
              rfl
        · rw [f1]
          kxs_still
          exact bad f2
      · rintro σ' H' ⟨v, rfl, rfl, hall⟩
        kxs_still
        rw [c3, show ([x0, y0, z0].take 3) = [x0, y0, z0] from rfl] at hall
        exact h1 hall
  · rw [n]
    kxs_still
    refine h2 ?_
    cases d <;> first | rfl | (exact Bool.noConfusion n)
end
theorem df_checked_costs (T : Txt K mg cs) : Df P w K mg base "checked_costs" 2 ["thing"] (sp1 (R_checked_costs K cs)) := by
  obtain ⟨f, fd, hm, F, hb⟩ := T.f_checked_costs.ex
  exact ⟨f, fd, hm, F.kp, hb, ok_checked_costs F T⟩
def costW (p c s : Int) : Deed → Int
  | .keep _ => 0
  | .put _ => p
  | .cut _ => c
  | .swap _ _ => s
theorem kne (a b : String) (h : decide (Str.ofString a = Str.ofString b) = false) : ¬ (Sum.inr (Str.ofString a) : Key) = Sum.inr (Str.ofString b) := fun z => of_decide_eq_false h (Sum.inr.inj z)
def costSum (p c s : Int) (es : List Deed) : Int := (es.map (costW p c s)).sum
def costOf : PyData → PyData → Int
  | .list ds, .tuple [.int p, .int c, .int s] => costSum p c s ((deedsD ds).getD [])
  | _, _ => 0
theorem deeds_all : ∀ {ds : List PyData} {es : List Deed}, deedsD ds = some es → All2 (fun d e => deedD d = some e) ds es
  | [], es, h => by cases h; exact .nil
  | d :: ds, es, h => by
    have h : (deedD d).bind (fun e => (deedsD ds).map (e :: ·)) = some es := h
    cases e1 : deedD d with
    | none => rw [e1] at h; cases h
    | some e =>
      rw [e1, Option.bind_some] at h
      cases e2 : deedsD ds with
      | none => rw [e2] at h; cases h
      | some r => rw [e2] at h; cases h; exact .cons e1 (deeds_all e2)
def wordOf : Deed → Str
  | .keep _ => Str.ofString "keep"
  | .put _ => Str.ofString "put"
  | .cut _ => Str.ofString "cut"
  | .swap _ _ => Str.ofString "swap"
theorem deed_wrd {K : PySem.W.Frag} {H : Hp} {v : V} {d : PyData} {e : Deed} (h : Th K H v d) (q : deedD d = some e) : ∃ (a : Addr) (r : List V), v = .ref a ∧ SqT K H a (.str (wordOf e) :: r) := by
  obtain ⟨a, rfl, hd⟩ := deed_at h q
  cases hd with
  | keep h _ => exact ⟨a, _, rfl, h⟩
  | cut h _ => exact ⟨a, _, rfl, h⟩
  | put h _ => exact ⟨a, _, rfl, h⟩
  | swap h _ _ => exact ⟨a, _, rfl, h⟩
def R_cost_of (K : PySem.W.Frag) (cs : Cs) : V → V → V → Hp → VK → XK → Prop := fun x y z H Q E => ∃ dt dd dc, Th K H x dt ∧ Th K H y dd ∧ Th K H z dc ∧ (∀ ds, dd = .list ds → shortDs ds) ∧ (isTextD dt = false → E (.ref cs.NoText) none H) ∧ (isTextD dt = true → isCostsD dc = false → E (.ref cs.NoCosts) none H) ∧
  ∀ z, dt = .str z → isTextD dt = true → isCostsD dc = true → (changedD (tl z) dd = none → ∀ H', Same H H' → E (.ref cs.NoChange) none H') ∧ (∀ l, changedD (tl z) dd = some l → ∀ H', Same H H' → Q (.int (costOf dd dc)) H')
section
set_option hygiene false in
local macro_rules | `(tactic| top_name) => `(tactic| first | refine e_call (df_checked_text T) (hr.mono (by decide)) ?_ | refine e_call (df_checked_costs T) (hr.mono (by decide)) ?_ | refine e_call (df_changed T) (hr.mono (by decide)) ?_)
theorem ok_cost_of {f : Addr} {fd : FuncData} (F : Fun K "cost_of" "cost_of" s_cost_of f fd) (T : Txt K mg cs) : FnOk P w K mg base (L2.CX P w) 6 f fd ["text", "deeds", "costs"] (sp3 (R_cost_of K cs)) := by
  refine F.okX sc_cost_of (fun vs H Q E h => sp3_len h) (fun cdv A outer s H vs Q E hr h => ⟨_, PBw (X := X_cost_of P w K mg base f cdv A outer s H E), ?_⟩)
  obtain ⟨a0, a1, a2, rfl, h⟩ := h
  have ib_sum := T.b_sum
  have hr' : Room 5 (X_cost_of P w K mg base f cdv A outer s H E).A := hr
  replace hr := hr'
  clear hr'
  obtain ⟨dt, dd, dc, ht, hd, hc, hsd, h1, h2, h3⟩ := h
  kxs_still
  refine ⟨dt, ht, fun et => ?_, h1⟩
  obtain ⟨zt, rfl, hzt⟩ := text_of et
  kxs_still
  refine ⟨dc, hc, fun ec => ?_, h2 et⟩
  obtain ⟨ac, p, c, s', rfl, rfl, hcs, p1, c1, s1⟩ := costs_is hc ec
  have h3 := h3 zt rfl et ec
  kxs_still
  refine ⟨_, dd, ht, hd, hsd, fun e => absurd e (by rw [et]; simp), fun z ez e => ?_⟩
  cases ez
  refine ⟨h3.1, fun l el H1 s1' => ?_⟩
  have h3 := h3.2 l el
  rcases no_lst2 hd with ⟨ad, ws, ds, rfl, rfl, hS, hws⟩ | n
  case inr => rw [chg_no n] at el; cases el
  obtain ⟨es, ees⟩ : ∃ es, deedsD ds = some es := by
    have el : (deedsD ds).bind (changeL (tl zt)) = some l := el
    cases q : deedsD ds with
    | none => rw [q] at el; cases el
    | some es => exact ⟨es, rfl⟩
  have hall := deeds_all ees
  have hsl := (hsd ds rfl).1
  have hwl := hws.len
  kxs_still
  refine e_dct4 fun pd H2 s2 n2 k2 e2 => ?_
  kxs_still
  refine ⟨k2, _, _, _, _, rfl, rfl, rfl, rfl, fun H3 k3 e3 => ?_⟩
  have s13 : Same H1 H3 := fun b o q => by rw [e3 b (ne_of_none q n2)]; exact s2 _ _ q
  have val : ∀ e : Deed, valV (mergeK [] [((Sum.inr (Str.ofString "keep") : Key), V.int 0), (Sum.inr (Str.ofString "put"), V.int p), (Sum.inr (Str.ofString "cut"), V.int c), (Sum.inr (Str.ofString "swap"), V.int s')]) (.inr (wordOf e)) = some (.int (costW p c s' e)) := fun e => by
    show valV (putK (putK (putK (putK ([] : List (Key × V)) (Sum.inr (Str.ofString "keep")) _) (Sum.inr (Str.ofString "put")) _) (Sum.inr (Str.ofString "cut")) _) (Sum.inr (Str.ofString "swap")) _) _ = _
    rw [valV_put, valV_put, valV_put, valV_put]
    cases e with
    | keep c => rw [show wordOf (.keep c) = Str.ofString "keep" from rfl, if_neg (kne "keep" "swap" (by decide +kernel)), if_neg (kne "keep" "cut" (by decide +kernel)), if_neg (kne "keep" "put" (by decide +kernel)), if_pos rfl]; rfl
    | put c => rw [show wordOf (.put c) = Str.ofString "put" from rfl, if_neg (kne "put" "swap" (by decide +kernel)), if_neg (kne "put" "cut" (by decide +kernel)), if_pos rfl]; rfl
    | cut c => rw [show wordOf (.cut c) = Str.ofString "cut" from rfl, if_neg (kne "cut" "swap" (by decide +kernel)), if_pos rfl]; rfl
    | swap c d => rw [show wordOf (.swap c d) = Str.ofString "swap" from rfl, if_pos rfl]; rfl
  have s03 := s1'.trans s13
  have hS3 := s03.seq hS
  kxs_still
  refine e_lcP (blkOk_by (sc := defScope s_cost_of) (own := [("deed", 7)]) (by decide +kernel)) (fun i y => ∃ x, es[i]? = some x ∧ y = V.int (costW p c s' x)) (j_list ?_)
  kxs_still
  refine ⟨⟨_, hS3⟩, _, _, _, walk_list (xs := ws), by omega, fun H' s9 => s9.seq hS3, ?_, ?_⟩
  · rintro i x H' H4 hi s9 ⟨rfl, hx⟩
    obtain ⟨d, hd1, hd2⟩ := hws.get hx
    obtain ⟨e, he1, he2⟩ := hall.get hd1
    obtain ⟨a, r, rfl, hsq⟩ := deed_wrd hd2 he2
    have hsq' := Same.seqT' (s03.trans s9) hsq
    have k3' := s9 _ _ k3
    have gk := DGet.k (k := .inr (wordOf e)) k3'
    rw [val e] at gk
    refine ⟨Same.refl _, fun _ _ _ _ _ => ?_⟩
    kxs_still
    refine ⟨rfl, Same.refl _, fun _ _ _ _ _ => ?_⟩
    kxs_still
    refine i_dget (rm1 hr) gk ?_
    exact ⟨⟨e, he1, rfl⟩, Same.refl _⟩
  intro l4 H4 ys s4 n4 k4 hyl hy
  have hel := hall.len
  have e := list_by (f := fun x => V.int (costW p c s' x)) (xs := es) (by omega) hy
  have k4' : H4 l4 = some (.lst ((es.map (costW p c s')).map V.int)) := by rw [List.map_map]; rw [e] at k4; exact k4
  kxs_still
  refine k_sum (SqL.of k4') ?_
  have eco : costOf (.list ds) (.tuple [.int p, .int c, .int s']) = (es.map (costW p c s')).sum := by
    show costSum p c s' ((deedsD ds).getD []) = _
    rw [ees]
    rfl
  rw [eco] at h3
  exact h3 H4 (s03.trans s4)
end
theorem df_cost_of (T : Txt K mg cs) : Df P w K mg base "cost_of" 6 ["text", "deeds", "costs"] (sp3 (R_cost_of K cs)) := by
  obtain ⟨f, fd, hm, F, hb⟩ := T.f_cost_of.ex
  exact ⟨f, fd, hm, F.kp, hb, ok_cost_of F T⟩
theorem some_nd : (tl someS).Nodup := by decide +kernel
theorem at_ne {L : List Nat} (nd : L.Nodup) {i j : Int} {c d : Nat} (h1 : atI L i = some c) (h2 : atI L j = some d) (i0 : 0 ≤ i) (j0 : 0 ≤ j) (hne : i ≠ j) : c ≠ d := fun z => by
  unfold atI ixN at h1 h2
  rw [if_pos i0] at h1
  rw [if_pos j0] at h2
  by_cases li : i < (L.length : Nat)
  · by_cases lj : j < (L.length : Nat)
    · rw [if_pos li] at h1
      rw [if_pos lj] at h2
      have h1 : L[i.toNat]? = some c := h1
      have h2 : L[j.toNat]? = some d := h2
      rw [← z] at h2
      obtain ⟨l1, e1⟩ := List.getElem?_eq_some_iff.mp h1
      obtain ⟨l2, e2⟩ := List.getElem?_eq_some_iff.mp h2
      have := (List.getElem_inj nd).mp (e1.trans e2.symm)
      omega
    · rw [if_neg lj] at h2; cases h2
  · rw [if_neg li] at h1; cases h1
/-- a swap gives another sign -/
def fair : Deed → Prop
  | .swap c d => c ≠ d
  | _ => True
def R_law_made (K : PySem.W.Frag) : V → V → Hp → VK → XK → Prop := fun x y H Q _ => ∃ (a : Addr) (ns : List Int), x = .ref a ∧ SqL K H a (ns.map V.int) ∧ ns.length ≤ 400 ∧ y = .int 60 ∧
  ∀ p l z vs es H', Same H H' → H' p = some (.lst [.str z, .ref l]) → H' l = some (.lst vs) → All2 (DeedV H') vs es → es.length ≤ 400 → z.length ≤ 60 → (tl z).all okc = true → (∀ e ∈ es, fair e) → Q (.ref p) H'
section
set_option hygiene false in
local macro_rules | `(tactic| top_name) => `(tactic| first | refine e_call0 (df_law_all T) (hr.mono (by decide)) ⟨rfl, ?_⟩)
theorem ok_law_made {f : Addr} {fd : FuncData} (F : Fun K "_law_made" "_law_made" s_law_made f fd) (T : Txt K mg cs) : FnOk P w K mg base (L2.CX P w) 2 f fd ["_law_cells", "_law_most"] (sp2 (R_law_made K)) := by
  refine F.okX sc_law_made (fun vs H Q E h => sp2_len h) (fun cdv A outer s H vs Q E hr h => ⟨_, PBw (X := X_law_made P w K mg base f cdv A outer s H E), ?_⟩)
  obtain ⟨a0, a1, rfl, h⟩ := h
  have ib_len := T.b_len
  have hr' : Room 1 (X_law_made P w K mg base f cdv A outer s H E).A := hr
  replace hr := hr'
  clear hr'
  obtain ⟨a, ns, rfl, hS, hn, rfl, h⟩ := h
  tm_run
  intro l1 H1 s1 n1 k1 e1
  tm_run
  refine s_for (j_list ?_)
  tm_run
  refine ⟨⟨_, s1.seq hS⟩, _, _, _, walk_list (xs := ns.map V.int), fun i σ' H' => ∃ (z : Str) (vs : List V) (es : List Deed) (v5 v6 v7 v8 : Option V), σ' = [some (.ref a), some (.int 60), some (.str someS), some (.str z), some (.ref l1), v5, v6, v7, v8] ∧ Same H H' ∧ H' l1 = some (.lst vs) ∧ All2 (DeedV H') vs es ∧ es.length = i ∧ z.length ≤ 60 ∧ (tl z).all okc = true ∧ ∀ e ∈ es, fair e,
    ⟨_, [], [], none, none, none, none, rfl, s1, k1, .nil, rfl, by decide +kernel, by decide +kernel, by simp⟩, ?_, ?_, ?_⟩
  · rintro i σ' H' hi ⟨_, _, _, _, _, _, _, _, s, _⟩
    exact s.seq hS
  · rintro i x σ' H' H2 hi ⟨z, vs, es, v5, v6, v7, v8, rfl, s2, k2, hv, hl, hz, hok, hfair⟩ ⟨rfl, hx⟩
    rw [List.length_map] at hi
    rw [List.getElem?_map] at hx
    obtain ⟨j, hj, rfl⟩ : ∃ j, ns[i]? = some j ∧ V.int j = x := by
      cases e : ns[i]? with
      | none => rw [e] at hx; cases hx
      | some p => rw [e] at hx; exact ⟨p, rfl, Option.some.inj hx⟩
    have hvl := hv.len
    tm_run
    obtain ⟨c, h1, hc⟩ := some_atS (i := j / 4 % 94) (Int.emod_nonneg _ (by decide)) (Int.emod_lt_of_pos _ (by decide))
    refine i_str (z := someS) (by decide +kernel) h1 ?_
    tm_run
    obtain ⟨d, h2, hd⟩ := some_atS (i := (j / 4 % 94 + 1 + j / 376 % 93) % 94) (Int.emod_nonneg _ (by decide)) (Int.emod_lt_of_pos _ (by decide))
    refine i_str (z := someS) (by decide +kernel) h2 ?_
    tm_run
    have hcd : c ≠ d := at_ne (L := tl someS) some_nd h1 h2 (Int.emod_nonneg _ (by decide)) (Int.emod_nonneg _ (by decide)) (by omega)
    have room : vs.length < 16000000 := by omega
    have app : ∀ {z' : Str} {t : Addr} {e : Deed} {H3 H4 : Hp} {v5 v6 v7 v8 : Option V}, Same H2 H3 → H3 t = some (.tup (deedVals e)) → okDeed e → fair e → H4 l1 = some (.lst (vs ++ [.ref t])) → (∀ b, b ≠ l1 → H4 b = H3 b) → z'.length ≤ 60 → (tl z').all okc = true →
        ∃ (z : Str) (vs : List V) (es : List Deed) (w5 w6 w7 w8 : Option V), [some (.ref a), some (.int 60), some (.str someS), some (.str z'), some (.ref l1), v5, v6, v7, v8] = [some (.ref a), some (.int 60), some (.str someS), some (.str z), some (.ref l1), w5, w6, w7, w8] ∧ Same H H4 ∧ H4 l1 = some (.lst vs) ∧ All2 (DeedV H4) vs es ∧ es.length = i + 1 ∧ z.length ≤ 60 ∧ (tl z).all okc = true ∧ ∀ e ∈ es, fair e := by
      intro z' t e H3 H4 v5 v6 v7 v8 s3 kt ho hf k4 e4 hz' hok'
      have t4 : TS H3 H4 := TS.butL (s3 _ _ k2) e4
      refine ⟨_, _, es ++ [e], _, _, _, _, rfl, fun b o q => ?_, k4, ((hv.mono fun _ _ => DeedV.ts (TS.trans (Same.ts s3) t4)).snoc ⟨t, rfl, t4 _ _ kt, ho⟩), by rw [List.length_append, hl]; rfl, hz', hok', fun x hx => by
        rcases List.mem_append.mp hx with hx | hx
        · exact hfair x hx
        · rw [List.mem_singleton.mp hx]; exact hf⟩
      rw [e4 b (ne_of_none q n1)]
      exact s3 _ _ (s2 _ _ q)
    have m4 : 0 ≤ j % 4 ∧ j % 4 < 4 := ⟨Int.emod_nonneg _ (by decide), Int.emod_lt_of_pos _ (by decide)⟩
    have put3 : bW (X_law_made P w K mg base f cdv A outer s H E) ((defBody s_law_made).drop 3) { nx := fun _ _ => True, rt := fun _ _ => True } [] H → True := fun _ => trivial
    refine iteD (fun cl => ?_) fun cl => ?_
    · tm_run
      refine ⟨ty_l k2, ?_⟩
      tm_run
      intro t H3 s3 nt kt et
      tm_run
      refine m_append (s3 _ _ k2) room fun H4 k4 e4 => ?_
      tm_run
      exact app (e := .put c) s3 kt hc trivial k4 e4 hz hok
    · have cl : z.length < 60 := by omega
      tm_run
      refine iteD (fun c3 => ?_) fun c3 => ?_
      · tm_run
        refine ⟨ty_l k2, ?_⟩
        tm_run
        intro t H3 s3 nt kt et
        tm_run
        refine m_append (s3 _ _ k2) room fun H4 k4 e4 => ?_
        tm_run
        exact app (e := .put c) s3 kt hc trivial k4 e4 hz hok
      · tm_run
        refine o_cat (by rw [one_len, sizeLine_eq]; omega) ?_
        tm_run
        have zl : (z ++ ⟨#[c]⟩).length ≤ 60 := by rw [lenA, one_len]; omega
        have zo : (tl (z ++ ⟨#[c]⟩)).all okc = true := by
          rw [tl_append, List.all_append, hok]
          simp [tl, hc]
        refine ⟨ty_l k2, ?_⟩
        tm_run
        intro t1 H3 s3 n3 k3 _
        tm_run
        intro t2 H4 s4 n4 k4 _
        tm_run
        intro t3 H5 s5 n5 k5 _
        tm_run
        intro t4 H6 s6 n6 k6 _
        tm_run
        have s36 := s4.trans (s5.trans s6)
        have s26 := s3.trans s36
        match hm : j % 4, m4, c3 with
        | .ofNat 0, _, _ =>
          refine i_lst (SqL.of k6) rfl ?_
          tm_run
          refine m_append (s26 _ _ k2) room fun H7 k7 e7 => ?_
          tm_run
          exact app (e := .keep c) s26 (s36 _ _ k3) hc trivial k7 e7 zl zo
        | .ofNat 1, _, _ =>
          refine i_lst (SqL.of k6) rfl ?_
          tm_run
          refine m_append (s26 _ _ k2) room fun H7 k7 e7 => ?_
          tm_run
          exact app (e := .cut c) s26 ((s5.trans s6) _ _ k4) hc trivial k7 e7 zl zo
        | .ofNat 2, _, _ =>
          refine i_lst (SqL.of k6) rfl ?_
          tm_run
          refine m_append (s26 _ _ k2) room fun H7 k7 e7 => ?_
          tm_run
          exact app (e := .swap c d) s26 (s6 _ _ k5) ⟨hc, hd⟩ hcd k7 e7 zl zo
        | .ofNat 3, _, c3 => exact absurd rfl c3
        | .ofNat (n + 4), m4, _ => exact absurd m4.2 (by simp; omega)
        | .negSucc n, m4, _ => exact absurd m4.1 (by simp)
  · rintro σ' H' ⟨z, vs, es, v5, v6, v7, v8, rfl, s2, k2, hv, hl, hz, hok, hfair⟩
    tm_run
    intro p H3 s3 n3 k3 _
    tm_run
    exact h _ _ _ _ _ _ (s2.trans s3) k3 (s3 _ _ k2) (hv.mono fun _ _ => DeedV.ts (Same.ts s3)) (by rw [hl, List.length_map]; omega) hz hok hfair
end
theorem df_law_made (T : Txt K mg cs) : Df P w K mg base "_law_made" 2 ["_law_cells", "_law_most"] (sp2 (R_law_made K)) := by
  obtain ⟨f, fd, hm, F, hb⟩ := T.f_law_made.ex
  exact ⟨f, fd, hm, F.kp, hb, ok_law_made F T⟩
def takesL (es : List Deed) : List Nat := es.flatMap fun e => (takes e).toList
theorem change_fits : ∀ (T : List Nat) (es : List Deed), (changeL T es).isSome = decide (takesL es = T)
  | T, [] => by
    show (if T = [] then some [] else none : Option (List Nat)).isSome = decide ([] = T)
    cases T <;> rfl
  | T, .put c :: r => by
    have ih := change_fits T r
    have e : changeL T (.put c :: r) = (changeL T r).map (c :: ·) := by cases T <;> rfl
    rw [e, Option.isSome_map, ih]
    rfl
  | [], .keep c :: r => rfl
  | [], .cut c :: r => rfl
  | [], .swap c d :: r => rfl
  | x :: T, .keep c :: r => by
    have ih := change_fits T r
    show (if x = c then (changeL T r).map (c :: ·) else none).isSome = decide (c :: takesL r = x :: T)
    by_cases q : x = c
    · rw [if_pos q, Option.isSome_map, ih, q]; simp
    · rw [if_neg q]; exact (decide_eq_false fun z => q (List.cons.inj z).1.symm).symm
  | x :: T, .cut c :: r => by
    have ih := change_fits T r
    show (if x = c then changeL T r else none).isSome = decide (c :: takesL r = x :: T)
    by_cases q : x = c
    · rw [if_pos q, ih, q]; simp
    · rw [if_neg q]; exact (decide_eq_false fun z => q (List.cons.inj z).1.symm).symm
  | x :: T, .swap c d :: r => by
    have ih := change_fits T r
    show (if x = c then (changeL T r).map (d :: ·) else none).isSome = decide (c :: takesL r = x :: T)
    by_cases q : x = c
    · rw [if_pos q, Option.isSome_map, ih, q]; simp
    · rw [if_neg q]; exact (decide_eq_false fun z => q (List.cons.inj z).1.symm).symm
theorem one_ok {c : Nat} (h : okc c = true) : oneD (.str ⟨#[c]⟩) = some c := by
  show (if okc c = true then some c else none) = some c
  exact if_pos h
theorem deed_data {e : Deed} (h : okDeed e) (f : fair e) : deedD (deedData e) = some e := by
  cases e with
  | keep c => show (oneD _).bind _ = _; rw [one_ok h]; rfl
  | cut c =>
    show (oneD _).bind _ = _
    rw [one_ok h]
    show (if Str.ofString "cut" = Str.ofString "keep" then some (Deed.keep c) else if Str.ofString "cut" = Str.ofString "cut" then some (Deed.cut c) else if Str.ofString "cut" = Str.ofString "put" then some (Deed.put c) else none) = some (Deed.cut c)
    rw [if_neg (by decide +kernel), if_pos rfl]
  | put c =>
    show (oneD _).bind _ = _
    rw [one_ok h]
    show (if Str.ofString "put" = Str.ofString "keep" then some (Deed.keep c) else if Str.ofString "put" = Str.ofString "cut" then some (Deed.cut c) else if Str.ofString "put" = Str.ofString "put" then some (Deed.put c) else none) = some (Deed.put c)
    rw [if_neg (by decide +kernel), if_neg (by decide +kernel), if_pos rfl]
  | swap c d =>
    show (oneD _).bind _ = _
    rw [one_ok h.1]
    show (oneD _).bind _ = _
    rw [one_ok h.2]
    show (if Str.ofString "swap" = Str.ofString "swap" ∧ ¬ c = d then some (Deed.swap c d) else none) = some (Deed.swap c d)
    rw [if_pos ⟨rfl, f⟩]
theorem deeds_data : ∀ {es : List Deed}, (∀ e ∈ es, okDeed e) → (∀ e ∈ es, fair e) → deedsD (es.map deedData) = some es
  | [], _, _ => rfl
  | e :: es, h, f => by
    show (deedD (deedData e)).bind _ = _
    rw [deed_data (h e (List.mem_cons_self ..)) (f e (List.mem_cons_self ..)), Option.bind_some]
    show (deedsD (es.map deedData)).map _ = _
    rw [deeds_data (fun x hx => h x (List.mem_cons_of_mem _ hx)) fun x hx => f x (List.mem_cons_of_mem _ hx)]
    rfl
theorem deedV_ok {H : Hp} : ∀ {vs : List V} {es : List Deed}, All2 (DeedV H) vs es → ∀ e ∈ es, okDeed e
  | _, _, .nil, e, h => by cases h
  | _, _, .cons ⟨_, _, _, o⟩ t, e, h => by
    rcases List.mem_cons.mp h with h | h
    · rw [h]; exact o
    · exact deedV_ok t e h
def oneStr (c : Nat) : Str := ⟨#[c]⟩
def R_law_fits : V → V → Hp → VK → XK → Prop := fun x y H Q _ => ∃ (z : Str) (l : Addr) (vs : List V) (es : List Deed), x = .str z ∧ y = .ref l ∧ H l = some (.lst vs) ∧ All2 (DeedV H) vs es ∧ es.length ≤ 1000 ∧ Q (.bl (decide (takesL es = tl z))) H
section
theorem ok_law_fits {f : Addr} {fd : FuncData} (F : Fun K "_law_fits" "_law_fits" s_law_fits f fd) (T : Txt K mg cs) : FnOk P w K mg base (L2.CX P w) 1 f fd ["_law_signs", "_law_deeds"] (sp2 (R_law_fits)) := by
  refine F.okX sc_law_fits (fun vs H Q E h => sp2_len h) (fun cdv A outer s H vs Q E hr h => ⟨_, PBw (X := X_law_fits P w K mg base f cdv A outer s H E), ?_⟩)
  obtain ⟨a0, a1, rfl, h⟩ := h
  have hr' : Room 0 (X_law_fits P w K mg base f cdv A outer s H E).A := hr
  replace hr := hr'
  clear hr'
  obtain ⟨z, l, vs, es, rfl, rfl, hl, hv, hle, h⟩ := h
  have hvl := hv.len
  kxs_still
  refine s_for (j_list ?_)
  kxs_still
  refine ⟨⟨_, SqL.of hl⟩, _, _, _, walk_list (xs := vs), fun i σ' H' => ∃ v3, σ' = [some (.str z), some (.ref l), some (.str ⟨(takesL (es.take i)).toArray⟩), v3] ∧ H' = H ∧ (takesL (es.take i)).length ≤ i, ⟨none, rfl, rfl, Nat.le_refl _⟩, fun _ _ _ _ ⟨_, _, e, _⟩ => by rw [e]; exact SqL.of hl, ?_, ?_⟩
  · rintro i x σ' H' H2 hi ⟨v3, rfl, rfl, hti⟩ ⟨rfl, hx⟩
    obtain ⟨e, he, b, rfl, hb, ho⟩ := hv.get hx
    have et : takesL (es.take (i + 1)) = takesL (es.take i) ++ (takes e).toList := by
      have e1 : es.take (i + 1) = es.take i ++ [e] := by
        have hl' := (List.getElem?_eq_some_iff.mp he).1
        rw [← List.take_append_getElem hl', (List.getElem?_eq_some_iff.mp he).2]
      unfold takesL
      rw [e1, List.flatMap_append]
      simp
    have add : ∀ c, takes e = some c → (⟨(takesL (es.take i)).toArray⟩ : Str) ++ ⟨#[c]⟩ = ⟨(takesL (es.take (i + 1))).toArray⟩ ∧ (takesL (es.take (i + 1))).length ≤ i + 1 := fun c hc => by
      rw [et, hc]
      refine ⟨?_, by rw [List.length_append]; simp; omega⟩
      apply ext_tl
      rw [tl_append]
      simp [tl]
    have hlen1 : (⟨(takesL (es.take i)).toArray⟩ : Str).length + 1 ≤ sizeLine := by
      have : (⟨(takesL (es.take i)).toArray⟩ : Str).length = (takesL (es.take i)).length := by rw [len_tl]
      rw [this, sizeLine_eq]
      omega
    cases e with
    | keep c =>
      obtain ⟨a1, a2⟩ := add c rfl
      have hb : H2 b = some (.tup [.str (Str.ofString "keep"), .str ⟨#[c]⟩]) := hb
      kxs_still
      refine o_cat hlen1 ?_
      rw [a1]
      kxs_still
      exact ⟨_, rfl, rfl, a2⟩
    | cut c =>
      obtain ⟨a1, a2⟩ := add c rfl
      have hb : H2 b = some (.tup [.str (Str.ofString "cut"), .str ⟨#[c]⟩]) := hb
      kxs_still
      refine o_cat hlen1 ?_
      rw [a1]
      kxs_still
      exact ⟨_, rfl, rfl, a2⟩
    | put c =>
      have hb : H2 b = some (.tup [.str (Str.ofString "put"), .str ⟨#[c]⟩]) := hb
      have et : takesL (es.take (i + 1)) = takesL (es.take i) := by rw [et]; simp [takes]
      kxs_still
      refine ⟨some (.ref b), ?_, rfl, by rw [et]; omega⟩
      rw [et]
      rfl
    | swap c d =>
      obtain ⟨a1, a2⟩ := add c rfl
      have hb : H2 b = some (.tup [.str (Str.ofString "swap"), .str ⟨#[c]⟩, .str ⟨#[d]⟩]) := hb
      kxs_still
      refine o_cat hlen1 ?_
      rw [a1]
      kxs_still
      exact ⟨_, rfl, rfl, a2⟩
  rintro σ' H' ⟨v3, rfl, rfl, _⟩
  rw [hvl, List.take_length]
  kxs_still
  have e : decide ((⟨(takesL es).toArray⟩ : Str) = z) = decide (takesL es = tl z) := decide_eq_decide.mpr ⟨fun q => by rw [← q], fun q => ext_tl (by rw [← q])⟩
  rw [e]
  exact h
end
theorem df_law_fits (T : Txt K mg cs) : Df P w K mg base "_law_fits" 1 ["_law_signs", "_law_deeds"] (sp2 (R_law_fits)) := by
  obtain ⟨f, fd, hm, F, hb⟩ := T.f_law_fits.ex
  exact ⟨f, fd, hm, F.kp, hb, ok_law_fits F T⟩
/-- what the law's own asking tells of a change's cost -/
def toldC (dt dd dc : PyData) : Str × V :=
  if isTextD dt = true then if isCostsD dc = true then match dt with
    | .str z => match changedD (tl z) dd with
      | none => (Str.ofString "change", .non)
      | some _ => (Str.ofString "", .int (costOf dd dc))
    | _ => (Str.ofString "text", .non)
  else (Str.ofString "costs", .non)
  else (Str.ofString "text", .non)
theorem toldC_text {dt dd dc : PyData} (e : isTextD dt = false) : toldC dt dd dc = (Str.ofString "text", .non) := by unfold toldC; rw [e]; rfl
theorem toldC_costs {dt dd dc : PyData} (e : isTextD dt = true) (e2 : isCostsD dc = false) : toldC dt dd dc = (Str.ofString "costs", .non) := by unfold toldC; rw [e, e2]; rfl
theorem toldC_change {z : Str} {dd dc : PyData} (e : isTextD (.str z) = true) (e2 : isCostsD dc = true) (e3 : changedD (tl z) dd = none) : toldC (.str z) dd dc = (Str.ofString "change", .non) := by unfold toldC; rw [e, e2]; simp only [if_pos, e3]
theorem toldC_good {z : Str} {dd dc : PyData} {l : List Nat} (e : isTextD (.str z) = true) (e2 : isCostsD dc = true) (e3 : changedD (tl z) dd = some l) : toldC (.str z) dd dc = (Str.ofString "", .int (costOf dd dc)) := by unfold toldC; rw [e, e2]; simp only [if_pos, e3]
def R_law_told (K : PySem.W.Frag) : V → V → V → Hp → VK → XK → Prop := fun x y z H Q _ => ∃ dt dd dc, Th K H x dt ∧ Th K H y dd ∧ Th K H z dc ∧ (∀ ds, dd = .list ds → shortDs ds) ∧ ∀ t H', Same H H' → H' t = some (.tup [.str (toldC dt dd dc).1, (toldC dt dd dc).2]) → Q (.ref t) H'
section
set_option hygiene false in
local macro_rules | `(tactic| top_name) => `(tactic| first | refine e_call (df_cost_of T) (hr.mono (by decide)) ?_)
theorem ok_law_told {f : Addr} {fd : FuncData} (F : Fun K "_law_told" "_law_told" s_law_told f fd) (T : Txt K mg cs) : FnOk P w K mg base (L2.CX P w) 7 f fd ["_law_signs", "_law_deeds", "_law_costs"] (sp3 (R_law_told K)) := by
  refine F.okX sc_law_told (fun vs H Q E h => sp3_len h) (fun cdv A outer s H vs Q E hr h => ⟨_, PBw (X := X_law_told P w K mg base f cdv A outer s H E), ?_⟩)
  obtain ⟨a0, a1, a2, rfl, h⟩ := h
  have ib_NoCosts : Gn mg "NoCosts" (some _) := ⟨T.x_NoCosts.mg⟩
  have ib_NoChange : Gn mg "NoChange" (some _) := ⟨T.x_NoChange.mg⟩
  have ib_NoText : Gn mg "NoText" (some _) := ⟨T.x_NoText.mg⟩
  have ib_Barren : Gn mg "Barren" (some _) := ⟨T.x_Barren.mg⟩
  have ib_Endless : Gn mg "Endless" (some _) := ⟨T.x_Endless.mg⟩
  have ib_NoGrammar : Gn mg "NoGrammar" (some _) := ⟨T.x_NoGrammar.mg⟩
  have ib_NoNumber : Gn mg "NoNumber" (some _) := ⟨T.x_NoNumber.mg⟩
  have ib_NoRow : Gn mg "NoRow" (some _) := ⟨T.x_NoRow.mg⟩
  have ib_NoRule : Gn mg "NoRule" (some _) := ⟨T.x_NoRule.mg⟩
  have ib_NoWords : Gn mg "NoWords" (some _) := ⟨T.x_NoWords.mg⟩
  have ib_TooGreat : Gn mg "TooGreat" (some _) := ⟨T.x_TooGreat.mg⟩
  have ib_isinstance := T.b_isinstance
  have hr' : Room 6 (X_law_told P w K mg base f cdv A outer s H E).A := hr
  replace hr := hr'
  clear hr'
  obtain ⟨dt, dd, dc, ht, hd, hc, hsd, h⟩ := h
  tm_run
  refine s_tryC (fun cls d σ' H' => ((cls = .ref cs.NoText ∧ toldC dt dd dc = (Str.ofString "text", .non)) ∨ (cls = .ref cs.NoCosts ∧ toldC dt dd dc = (Str.ofString "costs", .non)) ∨ (cls = .ref cs.NoChange ∧ toldC dt dd dc = (Str.ofString "change", .non))) ∧ d = none ∧ Same H H' ∧ σ' = [some a0, some a1, some a2, some (.str ""), some .non, none]) ?_ ?_
  · rintro cls dd' σ' H' ⟨hcl, rfl, sx, rfl⟩
    have fin : ∀ (w' : Str) (v4 : Option V) (H' : Hp), Same H H' → toldC dt dd dc = (w', .non) → bW (X_law_told P w K mg base f cdv A outer s H E) ((defBody s_law_told).drop 3) { nx := fun _ H' => Q .non H', rt := Q } [some a0, some a1, some a2, some (.str w'), some .non, v4] H' := fun w' v4 H' sx e => by
      tm_run
      intro t H2 s2 n2 k2 _
      tm_run
      exact h t _ (sx.trans s2) (by rw [e]; exact k2)
    rcases hcl with ⟨rfl, e⟩ | ⟨rfl, e⟩ | ⟨rfl, e⟩
    · refine (.skipT (cs := [cs.Barren, cs.Endless, cs.NoGrammar, cs.NoNumber, cs.NoRow]) (.cons ⟨rfl, by decide, .inl T.x_Barren.mg⟩ rfl (.cons ⟨rfl, by decide, .inl T.x_Endless.mg⟩ rfl (.cons ⟨rfl, by decide, .inl T.x_NoGrammar.mg⟩ rfl (.cons ⟨rfl, by decide, .inl T.x_NoNumber.mg⟩ rfl (.cons ⟨rfl, by decide, .inl T.x_NoRow.mg⟩ rfl .nil))))) (Nat.le_of_ble_eq_true rfl) (by
      simp only [List.mem_cons, List.not_mem_nil, or_false, forall_eq_or_imp, forall_eq]
      exact ⟨T.x_Barren.exm T.s_NoText_Barren, T.x_Endless.exm T.s_NoText_Endless, T.x_NoGrammar.exm T.s_NoText_NoGrammar, T.x_NoNumber.exm T.s_NoText_NoNumber, T.x_NoRow.exm T.s_NoText_NoRow⟩) (.skipT (cs := [cs.NoRule, cs.NoWords, cs.TooGreat]) (.cons ⟨rfl, by decide, .inl T.x_NoRule.mg⟩ rfl (.cons ⟨rfl, by decide, .inl T.x_NoWords.mg⟩ rfl (.cons ⟨rfl, by decide, .inl T.x_TooGreat.mg⟩ rfl .nil))) (Nat.le_of_ble_eq_true rfl) (by
      simp only [List.mem_cons, List.not_mem_nil, or_false, forall_eq_or_imp, forall_eq]
      exact ⟨T.x_NoRule.exm T.s_NoText_NoRule, T.x_NoWords.exm T.s_NoText_NoWords, T.x_TooGreat.exm T.s_NoText_TooGreat⟩) (.skip ⟨rfl, by decide, .inl T.x_NoCosts.mg⟩ (T.x_NoCosts.exm T.s_NoText_NoCosts) (.skip ⟨rfl, by decide, .inl T.x_NoChange.mg⟩ (T.x_NoChange.exm T.s_NoText_NoChange) (.hit ⟨rfl, by decide, .inl T.x_NoText.mg⟩ (T.x_NoText.exm T.s_NoText_NoText) fun a oe pn ha hz hf => ?_)))))
      tm_run
      intro H2 s2 k2
      exact fin _ _ _ (sx.trans s2) e
    · refine (.skipT (cs := [cs.Barren, cs.Endless, cs.NoGrammar, cs.NoNumber, cs.NoRow]) (.cons ⟨rfl, by decide, .inl T.x_Barren.mg⟩ rfl (.cons ⟨rfl, by decide, .inl T.x_Endless.mg⟩ rfl (.cons ⟨rfl, by decide, .inl T.x_NoGrammar.mg⟩ rfl (.cons ⟨rfl, by decide, .inl T.x_NoNumber.mg⟩ rfl (.cons ⟨rfl, by decide, .inl T.x_NoRow.mg⟩ rfl .nil))))) (Nat.le_of_ble_eq_true rfl) (by
      simp only [List.mem_cons, List.not_mem_nil, or_false, forall_eq_or_imp, forall_eq]
      exact ⟨T.x_Barren.exm T.s_NoCosts_Barren, T.x_Endless.exm T.s_NoCosts_Endless, T.x_NoGrammar.exm T.s_NoCosts_NoGrammar, T.x_NoNumber.exm T.s_NoCosts_NoNumber, T.x_NoRow.exm T.s_NoCosts_NoRow⟩) (.skipT (cs := [cs.NoRule, cs.NoWords, cs.TooGreat]) (.cons ⟨rfl, by decide, .inl T.x_NoRule.mg⟩ rfl (.cons ⟨rfl, by decide, .inl T.x_NoWords.mg⟩ rfl (.cons ⟨rfl, by decide, .inl T.x_TooGreat.mg⟩ rfl .nil))) (Nat.le_of_ble_eq_true rfl) (by
      simp only [List.mem_cons, List.not_mem_nil, or_false, forall_eq_or_imp, forall_eq]
      exact ⟨T.x_NoRule.exm T.s_NoCosts_NoRule, T.x_NoWords.exm T.s_NoCosts_NoWords, T.x_TooGreat.exm T.s_NoCosts_TooGreat⟩) (.hitAs (i := 5) sc_law_told.nd rfl rfl ⟨rfl, by decide, .inl T.x_NoCosts.mg⟩ (T.x_NoCosts.exm T.s_NoCosts_NoCosts) fun a oe pn ha hz hf => ?_)))
      tm_run
      refine k_isE T.x_NoCosts T.x_NoText hz hf T.s_NoCosts_NoText ?_
      tm_run
      refine k_isE T.x_NoCosts T.x_NoChange hz hf T.s_NoCosts_NoChange ?_
      tm_run
      intro H2 s2 k2
      exact fin _ _ _ (sx.trans s2) e
    · refine (.skipT (cs := [cs.Barren, cs.Endless, cs.NoGrammar, cs.NoNumber, cs.NoRow]) (.cons ⟨rfl, by decide, .inl T.x_Barren.mg⟩ rfl (.cons ⟨rfl, by decide, .inl T.x_Endless.mg⟩ rfl (.cons ⟨rfl, by decide, .inl T.x_NoGrammar.mg⟩ rfl (.cons ⟨rfl, by decide, .inl T.x_NoNumber.mg⟩ rfl (.cons ⟨rfl, by decide, .inl T.x_NoRow.mg⟩ rfl .nil))))) (Nat.le_of_ble_eq_true rfl) (by
      simp only [List.mem_cons, List.not_mem_nil, or_false, forall_eq_or_imp, forall_eq]
      exact ⟨T.x_Barren.exm T.s_NoChange_Barren, T.x_Endless.exm T.s_NoChange_Endless, T.x_NoGrammar.exm T.s_NoChange_NoGrammar, T.x_NoNumber.exm T.s_NoChange_NoNumber, T.x_NoRow.exm T.s_NoChange_NoRow⟩) (.skipT (cs := [cs.NoRule, cs.NoWords, cs.TooGreat]) (.cons ⟨rfl, by decide, .inl T.x_NoRule.mg⟩ rfl (.cons ⟨rfl, by decide, .inl T.x_NoWords.mg⟩ rfl (.cons ⟨rfl, by decide, .inl T.x_TooGreat.mg⟩ rfl .nil))) (Nat.le_of_ble_eq_true rfl) (by
      simp only [List.mem_cons, List.not_mem_nil, or_false, forall_eq_or_imp, forall_eq]
      exact ⟨T.x_NoRule.exm T.s_NoChange_NoRule, T.x_NoWords.exm T.s_NoChange_NoWords, T.x_TooGreat.exm T.s_NoChange_TooGreat⟩) (.skip ⟨rfl, by decide, .inl T.x_NoCosts.mg⟩ (T.x_NoCosts.exm T.s_NoChange_NoCosts) (.hitAs (i := 5) sc_law_told.nd rfl rfl ⟨rfl, by decide, .inl T.x_NoChange.mg⟩ (T.x_NoChange.exm T.s_NoChange_NoChange) fun a oe pn ha hz hf => ?_))))
      tm_run
      refine k_isE T.x_NoChange T.x_NoText hz hf T.s_NoChange_NoText ?_
      tm_run
      intro H2 s2 k2
      exact fin _ _ _ (sx.trans s2) e
  · intro pn xe ct co
    tm_run
    refine ⟨dt, dd, dc, ht, hd, hc, hsd, fun e => ⟨.inl ⟨rfl, toldC_text e⟩, rfl, Same.refl _, rfl⟩, fun e e2 => ⟨.inr (.inl ⟨rfl, toldC_costs e e2⟩), rfl, Same.refl _, rfl⟩, fun z ez e e2 => ?_⟩
    subst ez
    refine ⟨fun e3 H' s' => ⟨.inr (.inr ⟨rfl, toldC_change e e2 e3⟩), rfl, s', rfl⟩, fun l e3 H' s' => ?_⟩
    tm_run
    intro t H2 s2 n2 k2 _
    tm_run
    refine h t _ (s'.trans s2) ?_
    rw [toldC_good e e2 e3]
    exact k2
end
theorem df_law_told (T : Txt K mg cs) : Df P w K mg base "_law_told" 7 ["_law_signs", "_law_deeds", "_law_costs"] (sp3 (R_law_told K)) := by
  obtain ⟨f, fd, hm, F, hb⟩ := T.f_law_told.ex
  exact ⟨f, fd, hm, F.kp, hb, ok_law_told F T⟩
def R_law_any (K : PySem.W.Frag) : V → V → V → Hp → VK → XK → Prop := fun x y z H Q _ => ∃ dt dd dc, Th K H x dt ∧ Th K H y dd ∧ Th K H z dc ∧ (∀ ds, dd = .list ds → shortDs ds) ∧ (toldC dt dd dc).1 ≠ Str.ofString "" ∧ ∀ H', Same H H' → Q (.bl true) H'
section
set_option hygiene false in
local macro_rules | `(tactic| top_name) => `(tactic| first | refine e_call (df_cost_of T) (hr.mono (by decide)) ?_)
theorem ok_law_any {f : Addr} {fd : FuncData} (F : Fun K "_law_any" "_law_any" s_law_any f fd) (T : Txt K mg cs) : FnOk P w K mg base (L2.CX P w) 7 f fd ["_law_signs", "_law_deeds", "_law_costs"] (sp3 (R_law_any K)) := by
  refine F.okX sc_law_any (fun vs H Q E h => sp3_len h) (fun cdv A outer s H vs Q E hr h => ⟨_, PBw (X := X_law_any P w K mg base f cdv A outer s H E), ?_⟩)
  obtain ⟨a0, a1, a2, rfl, h⟩ := h
  have ib_ForestError : Gn mg "ForestError" (some _) := ⟨T.x_ForestError.mg⟩
  have ib_isinstance := T.b_isinstance
  have ib_ValueError := T.b_ValueError
  have hr' : Room 6 (X_law_any P w K mg base f cdv A outer s H E).A := hr
  replace hr := hr'
  clear hr'
  obtain ⟨dt, dd, dc, ht, hd, hc, hsd, hne, h⟩ := h
  tm_run
  refine s_tryC (fun cls d σ' H' => (cls = .ref cs.NoText ∨ cls = .ref cs.NoCosts ∨ cls = .ref cs.NoChange) ∧ d = none ∧ Same H H' ∧ σ' = [some a0, some a1, some a2, some (.bl false), none]) ?_ ?_
  · rintro cls dd' σ' H' ⟨hcl, rfl, sx, rfl⟩
    rcases hcl with rfl | rfl | rfl
    · refine .hitAs (i := 4) sc_law_any.nd rfl rfl ⟨rfl, by decide, .inl T.x_ForestError.mg⟩ (T.x_ForestError.exm T.s_NoText_ForestError) fun a oe pn ha hz hf => ?_
      tm_run
      refine k_isEV T.x_NoText hz hf ?_
      tm_run
      intro H2 s2 k2
      tm_run
      exact h _ (sx.trans s2)
    · refine .hitAs (i := 4) sc_law_any.nd rfl rfl ⟨rfl, by decide, .inl T.x_ForestError.mg⟩ (T.x_ForestError.exm T.s_NoCosts_ForestError) fun a oe pn ha hz hf => ?_
      tm_run
      refine k_isEV T.x_NoCosts hz hf ?_
      tm_run
      intro H2 s2 k2
      tm_run
      exact h _ (sx.trans s2)
    · refine .hitAs (i := 4) sc_law_any.nd rfl rfl ⟨rfl, by decide, .inl T.x_ForestError.mg⟩ (T.x_ForestError.exm T.s_NoChange_ForestError) fun a oe pn ha hz hf => ?_
      tm_run
      refine k_isEV T.x_NoChange hz hf ?_
      tm_run
      intro H2 s2 k2
      tm_run
      exact h _ (sx.trans s2)
  · intro pn xe ct co
    tm_run
    refine ⟨dt, dd, dc, ht, hd, hc, hsd, fun e => ⟨.inl rfl, rfl, Same.refl _, rfl⟩, fun e e2 => ⟨.inr (.inl rfl), rfl, Same.refl _, rfl⟩, fun z ez e e2 => ?_⟩
    subst ez
    exact ⟨fun e3 H' s' => ⟨.inr (.inr rfl), rfl, s', rfl⟩, fun l e3 H' s' => absurd (by rw [toldC_good e e2 e3]) hne⟩
end
theorem df_law_any (T : Txt K mg cs) : Df P w K mg base "_law_any" 7 ["_law_signs", "_law_deeds", "_law_costs"] (sp3 (R_law_any K)) := by
  obtain ⟨f, fd, hm, F, hb⟩ := T.f_law_any.ex
  exact ⟨f, fd, hm, F.kp, hb, ok_law_any F T⟩
def R_law_cost : V → Hp → VK → XK → Prop := fun x H Q _ => ∃ i, x = .int i ∧ ∀ n, 0 ≤ n → n ≤ top60 → Q (.int n) H
section
theorem ok_law_cost {f : Addr} {fd : FuncData} (F : Fun K "_law_cost" "_law_cost" s_law_cost f fd) (T : Txt K mg cs) : FnOk P w K mg base (L2.CX P w) 1 f fd ["_law_cell"] (sp1 (R_law_cost)) := by
  refine F.okX sc_law_cost (fun vs H Q E h => sp1_len h) (fun cdv A outer s H vs Q E hr h => ⟨_, PBw (X := X_law_cost P w K mg base f cdv A outer s H E), ?_⟩)
  obtain ⟨a0, rfl, h⟩ := h
  have hr' : Room 0 (X_law_cost P w K mg base f cdv A outer s H E).A := hr
  replace hr := hr'
  clear hr'
  obtain ⟨i, rfl, h⟩ := h
  have z : ∀ n, 0 ≤ n → n ≤ (1000000000000000000000000000000000000000000000000000000000000 : Int) → Q (.int n) H := h
  tm_run
  refine iteD (fun c => ?_) fun c => ?_
  · tm_run
    exact z _ (by omega) (by omega)
  · tm_run
    exact z _ (by omega) (by omega)
end
theorem df_law_cost (T : Txt K mg cs) : Df P w K mg base "_law_cost" 1 ["_law_cell"] (sp1 (R_law_cost)) := by
  obtain ⟨f, fd, hm, F, hb⟩ := T.f_law_cost.ex
  exact ⟨f, fd, hm, F.kp, hb, ok_law_cost F T⟩
theorem worth_lo {n : Int} (h : n < 0) : isWorthD (.int n) = false := by
  show (decide (0 ≤ n) && _) = false
  rw [decide_eq_false (by omega), Bool.false_and]
theorem worth_hi {n : Int} (h : top60 < n) : isWorthD (.int n) = false := by
  show (decide (0 ≤ n) && decide (n ≤ top60)) = false
  rw [decide_eq_false (show ¬ n ≤ top60 from Int.not_le.mpr h), Bool.and_false]
def R_law_odd_costs (K : PySem.W.Frag) : V → V → Hp → VK → XK → Prop := fun x y H Q _ => ∃ (t : Addr) (p c s i : Int), x = .ref t ∧ H t = some (.tup [.int p, .int c, .int s]) ∧ y = .int i ∧ ∀ v d H', Same H H' → Th K H' v d → isCostsD d = false → Q v H'
section
theorem ok_law_odd_costs {f : Addr} {fd : FuncData} (F : Fun K "_law_odd_costs" "_law_odd_costs" s_law_odd_costs f fd) (T : Txt K mg cs) : FnOk P w K mg base (L2.CX P w) 1 f fd ["_law_costs", "_law_cell"] (sp2 (R_law_odd_costs K)) := by
  refine F.okX sc_law_odd_costs (fun vs H Q E h => sp2_len h) (fun cdv A outer s H vs Q E hr h => ⟨_, PBw (X := X_law_odd_costs P w K mg base f cdv A outer s H E), ?_⟩)
  obtain ⟨a0, a1, rfl, h⟩ := h
  have ib_str := T.b_str
  have ib_list := T.b_list
  have hr' : Room 0 (X_law_odd_costs P w K mg base f cdv A outer s H E).A := hr
  replace hr := hr'
  clear hr'
  obtain ⟨t, p, c, s', i, rfl, ht, rfl, h⟩ := h
  kxs_still
  have f0 : 0 ≤ i / 27 % 1000000000000000000000000000000000000000000000000000000000000 := Int.emod_nonneg _ (by decide)
  have f1 : i / 27 % 1000000000000000000000000000000000000000000000000000000000000 < 1000000000000000000000000000000000000000000000000000000000000 := Int.emod_lt_of_pos _ (by decide)
  generalize i / 27 % 1000000000000000000000000000000000000000000000000000000000000 = far at *
  have g0 : 0 ≤ far % 10 := Int.emod_nonneg _ (by decide)
  have g1 : far % 10 < 10 := Int.emod_lt_of_pos _ (by decide)
  refine k_strI (Nat.lt_of_le_of_lt (Nat.log2_le_self _) (by omega)) ?_
  obtain ⟨zs, hzs⟩ : ∃ zs, Str.ofString (toString (far % 10)) = zs := ⟨_, rfl⟩
  have zl : zs.length ≤ 1000000 := by
    rw [← hzs]
    rcases (by omega : far % 10 = 0 ∨ far % 10 = 1 ∨ far % 10 = 2 ∨ far % 10 = 3 ∨ far % 10 = 4 ∨ far % 10 = 5 ∨ far % 10 = 6 ∨ far % 10 = 7 ∨ far % 10 = 8 ∨ far % 10 = 9) with e | e | e | e | e | e | e | e | e | e <;> rw [e] <;> decide +kernel
  rw [hzs]
  kxs_still
  intro l1 H1 s1 n1 k1 _
  have ht1 := s1 _ _ ht
  kxs_still
  have m0 : 0 ≤ i % 3 := Int.emod_nonneg _ (by decide)
  have m1 : i % 3 < 3 := Int.emod_lt_of_pos _ (by decide)
  have q0 : 0 ≤ i / 3 % 9 := Int.emod_nonneg _ (by decide)
  have q1 : i / 3 % 9 < 9 := Int.emod_lt_of_pos _ (by decide)
  generalize i % 3 = at' at *
  generalize i / 3 % 9 = kd at *
  refine iteD (fun c5 => ?_) fun c5 => ?_
  · obtain ⟨vb, hvb, db, hdb, hbad⟩ := ix_any (i := kd) k1 (fun v => ∃ d, Th K H1 v d ∧ isWorthD d = false) (by
      intro x hx
      simp only [List.mem_cons, List.not_mem_nil, or_false] at hx
      rcases hx with rfl | rfl | rfl | rfl | rfl
      · exact ⟨_, .int _, worth_lo (by omega)⟩
      · exact ⟨_, .int _, worth_hi (show (1000000000000000000000000000000000000000000000000000000000000 : Int) < _ by omega)⟩
      · exact ⟨_, .bl _, rfl⟩
      · exact ⟨_, .non, rfl⟩
      · exact ⟨_, .str _ zl, rfl⟩) q0 (by simp; omega)
    kxs_still
    refine n_tup ht1 fun t2 H2 s2 k2 => ?_
    kxs_still
    intro t3 H3 s3 n3 k3 _
    have k23 := s3 _ _ k2
    refine o_catT k23 k3 (by have := cutV_length [V.int p, V.int c, V.int s'] none (some at'); simp only [List.length_cons, List.length_nil] at this ⊢; omega) fun t4 H4 s4 k4 => ?_
    have s14 := s2.trans (s3.trans s4)
    have ht4 := s14 _ _ ht1
    kxs_still
    refine n_tup ht4 fun t5 H5 s5 k5 => ?_
    have k45 := s5 _ _ k4
    refine o_catT k45 k5 (by
      have := cutV_length [V.int p, V.int c, V.int s'] none (some at')
      have := cutV_length [V.int p, V.int c, V.int s'] (some (at' + 1)) none
      simp only [List.length_append, List.length_cons, List.length_nil] at *
      omega) fun t6 H6 s6 k6 => ?_
    have s16 := s14.trans (s5.trans s6)
    have hd6 := hdb.more s16
    have sAll := s1.trans s16
    rcases (by omega : at' = 0 ∨ at' = 1 ∨ at' = 2) with e | e | e <;> subst e
    · rw [cutV_to _ (by decide), cutV_from _ (by decide)] at k6
      have k6 : H6 t6 = some (.tup [vb, .int c, .int s']) := k6
      refine h _ _ H6 sAll (.tup (SqT.of k6) (.cons hd6 (.cons (.int _) (.cons (.int _) .nil)))) ?_
      show (isWorthD db && _) = false
      rw [hbad, Bool.false_and]
    · rw [cutV_to _ (by decide), cutV_from _ (by decide)] at k6
      have k6 : H6 t6 = some (.tup [.int p, vb, .int s']) := k6
      refine h _ _ H6 sAll (.tup (SqT.of k6) (.cons (.int _) (.cons hd6 (.cons (.int _) .nil)))) ?_
      show (_ && (isWorthD db && _)) = false
      rw [hbad, Bool.false_and, Bool.and_false]
    · rw [cutV_to _ (by decide), cutV_from _ (by decide)] at k6
      have k6 : H6 t6 = some (.tup [.int p, .int c, vb]) := k6
      refine h _ _ H6 sAll (.tup (SqT.of k6) (.cons (.int _) (.cons (.int _) (.cons hd6 .nil)))) ?_
      show (_ && (_ && isWorthD db)) = false
      rw [hbad, Bool.and_false, Bool.and_false]
  · kxs_still
    refine n_tup ht1 fun t2 H2 s2 k2 => ?_
    rw [cutV_to _ (by decide)] at k2
    have k2 : H2 t2 = some (.tup [V.int p, V.int c]) := k2
    have ht2 := s2 _ _ ht1
    kxs_still
    refine n_tup ht2 fun t3 H3 s3 k3 => ?_
    rw [cutV_to _ (by decide)] at k3
    have k3 : H3 t3 = some (.tup [V.int p]) := k3
    have ht3 := s3 _ _ ht2
    refine o_catT ht3 k3 (by simp) fun t4 H4 s4 k4 => ?_
    have k4 : H4 t4 = some (.tup [V.int p, V.int c, V.int s', V.int p]) := k4
    have ht4 := s4 _ _ ht3
    kxs_still
    refine k_listL (.inr (SqT.of ht4)) fun l5 H5 s5 n5 k5 _ => ?_
    kxs_still
    intro l6 H6 s6 n6 k6 _
    have s26 := s3.trans (s4.trans (s5.trans s6))
    obtain ⟨v, hv, d, hd1, hd2⟩ := ix_any (i := kd - 5) k6 (fun v => ∃ d, Th K H6 v d ∧ isCostsD d = false) (by
      intro x hx
      simp only [List.mem_cons, List.not_mem_nil, or_false] at hx
      rcases hx with rfl | rfl | rfl | rfl
      · exact ⟨_, .tup (SqT.of (s26 _ _ k2)) (.cons (.int _) (.cons (.int _) .nil)), rfl⟩
      · exact ⟨_, .tup (SqT.of ((s5.trans s6) _ _ k4)) (.cons (.int _) (.cons (.int _) (.cons (.int _) (.cons (.int _) .nil)))), rfl⟩
      · exact ⟨_, .lst (SqL.of (s6 _ _ k5)) (.cons (.int _) (.cons (.int _) (.cons (.int _) .nil))), rfl⟩
      · exact ⟨_, .int _, rfl⟩) (by omega) (by simp; omega)
    kxs_still
    exact h _ _ H6 (s1.trans (s2.trans s26)) hd1 hd2
end
theorem df_law_odd_costs (T : Txt K mg cs) : Df P w K mg base "_law_odd_costs" 1 ["_law_costs", "_law_cell"] (sp2 (R_law_odd_costs K)) := by
  obtain ⟨f, fd, hm, F, hb⟩ := T.f_law_odd_costs.ex
  exact ⟨f, fd, hm, F.kp, hb, ok_law_odd_costs F T⟩
def dueW (z : Str) (es : List Deed) (p c s way : Int) : Str × V :=
  if way / 16 % 8 = 1 then (Str.ofString "text", .non) else if way % 4 = 1 then (Str.ofString "costs", .non) else if takesL es = tl z then (Str.ofString "", .int (costSum p c s es)) else (Str.ofString "change", .non)
theorem sm (x : Nat) (p : Int) : ((x + 1 : Nat) : Int) * p = (x : Int) * p + p := by rw [Int.natCast_add, Int.add_mul]; simp
theorem cost_counts (p c s : Int) : ∀ es : List Deed, costSum p c s es = (((es.map wordOf).count (Str.ofString "put") : Nat) : Int) * p + ((((es.map wordOf).count (Str.ofString "cut") : Nat) : Int) * c + ((((es.map wordOf).count (Str.ofString "swap") : Nat) : Int) * s + 0))
  | [] => by simp [costSum]
  | e :: es => by
    have ih := cost_counts p c s es
    unfold costSum at ih ⊢
    rw [List.map_cons, List.sum_cons, ih, List.map_cons, List.count_cons, List.count_cons, List.count_cons]
    have d1 : (Str.ofString "keep" == Str.ofString "put") = false := by decide +kernel
    have d2 : (Str.ofString "keep" == Str.ofString "cut") = false := by decide +kernel
    have d3 : (Str.ofString "keep" == Str.ofString "swap") = false := by decide +kernel
    have d4 : (Str.ofString "put" == Str.ofString "cut") = false := by decide +kernel
    have d5 : (Str.ofString "put" == Str.ofString "swap") = false := by decide +kernel
    have d6 : (Str.ofString "cut" == Str.ofString "put") = false := by decide +kernel
    have d7 : (Str.ofString "cut" == Str.ofString "swap") = false := by decide +kernel
    have d8 : (Str.ofString "swap" == Str.ofString "put") = false := by decide +kernel
    have d9 : (Str.ofString "swap" == Str.ofString "cut") = false := by decide +kernel
    generalize (es.map wordOf).count (Str.ofString "put") = x
    generalize (es.map wordOf).count (Str.ofString "cut") = y
    generalize (es.map wordOf).count (Str.ofString "swap") = z
    cases e with
    | keep a => simp only [wordOf, costW, d1, d2, d3, if_false, Bool.false_eq_true, Nat.add_zero]; omega
    | put a => simp only [wordOf, costW, d4, d5, if_false, Bool.false_eq_true, Nat.add_zero, beq_self_eq_true, if_true]; rw [sm]; omega
    | cut a => simp only [wordOf, costW, d6, d7, if_false, Bool.false_eq_true, Nat.add_zero, beq_self_eq_true, if_true]; rw [sm]; omega
    | swap a b => simp only [wordOf, costW, d8, d9, if_false, Bool.false_eq_true, Nat.add_zero, beq_self_eq_true, if_true]; rw [sm]; omega
def R_law_due (K : PySem.W.Frag) : V → V → V → V → Hp → VK → XK → Prop := fun x y z u H Q _ => ∃ (sg : Str) (l : Addr) (vs : List V) (es : List Deed) (tc : Addr) (p c s way : Int), x = .str sg ∧ y = .ref l ∧ H l = some (.lst vs) ∧ All2 (DeedV H) vs es ∧ es.length ≤ 1000 ∧ z = .ref tc ∧ H tc = some (.tup [.int p, .int c, .int s]) ∧ u = .int way ∧
  ∀ t H', Same H H' → H' t = some (.tup [.str (dueW sg es p c s way).1, (dueW sg es p c s way).2]) → Q (.ref t) H'
section
set_option hygiene false in
local macro_rules | `(tactic| top_name) => `(tactic| first | refine e_call (df_law_fits T) (hr.mono (by decide)) ?_)
theorem ok_law_due {f : Addr} {fd : FuncData} (F : Fun K "_law_due" "_law_due" s_law_due f fd) (T : Txt K mg cs) : FnOk P w K mg base (L2.CX P w) 2 f fd ["_law_signs", "_law_deeds", "_law_costs", "_law_way"] (sp4 (R_law_due K)) := by
  refine F.okX sc_law_due (fun vs H Q E h => sp4_len h) (fun cdv A outer s H vs Q E hr h => ⟨_, PBw (X := X_law_due P w K mg base f cdv A outer s H E), ?_⟩)
  obtain ⟨a0, a1, a2, a3, rfl, h⟩ := h
  have ib_sum := T.b_sum
  have hr' : Room 1 (X_law_due P w K mg base f cdv A outer s H E).A := hr
  replace hr := hr'
  clear hr'
  obtain ⟨sg, l, vs, es, tc, p, c, s', way, rfl, rfl, hl, hv, hle, rfl, htc, rfl, h⟩ := h
  have hvl := hv.len
  unfold dueW at h
  kxs_still
  refine iteD (fun c1 => ?_) fun c1 => ?_
  · rw [if_pos c1] at h
    kxs_still
    intro t1 H1 s1 n1 k1 _
    exact h t1 H1 s1 k1
  rw [if_neg c1] at h
  kxs_still
  refine iteD (fun c2 => ?_) fun c2 => ?_
  · rw [if_pos c2] at h
    kxs_still
    intro t1 H1 s1 n1 k1 _
    exact h t1 H1 s1 k1
  rw [if_neg c2] at h
  kxs_still
  refine ⟨sg, l, vs, es, rfl, rfl, hl, hv, hle, ?_⟩
  kxs_still
  by_cases c3 : takesL es = tl sg
  case neg =>
    rw [if_neg c3] at h
    rw [decide_eq_false c3]
    kxs_still
    intro t1 H1 s1 n1 k1 _
    exact h t1 H1 s1 k1
  rw [if_pos c3] at h
  rw [decide_eq_true c3]
  kxs_still
  refine s_setLcP (blkOk_by (sc := defScope s_law_due) (own := [("_law_deed", 5)]) (by decide +kernel)) (fun i y => ∃ x, es[i]? = some x ∧ y = V.str (wordOf x)) (j_list ?_)
  kxs_still
  refine ⟨⟨_, SqL.of hl⟩, _, _, _, walk_list (xs := vs), by omega, fun H' s9 => SqL.of (s9 _ _ hl), ?_, ?_⟩
  · rintro i x H' H4 hi s9 ⟨rfl, hx⟩
    obtain ⟨e, he, b, rfl, hb, ho⟩ := hv.get hx
    have hb' := s9 _ _ hb
    obtain ⟨r, er⟩ : ∃ r, deedVals e = .str (wordOf e) :: r := by cases e <;> exact ⟨_, rfl⟩
    rw [er] at hb'
    refine ⟨Same.refl _, fun _ _ _ _ _ => ?_⟩
    kxs_still
    refine ⟨rfl, Same.refl _, fun _ _ _ _ _ => ?_⟩
    kxs_still
    exact ⟨⟨e, he, rfl⟩, Same.refl _⟩
  intro l1 H1 ys s1 n1 k1 e1 hy
  have e := list_by (f := fun x => V.str (wordOf x)) (xs := es) (by omega) hy
  have k1' : H1 l1 = some (.lst ((es.map wordOf).map V.str)) := by rw [List.map_map]; rw [e] at k1; exact k1
  have htc1 := s1 _ _ htc
  have cn : ∀ k : Str, (es.map wordOf).count k ≤ 1000 := fun k => by
    have := List.count_le_length (a := k) (l := es.map wordOf)
    rw [List.length_map] at this
    omega
  have b1 := cn (Str.ofString "put")
  have b2 := cn (Str.ofString "cut")
  have b3 := cn (Str.ofString "swap")
  kxs_still
  refine e_count ?_
  kxs_still
  refine ⟨ty_l k1', ?_⟩
  kxs_still
  refine m_countS hr.units (SqL.of k1') ?_
  kxs_still
  refine o_mulS (.inl ⟨by omega, by omega⟩) ?_
  kxs_still
  refine e_count ?_
  kxs_still
  refine ⟨ty_l k1', ?_⟩
  kxs_still
  refine m_countS hr.units (SqL.of k1') ?_
  kxs_still
  refine o_mulS (.inl ⟨by omega, by omega⟩) ?_
  kxs_still
  refine e_count ?_
  kxs_still
  refine ⟨ty_l k1', ?_⟩
  kxs_still
  refine m_countS hr.units (SqL.of k1') ?_
  kxs_still
  refine o_mulS (.inl ⟨by omega, by omega⟩) ?_
  kxs_still
  intro l2 H2 s2 n2 k2 _
  have k2' : H2 l2 = some (.lst (([(((es.map wordOf).count (Str.ofString "put") : Nat) : Int) * p, (((es.map wordOf).count (Str.ofString "cut") : Nat) : Int) * c, (((es.map wordOf).count (Str.ofString "swap") : Nat) : Int) * s'] : List Int).map V.int)) := k2
  kxs_still
  refine k_sum (SqL.of k2') ?_
  kxs_still
  intro t3 H3 s3 n3 k3 _
  refine h t3 H3 (s1.trans (s2.trans s3)) ?_
  rw [k3, cost_counts]
  rfl
end
theorem df_law_due (T : Txt K mg cs) : Df P w K mg base "_law_due" 2 ["_law_signs", "_law_deeds", "_law_costs", "_law_way"] (sp4 (R_law_due K)) := by
  obtain ⟨f, fd, hm, F, hb⟩ := T.f_law_due.ex
  exact ⟨f, fd, hm, F.kp, hb, ok_law_due F T⟩
def OddI (K : PySem.W.Frag) (H : Hp) (v : V) : Prop := ∃ d, Th K H v d ∧ Item d ∧ deedD d = none
theorem odd1 {K : PySem.W.Frag} {H : Hp} {t : Addr} {w : Str} (h : SqT K H t [.str w]) (h1 : leafOk (.str w)) : OddI K H (.ref t) := ⟨_, .tup h (.cons (leaf_th h1) .nil), .of_tup (by simp [h1]) (by simp), rfl⟩
theorem odd2 {K : PySem.W.Frag} {H : Hp} {t : Addr} {w a : Str} (h : SqT K H t [.str w, .str a]) (h1 : leafOk (.str w)) (h2 : leafOk (.str a)) (n : deedL w [.str a] = none) : OddI K H (.ref t) := ⟨_, .tup h (.cons (leaf_th h1) (.cons (leaf_th h2) .nil)), .of_tup (by simp [h1, h2]) (by simp), n⟩
theorem odd2i {K : PySem.W.Frag} {H : Hp} {t : Addr} {w : Str} {a : Int} (h : SqT K H t [.str w, .int a]) (h1 : leafOk (.str w)) : OddI K H (.ref t) := ⟨_, .tup h (.cons (leaf_th h1) (.cons (.int _) .nil)), .of_tup (fun e he => by
  simp only [List.mem_cons, List.not_mem_nil, or_false] at he
  rcases he with rfl | rfl
  · exact h1
  · trivial) (by simp), rfl⟩
theorem odd3 {K : PySem.W.Frag} {H : Hp} {t : Addr} {w a b : Str} (h : SqT K H t [.str w, .str a, .str b]) (h1 : leafOk (.str w)) (h2 : leafOk (.str a)) (h3 : leafOk (.str b)) (n : deedL w [.str a, .str b] = none) : OddI K H (.ref t) := ⟨_, .tup h (.cons (leaf_th h1) (.cons (leaf_th h2) (.cons (leaf_th h3) .nil))), .of_tup (by simp [h1, h2, h3]) (by simp), n⟩
theorem oddL {K : PySem.W.Frag} {H : Hp} {t : Addr} {w a : Str} (h : SqL K H t [.str w, .str a]) (h1 : leafOk (.str w)) (h2 : leafOk (.str a)) : OddI K H (.ref t) := ⟨_, .lst h (.cons (leaf_th h1) (.cons (leaf_th h2) .nil)), ⟨.lst fun d hd => leaf_sh (by
  simp only [List.mem_cons, List.not_mem_nil, or_false] at hd
  rcases hd with rfl | rfl
  · exact h1
  · exact h2), fun _ e => nomatch e⟩, rfl⟩
theorem two_no {w : Str} {c : Nat} : deedL w [.str (⟨#[c]⟩ ++ ⟨#[c]⟩)] = none := by
  refine deed_bad (List.mem_cons_self ..) ?_
  show oneL (tl ((⟨#[c]⟩ : Str) ++ ⟨#[c]⟩)) = none
  rw [tl_append]
  rfl
theorem word1_no {w : String} {c : Nat} (hc : okc c = true) (h1 : ¬ Str.ofString w = Str.ofString "keep") (h2 : ¬ Str.ofString w = Str.ofString "cut") (h3 : ¬ Str.ofString w = Str.ofString "put") : deedL (Str.ofString w) [.str ⟨#[c]⟩] = none := by
  show (oneD _).bind _ = none
  rw [one_ok hc]
  show (if Str.ofString w = Str.ofString "keep" then some (Deed.keep c) else if Str.ofString w = Str.ofString "cut" then some (Deed.cut c) else if Str.ofString w = Str.ofString "put" then some (Deed.put c) else none) = none
  rw [if_neg h1, if_neg h2, if_neg h3]
theorem word2_no {w : String} {c : Nat} (hc : okc c = true) : deedL (Str.ofString w) [.str ⟨#[c]⟩, .str ⟨#[c]⟩] = none := by
  show (oneD _).bind _ = none
  rw [one_ok hc]
  show (if Str.ofString w = Str.ofString "swap" ∧ ¬ c = c then some (Deed.swap c c) else none) = none
  rw [if_neg fun z => z.2 rfl]
def R_law_odd_deed (K : PySem.W.Frag) : V → Hp → VK → XK → Prop := fun x H Q _ => ∃ i, x = .int i ∧ ∀ v d H', Same H H' → Th K H' v d → Item d → deedD d = none → Q v H'
section
set_option hygiene false in
local macro_rules | `(tactic| top_name) => `(tactic| first | refine e_call0 (df_law_all T) (hr.mono (by decide)) ⟨rfl, ?_⟩)
theorem ok_law_odd_deed {f : Addr} {fd : FuncData} (F : Fun K "_law_odd_deed" "_law_odd_deed" s_law_odd_deed f fd) (T : Txt K mg cs) : FnOk P w K mg base (L2.CX P w) 2 f fd ["_law_cell"] (sp1 (R_law_odd_deed K)) := by
  refine F.okX sc_law_odd_deed (fun vs H Q E h => sp1_len h) (fun cdv A outer s H vs Q E hr h => ⟨_, PBw (X := X_law_odd_deed P w K mg base f cdv A outer s H E), ?_⟩)
  obtain ⟨a0, rfl, h⟩ := h
  have hr' : Room 1 (X_law_odd_deed P w K mg base f cdv A outer s H E).A := hr
  replace hr := hr'
  clear hr'
  obtain ⟨i, rfl, h⟩ := h
  tm_run
  obtain ⟨c, h1, hc⟩ := some_atS (i := i / 16 % 94) (Int.emod_nonneg _ (by decide)) (Int.emod_lt_of_pos _ (by decide))
  refine i_str (z := someS) (by decide +kernel) h1 ?_
  tm_side
  refine o_cat (by rw [one_len]; decide) ?_
  tm_side
  refine o_cat (by rw [one_len]; decide) ?_
  tm_side
  refine o_catL (by ki_room) (by ki_room) (by simp) fun l8 H8 s8 n8 k8 _ => ?_
  tm_side
  have lc := leaf_one hc
  have lcc := leaf_app lc lc (by rw [one_len]; decide)
  obtain ⟨v, hv, d', hd1, hd2, hd3⟩ := ix_any (i := i % 13) k8 (fun v => OddI K H8 v) (by
    intro x hx
    simp only [List.cons_append, List.nil_append, List.mem_cons, List.not_mem_nil, or_false] at hx
    rcases hx with rfl | rfl | rfl | rfl | rfl | rfl | rfl | rfl | rfl | rfl | rfl | rfl | rfl
    · exact odd3 (by kl_room) (by decide +kernel) lc lc (word2_no hc)
    · exact odd2 (by kl_room) (by decide +kernel) lc (word1_no hc (by decide +kernel) (by decide +kernel) (by decide +kernel))
    · exact odd3 (by kl_room) (by decide +kernel) lc lc (word2_no hc)
    · exact odd2 (by kl_room) (by decide +kernel) lcc two_no
    · exact odd2 (by kl_room) (by decide +kernel) (by decide +kernel) (by decide +kernel)
    · exact odd2 (by kl_room) (by decide +kernel) (by decide +kernel) (by decide +kernel)
    · exact oddL (by kl_room) (by decide +kernel) lc
    · exact ⟨_, leaf_th lc, .of_leaf lc, rfl⟩
    · exact ⟨_, .non, ⟨⟨rfl, Nat.zero_le _⟩, fun _ e => nomatch e⟩, rfl⟩
    · exact odd2 (by kl_room) (by decide +kernel) lc (word1_no hc (by decide +kernel) (by decide +kernel) (by decide +kernel))
    · exact odd2i (by kl_room) (by decide +kernel)
    · exact odd1 (by kl_room) (by decide +kernel)
    · exact odd2 (by kl_room) (by decide +kernel) lcc two_no) (Int.emod_nonneg _ (by decide)) (Int.emod_lt_of_pos _ (by decide))
  refine i_lst (SqL.of k8) hv ?_
  exact h _ _ _ (by kby_none) hd1 hd2 hd3
end
theorem df_law_odd_deed (T : Txt K mg cs) : Df P w K mg base "_law_odd_deed" 2 ["_law_cell"] (sp1 (R_law_odd_deed K)) := by
  obtain ⟨f, fd, hm, F, hb⟩ := T.f_law_odd_deed.ex
  exact ⟨f, fd, hm, F.kp, hb, ok_law_odd_deed F T⟩
def lnk (A B : Prop) (z : Str) (ds : List PyData) (p c s : Int) (dw : Str × V) : Prop :=
  (A → dw = (Str.ofString "text", .non)) ∧ (¬ A → B → dw = (Str.ofString "costs", .non)) ∧ (¬ A → ¬ B → dw = match changedD (tl z) (.list ds) with
    | none => (Str.ofString "change", .non)
    | some _ => (Str.ofString "", .int (costOf (.list ds) (.tuple [.int p, .int c, .int s]))))
def formW (dw : Str × V) : Prop := (∃ w, dw = (w, .non) ∧ w ≠ Str.ofString "" ∧ ∀ c ∈ tl w, c < 1114112) ∨ ∃ n, dw = (Str.ofString "", .int n)
theorem formW_dp {K : PySem.W.Frag} {H : Hp} {dw : Str × V} (h : formW dw) : ∃ e, DpAll K H [.str dw.1, dw.2] [.str dw.1, e] ∧ Sh 2 (.tuple [.str dw.1, e]) := by
  have e0 : ∀ c ∈ tl (Str.ofString ""), c < 1114112 := by decide +kernel
  rcases h with ⟨w, rfl, _, hw⟩ | ⟨n, rfl⟩
  · refine ⟨.none, .cons (.str _) (.cons .non .nil), .tup fun d hd => ?_⟩
    simp only [List.mem_cons, List.not_mem_nil, or_false] at hd
    rcases hd with rfl | rfl
    · exact .str hw
    · exact .non
  · refine ⟨.int n, .cons (.str _) (.cons (.int _) .nil), .tup fun d hd => ?_⟩
    simp only [List.mem_cons, List.not_mem_nil, or_false] at hd
    rcases hd with rfl | rfl
    · exact .str e0
    · exact .int _
theorem formT : formW (Str.ofString "text", .non) := .inl ⟨_, rfl, by decide +kernel, by decide +kernel⟩
theorem formK : formW (Str.ofString "costs", .non) := .inl ⟨_, rfl, by decide +kernel, by decide +kernel⟩
theorem formC : formW (Str.ofString "change", .non) := .inl ⟨_, rfl, by decide +kernel, by decide +kernel⟩
theorem lnk_due {z : Str} {es : List Deed} {p c s way : Int} (ho : ∀ e ∈ es, okDeed e) (hf : ∀ e ∈ es, fair e) : lnk (way / 16 % 8 = 1) (way % 4 = 1) z (es.map deedData) p c s (dueW z es p c s way) ∧ formW (dueW z es p c s way) ∧ ((dueW z es p c s way).1 = Str.ofString "" → ¬ way / 16 % 8 = 1 ∧ ¬ way % 4 = 1 ∧ ∃ l, changeL (tl z) es = some l) := by
  unfold lnk dueW
  by_cases a : way / 16 % 8 = 1
  · rw [if_pos a]
    exact ⟨⟨fun _ => rfl, fun q => absurd a q, fun q => absurd a q⟩, formT, fun q => absurd q (by decide +kernel)⟩
  · rw [if_neg a]
    by_cases b : way % 4 = 1
    · rw [if_pos b]
      exact ⟨⟨fun q => absurd q a, fun _ _ => rfl, fun _ q => absurd b q⟩, formK, fun q => absurd q (by decide +kernel)⟩
    · rw [if_neg b]
      have e1 : changedD (tl z) (.list (es.map deedData)) = changeL (tl z) es := by
        show (deedsD _).bind _ = _
        rw [deeds_data ho hf]
        rfl
      have e2 : costOf (.list (es.map deedData)) (.tuple [.int p, .int c, .int s]) = costSum p c s es := by
        show costSum p c s ((deedsD _).getD []) = _
        rw [deeds_data ho hf]
        rfl
      have e3 := change_fits (tl z) es
      by_cases f : takesL es = tl z
      · rw [if_pos f]
        rw [decide_eq_true f] at e3
        obtain ⟨l, hl⟩ := Option.isSome_iff_exists.mp e3
        refine ⟨⟨fun q => absurd q a, fun _ q => absurd q b, fun _ _ => ?_⟩, .inr ⟨_, rfl⟩, fun _ => ⟨a, b, l, hl⟩⟩
        rw [e1, hl, e2]
      · rw [if_neg f]
        rw [decide_eq_false f] at e3
        refine ⟨⟨fun q => absurd q a, fun _ q => absurd q b, fun _ _ => ?_⟩, formC, fun q => absurd q (by decide +kernel)⟩
        cases hl : changeL (tl z) es with
        | some l => rw [hl] at e3; cases e3
        | none => rw [e1, hl]
theorem lnk_odd {A B : Prop} {z : Str} {ds ds' : List PyData} {p c s : Int} {dw : Str × V} (h : lnk A B z ds p c s dw) (hn : deedsD ds' = none) : lnk A B z ds' p c s (if dw.1 = Str.ofString "" then (Str.ofString "change", .non) else dw) := by
  obtain ⟨h1, h2, h3⟩ := h
  have e1 : changedD (tl z) (.list ds') = none := by
    show (deedsD _).bind _ = _
    rw [hn]
    rfl
  refine ⟨fun a => ?_, fun a b => ?_, fun a b => ?_⟩
  · rw [h1 a, if_neg (by decide +kernel)]
  · rw [h2 a b, if_neg (by decide +kernel)]
  · rw [h3 a b, e1]
    cases changedD (tl z) (.list ds) with
    | none => exact if_neg (show ¬ Str.ofString "change" = Str.ofString "" by decide +kernel)
    | some _ => exact if_pos rfl
theorem swaps_sum : ∀ es : List Deed, costSum 0 0 1 es = ((((es.filter fun e => decide (wordOf e = Str.ofString "swap")).length : Nat)) : Int)
  | [] => rfl
  | e :: es => by
    have ih := swaps_sum es
    unfold costSum at ih ⊢
    rw [List.map_cons, List.sum_cons, ih]
    cases e with
    | keep a => rw [List.filter_cons_of_neg (p := fun e => decide (wordOf e = Str.ofString "swap")) (a := Deed.keep a) (show ¬ decide (Str.ofString "keep" = Str.ofString "swap") = true by decide +kernel)]; simp [costW]
    | put a => rw [List.filter_cons_of_neg (p := fun e => decide (wordOf e = Str.ofString "swap")) (a := Deed.put a) (show ¬ decide (Str.ofString "put" = Str.ofString "swap") = true by decide +kernel)]; simp [costW]
    | cut a => rw [List.filter_cons_of_neg (p := fun e => decide (wordOf e = Str.ofString "swap")) (a := Deed.cut a) (show ¬ decide (Str.ofString "cut" = Str.ofString "swap") = true by decide +kernel)]; simp [costW]
    | swap a b => rw [List.filter_cons_of_pos (p := fun e => decide (wordOf e = Str.ofString "swap")) (a := Deed.swap a b) (show decide (Str.ofString "swap" = Str.ofString "swap") = true by decide +kernel), List.length_cons]; simp [costW]; omega
section
set_option hygiene false in
local macro_rules | `(tactic| top_name) => `(tactic| first | refine e_call (df_law_mixed T) (hr.mono (by decide)) ?_ | refine e_call (df_law_made T) (hr.mono (by decide)) ?_ | refine e_call (df_law_due T) (hr.mono (by decide)) ?_ | refine e_call (df_law_told T) (hr.mono (by decide)) ?_ | refine e_call (df_law_cost T) (hr.mono (by decide)) ?_ | refine e_call (df_law_odd_costs T) (hr.mono (by decide)) ?_ | refine e_call (df_law_any T) (hr.mono (by decide)) ?_ | refine e_call (df_law_whole T) (hr.mono (by decide)) ?_ | refine e_call (df_law_cell_at T) (hr.mono (by decide)) ?_ | refine e_call (df_cost_of T) (hr.mono (by decide)) ?_ | refine e_call (df_law_odd_deed T) (hr.mono (by decide)) ?_)
theorem ok_law {f : Addr} {fd : FuncData} (F : Fun K "law" "law" s_law f fd) (T : Txt K mg cs) : FnOk P w K mg base (L2.CX P w) 8 f fd ["_law_script"] (sp1 (R_law K)) := by
  refine F.okX sc_law (fun vs H Q E h => sp1_len h) (fun cdv A outer s H vs Q E hr h => ⟨_, PBw (X := X_law P w K mg base f cdv A outer s H E), ?_⟩)
  obtain ⟨a0, rfl, h⟩ := h
  have ib_list := T.b_list
  have ib_len := T.b_len
  have ib_int := T.b_int
  have hr' : Room 7 (X_law P w K mg base f cdv A outer s H E).A := hr
  replace hr := hr'
  clear hr'
  obtain ⟨a, ns, rfl, hS, hlen, h⟩ := h
  kxs_still
  refine ⟨_, _, _, rfl, hS, rfl, by decide, by decide, fun way way0 way1 => ?_⟩
  kxs_still
  refine n_lst hS fun p1 H1 s1 n1 k1 _ => ?_
  rw [cutV_mid _ (by decide) (by decide), ← List.map_drop, ← List.map_take] at k1
  kxs_still
  refine ⟨p1, _, rfl, SqL.of k1, by simp only [List.length_take, List.length_drop]; omega, rfl, fun pm l z vs es H2 s2 kp kl hv hl hz hok hfair => ?_⟩
  kxs_still
  have hS2 := (s1.trans s2).seq hS
  refine ⟨_, _, _, rfl, hS2, rfl, by decide, ?_⟩
  kxs_still
  intro p p0 p1'
  kxs_still
  refine ⟨_, _, _, rfl, hS2, rfl, by decide, ?_⟩
  kxs_still
  intro c c0 c1'
  kxs_still
  refine ⟨_, _, _, rfl, hS2, rfl, by decide, ?_⟩
  kxs_still
  intro s' q0 q1'
  kxs_still
  intro tc H3 s3 n3 k3 _
  have hS3 := s3.seq hS2
  have kl3 := s3 _ _ kl
  have hv3 := hv.mono fun _ _ => DeedV.ts (Same.ts s3)
  refine b_cons (sMono (fun σ' H' => ∃ (l : Addr) (vs : List V) (es : List Deed) (v5 : Option V), σ' = [some (.ref a), some (.int way), some (.str z), some (.ref l), some (.ref tc), v5, none, none, none, none, none, none, none] ∧ Same H3 H' ∧ H' l = some (.lst vs) ∧ All2 (DeedV H') vs es ∧ es.length ≤ 400 ∧ ∀ e ∈ es, fair e) ?_ ?_)
  · kxs_still
    refine iteD (fun c1 => ?_) fun c1 => ?_
    · kxs_still
      refine ⟨_, _, _, rfl, hS3, rfl, by decide, by decide, fun m m0 m1 => ?_⟩
      kxs_still
      refine o_mod (by omega) ?_
      obtain ⟨P1, hP1⟩ : ∃ P1 : Nat, m % ((vs.length : Nat) + 1 : Int) = ((P1 : Nat) : Int) := ⟨(m % ((vs.length : Nat) + 1 : Int)).toNat, by have := Int.emod_nonneg m (show ((vs.length : Nat) + 1 : Int) ≠ 0 by omega); omega⟩
      rw [hP1]
      kxs_still
      refine n_lst (SqL.of kl3) fun l4 H4 s4 n4 k4 _ => ?_
      rw [cutV_to _ (by omega), show ((P1 : Nat) : Int).toNat = P1 by omega] at k4
      have kl4 := s4 _ _ kl3
      kxs_still
      refine n_lst (SqL.of kl4) fun l5 H5 s5 n5 k5 _ => ?_
      rw [cutV_from _ (by omega), show (((P1 : Nat) : Int) + 1).toNat = P1 + 1 by omega] at k5
      have k45 := s5 _ _ k4
      have hvl := hv3.len
      refine o_catL k45 k5 (by simp only [List.length_take, List.length_drop]; omega) fun l6 H6 s6 n6 k6 _ => ?_
      have s36 := s4.trans (s5.trans s6)
      have hv6 := hv3.mono fun _ _ => DeedV.ts (Same.ts s36)
      kxs_still
      refine ⟨l6, _, es.take P1 ++ es.drop (P1 + 1), _, rfl, s36, k6, (hv6.take P1).app (hv6.drop (P1 + 1)), by simp only [List.length_append, List.length_take, List.length_drop]; omega, fun e he => ?_⟩
      rcases List.mem_append.mp he with he | he
      · exact hfair e (List.mem_of_mem_take he)
      · exact hfair e (List.mem_of_mem_drop he)
    · kxs_still
      exact ⟨l, vs, es, _, rfl, Same.refl _, kl3, hv3, hl, hfair⟩
  clear hl hv hv3 kl kl3 hfair
  rintro σ' H4 ⟨l, vs, es, v5, rfl, s4, kl, hv, hl, hfair⟩
  have hS4 := s4.seq hS3
  have k4 := s4 _ _ k3
  have hvl := hv.len
  kxs_still
  refine ⟨z, l, vs, es, tc, p, c, s', way, rfl, rfl, kl, hv, by omega, rfl, k4, rfl, fun td H5 s5 k5 => ?_⟩
  obtain ⟨lk0, fm0, gd0⟩ := lnk_due (z := z) (p := p) (c := c) (s := s') (way := way) (deedV_ok hv) hfair
  have kl5 := s5 _ _ kl
  have hv5 := hv.mono fun _ _ => DeedV.ts (Same.ts s5)
  obtain ⟨hth5, hit5⟩ := items_th (K := K) hv5
  have hS5 := s5.seq hS4
  refine b_cons (sMono (fun σ' H' => ∃ (l : Addr) (vs : List V) (ds : List PyData) (t : Addr) (dw : Str × V) (v7 : Option V), σ' = [some (.ref a), some (.int way), some (.str z), some (.ref l), some (.ref tc), v5, some (.ref t), v7, none, none, none, none, none] ∧ Same H5 H' ∧ Itms K H' l vs ds ∧ H' t = some (.tup [.str dw.1, dw.2]) ∧ lnk (way / 16 % 8 = 1) (way % 4 = 1) z ds p c s' dw ∧ formW dw ∧ (dw.1 = Str.ofString "" → ¬ way / 16 % 8 = 1 ∧ ¬ way % 4 = 1 ∧ ∃ (es : List Deed) (r : List Nat), All2 (DeedV H') vs es ∧ ds = es.map deedData ∧ (∀ e ∈ es, fair e) ∧ changeL (tl z) es = some r)) ?_ ?_)
  · kxs_still
    refine iteD (fun c2 => ?_) fun c2 => ?_
    · kxs_still
      refine ⟨_, _, _, rfl, hS5, rfl, by decide, by decide, fun m m0 m1 => ?_⟩
      kxs_still
      have d0 : 0 ≤ m % 7 := Int.emod_nonneg _ (by decide)
      refine n_lst (SqL.of kl5) fun l6 H6 s6 n6 k6 _ => ?_
      rw [cutV_to _ d0] at k6
      kxs_still
      intro vo dodd H7 s7 ho hio hno
      kxs_still
      intro l8 H8 s8 n8 k8 _
      have k68 := (s7.trans s8) _ _ k6
      refine o_catL k68 k8 (by simp only [List.length_take, List.length_cons, List.length_nil]; omega) fun l9 H9 s9 n9 k9 _ => ?_
      have s59 := s6.trans (s7.trans (s8.trans s9))
      have kl9 := s59 _ _ kl5
      kxs_still
      refine n_lst (SqL.of kl9) fun l10 H10 s10 n10 k10 _ => ?_
      rw [cutV_from _ d0] at k10
      have k910 := s10 _ _ k9
      refine o_catL k910 k10 (by simp only [List.length_append, List.length_take, List.length_drop, List.length_cons, List.length_nil]; omega) fun l11 H11 s11 n11 k11 _ => ?_
      have s511 := s59.trans (s10.trans s11)
      have k511 := s511 _ _ k5
      have th11 : ThAll K H11 (vs.take (m % 7).toNat ++ [vo] ++ vs.drop (m % 7).toNat) ((es.map deedData).take (m % 7).toNat ++ [dodd] ++ (es.map deedData).drop (m % 7).toNat) := (((hth5.take _).more s511).app (.cons (ho.more (s8.trans (s9.trans (s10.trans s11)))) .nil)).app ((hth5.drop _).more s511)
      have hn : deedsD ((es.map deedData).take (m % 7).toNat ++ [dodd] ++ (es.map deedData).drop (m % 7).toNat) = none := by
        refine deeds_cut (i := ((es.map deedData).take (m % 7).toNat).length) (d := dodd) ?_ hno
        rw [List.append_assoc, List.getElem?_append_right (Nat.le_refl _), Nat.sub_self]
        rfl
      have lk := lnk_odd lk0 hn
      kxs_still
      intro t12 H12 s12 n12 k12 _
      kxs_still
      intro l13 H13 s13 n13 k13 _
      have k513 := (s12.trans s13) _ _ k511
      have i13 : Itms K H13 l11 _ _ := ⟨SqL.of ((s12.trans s13) _ _ k11), th11.more (s12.trans s13), fun d hd => by
        rcases List.mem_append.mp hd with hd | hd
        · rcases List.mem_append.mp hd with hd | hd
          · exact hit5 d (List.mem_of_mem_take hd)
          · rw [List.mem_singleton.mp hd]; exact hio
        · exact hit5 d (List.mem_of_mem_drop hd), by simp only [List.length_append, List.length_take, List.length_drop, List.length_map, List.length_cons, List.length_nil]; omega⟩
      kxs_still
      refine k_intB ?_
      by_cases e0 : (dueW z es p c s' way).1 = Str.ofString ""
      · rw [decide_eq_true e0]
        rw [if_pos e0] at lk
        kxs_still
        refine i_lst (SqL.of k13) (v := .ref t12) (atI_nat (by decide) rfl) ?_
        kxs_still
        exact ⟨l11, _, _, t12, _, _, rfl, s511.trans (s12.trans s13), i13, s13 _ _ k12, lk, formC, fun q => absurd q (by decide +kernel)⟩
      · rw [decide_eq_false e0]
        rw [if_neg e0] at lk
        kxs_still
        refine i_lst (SqL.of k13) (v := .ref td) (atI_nat (by decide) rfl) ?_
        kxs_still
        exact ⟨l11, _, _, td, _, _, rfl, s511.trans (s12.trans s13), i13, k513, lk, fm0, fun q => absurd q e0⟩
    · kxs_still
      refine ⟨l, vs, _, td, _, _, rfl, Same.refl _, ⟨SqL.of kl5, hth5, hit5, by rw [List.length_map]; omega⟩, k5, lk0, fm0, fun q => ?_⟩
      obtain ⟨q1, q2, r, q3⟩ := gd0 q
      exact ⟨q1, q2, es, r, hv5, rfl, hfair, q3⟩
  rintro σ' H6 ⟨l2, vs2, ds, t, dw, v7, rfl, s56, it6, kt6, lk, fm, gd⟩
  have s36 := s4.trans (s5.trans s56)
  have k36 := s36 _ _ k3
  have hS6 := s36.seq hS3
  have hzt : isTextD (.str z) = true := by
    show (decide (z.length ≤ 60) && (tl z).all okc) = true
    rw [decide_eq_true hz, hok]
    rfl
  have hck : isCostsD (.tuple [.int p, .int c, .int s']) = true := by
    show ((decide (0 ≤ p) && decide (p ≤ top60)) && ((decide (0 ≤ c) && decide (c ≤ top60)) && (decide (0 ≤ s') && decide (s' ≤ top60)))) = true
    rw [decide_eq_true p0, decide_eq_true p1', decide_eq_true c0, decide_eq_true c1', decide_eq_true q0, decide_eq_true q1']
    rfl
  refine b_cons (sMono (fun σ' H' => ∃ (vc : V) (dc : PyData), σ' = [some (.ref a), some (.int way), some (.str z), some (.ref l2), some vc, v5, some (.ref t), v7, none, none, none, none, none] ∧ Same H6 H' ∧ Th K H' vc dc ∧ (way % 4 = 1 → isCostsD dc = false) ∧ (¬ way % 4 = 1 → dc = .tuple [.int p, .int c, .int s'])) ?_ ?_)
  · kxs_still
    refine iteD (fun c4 => ?_) fun c4 => ?_
    · kxs_still
      refine ⟨_, _, _, rfl, hS6, rfl, by decide, ?_⟩
      kxs_still
      refine ⟨tc, p, c, s', _, rfl, k36, rfl, fun vc dc H7 s7 h7 hb => ?_⟩
      kxs_still
      exact ⟨vc, dc, rfl, s7, h7, fun _ => hb, fun q => absurd c4 q⟩
    · kxs_still
      exact ⟨.ref tc, _, rfl, Same.refl _, .tup (SqT.of k36) (.cons (.int _) (.cons (.int _) (.cons (.int _) .nil))), fun q => absurd q c4, fun _ => rfl⟩
  rintro σ' H7 ⟨vc, dc, rfl, s67, hc7, hcb, hcg⟩
  have it7 : Itms K H7 l2 vs2 ds := ⟨s67.seq it6.sq, it6.th.more s67, it6.it, it6.len⟩
  have kt7 := s67 _ _ kt6
  refine b_cons (s_set (e_var rfl ?_))
  refine b_cons (sMono (fun σ' H' => ∃ (vh : V) (dt : PyData), σ' = [some (.ref a), some (.int way), some (.str z), some (.ref l2), some vc, v5, some (.ref t), v7, some vh, none, none, none, none] ∧ Same H7 H' ∧ Th K H' vh dt ∧ (way / 16 % 8 = 1 → isTextD dt = false) ∧ (¬ way / 16 % 8 = 1 → dt = .str z)) ?_ ?_)
  · kxs_still
    refine iteD (fun c5 => ?_) fun c5 => ?_
    · kxs_still
      refine k_listS (by omega) fun lS H8 s8 n8 k8 _ => ?_
      kxs_still
      intro lL H9 s9 n9 k9 _
      have k89 := s9 _ _ k8
      obtain ⟨v, hv9, d, hd1, hd2⟩ := ix_any (i := way / 128 % 3) k9 (fun v => ∃ d, Th K H9 v d ∧ isTextD d = false) (by
        intro x hx
        simp only [List.mem_cons, List.not_mem_nil, or_false] at hx
        rcases hx with rfl | rfl | rfl
        · exact ⟨_, .str _ (by decide +kernel), by decide +kernel⟩
        · exact ⟨_, .lst (SqL.of k89) (signs_th _), rfl⟩
        · exact ⟨_, .non, rfl⟩) (Int.emod_nonneg _ (by decide)) (Int.emod_lt_of_pos _ (by decide))
      kxs_still
      exact ⟨v, d, rfl, s8.trans s9, hd1, fun _ => hd2, fun q => absurd c5 q⟩
    · kxs_still
      exact ⟨.str z, .str z, rfl, Same.refl _, .str _ (by omega), fun q => absurd q c5, fun _ => rfl⟩
  rintro σ' H8 ⟨vh, dt, rfl, s78, ht8, htb, htg⟩
  have E : toldC dt (.list ds) dc = dw := by
    obtain ⟨e1, e2, e3⟩ := lk
    by_cases A : way / 16 % 8 = 1
    · rw [e1 A, toldC_text (htb A)]
    · have := htg A
      subst this
      by_cases B : way % 4 = 1
      · rw [e2 A B, toldC_costs hzt (hcb B)]
      · have := hcg B
        subst this
        rw [e3 A B]
        cases ec : changedD (tl z) (.list ds) with
        | none => rw [toldC_change hzt hck ec]
        | some r => rw [toldC_good hzt hck ec]
  have it8 : Itms K H8 l2 vs2 ds := ⟨s78.seq it7.sq, it7.th.more s78, it7.it, it7.len⟩
  have kt8 := s78 _ _ kt7
  have hc8 := hc7.more s78
  kxs_still
  refine k_listL (.inl it8.sq) fun lk9 H9 s9 n9 k9 _ => ?_
  have it9 : Itms K H9 lk9 vs2 ds := ⟨SqL.of k9, it8.th.more s9, it8.it, it8.len⟩
  have ht9 := ht8.more s9
  have hc9 := hc8.more s9
  have hsd : ∀ ds', (.list ds : PyData) = .list ds' → shortDs ds' := fun ds' e => by
    cases e
    exact ⟨Nat.le_trans it8.len (by decide), fun d hd es e => ⟨((it8.it d hd).tup es e).1, Nat.le_trans ((it8.it d hd).tup es e).2.1 (by decide)⟩⟩
  kxs_still
  refine ⟨dt, .list ds, dc, ht9, .lst it9.sq it9.th, hc9, hsd, fun tf H10 s10 k10 => ?_⟩
  rw [E] at k10
  have kt10 := (s9.trans s10) _ _ kt8
  obtain ⟨de, q1, q2⟩ := formW_dp (K := K) (H := H10) fm
  kxs_still
  refine o_neD hr.units (.tup (SqT.of k10) q1) (.tup (SqT.of kt10) q1) q2.ok q2.ok ?_
  rw [q2.refl]
  kxs_still
  have sh := item_sh it8.it
  refine o_neD hr.units (Th.dpS (.lst (s10.seq it9.sq) (it9.th.more s10)) sh) (Th.dpS (.lst ((s9.trans s10).seq it8.sq) (it8.th.more (s9.trans s10))) sh) sh.ok sh.ok ?_
  rw [sh.refl]
  kxs_still
  refine iteND (fun e0 => ?_) fun e0 => ?_
  · kxs_still
    refine ⟨dt, .list ds, dc, ht9.more s10, .lst (s10.seq it9.sq) (it9.th.more s10), hc9.more s10, hsd, by rw [E]; exact e0, fun H11 s11 => ?_⟩
    exact h H11
  obtain ⟨A, B, es2, r, hv2, rfl, hf2, hch⟩ := gd e0
  obtain ⟨n, hn⟩ : ∃ n, dw = (Str.ofString "", .int n) := by
    rcases fm with ⟨w, rfl, hw, _⟩ | q
    · exact absurd e0 hw
    · exact q
  subst hn
  have edt := htg A
  subst edt
  have s610 : Same H6 H10 := s67.trans (s78.trans (s9.trans s10))
  have hv10 := hv2.mono fun _ _ => DeedV.ts (Same.ts s610)
  have sq10 := (s9.trans s10).seq it8.sq
  have sqk10 := s10.seq it9.sq
  have hvl2 := hv2.len
  have hel : es2.length ≤ 900 := by have := it8.len; rwa [List.length_map] at this
  have k10' : H10 tf = some (.tup [V.str (Str.ofString ""), .int n]) := k10
  kxs_still
  refine e_lcF (blkOk_by (sc := defScope s_law) (own := [("_law_deed", 12)]) (by decide +kernel)) (fun i => (es2[i]?.map fun e => decide (wordOf e = Str.ofString "swap")).getD false) (fun i => (vs2[i]?).getD .non) (j_list ?_)
  kxs_still
  refine ⟨⟨_, sq10⟩, _, _, _, walk_list (xs := vs2), by omega, fun H' s' => s'.seq sq10, ?_, ?_⟩
  · rintro i x H' H11 hi s' ⟨rfl, hx⟩
    obtain ⟨e, he, b, rfl, hb, ho⟩ := hv10.get hx
    have hb' := s' _ _ hb
    obtain ⟨rr, er⟩ : ∃ r, deedVals e = .str (wordOf e) :: r := by cases e <;> exact ⟨_, rfl⟩
    rw [er] at hb'
    refine ⟨Same.refl _, fun _ _ _ _ _ => ?_⟩
    kxs_still
    refine ⟨rfl, Same.refl _, fun _ _ _ _ _ => ?_⟩
    kxs_still
    refine ⟨Same.refl _, ?_, fun _ _ _ _ _ _ => ?_⟩
    · show _ = (Option.map _ es2[i]?).getD false
      rw [he]
      rfl
    kxs_still
    exact ⟨by show _ = (vs2[i]?).getD V.non; rw [hx]; rfl, Same.refl _⟩
  intro l11 H11 s11 n11 k11
  have cnt : (((List.range vs2.length).filter fun i => (es2[i]?.map fun e => decide (wordOf e = Str.ofString "swap")).getD false).map fun i => (vs2[i]?).getD V.non).length = (es2.filter fun e => decide (wordOf e = Str.ofString "swap")).length := by
    have q := congrArg List.length (filter_ix (fun _ : Deed => V.non) (fun e => decide (wordOf e = Str.ofString "swap")) V.non es2)
    rw [List.length_map, List.length_map] at q
    rw [List.length_map, hvl2]
    exact q
  have k1011 := s11 _ _ k10'
  kxs_still
  rw [cnt]
  kxs_still
  refine ⟨_, .int n, ?_⟩
  rw [show isWholeD (.int n) = true from rfl]
  kxs_still
  intro tz H12 s12 n12 k12 _
  have hz12 : Th K H12 (.ref tz) (.tuple [.int 0, .int 0, .int 1]) := .tup (SqT.of k12) (.cons (.int _) (.cons (.int _) (.cons (.int _) .nil)))
  have s1012 := s11.trans s12
  have ec : isCostsD (.tuple [.int 0, .int 0, .int 1]) = true := by decide +kernel
  kxs_still
  refine ⟨.str z, .list (es2.map deedData), _, .str _ (by omega), .lst (s1012.seq sqk10) (it9.th.more (s10.trans s1012)), hz12, hsd, fun q => absurd q (by rw [hzt]; simp), fun _ q => absurd q (by rw [ec]; simp), fun z2 ez _ _ => ?_⟩
  cases ez
  have dd := deeds_data (deedV_ok hv2) hf2
  refine ⟨fun q => ?_, fun l q H13 s13 => ?_⟩
  · have q : (deedsD (es2.map deedData)).bind (changeL (tl z)) = none := q
    rw [dd, Option.bind_some, hch] at q
    cases q
  · have eco : costOf (.list (es2.map deedData)) (.tuple [.int 0, .int 0, .int 1]) = (((es2.filter fun e => decide (wordOf e = Str.ofString "swap")).length : Nat) : Int) := by
      show costSum 0 0 1 ((deedsD _).getD []) = _
      rw [dd]
      exact swaps_sum es2
    rw [eco]
    kxs_still
    rw [decide_eq_true rfl]
    exact h H13

end
end
theorem all_mk {l : PySem.W.OpenLaw} {w : World} {K : PySem.W.Frag} {h : Heap} {mg : Str → Option Value} {fa C_ForestError C_NoGrammar C_NoText C_NoRow C_NoRule C_NoNumber C_NoCosts C_NoChange C_NoWords C_Endless C_TooGreat C_Barren f_is_whole f_may_stand f_is_sign f_checked_text f_is_one_sign f_is_deed f_changed f_checked_costs f_cost_of f_law_cell_at f_law_mixed f_law_all f_law_made f_law_whole f_law_fits f_law_told f_law_any f_law_odd_deed f_law_cost f_law_odd_costs f_law_due f_law : Addr} (X : K.In h) (G : h.Ns mainGlobals mg) (hfa : mg "law" = some (.ref fa))
    {t_MOST_SIGNS : Tok}
    {t_DEAREST : Tok}
    {od_is_whole an_is_whole : Option Addr} {sl_is_whole : Array (Option Value)} {oc_is_whole kV_is_whole dc_is_whole pm_is_whole cd_is_whole ct_is_whole : Value}
    {od_may_stand an_may_stand : Option Addr} {sl_may_stand : Array (Option Value)} {oc_may_stand kV_may_stand dc_may_stand pm_may_stand cd_may_stand ct_may_stand : Value}
    {od_is_sign an_is_sign : Option Addr} {sl_is_sign : Array (Option Value)} {oc_is_sign kV_is_sign dc_is_sign pm_is_sign cd_is_sign ct_is_sign : Value}
    {od_checked_text an_checked_text : Option Addr} {sl_checked_text : Array (Option Value)} {oc_checked_text kV_checked_text dc_checked_text pm_checked_text cd_checked_text ct_checked_text : Value}
    {od_is_one_sign an_is_one_sign : Option Addr} {sl_is_one_sign : Array (Option Value)} {oc_is_one_sign kV_is_one_sign dc_is_one_sign pm_is_one_sign cd_is_one_sign ct_is_one_sign : Value}
    {od_is_deed an_is_deed : Option Addr} {sl_is_deed : Array (Option Value)} {oc_is_deed kV_is_deed dc_is_deed pm_is_deed cd_is_deed ct_is_deed : Value}
    {od_changed an_changed : Option Addr} {sl_changed : Array (Option Value)} {oc_changed kV_changed dc_changed pm_changed cd_changed ct_changed : Value}
    {od_checked_costs an_checked_costs : Option Addr} {sl_checked_costs : Array (Option Value)} {oc_checked_costs kV_checked_costs dc_checked_costs pm_checked_costs cd_checked_costs ct_checked_costs : Value}
    {od_cost_of an_cost_of : Option Addr} {sl_cost_of : Array (Option Value)} {oc_cost_of kV_cost_of dc_cost_of pm_cost_of cd_cost_of ct_cost_of : Value}
    {od_law_cell_at an_law_cell_at : Option Addr} {sl_law_cell_at : Array (Option Value)} {oc_law_cell_at kV_law_cell_at dc_law_cell_at pm_law_cell_at cd_law_cell_at ct_law_cell_at : Value}
    {od_law_mixed an_law_mixed : Option Addr} {sl_law_mixed : Array (Option Value)} {oc_law_mixed kV_law_mixed dc_law_mixed pm_law_mixed cd_law_mixed ct_law_mixed : Value}
    {od_law_all an_law_all : Option Addr} {sl_law_all : Array (Option Value)} {oc_law_all kV_law_all dc_law_all pm_law_all cd_law_all ct_law_all : Value}
    {od_law_made an_law_made : Option Addr} {sl_law_made : Array (Option Value)} {oc_law_made kV_law_made dc_law_made pm_law_made cd_law_made ct_law_made : Value}
    {od_law_whole an_law_whole : Option Addr} {sl_law_whole : Array (Option Value)} {oc_law_whole kV_law_whole dc_law_whole pm_law_whole cd_law_whole ct_law_whole : Value}
    {od_law_fits an_law_fits : Option Addr} {sl_law_fits : Array (Option Value)} {oc_law_fits kV_law_fits dc_law_fits pm_law_fits cd_law_fits ct_law_fits : Value}
    {od_law_told an_law_told : Option Addr} {sl_law_told : Array (Option Value)} {oc_law_told kV_law_told dc_law_told pm_law_told cd_law_told ct_law_told : Value}
    {od_law_any an_law_any : Option Addr} {sl_law_any : Array (Option Value)} {oc_law_any kV_law_any dc_law_any pm_law_any cd_law_any ct_law_any : Value}
    {od_law_odd_deed an_law_odd_deed : Option Addr} {sl_law_odd_deed : Array (Option Value)} {oc_law_odd_deed kV_law_odd_deed dc_law_odd_deed pm_law_odd_deed cd_law_odd_deed ct_law_odd_deed : Value}
    {od_law_cost an_law_cost : Option Addr} {sl_law_cost : Array (Option Value)} {oc_law_cost kV_law_cost dc_law_cost pm_law_cost cd_law_cost ct_law_cost : Value}
    {od_law_odd_costs an_law_odd_costs : Option Addr} {sl_law_odd_costs : Array (Option Value)} {oc_law_odd_costs kV_law_odd_costs dc_law_odd_costs pm_law_odd_costs cd_law_odd_costs ct_law_odd_costs : Value}
    {od_law_due an_law_due : Option Addr} {sl_law_due : Array (Option Value)} {oc_law_due kV_law_due dc_law_due pm_law_due cd_law_due ct_law_due : Value}
    {od_law an_law : Option Addr} {sl_law : Array (Option Value)} {oc_law kV_law dc_law pm_law cd_law ct_law : Value}
    (b_ValueError : PySem.W.nsIn K mainGlobals "ValueError" = some none)
    (b_bool : PySem.W.nsIn K mainGlobals "bool" = some none)
    (b_int : PySem.W.nsIn K mainGlobals "int" = some none)
    (b_isinstance : PySem.W.nsIn K mainGlobals "isinstance" = some none)
    (b_len : PySem.W.nsIn K mainGlobals "len" = some none)
    (b_list : PySem.W.nsIn K mainGlobals "list" = some none)
    (b_ord : PySem.W.nsIn K mainGlobals "ord" = some none)
    (b_str : PySem.W.nsIn K mainGlobals "str" = some none)
    (b_sum : PySem.W.nsIn K mainGlobals "sum" = some none)
    (b_tuple : PySem.W.nsIn K mainGlobals "tuple" = some none)
    (k_MOST_SIGNS : PySem.W.nsIn K mainGlobals "MOST_SIGNS" = some (some (.int (60) t_MOST_SIGNS)))
    (k_DEAREST : PySem.W.nsIn K mainGlobals "DEAREST" = some (some (.int (1000000000000000000000000000000000000000000000000000000000000) t_DEAREST)))
    (g_ForestError : PySem.W.nsIn K mainGlobals "ForestError" = some (some (.ref C_ForestError)))
    (ex_ForestError : PySem.W.excIn K C_ForestError [.type "ValueError", .type "Exception", .type "BaseException", .type "object"] "ValueError.__new__" = true)
    (kc_ForestError : PySem.W.keepIn K (.ref C_ForestError) = true)
    (bc_ForestError : PySem.W.subIn K (.ref C_ForestError) (.type "BaseException") = some true)
    (tc_ForestError : PySem.W.typeIn K (.ref C_ForestError) = some (.type "type"))
    (ic_ForestError : PySem.W.isClsIn K C_ForestError = true)
    (ga_ForestError : PySem.W.findIn K (.ref C_ForestError) "__getattribute__" = some (some (.builtin "BaseException.__getattribute__")))
    (gk_ForestError : PySem.W.findIn K (.ref C_ForestError) "__getattr__" = some none)
    (hd_ForestError : PySem.W.hasDictIn K C_ForestError = true)
    (ha_ForestError : PySem.W.findIn K (.ref C_ForestError) "__class__" = some (some (.builtin "object.__class__")))
    (hn_ForestError : PySem.W.specialIn K (.builtin "object.__class__") "__get__" = some (some (.builtin "getset_descriptor.__get__")))
    (ht_ForestError : PySem.W.takesIn K (.builtin "object.__class__") = some true)
    (hm_ForestError : PySem.W.mroIn K C_ForestError (.type "object") = some true)
    (ve_ForestError : PySem.W.subIn K (.ref C_ForestError) (.type "ValueError") = some true)
    (g_NoGrammar : PySem.W.nsIn K mainGlobals "NoGrammar" = some (some (.ref C_NoGrammar)))
    (ex_NoGrammar : PySem.W.excIn K C_NoGrammar [.type "ValueError", .type "Exception", .type "BaseException", .type "object"] "ValueError.__new__" = true)
    (kc_NoGrammar : PySem.W.keepIn K (.ref C_NoGrammar) = true)
    (bc_NoGrammar : PySem.W.subIn K (.ref C_NoGrammar) (.type "BaseException") = some true)
    (tc_NoGrammar : PySem.W.typeIn K (.ref C_NoGrammar) = some (.type "type"))
    (ic_NoGrammar : PySem.W.isClsIn K C_NoGrammar = true)
    (ga_NoGrammar : PySem.W.findIn K (.ref C_NoGrammar) "__getattribute__" = some (some (.builtin "BaseException.__getattribute__")))
    (gk_NoGrammar : PySem.W.findIn K (.ref C_NoGrammar) "__getattr__" = some none)
    (hd_NoGrammar : PySem.W.hasDictIn K C_NoGrammar = true)
    (ha_NoGrammar : PySem.W.findIn K (.ref C_NoGrammar) "__class__" = some (some (.builtin "object.__class__")))
    (hn_NoGrammar : PySem.W.specialIn K (.builtin "object.__class__") "__get__" = some (some (.builtin "getset_descriptor.__get__")))
    (ht_NoGrammar : PySem.W.takesIn K (.builtin "object.__class__") = some true)
    (hm_NoGrammar : PySem.W.mroIn K C_NoGrammar (.type "object") = some true)
    (ve_NoGrammar : PySem.W.subIn K (.ref C_NoGrammar) (.type "ValueError") = some true)
    (g_NoText : PySem.W.nsIn K mainGlobals "NoText" = some (some (.ref C_NoText)))
    (ex_NoText : PySem.W.excIn K C_NoText [.type "ValueError", .type "Exception", .type "BaseException", .type "object"] "ValueError.__new__" = true)
    (kc_NoText : PySem.W.keepIn K (.ref C_NoText) = true)
    (bc_NoText : PySem.W.subIn K (.ref C_NoText) (.type "BaseException") = some true)
    (tc_NoText : PySem.W.typeIn K (.ref C_NoText) = some (.type "type"))
    (ic_NoText : PySem.W.isClsIn K C_NoText = true)
    (ga_NoText : PySem.W.findIn K (.ref C_NoText) "__getattribute__" = some (some (.builtin "BaseException.__getattribute__")))
    (gk_NoText : PySem.W.findIn K (.ref C_NoText) "__getattr__" = some none)
    (hd_NoText : PySem.W.hasDictIn K C_NoText = true)
    (ha_NoText : PySem.W.findIn K (.ref C_NoText) "__class__" = some (some (.builtin "object.__class__")))
    (hn_NoText : PySem.W.specialIn K (.builtin "object.__class__") "__get__" = some (some (.builtin "getset_descriptor.__get__")))
    (ht_NoText : PySem.W.takesIn K (.builtin "object.__class__") = some true)
    (hm_NoText : PySem.W.mroIn K C_NoText (.type "object") = some true)
    (ve_NoText : PySem.W.subIn K (.ref C_NoText) (.type "ValueError") = some true)
    (g_NoRow : PySem.W.nsIn K mainGlobals "NoRow" = some (some (.ref C_NoRow)))
    (ex_NoRow : PySem.W.excIn K C_NoRow [.type "ValueError", .type "Exception", .type "BaseException", .type "object"] "ValueError.__new__" = true)
    (kc_NoRow : PySem.W.keepIn K (.ref C_NoRow) = true)
    (bc_NoRow : PySem.W.subIn K (.ref C_NoRow) (.type "BaseException") = some true)
    (tc_NoRow : PySem.W.typeIn K (.ref C_NoRow) = some (.type "type"))
    (ic_NoRow : PySem.W.isClsIn K C_NoRow = true)
    (ga_NoRow : PySem.W.findIn K (.ref C_NoRow) "__getattribute__" = some (some (.builtin "BaseException.__getattribute__")))
    (gk_NoRow : PySem.W.findIn K (.ref C_NoRow) "__getattr__" = some none)
    (hd_NoRow : PySem.W.hasDictIn K C_NoRow = true)
    (ha_NoRow : PySem.W.findIn K (.ref C_NoRow) "__class__" = some (some (.builtin "object.__class__")))
    (hn_NoRow : PySem.W.specialIn K (.builtin "object.__class__") "__get__" = some (some (.builtin "getset_descriptor.__get__")))
    (ht_NoRow : PySem.W.takesIn K (.builtin "object.__class__") = some true)
    (hm_NoRow : PySem.W.mroIn K C_NoRow (.type "object") = some true)
    (ve_NoRow : PySem.W.subIn K (.ref C_NoRow) (.type "ValueError") = some true)
    (g_NoRule : PySem.W.nsIn K mainGlobals "NoRule" = some (some (.ref C_NoRule)))
    (ex_NoRule : PySem.W.excIn K C_NoRule [.type "ValueError", .type "Exception", .type "BaseException", .type "object"] "ValueError.__new__" = true)
    (kc_NoRule : PySem.W.keepIn K (.ref C_NoRule) = true)
    (bc_NoRule : PySem.W.subIn K (.ref C_NoRule) (.type "BaseException") = some true)
    (tc_NoRule : PySem.W.typeIn K (.ref C_NoRule) = some (.type "type"))
    (ic_NoRule : PySem.W.isClsIn K C_NoRule = true)
    (ga_NoRule : PySem.W.findIn K (.ref C_NoRule) "__getattribute__" = some (some (.builtin "BaseException.__getattribute__")))
    (gk_NoRule : PySem.W.findIn K (.ref C_NoRule) "__getattr__" = some none)
    (hd_NoRule : PySem.W.hasDictIn K C_NoRule = true)
    (ha_NoRule : PySem.W.findIn K (.ref C_NoRule) "__class__" = some (some (.builtin "object.__class__")))
    (hn_NoRule : PySem.W.specialIn K (.builtin "object.__class__") "__get__" = some (some (.builtin "getset_descriptor.__get__")))
    (ht_NoRule : PySem.W.takesIn K (.builtin "object.__class__") = some true)
    (hm_NoRule : PySem.W.mroIn K C_NoRule (.type "object") = some true)
    (ve_NoRule : PySem.W.subIn K (.ref C_NoRule) (.type "ValueError") = some true)
    (g_NoNumber : PySem.W.nsIn K mainGlobals "NoNumber" = some (some (.ref C_NoNumber)))
    (ex_NoNumber : PySem.W.excIn K C_NoNumber [.type "ValueError", .type "Exception", .type "BaseException", .type "object"] "ValueError.__new__" = true)
    (kc_NoNumber : PySem.W.keepIn K (.ref C_NoNumber) = true)
    (bc_NoNumber : PySem.W.subIn K (.ref C_NoNumber) (.type "BaseException") = some true)
    (tc_NoNumber : PySem.W.typeIn K (.ref C_NoNumber) = some (.type "type"))
    (ic_NoNumber : PySem.W.isClsIn K C_NoNumber = true)
    (ga_NoNumber : PySem.W.findIn K (.ref C_NoNumber) "__getattribute__" = some (some (.builtin "BaseException.__getattribute__")))
    (gk_NoNumber : PySem.W.findIn K (.ref C_NoNumber) "__getattr__" = some none)
    (hd_NoNumber : PySem.W.hasDictIn K C_NoNumber = true)
    (ha_NoNumber : PySem.W.findIn K (.ref C_NoNumber) "__class__" = some (some (.builtin "object.__class__")))
    (hn_NoNumber : PySem.W.specialIn K (.builtin "object.__class__") "__get__" = some (some (.builtin "getset_descriptor.__get__")))
    (ht_NoNumber : PySem.W.takesIn K (.builtin "object.__class__") = some true)
    (hm_NoNumber : PySem.W.mroIn K C_NoNumber (.type "object") = some true)
    (ve_NoNumber : PySem.W.subIn K (.ref C_NoNumber) (.type "ValueError") = some true)
    (g_NoCosts : PySem.W.nsIn K mainGlobals "NoCosts" = some (some (.ref C_NoCosts)))
    (ex_NoCosts : PySem.W.excIn K C_NoCosts [.type "ValueError", .type "Exception", .type "BaseException", .type "object"] "ValueError.__new__" = true)
    (kc_NoCosts : PySem.W.keepIn K (.ref C_NoCosts) = true)
    (bc_NoCosts : PySem.W.subIn K (.ref C_NoCosts) (.type "BaseException") = some true)
    (tc_NoCosts : PySem.W.typeIn K (.ref C_NoCosts) = some (.type "type"))
    (ic_NoCosts : PySem.W.isClsIn K C_NoCosts = true)
    (ga_NoCosts : PySem.W.findIn K (.ref C_NoCosts) "__getattribute__" = some (some (.builtin "BaseException.__getattribute__")))
    (gk_NoCosts : PySem.W.findIn K (.ref C_NoCosts) "__getattr__" = some none)
    (hd_NoCosts : PySem.W.hasDictIn K C_NoCosts = true)
    (ha_NoCosts : PySem.W.findIn K (.ref C_NoCosts) "__class__" = some (some (.builtin "object.__class__")))
    (hn_NoCosts : PySem.W.specialIn K (.builtin "object.__class__") "__get__" = some (some (.builtin "getset_descriptor.__get__")))
    (ht_NoCosts : PySem.W.takesIn K (.builtin "object.__class__") = some true)
    (hm_NoCosts : PySem.W.mroIn K C_NoCosts (.type "object") = some true)
    (ve_NoCosts : PySem.W.subIn K (.ref C_NoCosts) (.type "ValueError") = some true)
    (g_NoChange : PySem.W.nsIn K mainGlobals "NoChange" = some (some (.ref C_NoChange)))
    (ex_NoChange : PySem.W.excIn K C_NoChange [.type "ValueError", .type "Exception", .type "BaseException", .type "object"] "ValueError.__new__" = true)
    (kc_NoChange : PySem.W.keepIn K (.ref C_NoChange) = true)
    (bc_NoChange : PySem.W.subIn K (.ref C_NoChange) (.type "BaseException") = some true)
    (tc_NoChange : PySem.W.typeIn K (.ref C_NoChange) = some (.type "type"))
    (ic_NoChange : PySem.W.isClsIn K C_NoChange = true)
    (ga_NoChange : PySem.W.findIn K (.ref C_NoChange) "__getattribute__" = some (some (.builtin "BaseException.__getattribute__")))
    (gk_NoChange : PySem.W.findIn K (.ref C_NoChange) "__getattr__" = some none)
    (hd_NoChange : PySem.W.hasDictIn K C_NoChange = true)
    (ha_NoChange : PySem.W.findIn K (.ref C_NoChange) "__class__" = some (some (.builtin "object.__class__")))
    (hn_NoChange : PySem.W.specialIn K (.builtin "object.__class__") "__get__" = some (some (.builtin "getset_descriptor.__get__")))
    (ht_NoChange : PySem.W.takesIn K (.builtin "object.__class__") = some true)
    (hm_NoChange : PySem.W.mroIn K C_NoChange (.type "object") = some true)
    (ve_NoChange : PySem.W.subIn K (.ref C_NoChange) (.type "ValueError") = some true)
    (g_NoWords : PySem.W.nsIn K mainGlobals "NoWords" = some (some (.ref C_NoWords)))
    (ex_NoWords : PySem.W.excIn K C_NoWords [.type "ValueError", .type "Exception", .type "BaseException", .type "object"] "ValueError.__new__" = true)
    (kc_NoWords : PySem.W.keepIn K (.ref C_NoWords) = true)
    (bc_NoWords : PySem.W.subIn K (.ref C_NoWords) (.type "BaseException") = some true)
    (tc_NoWords : PySem.W.typeIn K (.ref C_NoWords) = some (.type "type"))
    (ic_NoWords : PySem.W.isClsIn K C_NoWords = true)
    (ga_NoWords : PySem.W.findIn K (.ref C_NoWords) "__getattribute__" = some (some (.builtin "BaseException.__getattribute__")))
    (gk_NoWords : PySem.W.findIn K (.ref C_NoWords) "__getattr__" = some none)
    (hd_NoWords : PySem.W.hasDictIn K C_NoWords = true)
    (ha_NoWords : PySem.W.findIn K (.ref C_NoWords) "__class__" = some (some (.builtin "object.__class__")))
    (hn_NoWords : PySem.W.specialIn K (.builtin "object.__class__") "__get__" = some (some (.builtin "getset_descriptor.__get__")))
    (ht_NoWords : PySem.W.takesIn K (.builtin "object.__class__") = some true)
    (hm_NoWords : PySem.W.mroIn K C_NoWords (.type "object") = some true)
    (ve_NoWords : PySem.W.subIn K (.ref C_NoWords) (.type "ValueError") = some true)
    (g_Endless : PySem.W.nsIn K mainGlobals "Endless" = some (some (.ref C_Endless)))
    (ex_Endless : PySem.W.excIn K C_Endless [.type "ValueError", .type "Exception", .type "BaseException", .type "object"] "ValueError.__new__" = true)
    (kc_Endless : PySem.W.keepIn K (.ref C_Endless) = true)
    (bc_Endless : PySem.W.subIn K (.ref C_Endless) (.type "BaseException") = some true)
    (tc_Endless : PySem.W.typeIn K (.ref C_Endless) = some (.type "type"))
    (ic_Endless : PySem.W.isClsIn K C_Endless = true)
    (ga_Endless : PySem.W.findIn K (.ref C_Endless) "__getattribute__" = some (some (.builtin "BaseException.__getattribute__")))
    (gk_Endless : PySem.W.findIn K (.ref C_Endless) "__getattr__" = some none)
    (hd_Endless : PySem.W.hasDictIn K C_Endless = true)
    (ha_Endless : PySem.W.findIn K (.ref C_Endless) "__class__" = some (some (.builtin "object.__class__")))
    (hn_Endless : PySem.W.specialIn K (.builtin "object.__class__") "__get__" = some (some (.builtin "getset_descriptor.__get__")))
    (ht_Endless : PySem.W.takesIn K (.builtin "object.__class__") = some true)
    (hm_Endless : PySem.W.mroIn K C_Endless (.type "object") = some true)
    (ve_Endless : PySem.W.subIn K (.ref C_Endless) (.type "ValueError") = some true)
    (g_TooGreat : PySem.W.nsIn K mainGlobals "TooGreat" = some (some (.ref C_TooGreat)))
    (ex_TooGreat : PySem.W.excIn K C_TooGreat [.type "ValueError", .type "Exception", .type "BaseException", .type "object"] "ValueError.__new__" = true)
    (kc_TooGreat : PySem.W.keepIn K (.ref C_TooGreat) = true)
    (bc_TooGreat : PySem.W.subIn K (.ref C_TooGreat) (.type "BaseException") = some true)
    (tc_TooGreat : PySem.W.typeIn K (.ref C_TooGreat) = some (.type "type"))
    (ic_TooGreat : PySem.W.isClsIn K C_TooGreat = true)
    (ga_TooGreat : PySem.W.findIn K (.ref C_TooGreat) "__getattribute__" = some (some (.builtin "BaseException.__getattribute__")))
    (gk_TooGreat : PySem.W.findIn K (.ref C_TooGreat) "__getattr__" = some none)
    (hd_TooGreat : PySem.W.hasDictIn K C_TooGreat = true)
    (ha_TooGreat : PySem.W.findIn K (.ref C_TooGreat) "__class__" = some (some (.builtin "object.__class__")))
    (hn_TooGreat : PySem.W.specialIn K (.builtin "object.__class__") "__get__" = some (some (.builtin "getset_descriptor.__get__")))
    (ht_TooGreat : PySem.W.takesIn K (.builtin "object.__class__") = some true)
    (hm_TooGreat : PySem.W.mroIn K C_TooGreat (.type "object") = some true)
    (ve_TooGreat : PySem.W.subIn K (.ref C_TooGreat) (.type "ValueError") = some true)
    (g_Barren : PySem.W.nsIn K mainGlobals "Barren" = some (some (.ref C_Barren)))
    (ex_Barren : PySem.W.excIn K C_Barren [.type "ValueError", .type "Exception", .type "BaseException", .type "object"] "ValueError.__new__" = true)
    (kc_Barren : PySem.W.keepIn K (.ref C_Barren) = true)
    (bc_Barren : PySem.W.subIn K (.ref C_Barren) (.type "BaseException") = some true)
    (tc_Barren : PySem.W.typeIn K (.ref C_Barren) = some (.type "type"))
    (ic_Barren : PySem.W.isClsIn K C_Barren = true)
    (ga_Barren : PySem.W.findIn K (.ref C_Barren) "__getattribute__" = some (some (.builtin "BaseException.__getattribute__")))
    (gk_Barren : PySem.W.findIn K (.ref C_Barren) "__getattr__" = some none)
    (hd_Barren : PySem.W.hasDictIn K C_Barren = true)
    (ha_Barren : PySem.W.findIn K (.ref C_Barren) "__class__" = some (some (.builtin "object.__class__")))
    (hn_Barren : PySem.W.specialIn K (.builtin "object.__class__") "__get__" = some (some (.builtin "getset_descriptor.__get__")))
    (ht_Barren : PySem.W.takesIn K (.builtin "object.__class__") = some true)
    (hm_Barren : PySem.W.mroIn K C_Barren (.type "object") = some true)
    (ve_Barren : PySem.W.subIn K (.ref C_Barren) (.type "ValueError") = some true)
    (su_NoText_ForestError : PySem.W.subIn K (.ref C_NoText) (.ref C_ForestError) = some true)
    (su_NoText_NoGrammar : PySem.W.subIn K (.ref C_NoText) (.ref C_NoGrammar) = some false)
    (su_NoText_NoText : PySem.W.subIn K (.ref C_NoText) (.ref C_NoText) = some true)
    (su_NoText_NoRow : PySem.W.subIn K (.ref C_NoText) (.ref C_NoRow) = some false)
    (su_NoText_NoRule : PySem.W.subIn K (.ref C_NoText) (.ref C_NoRule) = some false)
    (su_NoText_NoNumber : PySem.W.subIn K (.ref C_NoText) (.ref C_NoNumber) = some false)
    (su_NoText_NoCosts : PySem.W.subIn K (.ref C_NoText) (.ref C_NoCosts) = some false)
    (su_NoText_NoChange : PySem.W.subIn K (.ref C_NoText) (.ref C_NoChange) = some false)
    (su_NoText_NoWords : PySem.W.subIn K (.ref C_NoText) (.ref C_NoWords) = some false)
    (su_NoText_Endless : PySem.W.subIn K (.ref C_NoText) (.ref C_Endless) = some false)
    (su_NoText_TooGreat : PySem.W.subIn K (.ref C_NoText) (.ref C_TooGreat) = some false)
    (su_NoText_Barren : PySem.W.subIn K (.ref C_NoText) (.ref C_Barren) = some false)
    (su_NoCosts_ForestError : PySem.W.subIn K (.ref C_NoCosts) (.ref C_ForestError) = some true)
    (su_NoCosts_NoGrammar : PySem.W.subIn K (.ref C_NoCosts) (.ref C_NoGrammar) = some false)
    (su_NoCosts_NoText : PySem.W.subIn K (.ref C_NoCosts) (.ref C_NoText) = some false)
    (su_NoCosts_NoRow : PySem.W.subIn K (.ref C_NoCosts) (.ref C_NoRow) = some false)
    (su_NoCosts_NoRule : PySem.W.subIn K (.ref C_NoCosts) (.ref C_NoRule) = some false)
    (su_NoCosts_NoNumber : PySem.W.subIn K (.ref C_NoCosts) (.ref C_NoNumber) = some false)
    (su_NoCosts_NoCosts : PySem.W.subIn K (.ref C_NoCosts) (.ref C_NoCosts) = some true)
    (su_NoCosts_NoChange : PySem.W.subIn K (.ref C_NoCosts) (.ref C_NoChange) = some false)
    (su_NoCosts_NoWords : PySem.W.subIn K (.ref C_NoCosts) (.ref C_NoWords) = some false)
    (su_NoCosts_Endless : PySem.W.subIn K (.ref C_NoCosts) (.ref C_Endless) = some false)
    (su_NoCosts_TooGreat : PySem.W.subIn K (.ref C_NoCosts) (.ref C_TooGreat) = some false)
    (su_NoCosts_Barren : PySem.W.subIn K (.ref C_NoCosts) (.ref C_Barren) = some false)
    (su_NoChange_ForestError : PySem.W.subIn K (.ref C_NoChange) (.ref C_ForestError) = some true)
    (su_NoChange_NoGrammar : PySem.W.subIn K (.ref C_NoChange) (.ref C_NoGrammar) = some false)
    (su_NoChange_NoText : PySem.W.subIn K (.ref C_NoChange) (.ref C_NoText) = some false)
    (su_NoChange_NoRow : PySem.W.subIn K (.ref C_NoChange) (.ref C_NoRow) = some false)
    (su_NoChange_NoRule : PySem.W.subIn K (.ref C_NoChange) (.ref C_NoRule) = some false)
    (su_NoChange_NoNumber : PySem.W.subIn K (.ref C_NoChange) (.ref C_NoNumber) = some false)
    (su_NoChange_NoCosts : PySem.W.subIn K (.ref C_NoChange) (.ref C_NoCosts) = some false)
    (su_NoChange_NoChange : PySem.W.subIn K (.ref C_NoChange) (.ref C_NoChange) = some true)
    (su_NoChange_NoWords : PySem.W.subIn K (.ref C_NoChange) (.ref C_NoWords) = some false)
    (su_NoChange_Endless : PySem.W.subIn K (.ref C_NoChange) (.ref C_Endless) = some false)
    (su_NoChange_TooGreat : PySem.W.subIn K (.ref C_NoChange) (.ref C_TooGreat) = some false)
    (su_NoChange_Barren : PySem.W.subIn K (.ref C_NoChange) (.ref C_Barren) = some false)
    (a_is_whole : PySem.W.nsIn K mainGlobals "is_whole" = some (some (.ref f_is_whole)))
    (l_is_whole : K.lookup f_is_whole = some ⟨oc_is_whole, od_is_whole, .func (PySem.W.fnOf "is_whole" "is_whole" (defArgs s_is_whole) (defBody s_is_whole) (defScope s_is_whole) .none kV_is_whole dc_is_whole pm_is_whole an_is_whole cd_is_whole ct_is_whole), sl_is_whole⟩)
    (e_is_whole : PySem.W.codeIn K cd_is_whole "is_whole" = true)
    (p_is_whole : PySem.W.keepIn K (.ref f_is_whole) = true)
    (a_may_stand : PySem.W.nsIn K mainGlobals "may_stand" = some (some (.ref f_may_stand)))
    (l_may_stand : K.lookup f_may_stand = some ⟨oc_may_stand, od_may_stand, .func (PySem.W.fnOf "may_stand" "may_stand" (defArgs s_may_stand) (defBody s_may_stand) (defScope s_may_stand) .none kV_may_stand dc_may_stand pm_may_stand an_may_stand cd_may_stand ct_may_stand), sl_may_stand⟩)
    (e_may_stand : PySem.W.codeIn K cd_may_stand "may_stand" = true)
    (p_may_stand : PySem.W.keepIn K (.ref f_may_stand) = true)
    (a_is_sign : PySem.W.nsIn K mainGlobals "is_sign" = some (some (.ref f_is_sign)))
    (l_is_sign : K.lookup f_is_sign = some ⟨oc_is_sign, od_is_sign, .func (PySem.W.fnOf "is_sign" "is_sign" (defArgs s_is_sign) (defBody s_is_sign) (defScope s_is_sign) .none kV_is_sign dc_is_sign pm_is_sign an_is_sign cd_is_sign ct_is_sign), sl_is_sign⟩)
    (e_is_sign : PySem.W.codeIn K cd_is_sign "is_sign" = true)
    (p_is_sign : PySem.W.keepIn K (.ref f_is_sign) = true)
    (a_checked_text : PySem.W.nsIn K mainGlobals "checked_text" = some (some (.ref f_checked_text)))
    (l_checked_text : K.lookup f_checked_text = some ⟨oc_checked_text, od_checked_text, .func (PySem.W.fnOf "checked_text" "checked_text" (defArgs s_checked_text) (defBody s_checked_text) (defScope s_checked_text) .none kV_checked_text dc_checked_text pm_checked_text an_checked_text cd_checked_text ct_checked_text), sl_checked_text⟩)
    (e_checked_text : PySem.W.codeIn K cd_checked_text "checked_text" = true)
    (p_checked_text : PySem.W.keepIn K (.ref f_checked_text) = true)
    (a_is_one_sign : PySem.W.nsIn K mainGlobals "is_one_sign" = some (some (.ref f_is_one_sign)))
    (l_is_one_sign : K.lookup f_is_one_sign = some ⟨oc_is_one_sign, od_is_one_sign, .func (PySem.W.fnOf "is_one_sign" "is_one_sign" (defArgs s_is_one_sign) (defBody s_is_one_sign) (defScope s_is_one_sign) .none kV_is_one_sign dc_is_one_sign pm_is_one_sign an_is_one_sign cd_is_one_sign ct_is_one_sign), sl_is_one_sign⟩)
    (e_is_one_sign : PySem.W.codeIn K cd_is_one_sign "is_one_sign" = true)
    (p_is_one_sign : PySem.W.keepIn K (.ref f_is_one_sign) = true)
    (a_is_deed : PySem.W.nsIn K mainGlobals "is_deed" = some (some (.ref f_is_deed)))
    (l_is_deed : K.lookup f_is_deed = some ⟨oc_is_deed, od_is_deed, .func (PySem.W.fnOf "is_deed" "is_deed" (defArgs s_is_deed) (defBody s_is_deed) (defScope s_is_deed) .none kV_is_deed dc_is_deed pm_is_deed an_is_deed cd_is_deed ct_is_deed), sl_is_deed⟩)
    (e_is_deed : PySem.W.codeIn K cd_is_deed "is_deed" = true)
    (p_is_deed : PySem.W.keepIn K (.ref f_is_deed) = true)
    (a_changed : PySem.W.nsIn K mainGlobals "changed" = some (some (.ref f_changed)))
    (l_changed : K.lookup f_changed = some ⟨oc_changed, od_changed, .func (PySem.W.fnOf "changed" "changed" (defArgs s_changed) (defBody s_changed) (defScope s_changed) .none kV_changed dc_changed pm_changed an_changed cd_changed ct_changed), sl_changed⟩)
    (e_changed : PySem.W.codeIn K cd_changed "changed" = true)
    (p_changed : PySem.W.keepIn K (.ref f_changed) = true)
    (a_checked_costs : PySem.W.nsIn K mainGlobals "checked_costs" = some (some (.ref f_checked_costs)))
    (l_checked_costs : K.lookup f_checked_costs = some ⟨oc_checked_costs, od_checked_costs, .func (PySem.W.fnOf "checked_costs" "checked_costs" (defArgs s_checked_costs) (defBody s_checked_costs) (defScope s_checked_costs) .none kV_checked_costs dc_checked_costs pm_checked_costs an_checked_costs cd_checked_costs ct_checked_costs), sl_checked_costs⟩)
    (e_checked_costs : PySem.W.codeIn K cd_checked_costs "checked_costs" = true)
    (p_checked_costs : PySem.W.keepIn K (.ref f_checked_costs) = true)
    (a_cost_of : PySem.W.nsIn K mainGlobals "cost_of" = some (some (.ref f_cost_of)))
    (l_cost_of : K.lookup f_cost_of = some ⟨oc_cost_of, od_cost_of, .func (PySem.W.fnOf "cost_of" "cost_of" (defArgs s_cost_of) (defBody s_cost_of) (defScope s_cost_of) .none kV_cost_of dc_cost_of pm_cost_of an_cost_of cd_cost_of ct_cost_of), sl_cost_of⟩)
    (e_cost_of : PySem.W.codeIn K cd_cost_of "cost_of" = true)
    (p_cost_of : PySem.W.keepIn K (.ref f_cost_of) = true)
    (a_law_cell_at : PySem.W.nsIn K mainGlobals "_law_cell_at" = some (some (.ref f_law_cell_at)))
    (l_law_cell_at : K.lookup f_law_cell_at = some ⟨oc_law_cell_at, od_law_cell_at, .func (PySem.W.fnOf "_law_cell_at" "_law_cell_at" (defArgs s_law_cell_at) (defBody s_law_cell_at) (defScope s_law_cell_at) .none kV_law_cell_at dc_law_cell_at pm_law_cell_at an_law_cell_at cd_law_cell_at ct_law_cell_at), sl_law_cell_at⟩)
    (e_law_cell_at : PySem.W.codeIn K cd_law_cell_at "_law_cell_at" = true)
    (p_law_cell_at : PySem.W.keepIn K (.ref f_law_cell_at) = true)
    (a_law_mixed : PySem.W.nsIn K mainGlobals "_law_mixed" = some (some (.ref f_law_mixed)))
    (l_law_mixed : K.lookup f_law_mixed = some ⟨oc_law_mixed, od_law_mixed, .func (PySem.W.fnOf "_law_mixed" "_law_mixed" (defArgs s_law_mixed) (defBody s_law_mixed) (defScope s_law_mixed) .none kV_law_mixed dc_law_mixed pm_law_mixed an_law_mixed cd_law_mixed ct_law_mixed), sl_law_mixed⟩)
    (e_law_mixed : PySem.W.codeIn K cd_law_mixed "_law_mixed" = true)
    (p_law_mixed : PySem.W.keepIn K (.ref f_law_mixed) = true)
    (a_law_all : PySem.W.nsIn K mainGlobals "_law_all" = some (some (.ref f_law_all)))
    (l_law_all : K.lookup f_law_all = some ⟨oc_law_all, od_law_all, .func (PySem.W.fnOf "_law_all" "_law_all" (defArgs s_law_all) (defBody s_law_all) (defScope s_law_all) .none kV_law_all dc_law_all pm_law_all an_law_all cd_law_all ct_law_all), sl_law_all⟩)
    (e_law_all : PySem.W.codeIn K cd_law_all "_law_all" = true)
    (p_law_all : PySem.W.keepIn K (.ref f_law_all) = true)
    (a_law_made : PySem.W.nsIn K mainGlobals "_law_made" = some (some (.ref f_law_made)))
    (l_law_made : K.lookup f_law_made = some ⟨oc_law_made, od_law_made, .func (PySem.W.fnOf "_law_made" "_law_made" (defArgs s_law_made) (defBody s_law_made) (defScope s_law_made) .none kV_law_made dc_law_made pm_law_made an_law_made cd_law_made ct_law_made), sl_law_made⟩)
    (e_law_made : PySem.W.codeIn K cd_law_made "_law_made" = true)
    (p_law_made : PySem.W.keepIn K (.ref f_law_made) = true)
    (a_law_whole : PySem.W.nsIn K mainGlobals "_law_whole" = some (some (.ref f_law_whole)))
    (l_law_whole : K.lookup f_law_whole = some ⟨oc_law_whole, od_law_whole, .func (PySem.W.fnOf "_law_whole" "_law_whole" (defArgs s_law_whole) (defBody s_law_whole) (defScope s_law_whole) .none kV_law_whole dc_law_whole pm_law_whole an_law_whole cd_law_whole ct_law_whole), sl_law_whole⟩)
    (e_law_whole : PySem.W.codeIn K cd_law_whole "_law_whole" = true)
    (p_law_whole : PySem.W.keepIn K (.ref f_law_whole) = true)
    (a_law_fits : PySem.W.nsIn K mainGlobals "_law_fits" = some (some (.ref f_law_fits)))
    (l_law_fits : K.lookup f_law_fits = some ⟨oc_law_fits, od_law_fits, .func (PySem.W.fnOf "_law_fits" "_law_fits" (defArgs s_law_fits) (defBody s_law_fits) (defScope s_law_fits) .none kV_law_fits dc_law_fits pm_law_fits an_law_fits cd_law_fits ct_law_fits), sl_law_fits⟩)
    (e_law_fits : PySem.W.codeIn K cd_law_fits "_law_fits" = true)
    (p_law_fits : PySem.W.keepIn K (.ref f_law_fits) = true)
    (a_law_told : PySem.W.nsIn K mainGlobals "_law_told" = some (some (.ref f_law_told)))
    (l_law_told : K.lookup f_law_told = some ⟨oc_law_told, od_law_told, .func (PySem.W.fnOf "_law_told" "_law_told" (defArgs s_law_told) (defBody s_law_told) (defScope s_law_told) .none kV_law_told dc_law_told pm_law_told an_law_told cd_law_told ct_law_told), sl_law_told⟩)
    (e_law_told : PySem.W.codeIn K cd_law_told "_law_told" = true)
    (p_law_told : PySem.W.keepIn K (.ref f_law_told) = true)
    (a_law_any : PySem.W.nsIn K mainGlobals "_law_any" = some (some (.ref f_law_any)))
    (l_law_any : K.lookup f_law_any = some ⟨oc_law_any, od_law_any, .func (PySem.W.fnOf "_law_any" "_law_any" (defArgs s_law_any) (defBody s_law_any) (defScope s_law_any) .none kV_law_any dc_law_any pm_law_any an_law_any cd_law_any ct_law_any), sl_law_any⟩)
    (e_law_any : PySem.W.codeIn K cd_law_any "_law_any" = true)
    (p_law_any : PySem.W.keepIn K (.ref f_law_any) = true)
    (a_law_odd_deed : PySem.W.nsIn K mainGlobals "_law_odd_deed" = some (some (.ref f_law_odd_deed)))
    (l_law_odd_deed : K.lookup f_law_odd_deed = some ⟨oc_law_odd_deed, od_law_odd_deed, .func (PySem.W.fnOf "_law_odd_deed" "_law_odd_deed" (defArgs s_law_odd_deed) (defBody s_law_odd_deed) (defScope s_law_odd_deed) .none kV_law_odd_deed dc_law_odd_deed pm_law_odd_deed an_law_odd_deed cd_law_odd_deed ct_law_odd_deed), sl_law_odd_deed⟩)
    (e_law_odd_deed : PySem.W.codeIn K cd_law_odd_deed "_law_odd_deed" = true)
    (p_law_odd_deed : PySem.W.keepIn K (.ref f_law_odd_deed) = true)
    (a_law_cost : PySem.W.nsIn K mainGlobals "_law_cost" = some (some (.ref f_law_cost)))
    (l_law_cost : K.lookup f_law_cost = some ⟨oc_law_cost, od_law_cost, .func (PySem.W.fnOf "_law_cost" "_law_cost" (defArgs s_law_cost) (defBody s_law_cost) (defScope s_law_cost) .none kV_law_cost dc_law_cost pm_law_cost an_law_cost cd_law_cost ct_law_cost), sl_law_cost⟩)
    (e_law_cost : PySem.W.codeIn K cd_law_cost "_law_cost" = true)
    (p_law_cost : PySem.W.keepIn K (.ref f_law_cost) = true)
    (a_law_odd_costs : PySem.W.nsIn K mainGlobals "_law_odd_costs" = some (some (.ref f_law_odd_costs)))
    (l_law_odd_costs : K.lookup f_law_odd_costs = some ⟨oc_law_odd_costs, od_law_odd_costs, .func (PySem.W.fnOf "_law_odd_costs" "_law_odd_costs" (defArgs s_law_odd_costs) (defBody s_law_odd_costs) (defScope s_law_odd_costs) .none kV_law_odd_costs dc_law_odd_costs pm_law_odd_costs an_law_odd_costs cd_law_odd_costs ct_law_odd_costs), sl_law_odd_costs⟩)
    (e_law_odd_costs : PySem.W.codeIn K cd_law_odd_costs "_law_odd_costs" = true)
    (p_law_odd_costs : PySem.W.keepIn K (.ref f_law_odd_costs) = true)
    (a_law_due : PySem.W.nsIn K mainGlobals "_law_due" = some (some (.ref f_law_due)))
    (l_law_due : K.lookup f_law_due = some ⟨oc_law_due, od_law_due, .func (PySem.W.fnOf "_law_due" "_law_due" (defArgs s_law_due) (defBody s_law_due) (defScope s_law_due) .none kV_law_due dc_law_due pm_law_due an_law_due cd_law_due ct_law_due), sl_law_due⟩)
    (e_law_due : PySem.W.codeIn K cd_law_due "_law_due" = true)
    (p_law_due : PySem.W.keepIn K (.ref f_law_due) = true)
    (a_law : PySem.W.nsIn K mainGlobals "law" = some (some (.ref f_law)))
    (l_law : K.lookup f_law = some ⟨oc_law, od_law, .func (PySem.W.fnOf "law" "law" (defArgs s_law) (defBody s_law) (defScope s_law) .none kV_law dc_law pm_law an_law cd_law ct_law), sl_law⟩)
    (e_law : PySem.W.codeIn K cd_law "law" = true)
    (p_law : PySem.W.keepIn K (.ref f_law) = true)
    : ∃ fd : FuncData, (∀ (s : Shared) (v : Value), BindsTo s fd ⟨[v], []⟩ [("_law_script", v)]) ∧ ∀ base : Heap, K.In base → base.Ns mainGlobals mg → FnOk l.prog w K mg base (L2.CX l.prog w) 8 fa fd ["_law_script"] (sp1 (R_law K)) := by
  have e := hfa.symm.trans (PySem.W.mg_of X G a_law)
  cases e
  have T : Txt K mg ⟨0, C_ForestError, C_NoGrammar, C_NoText, C_NoRow, C_NoRule, C_NoNumber, C_NoCosts, C_NoChange, C_NoWords, C_Endless, C_TooGreat, C_Barren⟩ := {
    b_ValueError := ⟨PySem.W.mg_none_of X G b_ValueError⟩,
    b_bool := ⟨PySem.W.mg_none_of X G b_bool⟩,
    b_int := ⟨PySem.W.mg_none_of X G b_int⟩,
    b_isinstance := ⟨PySem.W.mg_none_of X G b_isinstance⟩,
    b_len := ⟨PySem.W.mg_none_of X G b_len⟩,
    b_list := ⟨PySem.W.mg_none_of X G b_list⟩,
    b_ord := ⟨PySem.W.mg_none_of X G b_ord⟩,
    b_str := ⟨PySem.W.mg_none_of X G b_str⟩,
    b_sum := ⟨PySem.W.mg_none_of X G b_sum⟩,
    b_tuple := ⟨PySem.W.mg_none_of X G b_tuple⟩,
    k_MOST_SIGNS := ⟨_, PySem.W.mg_of X G k_MOST_SIGNS⟩,
    k_DEAREST := ⟨_, PySem.W.mg_of X G k_DEAREST⟩,
    x_ForestError := ⟨PySem.W.mg_of X G g_ForestError, ex_ForestError, kc_ForestError, bc_ForestError, tc_ForestError, ic_ForestError, ga_ForestError, gk_ForestError, hd_ForestError, ha_ForestError, hn_ForestError, ht_ForestError, hm_ForestError, ve_ForestError⟩,
    x_NoGrammar := ⟨PySem.W.mg_of X G g_NoGrammar, ex_NoGrammar, kc_NoGrammar, bc_NoGrammar, tc_NoGrammar, ic_NoGrammar, ga_NoGrammar, gk_NoGrammar, hd_NoGrammar, ha_NoGrammar, hn_NoGrammar, ht_NoGrammar, hm_NoGrammar, ve_NoGrammar⟩,
    x_NoText := ⟨PySem.W.mg_of X G g_NoText, ex_NoText, kc_NoText, bc_NoText, tc_NoText, ic_NoText, ga_NoText, gk_NoText, hd_NoText, ha_NoText, hn_NoText, ht_NoText, hm_NoText, ve_NoText⟩,
    x_NoRow := ⟨PySem.W.mg_of X G g_NoRow, ex_NoRow, kc_NoRow, bc_NoRow, tc_NoRow, ic_NoRow, ga_NoRow, gk_NoRow, hd_NoRow, ha_NoRow, hn_NoRow, ht_NoRow, hm_NoRow, ve_NoRow⟩,
    x_NoRule := ⟨PySem.W.mg_of X G g_NoRule, ex_NoRule, kc_NoRule, bc_NoRule, tc_NoRule, ic_NoRule, ga_NoRule, gk_NoRule, hd_NoRule, ha_NoRule, hn_NoRule, ht_NoRule, hm_NoRule, ve_NoRule⟩,
    x_NoNumber := ⟨PySem.W.mg_of X G g_NoNumber, ex_NoNumber, kc_NoNumber, bc_NoNumber, tc_NoNumber, ic_NoNumber, ga_NoNumber, gk_NoNumber, hd_NoNumber, ha_NoNumber, hn_NoNumber, ht_NoNumber, hm_NoNumber, ve_NoNumber⟩,
    x_NoCosts := ⟨PySem.W.mg_of X G g_NoCosts, ex_NoCosts, kc_NoCosts, bc_NoCosts, tc_NoCosts, ic_NoCosts, ga_NoCosts, gk_NoCosts, hd_NoCosts, ha_NoCosts, hn_NoCosts, ht_NoCosts, hm_NoCosts, ve_NoCosts⟩,
    x_NoChange := ⟨PySem.W.mg_of X G g_NoChange, ex_NoChange, kc_NoChange, bc_NoChange, tc_NoChange, ic_NoChange, ga_NoChange, gk_NoChange, hd_NoChange, ha_NoChange, hn_NoChange, ht_NoChange, hm_NoChange, ve_NoChange⟩,
    x_NoWords := ⟨PySem.W.mg_of X G g_NoWords, ex_NoWords, kc_NoWords, bc_NoWords, tc_NoWords, ic_NoWords, ga_NoWords, gk_NoWords, hd_NoWords, ha_NoWords, hn_NoWords, ht_NoWords, hm_NoWords, ve_NoWords⟩,
    x_Endless := ⟨PySem.W.mg_of X G g_Endless, ex_Endless, kc_Endless, bc_Endless, tc_Endless, ic_Endless, ga_Endless, gk_Endless, hd_Endless, ha_Endless, hn_Endless, ht_Endless, hm_Endless, ve_Endless⟩,
    x_TooGreat := ⟨PySem.W.mg_of X G g_TooGreat, ex_TooGreat, kc_TooGreat, bc_TooGreat, tc_TooGreat, ic_TooGreat, ga_TooGreat, gk_TooGreat, hd_TooGreat, ha_TooGreat, hn_TooGreat, ht_TooGreat, hm_TooGreat, ve_TooGreat⟩,
    x_Barren := ⟨PySem.W.mg_of X G g_Barren, ex_Barren, kc_Barren, bc_Barren, tc_Barren, ic_Barren, ga_Barren, gk_Barren, hd_Barren, ha_Barren, hn_Barren, ht_Barren, hm_Barren, ve_Barren⟩,
    s_NoText_ForestError := su_NoText_ForestError,
    s_NoText_NoGrammar := su_NoText_NoGrammar,
    s_NoText_NoText := su_NoText_NoText,
    s_NoText_NoRow := su_NoText_NoRow,
    s_NoText_NoRule := su_NoText_NoRule,
    s_NoText_NoNumber := su_NoText_NoNumber,
    s_NoText_NoCosts := su_NoText_NoCosts,
    s_NoText_NoChange := su_NoText_NoChange,
    s_NoText_NoWords := su_NoText_NoWords,
    s_NoText_Endless := su_NoText_Endless,
    s_NoText_TooGreat := su_NoText_TooGreat,
    s_NoText_Barren := su_NoText_Barren,
    s_NoCosts_ForestError := su_NoCosts_ForestError,
    s_NoCosts_NoGrammar := su_NoCosts_NoGrammar,
    s_NoCosts_NoText := su_NoCosts_NoText,
    s_NoCosts_NoRow := su_NoCosts_NoRow,
    s_NoCosts_NoRule := su_NoCosts_NoRule,
    s_NoCosts_NoNumber := su_NoCosts_NoNumber,
    s_NoCosts_NoCosts := su_NoCosts_NoCosts,
    s_NoCosts_NoChange := su_NoCosts_NoChange,
    s_NoCosts_NoWords := su_NoCosts_NoWords,
    s_NoCosts_Endless := su_NoCosts_Endless,
    s_NoCosts_TooGreat := su_NoCosts_TooGreat,
    s_NoCosts_Barren := su_NoCosts_Barren,
    s_NoChange_ForestError := su_NoChange_ForestError,
    s_NoChange_NoGrammar := su_NoChange_NoGrammar,
    s_NoChange_NoText := su_NoChange_NoText,
    s_NoChange_NoRow := su_NoChange_NoRow,
    s_NoChange_NoRule := su_NoChange_NoRule,
    s_NoChange_NoNumber := su_NoChange_NoNumber,
    s_NoChange_NoCosts := su_NoChange_NoCosts,
    s_NoChange_NoChange := su_NoChange_NoChange,
    s_NoChange_NoWords := su_NoChange_NoWords,
    s_NoChange_Endless := su_NoChange_Endless,
    s_NoChange_TooGreat := su_NoChange_TooGreat,
    s_NoChange_Barren := su_NoChange_Barren,
    f_is_whole := ⟨f_is_whole, _, PySem.W.mg_of X G a_is_whole, (fun_mk (st := s_is_whole) l_is_whole e_is_whole p_is_whole), ((fun_mk (st := s_is_whole) l_is_whole e_is_whole p_is_whole).binds (ps := ["thing"]) fun _ _ _ _ _ _ us hl => match us, hl with | [_], _ => rfl)⟩,
    f_may_stand := ⟨f_may_stand, _, PySem.W.mg_of X G a_may_stand, (fun_mk (st := s_may_stand) l_may_stand e_may_stand p_may_stand), ((fun_mk (st := s_may_stand) l_may_stand e_may_stand p_may_stand).binds (ps := ["sign"]) fun _ _ _ _ _ _ us hl => match us, hl with | [_], _ => rfl)⟩,
    f_is_sign := ⟨f_is_sign, _, PySem.W.mg_of X G a_is_sign, (fun_mk (st := s_is_sign) l_is_sign e_is_sign p_is_sign), ((fun_mk (st := s_is_sign) l_is_sign e_is_sign p_is_sign).binds (ps := ["thing"]) fun _ _ _ _ _ _ us hl => match us, hl with | [_], _ => rfl)⟩,
    f_checked_text := ⟨f_checked_text, _, PySem.W.mg_of X G a_checked_text, (fun_mk (st := s_checked_text) l_checked_text e_checked_text p_checked_text), ((fun_mk (st := s_checked_text) l_checked_text e_checked_text p_checked_text).binds (ps := ["thing"]) fun _ _ _ _ _ _ us hl => match us, hl with | [_], _ => rfl)⟩,
    f_is_one_sign := ⟨f_is_one_sign, _, PySem.W.mg_of X G a_is_one_sign, (fun_mk (st := s_is_one_sign) l_is_one_sign e_is_one_sign p_is_one_sign), ((fun_mk (st := s_is_one_sign) l_is_one_sign e_is_one_sign p_is_one_sign).binds (ps := ["thing"]) fun _ _ _ _ _ _ us hl => match us, hl with | [_], _ => rfl)⟩,
    f_is_deed := ⟨f_is_deed, _, PySem.W.mg_of X G a_is_deed, (fun_mk (st := s_is_deed) l_is_deed e_is_deed p_is_deed), ((fun_mk (st := s_is_deed) l_is_deed e_is_deed p_is_deed).binds (ps := ["thing"]) fun _ _ _ _ _ _ us hl => match us, hl with | [_], _ => rfl)⟩,
    f_changed := ⟨f_changed, _, PySem.W.mg_of X G a_changed, (fun_mk (st := s_changed) l_changed e_changed p_changed), ((fun_mk (st := s_changed) l_changed e_changed p_changed).binds (ps := ["text", "deeds"]) fun _ _ _ _ _ _ us hl => match us, hl with | [_, _], _ => rfl)⟩,
    f_checked_costs := ⟨f_checked_costs, _, PySem.W.mg_of X G a_checked_costs, (fun_mk (st := s_checked_costs) l_checked_costs e_checked_costs p_checked_costs), ((fun_mk (st := s_checked_costs) l_checked_costs e_checked_costs p_checked_costs).binds (ps := ["thing"]) fun _ _ _ _ _ _ us hl => match us, hl with | [_], _ => rfl)⟩,
    f_cost_of := ⟨f_cost_of, _, PySem.W.mg_of X G a_cost_of, (fun_mk (st := s_cost_of) l_cost_of e_cost_of p_cost_of), ((fun_mk (st := s_cost_of) l_cost_of e_cost_of p_cost_of).binds (ps := ["text", "deeds", "costs"]) fun _ _ _ _ _ _ us hl => match us, hl with | [_, _, _], _ => rfl)⟩,
    f_law_cell_at := ⟨f_law_cell_at, _, PySem.W.mg_of X G a_law_cell_at, (fun_mk (st := s_law_cell_at) l_law_cell_at e_law_cell_at p_law_cell_at), ((fun_mk (st := s_law_cell_at) l_law_cell_at e_law_cell_at p_law_cell_at).binds (ps := ["_law_script", "_law_k"]) fun _ _ _ _ _ _ us hl => match us, hl with | [_, _], _ => rfl)⟩,
    f_law_mixed := ⟨f_law_mixed, _, PySem.W.mg_of X G a_law_mixed, (fun_mk (st := s_law_mixed) l_law_mixed e_law_mixed p_law_mixed), ((fun_mk (st := s_law_mixed) l_law_mixed e_law_mixed p_law_mixed).binds (ps := ["_law_script", "_law_k"]) fun _ _ _ _ _ _ us hl => match us, hl with | [_, _], _ => rfl)⟩,
    f_law_all := ⟨f_law_all, _, PySem.W.mg_of X G a_law_all, (fun_mk (st := s_law_all) l_law_all e_law_all p_law_all), ((fun_mk (st := s_law_all) l_law_all e_law_all p_law_all).binds (ps := []) fun _ _ _ _ _ _ us hl => match us, hl with | [], _ => rfl)⟩,
    f_law_made := ⟨f_law_made, _, PySem.W.mg_of X G a_law_made, (fun_mk (st := s_law_made) l_law_made e_law_made p_law_made), ((fun_mk (st := s_law_made) l_law_made e_law_made p_law_made).binds (ps := ["_law_cells", "_law_most"]) fun _ _ _ _ _ _ us hl => match us, hl with | [_, _], _ => rfl)⟩,
    f_law_whole := ⟨f_law_whole, _, PySem.W.mg_of X G a_law_whole, (fun_mk (st := s_law_whole) l_law_whole e_law_whole p_law_whole), ((fun_mk (st := s_law_whole) l_law_whole e_law_whole p_law_whole).binds (ps := ["_law_found"]) fun _ _ _ _ _ _ us hl => match us, hl with | [_], _ => rfl)⟩,
    f_law_fits := ⟨f_law_fits, _, PySem.W.mg_of X G a_law_fits, (fun_mk (st := s_law_fits) l_law_fits e_law_fits p_law_fits), ((fun_mk (st := s_law_fits) l_law_fits e_law_fits p_law_fits).binds (ps := ["_law_signs", "_law_deeds"]) fun _ _ _ _ _ _ us hl => match us, hl with | [_, _], _ => rfl)⟩,
    f_law_told := ⟨f_law_told, _, PySem.W.mg_of X G a_law_told, (fun_mk (st := s_law_told) l_law_told e_law_told p_law_told), ((fun_mk (st := s_law_told) l_law_told e_law_told p_law_told).binds (ps := ["_law_signs", "_law_deeds", "_law_costs"]) fun _ _ _ _ _ _ us hl => match us, hl with | [_, _, _], _ => rfl)⟩,
    f_law_any := ⟨f_law_any, _, PySem.W.mg_of X G a_law_any, (fun_mk (st := s_law_any) l_law_any e_law_any p_law_any), ((fun_mk (st := s_law_any) l_law_any e_law_any p_law_any).binds (ps := ["_law_signs", "_law_deeds", "_law_costs"]) fun _ _ _ _ _ _ us hl => match us, hl with | [_, _, _], _ => rfl)⟩,
    f_law_odd_deed := ⟨f_law_odd_deed, _, PySem.W.mg_of X G a_law_odd_deed, (fun_mk (st := s_law_odd_deed) l_law_odd_deed e_law_odd_deed p_law_odd_deed), ((fun_mk (st := s_law_odd_deed) l_law_odd_deed e_law_odd_deed p_law_odd_deed).binds (ps := ["_law_cell"]) fun _ _ _ _ _ _ us hl => match us, hl with | [_], _ => rfl)⟩,
    f_law_cost := ⟨f_law_cost, _, PySem.W.mg_of X G a_law_cost, (fun_mk (st := s_law_cost) l_law_cost e_law_cost p_law_cost), ((fun_mk (st := s_law_cost) l_law_cost e_law_cost p_law_cost).binds (ps := ["_law_cell"]) fun _ _ _ _ _ _ us hl => match us, hl with | [_], _ => rfl)⟩,
    f_law_odd_costs := ⟨f_law_odd_costs, _, PySem.W.mg_of X G a_law_odd_costs, (fun_mk (st := s_law_odd_costs) l_law_odd_costs e_law_odd_costs p_law_odd_costs), ((fun_mk (st := s_law_odd_costs) l_law_odd_costs e_law_odd_costs p_law_odd_costs).binds (ps := ["_law_costs", "_law_cell"]) fun _ _ _ _ _ _ us hl => match us, hl with | [_, _], _ => rfl)⟩,
    f_law_due := ⟨f_law_due, _, PySem.W.mg_of X G a_law_due, (fun_mk (st := s_law_due) l_law_due e_law_due p_law_due), ((fun_mk (st := s_law_due) l_law_due e_law_due p_law_due).binds (ps := ["_law_signs", "_law_deeds", "_law_costs", "_law_way"]) fun _ _ _ _ _ _ us hl => match us, hl with | [_, _, _, _], _ => rfl)⟩ }
  exact ⟨PySem.W.fnOf "law" "law" (defArgs s_law) (defBody s_law) (defScope s_law) .none kV_law dc_law pm_law an_law cd_law ct_law, fun s v => .of_eq rfl, fun base _ _ => ok_law (fun_mk (st := s_law) l_law e_law p_law) T⟩
theorem walk {l : PySem.W.OpenLaw} {q : Program} {loose : List Str} {XP : (Str → Option Value) → Heap → Prop} {YP : World → Heap → Prop} {d : DefRec} {K : Params → PySem.W.Frag} (hn : l.most = some 63) (hdf : d.params.defaults = [])
    (hY : ∀ (w : World) (h : Heap), YP w h → (K w.params).In h)
    (F : ∀ (w : World) (mg : Str → Option Value) (fa : Addr) (h : Heap), (K w.params).In h → h.Ns mainGlobals mg → mg d.name = some (.ref fa) →
      ∃ fd : FuncData, (∀ (s : Shared) (u : Value), BindsTo s fd ⟨[u], []⟩ [("_law_script", u)]) ∧ ∀ base : Heap, (K w.params).In base → base.Ns mainGlobals mg → FnOk l.prog w (K w.params) mg base (L2.CX l.prog w) 8 fa fd ["_law_script"] (sp1 (R_law (K w.params)))) :
    PySem.W.WalkO q loose XP YP l.row.toRowW d [] (fun f vs => PySem.call f vs) :=
  L2.walk_of (n := 63) (k := 8) (x := "_law_script") (CX := fun w => L2.CX l.prog w) (sp := fun w => sp1 (R_law (K w.params))) hn (by decide) hdf ⟨rfl, by decide, by decide⟩ hY F (fun _ _ a ns hl _ hS => ⟨_, rfl, a, ns, rfl, hS, hl, fun _ => rfl⟩) fun w H s e s' h => by
    obtain ⟨_, _, _, _, _, _, _, _, _, _, _, _, z⟩ := h
    exact z
end Lw
open PySem PySem.W PyProof.Rows
set_option maxRecDepth 100000 in
set_option maxHeartbeats 0 in
theorem PySem.Challenge.cw_forestread_k71_cost_holds : PySem.Challenge.rw_forestread_k71_cost.Holds := by
  w_on; o_law; k_head; (case hw => w_witness2)
  k_fill
  refine Lw.walk (l := PySem.Challenge.rw_forestread_k71_cost) rfl rfl (fun w h Y => PySem.W.kIn_of Y) ?F
  case F =>
    intro w mg fa h KX G hmg
    refine' Lw.all_mk KX G hmg ?b_ValueError ?b_bool ?b_int ?b_isinstance ?b_len ?b_list ?b_ord ?b_str ?b_sum ?b_tuple ?k_MOST_SIGNS ?k_DEAREST ?g_ForestError ?ex_ForestError ?kc_ForestError ?bc_ForestError ?tc_ForestError ?ic_ForestError ?ga_ForestError ?gk_ForestError ?hd_ForestError ?ha_ForestError ?hn_ForestError ?ht_ForestError ?hm_ForestError ?ve_ForestError ?g_NoGrammar ?ex_NoGrammar ?kc_NoGrammar ?bc_NoGrammar ?tc_NoGrammar ?ic_NoGrammar ?ga_NoGrammar ?gk_NoGrammar ?hd_NoGrammar ?ha_NoGrammar ?hn_NoGrammar ?ht_NoGrammar ?hm_NoGrammar ?ve_NoGrammar ?g_NoText ?ex_NoText ?kc_NoText ?bc_NoText ?tc_NoText ?ic_NoText ?ga_NoText ?gk_NoText ?hd_NoText ?ha_NoText ?hn_NoText ?ht_NoText ?hm_NoText ?ve_NoText ?g_NoRow ?ex_NoRow ?kc_NoRow ?bc_NoRow ?tc_NoRow ?ic_NoRow ?ga_NoRow ?gk_NoRow ?hd_NoRow ?ha_NoRow ?hn_NoRow ?ht_NoRow ?hm_NoRow ?ve_NoRow ?g_NoRule ?ex_NoRule ?kc_NoRule ?bc_NoRule ?tc_NoRule ?ic_NoRule ?ga_NoRule ?gk_NoRule ?hd_NoRule ?ha_NoRule ?hn_NoRule ?ht_NoRule ?hm_NoRule ?ve_NoRule ?g_NoNumber ?ex_NoNumber ?kc_NoNumber ?bc_NoNumber ?tc_NoNumber ?ic_NoNumber ?ga_NoNumber ?gk_NoNumber ?hd_NoNumber ?ha_NoNumber ?hn_NoNumber ?ht_NoNumber ?hm_NoNumber ?ve_NoNumber ?g_NoCosts ?ex_NoCosts ?kc_NoCosts ?bc_NoCosts ?tc_NoCosts ?ic_NoCosts ?ga_NoCosts ?gk_NoCosts ?hd_NoCosts ?ha_NoCosts ?hn_NoCosts ?ht_NoCosts ?hm_NoCosts ?ve_NoCosts ?g_NoChange ?ex_NoChange ?kc_NoChange ?bc_NoChange ?tc_NoChange ?ic_NoChange ?ga_NoChange ?gk_NoChange ?hd_NoChange ?ha_NoChange ?hn_NoChange ?ht_NoChange ?hm_NoChange ?ve_NoChange ?g_NoWords ?ex_NoWords ?kc_NoWords ?bc_NoWords ?tc_NoWords ?ic_NoWords ?ga_NoWords ?gk_NoWords ?hd_NoWords ?ha_NoWords ?hn_NoWords ?ht_NoWords ?hm_NoWords ?ve_NoWords ?g_Endless ?ex_Endless ?kc_Endless ?bc_Endless ?tc_Endless ?ic_Endless ?ga_Endless ?gk_Endless ?hd_Endless ?ha_Endless ?hn_Endless ?ht_Endless ?hm_Endless ?ve_Endless ?g_TooGreat ?ex_TooGreat ?kc_TooGreat ?bc_TooGreat ?tc_TooGreat ?ic_TooGreat ?ga_TooGreat ?gk_TooGreat ?hd_TooGreat ?ha_TooGreat ?hn_TooGreat ?ht_TooGreat ?hm_TooGreat ?ve_TooGreat ?g_Barren ?ex_Barren ?kc_Barren ?bc_Barren ?tc_Barren ?ic_Barren ?ga_Barren ?gk_Barren ?hd_Barren ?ha_Barren ?hn_Barren ?ht_Barren ?hm_Barren ?ve_Barren ?su_NoText_ForestError ?su_NoText_NoGrammar ?su_NoText_NoText ?su_NoText_NoRow ?su_NoText_NoRule ?su_NoText_NoNumber ?su_NoText_NoCosts ?su_NoText_NoChange ?su_NoText_NoWords ?su_NoText_Endless ?su_NoText_TooGreat ?su_NoText_Barren ?su_NoCosts_ForestError ?su_NoCosts_NoGrammar ?su_NoCosts_NoText ?su_NoCosts_NoRow ?su_NoCosts_NoRule ?su_NoCosts_NoNumber ?su_NoCosts_NoCosts ?su_NoCosts_NoChange ?su_NoCosts_NoWords ?su_NoCosts_Endless ?su_NoCosts_TooGreat ?su_NoCosts_Barren ?su_NoChange_ForestError ?su_NoChange_NoGrammar ?su_NoChange_NoText ?su_NoChange_NoRow ?su_NoChange_NoRule ?su_NoChange_NoNumber ?su_NoChange_NoCosts ?su_NoChange_NoChange ?su_NoChange_NoWords ?su_NoChange_Endless ?su_NoChange_TooGreat ?su_NoChange_Barren ?a_is_whole ?l_is_whole ?e_is_whole ?p_is_whole ?a_may_stand ?l_may_stand ?e_may_stand ?p_may_stand ?a_is_sign ?l_is_sign ?e_is_sign ?p_is_sign ?a_checked_text ?l_checked_text ?e_checked_text ?p_checked_text ?a_is_one_sign ?l_is_one_sign ?e_is_one_sign ?p_is_one_sign ?a_is_deed ?l_is_deed ?e_is_deed ?p_is_deed ?a_changed ?l_changed ?e_changed ?p_changed ?a_checked_costs ?l_checked_costs ?e_checked_costs ?p_checked_costs ?a_cost_of ?l_cost_of ?e_cost_of ?p_cost_of ?a_law_cell_at ?l_law_cell_at ?e_law_cell_at ?p_law_cell_at ?a_law_mixed ?l_law_mixed ?e_law_mixed ?p_law_mixed ?a_law_all ?l_law_all ?e_law_all ?p_law_all ?a_law_made ?l_law_made ?e_law_made ?p_law_made ?a_law_whole ?l_law_whole ?e_law_whole ?p_law_whole ?a_law_fits ?l_law_fits ?e_law_fits ?p_law_fits ?a_law_told ?l_law_told ?e_law_told ?p_law_told ?a_law_any ?l_law_any ?e_law_any ?p_law_any ?a_law_odd_deed ?l_law_odd_deed ?e_law_odd_deed ?p_law_odd_deed ?a_law_cost ?l_law_cost ?e_law_cost ?p_law_cost ?a_law_odd_costs ?l_law_odd_costs ?e_law_odd_costs ?p_law_odd_costs ?a_law_due ?l_law_due ?e_law_due ?p_law_due ?a_law ?l_law ?e_law ?p_law
    (case b_ValueError => k_is)
    (case b_bool => k_is)
    (case b_int => k_is)
    (case b_isinstance => k_is)
    (case b_len => k_is)
    (case b_list => k_is)
    (case b_ord => k_is)
    (case b_str => k_is)
    (case b_sum => k_is)
    (case b_tuple => k_is)
    (case k_MOST_SIGNS => k_is)
    (case k_DEAREST => k_is)
    (case g_ForestError => k_is)
    (case ex_ForestError => k_exc)
    (case kc_ForestError => k_is)
    (case bc_ForestError => k_is)
    (case tc_ForestError => k_is)
    (case ic_ForestError => k_is)
    (case ga_ForestError => k_is)
    (case gk_ForestError => k_is)
    (case hd_ForestError => k_is)
    (case ha_ForestError => k_is)
    (case hn_ForestError => k_is)
    (case ht_ForestError => k_is)
    (case hm_ForestError => k_is)
    (case ve_ForestError => k_is)
    (case g_NoGrammar => k_is)
    (case ex_NoGrammar => k_exc)
    (case kc_NoGrammar => k_is)
    (case bc_NoGrammar => k_is)
    (case tc_NoGrammar => k_is)
    (case ic_NoGrammar => k_is)
    (case ga_NoGrammar => k_is)
    (case gk_NoGrammar => k_is)
    (case hd_NoGrammar => k_is)
    (case ha_NoGrammar => k_is)
    (case hn_NoGrammar => k_is)
    (case ht_NoGrammar => k_is)
    (case hm_NoGrammar => k_is)
    (case ve_NoGrammar => k_is)
    (case g_NoText => k_is)
    (case ex_NoText => k_exc)
    (case kc_NoText => k_is)
    (case bc_NoText => k_is)
    (case tc_NoText => k_is)
    (case ic_NoText => k_is)
    (case ga_NoText => k_is)
    (case gk_NoText => k_is)
    (case hd_NoText => k_is)
    (case ha_NoText => k_is)
    (case hn_NoText => k_is)
    (case ht_NoText => k_is)
    (case hm_NoText => k_is)
    (case ve_NoText => k_is)
    (case g_NoRow => k_is)
    (case ex_NoRow => k_exc)
    (case kc_NoRow => k_is)
    (case bc_NoRow => k_is)
    (case tc_NoRow => k_is)
    (case ic_NoRow => k_is)
    (case ga_NoRow => k_is)
    (case gk_NoRow => k_is)
    (case hd_NoRow => k_is)
    (case ha_NoRow => k_is)
    (case hn_NoRow => k_is)
    (case ht_NoRow => k_is)
    (case hm_NoRow => k_is)
    (case ve_NoRow => k_is)
    (case g_NoRule => k_is)
    (case ex_NoRule => k_exc)
    (case kc_NoRule => k_is)
    (case bc_NoRule => k_is)
    (case tc_NoRule => k_is)
    (case ic_NoRule => k_is)
    (case ga_NoRule => k_is)
    (case gk_NoRule => k_is)
    (case hd_NoRule => k_is)
    (case ha_NoRule => k_is)
    (case hn_NoRule => k_is)
    (case ht_NoRule => k_is)
    (case hm_NoRule => k_is)
    (case ve_NoRule => k_is)
    (case g_NoNumber => k_is)
    (case ex_NoNumber => k_exc)
    (case kc_NoNumber => k_is)
    (case bc_NoNumber => k_is)
    (case tc_NoNumber => k_is)
    (case ic_NoNumber => k_is)
    (case ga_NoNumber => k_is)
    (case gk_NoNumber => k_is)
    (case hd_NoNumber => k_is)
    (case ha_NoNumber => k_is)
    (case hn_NoNumber => k_is)
    (case ht_NoNumber => k_is)
    (case hm_NoNumber => k_is)
    (case ve_NoNumber => k_is)
    (case g_NoCosts => k_is)
    (case ex_NoCosts => k_exc)
    (case kc_NoCosts => k_is)
    (case bc_NoCosts => k_is)
    (case tc_NoCosts => k_is)
    (case ic_NoCosts => k_is)
    (case ga_NoCosts => k_is)
    (case gk_NoCosts => k_is)
    (case hd_NoCosts => k_is)
    (case ha_NoCosts => k_is)
    (case hn_NoCosts => k_is)
    (case ht_NoCosts => k_is)
    (case hm_NoCosts => k_is)
    (case ve_NoCosts => k_is)
    (case g_NoChange => k_is)
    (case ex_NoChange => k_exc)
    (case kc_NoChange => k_is)
    (case bc_NoChange => k_is)
    (case tc_NoChange => k_is)
    (case ic_NoChange => k_is)
    (case ga_NoChange => k_is)
    (case gk_NoChange => k_is)
    (case hd_NoChange => k_is)
    (case ha_NoChange => k_is)
    (case hn_NoChange => k_is)
    (case ht_NoChange => k_is)
    (case hm_NoChange => k_is)
    (case ve_NoChange => k_is)
    (case g_NoWords => k_is)
    (case ex_NoWords => k_exc)
    (case kc_NoWords => k_is)
    (case bc_NoWords => k_is)
    (case tc_NoWords => k_is)
    (case ic_NoWords => k_is)
    (case ga_NoWords => k_is)
    (case gk_NoWords => k_is)
    (case hd_NoWords => k_is)
    (case ha_NoWords => k_is)
    (case hn_NoWords => k_is)
    (case ht_NoWords => k_is)
    (case hm_NoWords => k_is)
    (case ve_NoWords => k_is)
    (case g_Endless => k_is)
    (case ex_Endless => k_exc)
    (case kc_Endless => k_is)
    (case bc_Endless => k_is)
    (case tc_Endless => k_is)
    (case ic_Endless => k_is)
    (case ga_Endless => k_is)
    (case gk_Endless => k_is)
    (case hd_Endless => k_is)
    (case ha_Endless => k_is)
    (case hn_Endless => k_is)
    (case ht_Endless => k_is)
    (case hm_Endless => k_is)
    (case ve_Endless => k_is)
    (case g_TooGreat => k_is)
    (case ex_TooGreat => k_exc)
    (case kc_TooGreat => k_is)
    (case bc_TooGreat => k_is)
    (case tc_TooGreat => k_is)
    (case ic_TooGreat => k_is)
    (case ga_TooGreat => k_is)
    (case gk_TooGreat => k_is)
    (case hd_TooGreat => k_is)
    (case ha_TooGreat => k_is)
    (case hn_TooGreat => k_is)
    (case ht_TooGreat => k_is)
    (case hm_TooGreat => k_is)
    (case ve_TooGreat => k_is)
    (case g_Barren => k_is)
    (case ex_Barren => k_exc)
    (case kc_Barren => k_is)
    (case bc_Barren => k_is)
    (case tc_Barren => k_is)
    (case ic_Barren => k_is)
    (case ga_Barren => k_is)
    (case gk_Barren => k_is)
    (case hd_Barren => k_is)
    (case ha_Barren => k_is)
    (case hn_Barren => k_is)
    (case ht_Barren => k_is)
    (case hm_Barren => k_is)
    (case ve_Barren => k_is)
    (case su_NoText_ForestError => first | k_is | rfl | decide)
    (case su_NoText_NoGrammar => first | k_is | rfl | decide)
    (case su_NoText_NoText => first | k_is | rfl | decide)
    (case su_NoText_NoRow => first | k_is | rfl | decide)
    (case su_NoText_NoRule => first | k_is | rfl | decide)
    (case su_NoText_NoNumber => first | k_is | rfl | decide)
    (case su_NoText_NoCosts => first | k_is | rfl | decide)
    (case su_NoText_NoChange => first | k_is | rfl | decide)
    (case su_NoText_NoWords => first | k_is | rfl | decide)
    (case su_NoText_Endless => first | k_is | rfl | decide)
    (case su_NoText_TooGreat => first | k_is | rfl | decide)
    (case su_NoText_Barren => first | k_is | rfl | decide)
    (case su_NoCosts_ForestError => first | k_is | rfl | decide)
    (case su_NoCosts_NoGrammar => first | k_is | rfl | decide)
    (case su_NoCosts_NoText => first | k_is | rfl | decide)
    (case su_NoCosts_NoRow => first | k_is | rfl | decide)
    (case su_NoCosts_NoRule => first | k_is | rfl | decide)
    (case su_NoCosts_NoNumber => first | k_is | rfl | decide)
    (case su_NoCosts_NoCosts => first | k_is | rfl | decide)
    (case su_NoCosts_NoChange => first | k_is | rfl | decide)
    (case su_NoCosts_NoWords => first | k_is | rfl | decide)
    (case su_NoCosts_Endless => first | k_is | rfl | decide)
    (case su_NoCosts_TooGreat => first | k_is | rfl | decide)
    (case su_NoCosts_Barren => first | k_is | rfl | decide)
    (case su_NoChange_ForestError => first | k_is | rfl | decide)
    (case su_NoChange_NoGrammar => first | k_is | rfl | decide)
    (case su_NoChange_NoText => first | k_is | rfl | decide)
    (case su_NoChange_NoRow => first | k_is | rfl | decide)
    (case su_NoChange_NoRule => first | k_is | rfl | decide)
    (case su_NoChange_NoNumber => first | k_is | rfl | decide)
    (case su_NoChange_NoCosts => first | k_is | rfl | decide)
    (case su_NoChange_NoChange => first | k_is | rfl | decide)
    (case su_NoChange_NoWords => first | k_is | rfl | decide)
    (case su_NoChange_Endless => first | k_is | rfl | decide)
    (case su_NoChange_TooGreat => first | k_is | rfl | decide)
    (case su_NoChange_Barren => first | k_is | rfl | decide)
    (case a_is_whole => k_is)
    (case l_is_whole => k_is)
    (case e_is_whole => k_is)
    (case p_is_whole => k_is)
    (case a_may_stand => k_is)
    (case l_may_stand => k_is)
    (case e_may_stand => k_is)
    (case p_may_stand => k_is)
    (case a_is_sign => k_is)
    (case l_is_sign => k_is)
    (case e_is_sign => k_is)
    (case p_is_sign => k_is)
    (case a_checked_text => k_is)
    (case l_checked_text => k_is)
    (case e_checked_text => k_is)
    (case p_checked_text => k_is)
    (case a_is_one_sign => k_is)
    (case l_is_one_sign => k_is)
    (case e_is_one_sign => k_is)
    (case p_is_one_sign => k_is)
    (case a_is_deed => k_is)
    (case l_is_deed => k_is)
    (case e_is_deed => k_is)
    (case p_is_deed => k_is)
    (case a_changed => k_is)
    (case l_changed => k_is)
    (case e_changed => k_is)
    (case p_changed => k_is)
    (case a_checked_costs => k_is)
    (case l_checked_costs => k_is)
    (case e_checked_costs => k_is)
    (case p_checked_costs => k_is)
    (case a_cost_of => k_is)
    (case l_cost_of => k_is)
    (case e_cost_of => k_is)
    (case p_cost_of => k_is)
    (case a_law_cell_at => k_is)
    (case l_law_cell_at => k_is)
    (case e_law_cell_at => k_is)
    (case p_law_cell_at => k_is)
    (case a_law_mixed => k_is)
    (case l_law_mixed => k_is)
    (case e_law_mixed => k_is)
    (case p_law_mixed => k_is)
    (case a_law_all => k_is)
    (case l_law_all => k_is)
    (case e_law_all => k_is)
    (case p_law_all => k_is)
    (case a_law_made => k_is)
    (case l_law_made => k_is)
    (case e_law_made => k_is)
    (case p_law_made => k_is)
    (case a_law_whole => k_is)
    (case l_law_whole => k_is)
    (case e_law_whole => k_is)
    (case p_law_whole => k_is)
    (case a_law_fits => k_is)
    (case l_law_fits => k_is)
    (case e_law_fits => k_is)
    (case p_law_fits => k_is)
    (case a_law_told => k_is)
    (case l_law_told => k_is)
    (case e_law_told => k_is)
    (case p_law_told => k_is)
    (case a_law_any => k_is)
    (case l_law_any => k_is)
    (case e_law_any => k_is)
    (case p_law_any => k_is)
    (case a_law_odd_deed => k_is)
    (case l_law_odd_deed => k_is)
    (case e_law_odd_deed => k_is)
    (case p_law_odd_deed => k_is)
    (case a_law_cost => k_is)
    (case l_law_cost => k_is)
    (case e_law_cost => k_is)
    (case p_law_cost => k_is)
    (case a_law_odd_costs => k_is)
    (case l_law_odd_costs => k_is)
    (case e_law_odd_costs => k_is)
    (case p_law_odd_costs => k_is)
    (case a_law_due => k_is)
    (case l_law_due => k_is)
    (case e_law_due => k_is)
    (case p_law_due => k_is)
    (case a_law => k_is)
    (case l_law => k_is)
    (case e_law => k_is)
    (case p_law => k_is)
