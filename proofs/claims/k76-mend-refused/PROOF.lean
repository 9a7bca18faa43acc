import PyProof.Rows.All
import Wide.All
import OpenK.AllK
import Wide.FinOn
import HandS.ForMost
import HandS.ForExc
import HandS.Flow
import HandS.IsInst
import HandS.Wide
import HandS.Walk
import HandS.ExcIs
import HandS.TryElse
import HandS.TryMany
import HandS.HotCalls
import HandS.SuiteRaise
import HandS.TupAny
import HandS.Small
import HandS.SetKeys
import HandS.DictComp
import HandS.Rev
import HandS.More
import HandS.ExcValue
import KE.DataFind
import HandS.ReplaceLit
import HandS.ReplaceList
import KE.GoesEnum
import KE.KDictKeyed
import KE.KDictWalk
import HandS.TupLen
import HandS.SortKw
import KE.DataMinMax
import KE.KDictDisplayH
import HandS.TupMul
import HandS.TupLe
import PyProof.ListMulRight
import KE.KeyNested
import PySem.Challenge.RW_forestread_k76_mend_refused
set_option Elab.async false
set_option linter.all false
set_option maxRecDepth 100000
set_option maxHeartbeats 2000000
set_option autoImplicit false
/-! Weakest wishes of the pieces of a text: eW, tW, aW, sW, bW; rules by syntax. -/
namespace G
open PySem PySem.Spec PyProof.Rows L2 TL
structure eW (X : Cx) (e : Expr) (σ : L2.St) (H : Hp) (Q : VK) : Prop where
  run : ∀ pins s, Inv X pins σ H s → wpAny (model X.prog X.w) X.A (eval e X.env) (EP X pins σ Q) X.xe s
structure tW (X : Cx) (e : Expr) (σ : L2.St) (H : Hp) (Q : Bool → Hp → Prop) : Prop where
  run : ∀ pins s, Inv X pins σ H s → wpAny (model X.prog X.w) X.A (isTrue e X.env (eval e X.env)) (TP X pins σ Q) X.xe s
structure cW (X : Cx) (e : Expr) (σ : L2.St) (H : Hp) (Q : Bool → Hp → Prop) : Prop where
  run : ∀ whole pins s, Inv X pins σ H s → wpAny (model X.prog X.w) X.A (isTrue e X.env whole) (TP X pins σ Q) X.xe s
structure aW (X : Cx) (es : List Expr) (σ : L2.St) (H : Hp) (Q : List V → Hp → Prop) : Prop where
  run : ∀ pos pins s, Inv X pins σ H s → wpAny (model X.prog X.w) X.A (spliced (backTo pos (starEach es X.env))) (AP X pins σ Q) X.xe s
structure sW (X : Cx) (st : Stmt) (D : Ends) (σ : L2.St) (H : Hp) : Prop where
  run : ∀ pins s, Inv X pins σ H s → wpAny (model X.prog X.w) X.A (exec st X.env) (SP X pins D) X.xe s
structure bW (X : Cx) (b : List Stmt) (D : Ends) (σ : L2.St) (H : Hp) : Prop where
  run : ∀ pins s, Inv X pins σ H s → wpAny (model X.prog X.w) X.A (execs b X.env) (SP X pins D) X.xe s
structure gW (X : Cx) (e : Expr) (v : V) (σ : L2.St) (H : Hp) (Q : L2.St → Hp → Prop) : Prop where
  run : ∀ pins s u, Inv X pins σ H s → RelV v u → wpAny (model X.prog X.w) X.A (assign e X.env u) (fun _ s' => ∃ σ' H', Inv X pins σ' H' s' ∧ Q σ' H') X.xe s
structure oW (X : Cx) (f : Value → Value → Sem Value) (x y : V) (H : Hp) (Q : VK) : Prop where
  run : ∀ pins s σ v u, Inv X pins σ H s → RelV x v → RelV y u → wpAny (model X.prog X.w) X.A (f v u) (EP X pins σ Q) X.xe s
structure uW (X : Cx) (f : Value → Sem Value) (x : V) (H : Hp) (Q : VK) : Prop where
  run : ∀ pins s σ v, Inv X pins σ H s → RelV x v → wpAny (model X.prog X.w) X.A (f v) (EP X pins σ Q) X.xe s
structure kW (X : Cx) (f : Value) (xs : List V) (H : Hp) (Q : VK) : Prop where
  run : ∀ pins s σ us, Inv X pins σ H s → Vals xs us → wpAny (model X.prog X.w) X.A (call f us) (EP X pins σ Q) X.xe s
section
variable {X : Cx} {e : Expr} {es : List Expr} {st : Stmt} {b : List Stmt}
theorem PEw : PE X e (eW X e) := ⟨fun pins s _ _ _ I h => h.run pins s I⟩
theorem PTw : PT X e (tW X e) := ⟨fun pins s _ _ _ I h => h.run pins s I⟩
theorem PWw : PW X e (cW X e) := ⟨fun wh pins s _ _ _ I h => h.run wh pins s I⟩
theorem PAw : PA X es (aW X es) := ⟨fun pos pins s _ _ _ I h => h.run pos pins s I⟩
theorem PSw : PS X st (sW X st) := ⟨fun pins s _ _ _ I h => h.run pins s I⟩
theorem PBw : PSs X b (bW X b) := ⟨fun pins s _ _ _ I h => h.run pins s I⟩
theorem PGw : PG X e (gW X e) := ⟨fun pins s _ _ v u _ I r h => h.run pins s u I r⟩
theorem OPw {f : Value → Value → Sem Value} : OpR X f (oW X f) := fun pins s σ H x y v u Q I rx ry h => h.run pins s σ v u I rx ry
theorem UNw {f : Value → Sem Value} : UnR X f (uW X f) := fun pins s σ H x v Q I rx h => h.run pins s σ v I rx
theorem KRw {f : Value} : CallR X f (kW X f) := fun pins s σ H xs us Q I r h => h.run pins s σ us I r
theorem eI {t : TE} {σ : L2.St} {H : Hp} {Q : VK} (h : PE X e t) (q : t σ H Q) : eW X e σ H Q := ⟨fun pins s I => h.run pins s σ H Q I q⟩
theorem tI {t : TT} {σ : L2.St} {H : Hp} {Q : Bool → Hp → Prop} (h : PT X e t) (q : t σ H Q) : tW X e σ H Q := ⟨fun pins s I => h.run pins s σ H Q I q⟩
theorem cI {t : TT} {σ : L2.St} {H : Hp} {Q : Bool → Hp → Prop} (h : PW X e t) (q : t σ H Q) : cW X e σ H Q := ⟨fun wh pins s I => h.run wh pins s σ H Q I q⟩
theorem aI {t : TA} {σ : L2.St} {H : Hp} {Q : List V → Hp → Prop} (h : PA X es t) (q : t σ H Q) : aW X es σ H Q := ⟨fun pos pins s I => h.run pos pins s σ H Q I q⟩
theorem sI {t : TS} {D : Ends} {σ : L2.St} {H : Hp} (h : PS X st t) (q : t D σ H) : sW X st D σ H := ⟨fun pins s I => h.run pins s σ H D I q⟩
theorem bI {t : TS} {D : Ends} {σ : L2.St} {H : Hp} (h : PSs X b t) (q : t D σ H) : bW X b D σ H := ⟨fun pins s I => h.run pins s σ H D I q⟩
theorem gI {t : TG} {v : V} {σ : L2.St} {H : Hp} {Q : L2.St → Hp → Prop} (h : PG X e t) (q : t v σ H Q) : gW X e v σ H Q := ⟨fun pins s u I r => h.run pins s σ H v u Q I r q⟩
theorem oI {f : Value → Value → Sem Value} {r : R2} {x y : V} {H : Hp} {Q : VK} (h : OpR X f r) (q : r x y H Q) : oW X f x y H Q := ⟨fun pins s σ v u I rx ry => h pins s σ H x y v u Q I rx ry q⟩
theorem uI {f : Value → Sem Value} {r : V → Hp → VK → Prop} {x : V} {H : Hp} {Q : VK} (h : UnR X f r) (q : r x H Q) : uW X f x H Q := ⟨fun pins s σ v I rx => h pins s σ H x v Q I rx q⟩
theorem kI {f : Value} {r : List V → Hp → VK → Prop} {xs : List V} {H : Hp} {Q : VK} (h : CallR X f r) (q : r xs H Q) : kW X f xs H Q := ⟨fun pins s σ us I rx => h pins s σ H xs us Q I rx q⟩
theorem eMono {σ : L2.St} {H : Hp} {Q Q' : VK} (h : eW X e σ H Q) (i : ∀ v H', Q v H' → Q' v H') : eW X e σ H Q' := ⟨fun pins s I => wpAny_mono (h.run pins s I) (fun _ _ ⟨v, H', a, b, c⟩ => ⟨v, H', a, b, i v H' c⟩) fun _ _ x => x⟩
theorem tMono {σ : L2.St} {H : Hp} {Q Q' : Bool → Hp → Prop} (h : tW X e σ H Q) (i : ∀ v H', Q v H' → Q' v H') : tW X e σ H Q' := ⟨fun pins s I => wpAny_mono (h.run pins s I) (fun _ _ ⟨H', a, c⟩ => ⟨H', a, i _ H' c⟩) fun _ _ x => x⟩
end

/-! ### what a context tells -/
def cxr (P : Program) (w : World) (K : PySem.W.Frag) (mg : Str → Option Value) (base : Heap) (N : List Str) (q : Str) (st : Stmt) (f : Addr) (cd : Value) (A : Around) (outer : List Env) (s : Shared) (H : Hp) (E : XK) : Cx := cxOf (L2.CX P w) P w K mg base N q (defScope st) f cd A outer s H E
class CxN (X : Cx) (N : outParam (List Str)) : Prop where h : X.N = N
class CxK (X : Cx) (K : outParam PySem.W.Frag) : Prop where h : X.K = K
class CxM (X : Cx) (mg : outParam (Str → Option Value)) : Prop where h : X.mg = mg
class CxC (X : Cx) : Prop where h : X.calm = true
class CxO (X : Cx) : Prop where h : PassesOwn (model X.prog X.w) X.A X.env X.xe
class CxT (X : Cx) (W : outParam WX) : Prop where h : Takes X W
/-- the slot of a name -/
class Slt (N : List Str) (x : Str) (i : outParam Nat) : Prop where h : N[i]? = some x
instance (priority := high) slt0 {x : Str} {N : List Str} : Slt (x :: N) x 0 := ⟨rfl⟩
instance slt1 {x y : Str} {N : List Str} {i : Nat} [s : Slt N x i] : Slt (y :: N) x (i + 1) := ⟨s.h⟩
class Blt (x : Str) (v : outParam Value) : Prop where h : bootBuiltins x = some v
instance : Blt "len" (.builtin "len") := ⟨boot_len⟩
instance : Blt "isinstance" (.builtin "isinstance") := ⟨boot_isinstance⟩
instance : Blt "min" (.builtin "min") := ⟨boot_min⟩
instance : Blt "max" (.builtin "max") := ⟨boot_max⟩
instance : Blt "sorted" (.builtin "sorted") := ⟨boot_sorted⟩
instance : Blt "sum" (.builtin "sum") := ⟨boot_sum⟩
instance : Blt "any" (.builtin "any") := ⟨boot_any⟩
instance : Blt "all" (.builtin "all") := ⟨boot_all⟩
instance : Blt "abs" (.builtin "abs") := ⟨boot_abs⟩
instance : Blt "ord" (.builtin "ord") := ⟨boot_ord⟩
instance : Blt "chr" (.builtin "chr") := ⟨boot_chr⟩
instance : Blt "range" (.type "range") := ⟨boot_range⟩
instance : Blt "list" (.type "list") := ⟨boot_list⟩
instance : Blt "tuple" (.type "tuple") := ⟨boot_tuple⟩
instance : Blt "int" (.type "int") := ⟨boot_int⟩
instance : Blt "str" (.type "str") := ⟨boot_str⟩
instance : Blt "bool" (.type "bool") := ⟨boot_bool⟩
instance : Blt "set" (.type "set") := ⟨boot_set⟩
instance : Blt "dict" (.type "dict") := ⟨boot_dict⟩
instance : Blt "enumerate" (.type "enumerate") := ⟨boot_enumerate⟩
instance : Blt "zip" (.type "zip") := ⟨boot_zip⟩
instance : Blt "reversed" (.type "reversed") := ⟨boot_reversed⟩
instance : Blt "ValueError" (.type "ValueError") := ⟨by decide +kernel⟩
/-- what a name of the module holds -/
class Gn (mg : Str → Option Value) (x : Str) (v : outParam (Option Value)) : Prop where h : mg x = v
section
variable {P : Program} {w : World} {K : PySem.W.Frag} {mg : Str → Option Value} {base : Heap} {N : List Str} {q : Str} {st : Stmt} {f : Addr} {cd : Value} {A : Around} {outer : List Env} {s : Shared} {H : Hp} {E : XK}
instance : CxN (cxr P w K mg base N q st f cd A outer s H E) N := ⟨rfl⟩
instance : CxK (cxr P w K mg base N q st f cd A outer s H E) K := ⟨rfl⟩
instance : CxM (cxr P w K mg base N q st f cd A outer s H E) mg := ⟨rfl⟩
instance : CxC (cxr P w K mg base N q st f cd A outer s H E) := ⟨rfl⟩
instance : CxO (cxr P w K mg base N q st f cd A outer s H E) := ⟨passes_of (X := cxr P w K mg base N q st f cd A outer s H E) rfl⟩
instance : CxT (cxr P w K mg base N q st f cd A outer s H E) (fun cls d _ H => E cls d H) := ⟨takes_of (X := cxr P w K mg base N q st f cd A outer s H E) rfl rfl rfl rfl⟩
end
section
variable {X : Cx} {s : Shared} {H : Hp} {sc : Scope} {ce : Env} {fp : List Addr} {pn : List (Addr × Obj)} {xe : Value → Shared → Prop} {a : Addr}
instance {N : List Str} [c : CxN X N] : CxN (X.blk s H sc ce fp) N := ⟨c.h⟩
instance {K : PySem.W.Frag} [c : CxK X K] : CxK (X.blk s H sc ce fp) K := ⟨c.h⟩
instance {mg : Str → Option Value} [c : CxM X mg] : CxM (X.blk s H sc ce fp) mg := ⟨c.h⟩
instance [c : CxC X] : CxC (X.blk s H sc ce fp) := ⟨c.h⟩
instance : CxT (X.blk s H sc ce fp) (fun _ _ _ _ => False) := ⟨takes0⟩
instance {N : List Str} [c : CxN X N] : CxN (X.tr pn xe) N := ⟨c.h⟩
instance {K : PySem.W.Frag} [c : CxK X K] : CxK (X.tr pn xe) K := ⟨c.h⟩
instance {mg : Str → Option Value} [c : CxM X mg] : CxM (X.tr pn xe) mg := ⟨c.h⟩
instance [c : CxC X] : CxC (X.tr pn xe) := ⟨c.h⟩
instance {N : List Str} [c : CxN X N] : CxN (X.suite a pn) N := ⟨c.h⟩
instance {K : PySem.W.Frag} [c : CxK X K] : CxK (X.suite a pn) K := ⟨c.h⟩
instance {mg : Str → Option Value} [c : CxM X mg] : CxM (X.suite a pn) mg := ⟨c.h⟩
end

/-! ### expressions -/
section
variable {X : Cx} {σ : L2.St} {H : Hp} {Q : VK} {pos p2 p3 p4 : Pos} {a b c : Expr} {rest : List Expr}
theorem e_var {N : List Str} {x : Str} {i : Nat} {v : V} [cn : CxN X N] [sl : Slt N x i] (hs : σ[i]? = some (some v)) (q : Q v H)
    (hv : Vis X.env.scope x := by first | exact Or.inl rfl | exact Or.inr (Or.inl rfl) | exact Or.inr (Or.inr rfl)) (hd : (x == ("__debug__" : Str)) = false := by decide) (hcd : (x == ("__classdict__" : Str)) = false := by decide) : eW X (.Name x pos) σ H Q :=
  eI (pe_var (i := i) (by rw [cn.h]; exact sl.h) hv hd hcd) ⟨v, hs, q⟩
theorem e_int {i : Int} {j : Nat} (q : Q (.int i) H) : eW X (.Constant (.int i) j pos) σ H Q := eI pe_int q
theorem e_bl {i : Bool} {j : Nat} (q : Q (.bl i) H) : eW X (.Constant (.bool i) j pos) σ H Q := eI pe_bl q
theorem e_non {j : Nat} (q : Q .non H) : eW X (.Constant .none j pos) σ H Q := eI pe_non q
theorem e_str {x : Str} {j : Nat} (q : Q (.str x) H) : eW X (.Constant (.str x) j pos) σ H Q := eI pe_str q
theorem e_glob {mg : Str → Option Value} {x : Str} {u : Value} {v : V} [cm : CxM X mg] [g : Gn mg x (some u)] (r : RelV v u) (q : Q v H) (hg : Gl X x := by rfl) (hd : (x == ("__debug__" : Str)) = false := by decide) : eW X (.Name x pos) σ H Q :=
  eI (pe_glob hg (by rw [cm.h]; exact g.h) r hd) q
theorem e_globR {mg : Str → Option Value} {x : Str} {f : Addr} [cm : CxM X mg] [g : Gn mg x (some (.ref f))] (q : Q (.ref f) H) (hg : Gl X x := by rfl) (hd : (x == ("__debug__" : Str)) = false := by decide) : eW X (.Name x pos) σ H Q :=
  eI (pe_glob (v := .ref f) hg (by rw [cm.h]; exact g.h) rfl hd) q
theorem e_globI {mg : Str → Option Value} {x : Str} {i : Int} {t : Tok} [cm : CxM X mg] [g : Gn mg x (some (.int i t))] (q : Q (.int i) H) (hg : Gl X x := by rfl) (hd : (x == ("__debug__" : Str)) = false := by decide) : eW X (.Name x pos) σ H Q :=
  eI (pe_glob (v := .int i) hg (by rw [cm.h]; exact g.h) ⟨_, rfl⟩ hd) q
theorem e_globS {mg : Str → Option Value} {x : Str} {i : Str} {t : Tok} [cm : CxM X mg] [g : Gn mg x (some (.str i t))] (q : Q (.str i) H) (hg : Gl X x := by rfl) (hd : (x == ("__debug__" : Str)) = false := by decide) : eW X (.Name x pos) σ H Q :=
  eI (pe_glob (v := .str i) hg (by rw [cm.h]; exact g.h) ⟨_, rfl⟩ hd) q
theorem e_ty {mg : Str → Option Value} {x : Str} {n : String} [cm : CxM X mg] [g : Gn mg x none] [bl : Blt x (.type n)] (q : Q (.ty n) H) (hg : Gl X x := by rfl) (hn : x ≠ "__name__" := by decide) (hd : (x == ("__debug__" : Str)) = false := by decide) : eW X (.Name x pos) σ H Q :=
  eI (pe_bltn (v := .ty n) hg (by rw [cm.h]; exact g.h) bl.h rfl hn hd) q
theorem e_bin {op : Operator} (h : eW X a σ H fun x H1 => eW X b σ H1 fun y H2 => oW X (binaryOp op) x y H2 Q) : eW X (.BinOp a op b pos) σ H Q := eI (pe_op OPw PEw PEw) h
theorem e_un {op : UnaryOp} (h : eW X a σ H fun x H1 => uW X (unaryOp op) x H1 Q) : eW X (.UnaryOp op a pos) σ H Q := eI (pe_un UNw PEw) h
theorem e_cmp {op : CmpOp} (h : eW X a σ H fun x H1 => eW X b σ H1 fun y H2 => oW X (compareOp op) x y H2 Q) (hm : behindInMarks op b = false := by first | exact nomark _ | rfl) : eW X (.Compare a [op] [b] pos) σ H Q := eI (pe_cmpR OPw PEw PEw hm) h
theorem e_isN {j : Nat} (h : eW X a σ H fun x H1 => Q (.bl (decide (x = .non))) H1) : eW X (.Compare a [.Is] [.Constant .none j p2] pos) σ H Q := eI (pe_cmp (pc_isN PEw) rfl) h
theorem e_notN {j : Nat} (h : eW X a σ H fun x H1 => Q (.bl (!decide (x = .non))) H1) : eW X (.Compare a [.IsNot] [.Constant .none j p2] pos) σ H Q := eI (pe_cmp (pc_notN PEw) rfl) h
theorem e_ifE {t : Expr} (h : tW X t σ H fun k H1 => if k = true then eW X a σ H1 Q else eW X b σ H1 Q) : eW X (.IfExp t a b pos) σ H Q := eI (pe_ifExp PTw PEw PEw) h
theorem e_one {op : BoolOp} (h : eW X a σ H Q) : eW X (.BoolOp op [a] pos) σ H Q := eI (pe_one PEw) h
theorem e_and (h : eW X a σ H fun x H1 => ∃ k, x = .bl k ∧ if k = true then eW X (.BoolOp .And (b :: rest) pos) σ H1 Q else Q (.bl false) H1) : eW X (.BoolOp .And (a :: b :: rest) pos) σ H Q := eI (pe_and PEw PEw) h
theorem e_or (h : eW X a σ H fun x H1 => ∃ k, x = .bl k ∧ if k = true then Q (.bl true) H1 else eW X (.BoolOp .Or (b :: rest) pos) σ H1 Q) : eW X (.BoolOp .Or (a :: b :: rest) pos) σ H Q := eI (pe_or PEw PEw) h
theorem e_not (h : eW X a σ H fun x H1 => ∃ k, x = .bl k ∧ Q (.bl (!k)) H1) : eW X (.UnaryOp .Not a pos) σ H Q := eI (pe_not PEw) h
theorem e_tup {es : List Expr} {k : Nat} (h : aW X es σ H fun xs H1 => xs.length ≤ sizeLine ∧ ∀ p, H1 p = none → Q (.ref p) (upd H1 p (.tup xs))) : eW X (.Tuple es k pos) σ H Q := eI (pe_tup PAw) h
theorem e_lst {es : List Expr} (h : aW X es σ H fun xs H1 => xs.length ≤ sizeLine ∧ ∀ p, H1 p = none → Q (.ref p) (upd H1 p (.lst xs))) : eW X (.List es pos) σ H Q := eI (pe_lst PAw) h
/-- and, or of two truths whose joint answer is told -/
theorem e_andJ {d : Bool} (h : eW X a σ H fun x H1 => ∃ k, x = .bl k ∧ (k = true → ∀ Q' : VK, Q' (.bl d) H1 → eW X (.BoolOp .And (b :: rest) pos) σ H1 Q') ∧ Q (.bl (k && d)) H1) : eW X (.BoolOp .And (a :: b :: rest) pos) σ H Q :=
  e_and (eMono h fun x H1 ⟨k, e, h1, h2⟩ => ⟨k, e, by cases k with | true => exact (h1 rfl _ h2) | false => exact h2⟩)
theorem e_orJ {d : Bool} (h : eW X a σ H fun x H1 => ∃ k, x = .bl k ∧ (k = false → ∀ Q' : VK, Q' (.bl d) H1 → eW X (.BoolOp .Or (b :: rest) pos) σ H1 Q') ∧ Q (.bl (k || d)) H1) : eW X (.BoolOp .Or (a :: b :: rest) pos) σ H Q :=
  e_or (eMono h fun x H1 ⟨k, e, h1, h2⟩ => ⟨k, e, by cases k with | true => exact h2 | false => exact (h1 rfl _ h2)⟩)
/-- a chain of two comparisons -/
theorem e_chain {op op' : CmpOp} (h : eW X a σ H fun x H1 => eW X b σ H1 fun y H2 => oW X (compareOp op) x y H2 fun z H3 => ∃ k, z = .bl k ∧ (if k = true then eW X c σ H3 (fun w' H4 => oW X (compareOp op') y w' H4 Q) else Q (.bl false) H3))
    (hm : lastMarks [op, op'] [b, c] = false := by with_unfolding_all rfl) : eW X (.Compare a [op, op'] [b, c] pos) σ H Q := eI (pe_chain OPw OPw PEw PEw PEw hm) h
theorem t_chain {op op' : CmpOp} {R : Bool → Hp → Prop} (h : eW X a σ H fun x H1 => eW X b σ H1 fun y H2 => oW X (compareOp op) x y H2 fun z H3 => ∃ k, z = .bl k ∧ (if k = true then eW X c σ H3 (fun w' H4 => oW X (compareOp op') y w' H4 fun u H5 => ∃ k, u = .bl k ∧ R k H5) else (∃ k', V.bl false = .bl k' ∧ R k' H3)))
    (hm : lastMarks [op, op'] [b, c] = false := by with_unfolding_all rfl) : tW X (.Compare a [op, op'] [b, c] pos) σ H R := tI (pt_chain OPw OPw PEw PEw PEw hm) h

/-! ### arguments -/
theorem a_nil {R : List V → Hp → Prop} (h : R [] H) : aW X [] σ H R := aI pa_nil h
theorem a_cons {es : List Expr} {R : List V → Hp → Prop} (h : eW X a σ H fun x H1 => aW X es σ H1 fun xs H2 => R (x :: xs) H2) (hs : starEach (a :: es) X.env = (false, eval a X.env) :: starEach es X.env := by rfl) : aW X (a :: es) σ H R := aI (pa_cons PEw PAw hs) h

/-! ### tests -/
variable {R : Bool → Hp → Prop}
theorem t_val {e : Expr} (h : eW X e σ H fun x H1 => ∃ k, x = .bl k ∧ R k H1) (he : ∀ whole, isTrue e X.env whole = (do let v ← whole; standAt e.pos; holding [v] (truthy v)) := by intro _; rfl) : tW X e σ H R := tI (pt_val PEw he) h
theorem t_tru {e : Expr} (h : eW X e σ H fun x H1 => ∃ k, TruV X.K x H1 k ∧ R k H1) (he : ∀ whole, isTrue e X.env whole = (do let v ← whole; standAt e.pos; holding [v] (truthy v)) := by intro _; rfl) : tW X e σ H R := tI (pt_truth PEw he) h
theorem t_cmp {op : CmpOp} (h : eW X a σ H fun x H1 => eW X b σ H1 fun y H2 => oW X (compareOp op) x y H2 fun z H3 => ∃ k, z = .bl k ∧ R k H3) (hm : behindInMarks op b = false := by first | exact nomark _ | rfl) : tW X (.Compare a [op] [b] pos) σ H R := tI (pt_cmpR OPw PEw PEw hm) h
theorem t_isN {j : Nat} (h : eW X a σ H fun x H1 => R (decide (x = .non)) H1) : tW X (.Compare a [.Is] [.Constant .none j p2] pos) σ H R := tI (pt_cmp (pc_isN PEw) rfl) (eMono h fun _ _ q => ⟨_, rfl, q⟩)
theorem t_notN {j : Nat} (h : eW X a σ H fun x H1 => R (!decide (x = .non)) H1) : tW X (.Compare a [.IsNot] [.Constant .none j p2] pos) σ H R := tI (pt_cmp (pc_notN PEw) rfl) (eMono h fun _ _ q => ⟨_, rfl, q⟩)
theorem t_not (h : tW X a σ H fun k H1 => R (!k) H1) : tW X (.UnaryOp .Not a pos) σ H R := tI (pt_not PTw) h
theorem t_and (h : cW X (.BoolOp .And rest pos) σ H R) : tW X (.BoolOp .And rest pos) σ H R := tI (PWw).pt h
theorem t_or (h : cW X (.BoolOp .Or rest pos) σ H R) : tW X (.BoolOp .Or rest pos) σ H R := tI (PWw).pt h
theorem c_and1 (h : tW X a σ H R) : cW X (.BoolOp .And [a] pos) σ H R := cI (pw_and1 PTw) h
theorem c_or1 (h : tW X a σ H R) : cW X (.BoolOp .Or [a] pos) σ H R := cI (pw_or1 PTw) h
theorem c_and (h : tW X a σ H fun k H1 => if k = true then cW X (.BoolOp .And (b :: rest) pos) σ H1 R else R false H1) : cW X (.BoolOp .And (a :: b :: rest) pos) σ H R := cI (pw_and PTw PWw) h
theorem c_or (h : tW X a σ H fun k H1 => if k = true then R true H1 else cW X (.BoolOp .Or (b :: rest) pos) σ H1 R) : cW X (.BoolOp .Or (a :: b :: rest) pos) σ H R := cI (pw_or PTw PWw) h
/-- .. joined: the answer of both is told -/
theorem c_andJ {d : Bool} (h : tW X a σ H fun k H1 => (k = true → ∀ R' : Bool → Hp → Prop, R' d H1 → cW X (.BoolOp .And (b :: rest) pos) σ H1 R') ∧ R (k && d) H1) : cW X (.BoolOp .And (a :: b :: rest) pos) σ H R :=
  c_and (tMono h fun k H1 ⟨h1, h2⟩ => by cases k with | true => exact (h1 rfl _ h2) | false => exact h2)
theorem c_orJ {d : Bool} (h : tW X a σ H fun k H1 => (k = false → ∀ R' : Bool → Hp → Prop, R' d H1 → cW X (.BoolOp .Or (b :: rest) pos) σ H1 R') ∧ R (k || d) H1) : cW X (.BoolOp .Or (a :: b :: rest) pos) σ H R :=
  c_or (tMono h fun k H1 ⟨h1, h2⟩ => by cases k with | true => exact h2 | false => exact (h1 rfl _ h2))
end

/-! ### statements -/
@[reducible] def Dsq (X : Cx) (more : List Stmt) (D : Ends) : Ends := { D with nx := bW X more D }
@[reducible] def Dlp (D : Ends) (N : L2.St → Hp → Prop) : Ends := { D with nx := N, ct := N, bk := D.nx }
@[reducible] def Dnx (D : Ends) (N : L2.St → Hp → Prop) : Ends := { D with nx := N }
section
variable {X : Cx} {σ : L2.St} {H : Hp} {D : Ends} {pos p2 p3 p4 : Pos} {e it tg : Expr} {st : Stmt} {body more : List Stmt}
theorem b_nil (h : D.nx σ H) : bW X [] D σ H := bI pss_nil h
theorem b_cons (h : sW X st (Dsq X more D) σ H) : bW X (st :: more) D σ H := bI (pss_cons PSw PBw) h
theorem b_one (h : sW X st D σ H) : bW X [st] D σ H := bI (pss_one PSw) h
theorem s_ret (h : eW X e σ H D.rt) : sW X (.Return (some e) pos) D σ H := sI (ps_ret PEw) h
theorem s_retN (h : D.rt .non H) : sW X (.Return none pos) D σ H := sI ps_retN h
theorem s_pass (h : D.nx σ H) : sW X (.Pass pos) D σ H := sI ps_pass h
theorem s_brk (h : D.bk σ H) : sW X (.Break pos) D σ H := sI ps_break h
theorem s_cont (h : D.ct σ H) : sW X (.Continue pos) D σ H := sI ps_continue h
theorem s_expr (h : eW X e σ H fun _ H1 => D.nx σ H1) (hs : swapsWith e none pos.line X.env = pure false := by rfl) : sW X (.Expr e pos) D σ H := sI (ps_expr PEw hs) h
theorem s_if {t : Expr} {x y : List Stmt} (h : tW X t σ H fun k H1 => if k = true then bW X x D σ H1 else bW X y D σ H1) : sW X (.If t x y pos) D σ H := sI (ps_if PTw PBw PBw) h
class NdN (N : List Str) : Prop where h : N.Nodup
theorem s_set {N : List Str} {x : Str} {i : Nat} [cn : CxN X N] [sl : Slt N x i] [nd : NdN N] (h : eW X e σ H fun v H1 => D.nx (σ.set i (some v)) H1) (hx : Loc X.env.scope x := by first | exact Or.inl rfl | exact Or.inr rfl) (hs : swapsWith e (some (.Name x p2)) pos.line X.env = pure false := by rfl)
    (hf : X.fn x = true ∨ X.env.scope.names.lookup x = some .local := by first | exact .inl rfl | exact .inr rfl | assumption) : sW X (.Assign [.Name x p2] e pos) D σ H :=
  sI (ps_set (i := i) (by rw [cn.h]; exact nd.h) (by rw [cn.h]; exact sl.h) hx PEw hs hf) h
theorem g_name {N : List Str} {x : Str} {i : Nat} {v : V} {Q : L2.St → Hp → Prop} [cn : CxN X N] [sl : Slt N x i] [nd : NdN N] (h : Q (σ.set i (some v)) H) (hx : Loc X.env.scope x := by first | exact Or.inl rfl | exact Or.inr rfl)
    (hf : X.fn x = true ∨ X.env.scope.names.lookup x = some .local := by first | exact .inl rfl | exact .inr rfl | assumption) : gW X (.Name x pos) v σ H Q :=
  gI (pg_name (i := i) (by rw [cn.h]; exact nd.h) (by rw [cn.h]; exact sl.h) hx hf) h
theorem s_asg (h : eW X e σ H fun v H1 => gW X tg v σ H1 D.nx) (hs : swapsWithSole [tg] e pos.line X.env = pure false := by rfl) (hw : swappedStores [tg] e X.env = pure none := by rfl)
    (h1 : (assignEach [tg] X.env).map (·.2) = [assign tg X.env] := by rfl) : sW X (.Assign [tg] e pos) D σ H := sI (ps_asg PEw PGw hs hw h1) h
/-- while: W by what is left -/
theorem s_while {c : Expr} [ow : CxO X] (W : Nat → L2.St → Hp → Prop) (m : Nat) (h0 : W m σ H)
    (h : ∀ m σ H, W m σ H → tW X c σ H fun b H1 => if b = true then bW X body (Dlp D fun σ' H' => ∃ m', m' < m ∧ W m' σ' H') σ H1 else D.nx σ H1) : sW X (.While c body [] pos) D σ H :=
  sI (ps_while ow.h PTw PBw) ⟨W, ⟨m, h0⟩, fun m σ H w => tMono (h m σ H w) fun b H1 q => by
    cases b with
    | true => exact ⟨_, fun _ _ z => z, q⟩
    | false => exact q⟩
theorem s_forL [ow : CxO X] [cc : CxC X] (h : eW X it σ H fun x H1 => ∃ a xs, x = .ref a ∧ SqL X.K H1 a xs ∧ ∃ Pv : Nat → L2.St → Hp → Prop, Pv 0 σ H1 ∧ (∀ i σ' H', i ≤ xs.length → Pv i σ' H' → SqL X.K H' a xs) ∧
      (∀ i v σ' H', xs[i]? = some v → Pv i σ' H' → gW X tg v σ' H' fun σ2 H2 => bW X body (Dlp D (Pv (i + 1))) σ2 H2) ∧ ∀ σ' H', Pv xs.length σ' H' → D.nx σ' H') (hs : ∀ x, foldedSetIterable it X.env x = pure x := by intro _; rfl) : sW X (.For tg it body [] pos) D σ H :=
  sI (ps_for ow.h cc.h (pi_list PEw) PGw PBw hs) (eMono h fun x H1 ⟨a, xs, e1, e2, Pv, q0, q1, q2, q3⟩ => ⟨a, e1, ⟨xs, e2⟩, for_list (K := X.K) (a := a) (xs := xs) Pv q0 q1 q2 q3⟩)
theorem s_forT [ow : CxO X] [cc : CxC X] (h : eW X it σ H fun x H1 => ∃ a xs, x = .ref a ∧ SqT X.K H1 a xs ∧ ∃ Pv : Nat → L2.St → Hp → Prop, Pv 0 σ H1 ∧ (∀ i σ' H', i ≤ xs.length → Pv i σ' H' → SqT X.K H' a xs) ∧
      (∀ i v σ' H', xs[i]? = some v → Pv i σ' H' → gW X tg v σ' H' fun σ2 H2 => bW X body (Dlp D (Pv (i + 1))) σ2 H2) ∧ ∀ σ' H', Pv xs.length σ' H' → D.nx σ' H') (hs : ∀ x, foldedSetIterable it X.env x = pure x := by intro _; rfl) : sW X (.For tg it body [] pos) D σ H :=
  sI (ps_for ow.h cc.h (pi_tup PEw) PGw PBw hs) (eMono h fun x H1 ⟨a, xs, e1, e2, Pv, q0, q1, q2, q3⟩ => ⟨a, e1, ⟨xs, e2⟩, for_tup (K := X.K) (a := a) (xs := xs) Pv q0 q1 q2 q3⟩)
end

/-! ### values -/
section
variable {X : Cx} {H : Hp} {Q : VK} {i j : Int} {k l : Bool} {x y : V} {z u : Str}
theorem o_add (q : Q (.int (i + j)) H) : oW X (binaryOp .Add) (.int i) (.int j) H Q := oI op_add ⟨_, _, rfl, rfl, q⟩
theorem o_sub (q : Q (.int (i - j)) H) : oW X (binaryOp .Sub) (.int i) (.int j) H Q := oI op_sub ⟨_, _, rfl, rfl, q⟩
theorem o_mul (h : CMulW i j) (q : Q (.int (i * j)) H) : oW X (binaryOp .Mult) (.int i) (.int j) H Q := oI op_mulW ⟨_, _, rfl, rfl, h, q⟩
theorem o_mulS (h : CMul i j) (q : Q (.int (i * j)) H) : oW X (binaryOp .Mult) (.int i) (.int j) H Q := oI op_mul ⟨_, _, rfl, rfl, h, q⟩
theorem o_mod (h : 0 < j) (q : Q (.int (i % j)) H) : oW X (binaryOp .Mod) (.int i) (.int j) H Q := oI op_mod ⟨_, _, rfl, rfl, h, q⟩
theorem o_div (h : CDiv i j) (q : Q (.int (i / j)) H) : oW X (binaryOp .FloorDiv) (.int i) (.int j) H Q := oI op_fdiv ⟨_, _, rfl, rfl, h, q⟩
theorem o_pow (h : CPow i j) (q : Q (.int (i ^ j.toNat)) H) : oW X (binaryOp .Pow) (.int i) (.int j) H Q := oI op_pow ⟨_, _, rfl, rfl, h, q⟩
theorem o_cat (h : z.length + u.length ≤ sizeLine) (q : Q (.str (z ++ u)) H) : oW X (binaryOp .Add) (.str z) (.str u) H Q := oI op_add_str ⟨_, _, rfl, rfl, h, q⟩
theorem o_lt (q : Q (.bl (decide (i < j))) H) : oW X (compareOp .Lt) (.int i) (.int j) H Q := oI op_lt ⟨_, _, rfl, rfl, q⟩
theorem o_le (q : Q (.bl (decide (i ≤ j))) H) : oW X (compareOp .LtE) (.int i) (.int j) H Q := oI op_le ⟨_, _, rfl, rfl, q⟩
theorem o_gt (q : Q (.bl (decide (j < i))) H) : oW X (compareOp .Gt) (.int i) (.int j) H Q := oI op_gt ⟨_, _, rfl, rfl, q⟩
theorem o_ge (q : Q (.bl (decide (j ≤ i))) H) : oW X (compareOp .GtE) (.int i) (.int j) H Q := oI op_ge ⟨_, _, rfl, rfl, q⟩
theorem o_eqI (q : Q (.bl (decide (i = j))) H) : oW X (compareOp .Eq) (.int i) (.int j) H Q := oI op_eq ⟨rfl, by rw [show decide (V.int i = V.int j) = decide (i = j) from decide_eq_decide.mpr ⟨fun e => V.int.inj e, fun e => by rw [e]⟩]; exact q⟩
theorem o_neI (q : Q (.bl (!decide (i = j))) H) : oW X (compareOp .NotEq) (.int i) (.int j) H Q := oI op_ne ⟨rfl, by rw [show decide (V.int i = V.int j) = decide (i = j) from decide_eq_decide.mpr ⟨fun e => V.int.inj e, fun e => by rw [e]⟩]; exact q⟩
theorem o_eqS (q : Q (.bl (decide (z = u))) H) : oW X (compareOp .Eq) (.str z) (.str u) H Q := oI op_eq ⟨rfl, by rw [show decide (V.str z = V.str u) = decide (z = u) from decide_eq_decide.mpr ⟨fun e => V.str.inj e, fun e => by rw [e]⟩]; exact q⟩
theorem o_neS (q : Q (.bl (!decide (z = u))) H) : oW X (compareOp .NotEq) (.str z) (.str u) H Q := oI op_ne ⟨rfl, by rw [show decide (V.str z = V.str u) = decide (z = u) from decide_eq_decide.mpr ⟨fun e => V.str.inj e, fun e => by rw [e]⟩]; exact q⟩
theorem o_eqB (q : Q (.bl (decide (k = l))) H) : oW X (compareOp .Eq) (.bl k) (.bl l) H Q := oI op_eq ⟨rfl, by rw [show decide (V.bl k = V.bl l) = decide (k = l) from decide_eq_decide.mpr ⟨fun e => V.bl.inj e, fun e => by rw [e]⟩]; exact q⟩
theorem o_neB (q : Q (.bl (!decide (k = l))) H) : oW X (compareOp .NotEq) (.bl k) (.bl l) H Q := oI op_ne ⟨rfl, by rw [show decide (V.bl k = V.bl l) = decide (k = l) from decide_eq_decide.mpr ⟨fun e => V.bl.inj e, fun e => by rw [e]⟩]; exact q⟩
theorem u_neg (q : Q (.int (-i)) H) : uW X (unaryOp .USub) (.int i) H Q := uI un_neg ⟨_, rfl, q⟩
end
theorem iteD {p : Prop} [Decidable p] {A B : Prop} (h1 : p → A) (h2 : ¬ p → B) : if decide p = true then A else B := by
  by_cases h : p
  · rw [if_pos (decide_eq_true h)]; exact h1 h
  · rw [decide_eq_false h, if_neg Bool.false_ne_true]; exact h2 h
theorem iteND {p : Prop} [Decidable p] {A B : Prop} (h1 : ¬ p → A) (h2 : p → B) : if (!decide p) = true then A else B := by
  by_cases h : p
  · rw [decide_eq_true h]; exact iteF (h2 h)
  · rw [decide_eq_false h]; exact iteT (h1 h)
theorem iteB {k : Bool} {A B : Prop} (h1 : k = true → A) (h2 : k = false → B) : if k = true then A else B := by
  cases k with
  | true => exact iteT (h1 rfl)
  | false => exact iteF (h2 rfl)

/-! ### calls -/
section
variable {X : Cx} {σ : L2.St} {H : Hp} {Q : VK} {pos p2 p3 p4 apos : Pos} {a e : Expr} {es : List Expr} {P : Program} {w : World} {K : PySem.W.Frag} {mg : Str → Option Value} {base : Heap}
/-- a def of the module by its name: where it stands, how it binds, its promise -/
structure Df (P : Program) (w : World) (K : PySem.W.Frag) (mg : Str → Option Value) (base : Heap) (x : Str) (k : Nat) (ps : List Str) (sp : Sp) : Prop where
  ex : ∃ (f : Addr) (fd : FuncData), mg x = some (.ref f) ∧ PySem.W.keepIn K (.ref f) = true ∧ Binds K fd ps [] ∧ FnOk P w K mg base (L2.CX P w) k f fd ps sp
theorem e_call {x : Str} {k : Nat} {ps : List Str} {sp : Sp} {W : WX} [ct : CxT X W] (F : Df X.prog X.w X.K X.mg X.base x k ps sp) (hr : Room k X.A) (h : aW X (e :: es) σ H fun vs H1 => sp vs H1 Q fun cls d H' => W cls d σ H')
    (hg : Gl X x := by rfl) (hdb : (x == ("__debug__" : Str)) = false := by decide) (he : starEach (e :: es) X.env = (false, eval e X.env) :: starEach es X.env := by rfl) (hpl : (backTo pos (starEach es X.env)).any (·.1) = false := by rfl) : eW X (.Call (.Name x p2) (e :: es) [] pos) σ H Q := by
  obtain ⟨f, fd, h1, h2, h3, h4⟩ := F.ex
  exact eI (pe_callS (E := WE W) h4 hr hg h1 h2 h3 (fun σ => passAt ct.h σ) PAw hdb he hpl) h
theorem e_call0 {x : Str} {k : Nat} {ps : List Str} {sp : Sp} (F : Df X.prog X.w X.K X.mg X.base x k ps sp) (hr : Room k X.A) (h : sp [] H Q E0)
    (hg : Gl X x := by rfl) (hdb : (x == ("__debug__" : Str)) = false := by decide) : eW X (.Call (.Name x p2) [] [] pos) σ H Q := by
  obtain ⟨f, fd, h1, h2, h3, h4⟩ := F.ex
  exact eI (pe_call0 (E := E0) h4 hr hg h1 h2 h3 .nil passL hdb) h
theorem e_callB {x : Str} {id : String} [cm : CxM X mg] [g : Gn mg x none] [bl : Blt x (.builtin id)] (h : aW X (e :: es) σ H fun vs H1 => kW X (.builtin id) vs H1 Q)
    (hg : Gl X x := by rfl) (hn : x ≠ "__name__" := by decide) (hdb : (x == ("__debug__" : Str)) = false := by decide) (he : starEach (e :: es) X.env = (false, eval e X.env) :: starEach es X.env := by rfl) (hpl : (backTo pos (starEach es X.env)).any (·.1) = false := by rfl) : eW X (.Call (.Name x p2) (e :: es) [] pos) σ H Q :=
  eI (pe_callB KRw hg (by rw [cm.h]; exact g.h) bl.h PAw hn hdb he hpl) h
theorem e_callTy {x : Str} {id : String} [cm : CxM X mg] [g : Gn mg x none] [bl : Blt x (.type id)] (h : aW X (e :: es) σ H fun vs H1 => kW X (.type id) vs H1 Q)
    (hg : Gl X x := by rfl) (hn : x ≠ "__name__" := by decide) (hdb : (x == ("__debug__" : Str)) = false := by decide) (he : starEach (e :: es) X.env = (false, eval e X.env) :: starEach es X.env := by rfl) (hpl : (backTo pos (starEach es X.env)).any (·.1) = false := by rfl) : eW X (.Call (.Name x p2) (e :: es) [] pos) σ H Q :=
  eI (pe_callTy KRw hg (by rw [cm.h]; exact g.h) bl.h PAw hn hdb he hpl) h
end
/-! ### defs and classes of the text -/
structure At (K : PySem.W.Frag) (mg : Str → Option Value) (x q : Str) (st : Stmt) (ps : List Str) : Prop where
  ex : ∃ (f : Addr) (fd : FuncData), mg x = some (.ref f) ∧ Fun K x q st f fd ∧ Binds K fd ps []
structure MAt (K : PySem.W.Frag) (C : Addr) (x q : Str) (st : Stmt) (ps : List Str) : Prop where
  ex : ∃ (f : Addr) (fd : FuncData), Meth K C x f ∧ Fun K x q st f fd ∧ Binds K fd ps []
structure InitF (K : PySem.W.Frag) (C : Addr) (q : Str) (st : Stmt) (ps : List Str) : Prop where
  ex : ∃ (f : Addr) (fd : FuncData), Mk K C f ∧ Fun K "__init__" q st f fd ∧ Binds K fd ps []
structure ClsF (K : PySem.W.Frag) (mg : Str → Option Value) (x : Str) (C : Addr) : Prop where
  mg : mg x = some (.ref C)
  cl : Cls K C
  mks : PySem.W.makesIn K C = true
  kp : PySem.W.keepIn K (.ref C) = true
  ha : PySem.W.findIn K (.ref C) "__class__" = some (some (.builtin "object.__class__"))
  hn : PySem.W.specialIn K (.builtin "object.__class__") "__get__" = some (some (.builtin "getset_descriptor.__get__"))
  ht : PySem.W.takesIn K (.builtin "object.__class__") = some true
  hm : PySem.W.mroIn K C (.type "object") = some true
  ty : PySem.W.typeIn K (.ref C) = some (.type "type")
  ic : PySem.W.isClsIn K C = true
structure ExcF (K : PySem.W.Frag) (mg : Str → Option Value) (x : Str) (C : Addr) : Prop where
  mg : mg x = some (.ref C)
  ex : PySem.W.excIn K C [.type "ValueError", .type "Exception", .type "BaseException", .type "object"] "ValueError.__new__" = true
  kp : PySem.W.keepIn K (.ref C) = true
  be : PySem.W.subIn K (.ref C) (.type "BaseException") = some true
  ty : PySem.W.typeIn K (.ref C) = some (.type "type")
  ic : PySem.W.isClsIn K C = true
  ga : PySem.W.findIn K (.ref C) "__getattribute__" = some (some (.builtin "BaseException.__getattribute__"))
  gk : PySem.W.findIn K (.ref C) "__getattr__" = some none
  hd : PySem.W.hasDictIn K C = true
  ha : PySem.W.findIn K (.ref C) "__class__" = some (some (.builtin "object.__class__"))
  hn : PySem.W.specialIn K (.builtin "object.__class__") "__get__" = some (some (.builtin "getset_descriptor.__get__"))
  ht : PySem.W.takesIn K (.builtin "object.__class__") = some true
  hm : PySem.W.mroIn K C (.type "object") = some true
  ve : PySem.W.subIn K (.ref C) (.type "ValueError") = some true
structure Md (P : Program) (w : World) (K : PySem.W.Frag) (mg : Str → Option Value) (base : Heap) (C : Addr) (x : Str) (k : Nat) (ps : List Str) (sp : Sp) : Prop where
  ex : ∃ (f : Addr) (fd : FuncData), Meth K C x f ∧ Binds K fd ps [] ∧ FnOk P w K mg base (L2.CX P w) k f fd ps sp
/-! ### promises by the number of the arguments -/
def sp0 (R : Hp → VK → XK → Prop) : Sp := fun vs H Q E => vs = [] ∧ R H Q E
def sp1 (R : V → Hp → VK → XK → Prop) : Sp := fun vs H Q E => ∃ a, vs = [a] ∧ R a H Q E
def sp2 (R : V → V → Hp → VK → XK → Prop) : Sp := fun vs H Q E => ∃ a b, vs = [a, b] ∧ R a b H Q E
def sp3 (R : V → V → V → Hp → VK → XK → Prop) : Sp := fun vs H Q E => ∃ a b c, vs = [a, b, c] ∧ R a b c H Q E
def sp4 (R : V → V → V → V → Hp → VK → XK → Prop) : Sp := fun vs H Q E => ∃ a b c d, vs = [a, b, c, d] ∧ R a b c d H Q E
def sp5 (R : V → V → V → V → V → Hp → VK → XK → Prop) : Sp := fun vs H Q E => ∃ a b c d e, vs = [a, b, c, d, e] ∧ R a b c d e H Q E
def sp6 (R : V → V → V → V → V → V → Hp → VK → XK → Prop) : Sp := fun vs H Q E => ∃ a b c d e f, vs = [a, b, c, d, e, f] ∧ R a b c d e f H Q E
section
variable {vs : List V} {H : Hp} {Q : VK} {E : XK}
theorem sp0_len {R} (h : sp0 R vs H Q E) : vs.length = 0 := by obtain ⟨rfl, _⟩ := h; rfl
theorem sp1_len {R} (h : sp1 R vs H Q E) : vs.length = 1 := by obtain ⟨_, rfl, _⟩ := h; rfl
theorem sp2_len {R} (h : sp2 R vs H Q E) : vs.length = 2 := by obtain ⟨_, _, rfl, _⟩ := h; rfl
theorem sp3_len {R} (h : sp3 R vs H Q E) : vs.length = 3 := by obtain ⟨_, _, _, rfl, _⟩ := h; rfl
theorem sp4_len {R} (h : sp4 R vs H Q E) : vs.length = 4 := by obtain ⟨_, _, _, _, rfl, _⟩ := h; rfl
theorem sp5_len {R} (h : sp5 R vs H Q E) : vs.length = 5 := by obtain ⟨_, _, _, _, _, rfl, _⟩ := h; rfl
theorem sp6_len {R} (h : sp6 R vs H Q E) : vs.length = 6 := by obtain ⟨_, _, _, _, _, _, rfl, _⟩ := h; rfl
end
section
variable {X : Cx} {σ : L2.St} {H : Hp} {Q : VK} {pos p2 p3 p4 apos : Pos} {a e o : Expr} {es : List Expr} {mg : Str → Option Value} {C : Addr}
/-- o.m(e, ..), o.m() of an own class -/
theorem e_meth {m : Str} {k : Nat} {ps : List Str} {sp : Sp} (c : Cls X.K C) (F : Md X.prog X.w X.K X.mg X.base C m k ps sp) (hr : Room k X.A)
    (h : eW X o σ H fun x H1 => ∃ a dx fs, x = .ref a ∧ H1 a = some (.ins C dx fs) ∧ fs.lookup m = none ∧ aW X (e :: es) σ H1 fun vs H2 => sp (x :: vs) H2 Q E0) {pl : Sem Bool}
    (hst : starEach (e :: es) X.env = (false, eval e X.env) :: starEach es X.env := by rfl) (hpl : (backTo pos (starEach es X.env)).any (·.1) = false := by rfl)
    (ht : eval (.Call (.Attribute o m apos) (e :: es) [] pos) X.env = (do
      let ov ← eval o X.env
      standAt apos.atName
      let (f, first) ← holding [ov] (getMethod ov m pl)
      callWith pos f first (backTo pos (starEach (e :: es) X.env)) (backToKw pos (keywordEach [] X.env))) := by rfl) : eW X (.Call (.Attribute o m apos) (e :: es) [] pos) σ H Q := by
  obtain ⟨f, fd, h1, h2, h3⟩ := F.ex
  exact eI (pe_meth (E := E0) PEw c h1 h3 hr h2 .nil passL PAw hst hpl ht) (eMono h fun x H1 ⟨a, dx, fs, q1, q2, q3, q4⟩ => ⟨a, dx, fs, q1, q2, q3, by simpa only [List.append_nil] using q4⟩)
theorem e_meth0 {m : Str} {k : Nat} {ps : List Str} {sp : Sp} (c : Cls X.K C) (F : Md X.prog X.w X.K X.mg X.base C m k ps sp) (hr : Room k X.A)
    (h : eW X o σ H fun x H1 => ∃ a dx fs, x = .ref a ∧ H1 a = some (.ins C dx fs) ∧ fs.lookup m = none ∧ sp [x] H1 Q E0) {pl : Sem Bool}
    (ht : eval (.Call (.Attribute o m apos) [] [] pos) X.env = (do
      let ov ← eval o X.env
      standAt apos.atName
      let (f, first) ← holding [ov] (getMethod ov m pl)
      callWith pos f first (backTo pos (starEach [] X.env)) (backToKw pos (keywordEach [] X.env))) := by rfl) : eW X (.Call (.Attribute o m apos) [] [] pos) σ H Q := by
  obtain ⟨f, fd, h1, h2, h3⟩ := F.ex
  exact eI (pe_meth0 (E := E0) PEw c h1 h3 hr h2 .nil passL ht) h
theorem run_makeO {pins : List (Addr × Obj)} {s : Shared} (hm : PySem.W.makesIn X.K C = true) (hi : PySem.W.findIn X.K (.ref C) "__init__" = some (some (.builtin "object.__init__"))) (I : Inv X pins σ H s)
    (h : ∀ x dx, H x = none → H dx = none → dx ≠ x → Q (.ref x) (upd (upd H dx (.own x)) x (.ins C dx []))) : wpAny (model X.prog X.w) X.A (call (.ref C) []) (EP X pins σ Q) X.xe s := by
  have hq := h (s.heap.objs.size + 1) s.heap.objs.size (I.hok.fresh (Nat.le_succ _)) (I.hok.fresh (Nat.le_refl _)) (Nat.ne_of_lt (Nat.lt_succ_self _))
  have I2 := Inv.made (C := C) I
  have KX := I.kIn
  refine wpAny_call (make_map0 KX hm hi (fun self => PySem.W.Looks.of_pure (PySem.W.oi_bind self)) ?_)
  obtain ⟨hh, g, d, t, os⟩ := s
  have Y := PySem.W.makes_of (M := model X.prog X.w) KX hm
  have t1 : PySem.W.Looks (model X.prog X.w) ((hh.push PySem.W.emptyDict).push (PySem.W.instObj C hh.objs.size)) (typeOf (.ref (hh.objs.size + 1))) (.ref C) := (PySem.W.Looks.ld (by
    have z := Heap.get?_push_size (hh.push PySem.W.emptyDict) (o := PySem.W.instObj C hh.objs.size) rfl
    rw [Heap.size_push] at z
    exact z)).andThen .now
  have t2 : PySem.W.Looks (model X.prog X.w) ((hh.push PySem.W.emptyDict).push (PySem.W.instObj C hh.objs.size)) (isInstance (.ref (hh.objs.size + 1)) (.type "object")) true := t1.andThen (Y.top.keeps fun b o e => Heap.get?_push_of_some _ (Heap.get?_push_of_some _ e))
  refine codeAny_call_builtin PySem.W.oi_plain PySem.W.entry_oi (@PySem.W.check_slot (model X.prog X.w) _ _ _ "object.__init__" "object" "__init__" (.ref (hh.objs.size + 1)) [] [] _ PySem.W.oi_kind PySem.W.oi_split t2 (PySem.W.oi_args (.ref (hh.objs.size + 1))) ?_)
  rw [PySem.W.oi_run]
  exact wpAny_pure ⟨rfl, .ref (hh.objs.size + 1), _, I2, rfl, hq⟩
theorem e_makeO {x : Str} [cm : CxM X mg] [g : Gn mg x (some (.ref C))] (hm : PySem.W.makesIn X.K C = true) (hk : PySem.W.keepIn X.K (.ref C) = true) (hi : PySem.W.findIn X.K (.ref C) "__init__" = some (some (.builtin "object.__init__")))
    (h : ∀ x dx, H x = none → H dx = none → dx ≠ x → Q (.ref x) (upd (upd H dx (.own x)) x (.ins C dx []))) (hg : Gl X x := by rfl) (hdb : (x == ("__debug__" : Str)) = false := by decide) : eW X (.Call (.Name x p2) [] [] pos) σ H Q := ⟨fun pins s I =>
  wpAny_Call_Name_kw (ld_glob I hg (by rw [cm.h]; exact g.h) (PySem.W.callWith_K0 I.kIn hk (run_makeO hm hi I h)) hdb)⟩
end
/-! ### isinstance -/
section
variable {X : Cx} {H : Hp} {Q : VK}
theorem k_isi {x c : V} {t u : Value} {b : Bool} (hc : ClsV c u) (hx : TyX X.K H x t) (e : PySem.W.kitOne X.K t u = some b) (q : Q (.bl b) H) : kW X (.builtin "isinstance") [x, c] H Q := kI call_isi ⟨_, _, _, _, _, rfl, hc, hx, e, q⟩
theorem ClsF.tyX {K : PySem.W.Frag} {mg : Str → Option Value} {x : Str} {C a dx : Addr} {fs : List (Str × V)} (T : ClsF K mg x C) (h : H a = some (.ins C dx fs)) : TyX K H (.ref a) (.ref C) := .base (.ins h T.cl T.ha T.hn T.ht T.hm)
theorem kit_refs {K : PySem.W.Frag} {C D : Addr} {b : Bool} (hs : PySem.W.subIn K (.ref C) (.ref D) = some b) (ic : PySem.W.isClsIn K D = true) (ty : PySem.W.typeIn K (.ref D) = some (.type "type")) (ne : C ≠ D) : PySem.W.kitOne K (.ref C) (.ref D) = some b := by
  have e1 : ((PySem.W.clsIn K D).isSome && PySem.W.typeIn K (.ref D) == some (.type "type")) = true := by
    have h2 : (PySem.W.clsIn K D).isSome = true := ic
    rw [h2, ty]; rfl
  have e2 : (Value.ref C == Value.ref D) = false := by simp [ne]
  show (if (Value.ref C == Value.ref D) = true then some true else if ((PySem.W.clsIn K D).isSome && PySem.W.typeIn K (.ref D) == some (.type "type")) = true then PySem.W.subIn K (.ref C) (.ref D) else none) = some b
  rw [e2, if_neg Bool.false_ne_true, if_pos e1]
  exact hs
theorem kit_self {K : PySem.W.Frag} {C : Addr} : PySem.W.kitOne K (.ref C) (.ref C) = some true := by
  show (if (Value.ref C == Value.ref C) = true then some true else _) = some true
  rw [if_pos (by simp)]
end
/-! ### subscripts, equality of data -/
structure iW (X : Cx) (x y : V) (H : Hp) (Q : VK) : Prop where
  run : ∀ (value slice : Expr) pins s σ v u, Inv X pins σ H s → RelV x v → RelV y u → subscripted slice false v u = operate [v, u] (getItem v u) → wpAny (model X.prog X.w) X.A (subscriptTail value slice v u) (EP X pins σ Q) X.xe s
section
variable {X : Cx} {σ : L2.St} {H : Hp} {Q : VK} {pos p2 p3 : Pos} {a b : Expr} {x y v : V} {p : Addr} {xs : List V} {i : Int}
theorem e_ix (h : eW X a σ H fun x H1 => eW X b σ H1 fun y H2 => iW X x y H2 Q) (hs : PlainIx b := by exact fun _ _ => rfl) : eW X (.Subscript a b pos) σ H Q :=
  eI (pe_ix (r := iW X) (fun value slice pins s σ H x y v u Q I rx ry h hs => h.run value slice pins s σ v u I rx ry hs) PEw PEw hs) h
theorem iI {r : R2} (h : IxR X r) (q : r x y H Q) : iW X x y H Q := ⟨fun value slice pins s σ v u I rx ry hs => h value slice pins s σ H x y v u Q I rx ry q hs⟩
theorem i_lst (h : SqL X.K H p xs) (e : atI xs i = some v) (q : Q v H) : iW X (.ref p) (.int i) H Q := iI ix_list ⟨_, _, _, _, rfl, rfl, h, e, q⟩
theorem i_tup (h : SqT X.K H p xs) (e : atI xs i = some v) (q : Q v H) : iW X (.ref p) (.int i) H Q := iI ix_tup ⟨_, _, _, _, rfl, rfl, h, e, q⟩
theorem i_str {z : Str} {c : Nat} (hz : z.length ≤ sizeLine) (e : atI z.cps.toList i = some c) (q : Q (.str ⟨#[c]⟩) H) : iW X (.str z) (.int i) H Q := iI ix_str ⟨_, _, _, rfl, rfl, hz, e, q⟩
theorem o_eqD {d e : PyData} (hu : X.A.units + 64 < cLine) (hx : Dp X.K H x d) (hy : Dp X.K H y e) (sd : SeqAt.shaped d = true) (se : SeqAt.shaped e = true) (q : Q (.bl (PyData.eqv d e)) H) : oW X (compareOp .Eq) x y H Q := oI (op_eqD hu) ⟨d, e, hx, hy, sd, se, q⟩
theorem o_neD {d e : PyData} (hu : X.A.units + 64 < cLine) (hx : Dp X.K H x d) (hy : Dp X.K H y e) (sd : SeqAt.shaped d = true) (se : SeqAt.shaped e = true) (q : Q (.bl (!PyData.eqv d e)) H) : oW X (compareOp .NotEq) x y H Q := oI (op_neD hu) ⟨d, e, hx, hy, sd, se, q⟩
theorem k_min {j : Int} [cc : CxC X] (q : Q (.int (if j < i then j else i)) H) : kW X (.builtin "min") [.int i, .int j] H Q := kI (call_min2 cc.h) ⟨_, _, rfl, q⟩
theorem k_max {j : Int} [cc : CxC X] (q : Q (.int (if j > i then j else i)) H) : kW X (.builtin "max") [.int i, .int j] H Q := kI (call_max2 cc.h) ⟨_, _, rfl, q⟩
end
theorem atI_nat {α : Type} {xs : List α} {i : Int} {v : α} (h0 : 0 ≤ i) (h : xs[i.toNat]? = some v) : atI xs i = some v := by
  have hl := (List.getElem?_eq_some_iff.mp h).1
  unfold atI ixN
  rw [if_pos h0, if_pos (by omega)]
  exact h
theorem atI_all {α : Type} {xs : List α} {i : Int} {P : α → Prop} (h0 : 0 ≤ i) (h1 : i < xs.length) (hp : ∀ x ∈ xs, P x) : ∃ v, atI xs i = some v ∧ P v := by
  have hl : i.toNat < xs.length := by omega
  exact ⟨xs[i.toNat], atI_nat h0 (List.getElem?_eq_getElem hl), hp _ (List.getElem_mem hl)⟩
theorem TyB {K : PySem.W.Frag} {H : Hp} : (∀ i, TyX K H (.int i) (.type "int")) ∧ (∀ b, TyX K H (.bl b) (.type "bool")) ∧ (∀ z, TyX K H (.str z) (.type "str")) ∧ TyX K H .non (.type "NoneType") := ⟨fun _ => .base (.int _), fun _ => .base (.bl _), fun _ => .base (.str _), .base .non⟩
theorem TyL {K : PySem.W.Frag} {H : Hp} {p : Addr} {xs : List V} (h : H p = some (.lst xs)) : TyX K H (.ref p) (.type "list") := .base (.lst h)
theorem TyT {K : PySem.W.Frag} {H : Hp} {p : Addr} {xs : List V} (h : H p = some (.tup xs)) : TyX K H (.ref p) (.type "tuple") := .base (.tup h)
section
variable {X : Cx} {H : Hp} {Q : VK}
/-- isinstance of a value told by its type's name, of a built-in type -/
theorem k_isB {x : V} {t n : String} {b : Bool} (hx : TyX X.K H x (.type t)) (e : kitB t n = some b) (q : Q (.bl b) H) : kW X (.builtin "isinstance") [x, .ty n] H Q := k_isi (.ty n) hx (kit_ty e) q
end
theorem kb_int_int : kitB "int" "int" = some true := by decide +kernel
theorem kb_int_bool : kitB "int" "bool" = some false := by decide +kernel
theorem kb_bool_int : kitB "bool" "int" = some true := by decide +kernel
theorem kb_bool_bool : kitB "bool" "bool" = some true := by decide +kernel
theorem p60 : (10 : Int) ^ (60 : Int).toNat = 1000000000000000000000000000000000000000000000000000000000000 := by decide
theorem p30 : (10 : Int) ^ (30 : Int).toNat = 1000000000000000000000000000000 := by decide
section
variable {X : Cx} {H : Hp} {Q : VK}
theorem o_p60 (q : Q (.int 1000000000000000000000000000000000000000000000000000000000000) H) : oW X (binaryOp .Pow) (.int 10) (.int 60) H Q := oI op_pow ⟨_, _, rfl, rfl, ⟨by decide, by decide, by decide⟩, by show Q (.int ((10 : Int) ^ (60 : Int).toNat)) H; rw [p60]; exact q⟩
theorem o_p30 (q : Q (.int 1000000000000000000000000000000) H) : oW X (binaryOp .Pow) (.int 10) (.int 30) H Q := oI op_pow ⟨_, _, rfl, rfl, ⟨by decide, by decide, by decide⟩, by show Q (.int ((10 : Int) ^ (30 : Int).toNat)) H; rw [p30]; exact q⟩
end
/-- a new list, its heap by what is known of it -/
theorem e_lstN {X : Cx} {σ : L2.St} {H : Hp} {Q : VK} {pos : Pos} {es : List Expr} (h : aW X es σ H fun xs H1 => Nat.ble xs.length 1000 = true ∧ ∀ p H2, Same H1 H2 → H1 p = none → H2 p = some (.lst xs) → (∀ b, b ≠ p → H2 b = H1 b) → Q (.ref p) H2) : eW X (.List es pos) σ H Q :=
  e_lst ⟨fun pos pins s I => wpAny_mono (h.run pos pins s I) (fun us s' ⟨vs, H', a, b, c, d⟩ => ⟨vs, H', a, b, Nat.le_trans (Nat.le_of_ble_eq_true c) (by decide), fun p hp => d p _ (fun x o e => by rw [upd_ne (ne_of_none e hp)]; exact e) hp upd_same fun x hx => upd_ne hx⟩) fun _ _ x => x⟩
theorem e_tupN {X : Cx} {σ : L2.St} {H : Hp} {Q : VK} {pos : Pos} {es : List Expr} {k : Nat} (h : aW X es σ H fun xs H1 => Nat.ble xs.length 1000 = true ∧ ∀ p H2, Same H1 H2 → H1 p = none → H2 p = some (.tup xs) → (∀ b, b ≠ p → H2 b = H1 b) → Q (.ref p) H2) : eW X (.Tuple es k pos) σ H Q :=
  e_tup ⟨fun pos pins s I => wpAny_mono (h.run pos pins s I) (fun us s' ⟨vs, H', a, b, c, d⟩ => ⟨vs, H', a, b, Nat.le_trans (Nat.le_of_ble_eq_true c) (by decide), fun p hp => d p _ (fun x o e => by rw [upd_ne (ne_of_none e hp)]; exact e) hp upd_same fun x hx => upd_ne hx⟩) fun _ _ x => x⟩
section
variable {X : Cx} {H : Hp} {Q : VK} {p : Addr} {xs : List V} {z : Str}
theorem k_lenL (h : SqL X.K H p xs) (q : Q (.int (xs.length : Int)) H) : kW X (.builtin "len") [.ref p] H Q := kI call_len_seq ⟨_, _, rfl, .inl h, q⟩
theorem k_lenT (h : SqT X.K H p xs) (q : Q (.int (xs.length : Int)) H) : kW X (.builtin "len") [.ref p] H Q := kI call_len_seq ⟨_, _, rfl, .inr h, q⟩
theorem k_lenS (h : z.length ≤ sizeLine) (q : Q (.int (z.length : Int)) H) : kW X (.builtin "len") [.str z] H Q := kI call_len_str ⟨_, rfl, h, q⟩
end
theorem Same.made' {H : Hp} {x dx C : Addr} (nx : H x = Option.none) (nd : H dx = Option.none) : Same H (upd (upd H dx (.own x)) x (.ins C dx [])) := fun b o e => by
  rw [upd_ne (ne_of_none e nx), upd_ne (ne_of_none e nd)]
  exact e
def R_law (K : PySem.W.Frag) : V → Hp → VK → XK → Prop := fun x H Q _ => ∃ (a : Addr) (ns : List Int), x = .ref a ∧ SqL K H a (ns.map V.int) ∧ ns.length ≤ 63 ∧ ∀ H', Q (.bl true) H'
/-! ### targets that are tuples -/
structure hW (X : Cx) (es : List Expr) (vs : List V) (σ : L2.St) (H : Hp) (Q : L2.St → Hp → Prop) : Prop where
  run : ∀ pins s us, Inv X pins σ H s → Vals vs us → wpAny (model X.prog X.w) X.A (assignInOrder ((assignEach es X.env).map (·.2)) us) (fun _ s' => ∃ σ' H', Inv X pins σ' H' s' ∧ Q σ' H') X.xe s
section
variable {X : Cx} {σ : L2.St} {H : Hp} {pos : Pos} {e : Expr} {es : List Expr} {Q : L2.St → Hp → Prop}
theorem PHw : PGs X es (hW X es) := ⟨fun pins s _ _ vs us _ I r h => h.run pins s us I r⟩
theorem h_nil (h : Q σ H) : hW X [] [] σ H Q := ⟨fun pins s us I r => pgs_nil.run pins s σ H [] us Q I r ⟨rfl, h⟩⟩
theorem h_cons {v : V} {vs : List V} (h : gW X e v σ H fun σ1 H1 => hW X es vs σ1 H1 Q) (hs : (assignEach (e :: es) X.env).map (·.2) = assign e X.env :: (assignEach es X.env).map (·.2) := by rfl) : hW X (e :: es) (v :: vs) σ H Q :=
  ⟨fun pins s us I r => (pgs_cons PGw PHw hs).run pins s σ H (v :: vs) us Q I r ⟨v, vs, rfl, h⟩⟩
theorem g_tup {k n : Nat} {v : V} [cc : CxC X] (h : ∃ a xs, v = .ref a ∧ SqT X.K H a xs ∧ xs.length = n ∧ hW X es xs σ H Q)
    (hn : (assignEach es X.env).length = n := by rfl) (hst : (assignEach es X.env).findIdx? (·.1) = none := by rfl) : gW X (.Tuple es k pos) v σ H Q := gI (pg_tup cc.h PHw hn hst) h
end
section
variable {X : Cx} {σ : L2.St} {H : Hp} {pos : Pos} {es : List Expr} {Q : L2.St → Hp → Prop}
theorem g_lst {k n : Nat} {v : V} [cc : CxC X] (h : ∃ a xs, v = .ref a ∧ SqL X.K H a xs ∧ xs.length = n ∧ hW X es xs σ H Q)
    (hn : (assignEach es X.env).length = n := by rfl) (hst : (assignEach es X.env).findIdx? (·.1) = none := by rfl) : gW X (.Tuple es k pos) v σ H Q := gI (pg_lst cc.h PHw hn hst) h
theorem is_h {vs : List V} (h : hW X es vs σ H Q) : hW X es vs σ H Q := h
end
theorem s_asgT {X : Cx} {σ : L2.St} {H : Hp} {D : Ends} {pos p2 : Pos} {e : Expr} {es : List Expr} {k : Nat} (h : eW X e σ H fun v H1 => gW X (.Tuple es k p2) v σ H1 D.nx) (hs : swapsWithSole [.Tuple es k p2] e pos.line X.env = pure false := by rfl) (hw : swappedStores [.Tuple es k p2] e X.env = pure none := by rfl)
    (h1 : (assignEach [.Tuple es k p2] X.env).map (·.2) = [assign (.Tuple es k p2) X.env] := by rfl) : sW X (.Assign [.Tuple es k p2] e pos) D σ H := s_asg h hs hw h1
def oV : Option Int → V
  | none => .non
  | some i => .int i
theorem TyO {K : PySem.W.Frag} {H : Hp} : TyX K H .non (.type "NoneType") := .base .non
/-! ### what is walked; for and comprehensions over any walk -/
structure jW (X : Cx) (tg it : Expr) (σ : L2.St) (H : Hp) (R : It → Hp → Prop) : Prop where
  run : ∀ pins s, Inv X pins σ H s → wpAny (model X.prog X.w) X.A (eval it X.env) (fun v s1 => wpAny (model X.prog X.w) X.A (pyIter v) (PIE X pins σ tg R) X.xe s1) X.xe s
structure mW (X : Cx) (id : String) (x : V) (xs : List V) (H : Hp) (Q : VK) : Prop where
  run : ∀ pins s σ v us, Inv X pins σ H s → RelV x v → Vals xs us → wpAny (model X.prog X.w) X.A (call (.builtin id) (v :: us)) (EP X pins σ Q) X.xe s
structure nW (X : Cx) (x : V) (lo hi : Option Int) (H : Hp) (Q : VK) : Prop where
  run : ∀ pins s σ v vl vu sl, Inv X pins σ H s → RelV x v → s.heap.IsSliceOf sl vl vu .none → IsPart vl lo → IsPart vu hi →
    ∃ T id, typeLookup (.type T) "__getitem__" = pure (some (.builtin id)) ∧ s.TypeIs v T ∧ wpAny (model X.prog X.w) X.A (getItem v (.ref sl)) (EP X pins σ Q) X.xe s
section
variable {X : Cx} {σ : L2.St} {H : Hp} {Q : VK} {D : Ends} {pos p2 p3 p4 p5 apos : Pos} {e o it tg elt c a b : Expr} {es : List Expr} {body : List Stmt} {R : It → Hp → Prop} {mg : Str → Option Value}
theorem PJw : PI X tg it (jW X tg it) := ⟨fun pins s _ _ _ I h => h.run pins s I⟩
theorem jI {wi : TI} (h : PI X tg it wi) (q : wi σ H R) : jW X tg it σ H R := ⟨fun pins s I => h.run pins s σ H R I q⟩
theorem MRw {id : String} : MtR X id (mW X id) := fun pins s σ H x xs v us Q I rx r h => h.run pins s σ v us I rx r
theorem mI {id : String} {r : V → List V → Hp → VK → Prop} {x : V} {xs : List V} (h : MtR X id r) (q : r x xs H Q) : mW X id x xs H Q := ⟨fun pins s σ v us I rx rs => h pins s σ H x xs v us Q I rx rs q⟩
theorem NRw : SlR X (nW X) := fun pins s σ H x v vl vu lo hi sl Q I rx h1 h2 h3 q => q.run pins s σ v vl vu sl I rx h1 h2 h3
theorem nI {r : V → Option Int → Option Int → Hp → VK → Prop} {x : V} {lo hi : Option Int} (h : SlR X r) (q : r x lo hi H Q) : nW X x lo hi H Q := ⟨fun pins s σ v vl vu sl I rx h1 h2 h3 => h pins s σ H x v vl vu lo hi sl Q I rx h1 h2 h3 q⟩
theorem j_list (h : eW X it σ H fun x H1 => ∃ a, x = .ref a ∧ (∃ xs, SqL X.K H1 a xs) ∧ R (Itl X.K a) H1) : jW X tg it σ H R := jI (pi_list PEw) h
theorem j_tup (h : eW X it σ H fun x H1 => ∃ a, x = .ref a ∧ (∃ xs, SqT X.K H1 a xs) ∧ R (Itt X.K a) H1) : jW X tg it σ H R := jI (pi_tup PEw) h
theorem j_str (h : eW X it σ H fun x H1 => ∃ z, x = .str z ∧ R (Its z) H1) : jW X tg it σ H R := jI (pi_str PEw) h
theorem j_rng1 [cm : CxM X mg] [g : Gn mg "range" none] (h : aW X [a] σ H fun vs H1 => ∃ j : Int, vs = [.int j] ∧ -(2 ^ 62) ≤ j ∧ j < 2 ^ 62 ∧ R (Itr 0 j.toNat) H1) (hg : Gl X "range" := by rfl) (hs : starEach [a] X.env = [(false, eval a X.env)] := by rfl) : jW X tg (.Call (.Name "range" p2) [a] [] pos) σ H R :=
  jI (pi_range1 hg (by rw [cm.h]; exact g.h) PAw hs) h
theorem j_rng2 [cm : CxM X mg] [g : Gn mg "range" none] (h : aW X [a, b] σ H fun vs H1 => ∃ i j : Int, vs = [.int i, .int j] ∧ (-(2 ^ 62) ≤ i ∧ i < 2 ^ 62 ∧ -(2 ^ 62) ≤ j ∧ j < 2 ^ 62) ∧ R (Itr i (j - i).toNat) H1) (hg : Gl X "range" := by rfl)
    (hs : starEach [a, b] X.env = [(false, eval a X.env), (false, eval b X.env)] := by rfl) (hs2 : starEach [b] X.env = [(false, eval b X.env)] := by rfl) : jW X tg (.Call (.Name "range" p2) [a, b] [] pos) σ H R :=
  jI (pi_range2 hg (by rw [cm.h]; exact g.h) PAw hs hs2) h
theorem j_rng3 [cm : CxM X mg] [g : Gn mg "range" none] (h : aW X [a, b, c] σ H fun vs H1 => ∃ (i j c : Int) (n : Nat), vs = [.int i, .int j, .int c] ∧ RgC i j c n ∧ R (Itc i c n) H1) (hg : Gl X "range" := by rfl)
    (hs : starEach [a, b, c] X.env = (false, eval a X.env) :: starEach [b, c] X.env := by rfl) (hpl : (backTo pos (starEach [b, c] X.env)).any (·.1) = false := by rfl) : jW X tg (.Call (.Name "range" p2) [a, b, c] [] pos) σ H R :=
  jI (pi_range3 hg (by rw [cm.h]; exact g.h) PAw hs hpl) h
theorem j_rev [cm : CxM X mg] [g : Gn mg "reversed" none] (h : aW X [a] σ H fun vs H1 => ∃ (a : Addr) (xs : List V), vs = [.ref a] ∧ SqL X.K H1 a xs ∧ R (Itv X.K a xs.length) H1) (hg : Gl X "reversed" := by rfl) (hs : starEach [a] X.env = [(false, eval a X.env)] := by rfl) : jW X tg (.Call (.Name "reversed" p2) [a] [] pos) σ H R :=
  jI (pi_reversed hg (by rw [cm.h]; exact g.h) PAw hs) h
theorem j_revT [cm : CxM X mg] [g : Gn mg "reversed" none] (h : eW X a σ H fun v H1 => ∃ (p : Addr) (xs : List V), v = .ref p ∧ SqT X.K H1 p xs ∧ R (RT.ItvT X.K p xs.length) H1) (hg : Gl X "reversed" := by rfl) (hs : starEach [a] X.env = (false, eval a X.env) :: starEach [] X.env := by rfl) : jW X tg (.Call (.Name "reversed" p2) [a] [] pos) σ H R :=
  jI (RT.pi_revA hg (by rw [cm.h]; exact g.h) PEw hs) (eMono h fun v H1 ⟨p, xs, e, q, r⟩ => ⟨p, xs, e, .inr ⟨q, r⟩⟩)
theorem walk_revT {K : PySem.W.Frag} {p : Addr} {xs : List V} : Walk (RT.ItvT K p xs.length) xs.length (fun H => SqT K H p xs) (fun i H x H' => H' = H ∧ xs[xs.length - 1 - i]? = some x) :=
  ⟨fun i _ hi q => ⟨hi, xs, xs[xs.length - 1 - i]'(by omega), q, by simp [show xs.length - 1 - i < xs.length by omega]⟩, fun _ _ => Nat.le_refl _, fun _ _ _ _ _ q y => ⟨y.1, y.2 xs q⟩⟩
theorem j_enum {elts : List Expr} {kk : Nat} [cm : CxM X mg] [g : Gn mg "enumerate" none] (h : aW X [a] σ H fun vs H1 => ∃ a xs, vs = [.ref a] ∧ SqL X.K H1 a xs ∧ R (Ite X.K a) H1) (hg : Gl X "enumerate" := by rfl) (hs : starEach [a] X.env = [(false, eval a X.env)] := by rfl) : jW X (.Tuple elts kk p3) (.Call (.Name "enumerate" p2) [a] [] pos) σ H R :=
  jI (pi_enum hg (by rw [cm.h]; exact g.h) PAw hs) h
theorem j_items {elts : List Expr} {kk : Nat} (h : eW X e σ H fun x H1 => ∃ d o kvs, x = .ref d ∧ H1 d = some (.frz o (.dK kvs)) ∧ R (Iti d o kvs) H1) (hbase : attributeBase e "items" X.env (eval e X.env) = eval e X.env := by rfl) (hline : (apos.endLine == pos.line) = true := by rfl) :
    jW X (.Tuple elts kk p3) (.Call (.Attribute e "items" apos) [] [] pos) σ H R := jI (pi_items PEw hbase hline) h
/-- for over any walk -/
theorem s_for [ow : CxO X] [cc : CxC X] (h : jW X tg it σ H fun J H1 => ∃ n G Y, Walk J n G Y ∧ ∃ Pv : Nat → L2.St → Hp → Prop, Pv 0 σ H1 ∧ (∀ i σ' H', i ≤ n → Pv i σ' H' → G H') ∧
      (∀ i x σ' H' H2, i < n → Pv i σ' H' → Y i H' x H2 → gW X tg x σ' H2 fun σ3 H3 => bW X body (Dlp D (Pv (i + 1))) σ3 H3) ∧ ∀ σ' H', Pv n σ' H' → D.nx σ' H')
    (hs : ∀ x, foldedSetIterable it X.env x = pure x := by intro _; rfl) : sW X (.For tg it body [] pos) D σ H :=
  sI (ps_for ow.h cc.h PJw PGw PBw hs) ⟨fun pins s I => wpAny_mono (h.run pins s I) (fun v s1 q => wpAny_mono q (fun u s2 ⟨i, fp, tn, J, H2, e, I2, T, t0, f2, n, G, Y, w, Pv, q0, q1, q2, q3⟩ => ⟨i, fp, tn, J, H2, e, I2, T, t0, f2, for_it w Pv q0 q1 q2 q3⟩) fun _ _ z => z) fun _ _ z => z⟩
/-- the parts of a comprehension, in every context of its block -/
def eB (X : Cx) (sc : Scope) (e : Expr) : TE := fun σ H Q => ∀ (s : Shared) (H0 : Hp) (C : Addr) (cl : List (Str × Addr)) (fp : List Addr), eW (X.blk s H0 sc (compEnvC sc cl C X.env) fp) e σ H Q
def tB' (X : Cx) (sc : Scope) (e : Expr) : TT := fun σ H Q => ∀ (s : Shared) (H0 : Hp) (C : Addr) (cl : List (Str × Addr)) (fp : List Addr), tW (X.blk s H0 sc (compEnvC sc cl C X.env) fp) e σ H Q
def gB (X : Cx) (sc : Scope) (e : Expr) : TG := fun v σ H Q => ∀ (s : Shared) (H0 : Hp) (C : Addr) (cl : List (Str × Addr)) (fp : List Addr), gW (X.blk s H0 sc (compEnvC sc cl C X.env) fp) e v σ H Q
theorem e_lc {sc : Scope} {N : List Str} {own : List (Str × Nat)} [cc : CxC X] [cn : CxN X N] [nd : NdN N] (ok : BlkOk N X.env.scope sc own)
    (h : jW X tg it σ H fun J H1 => ∃ n G Y, Walk J n G Y ∧ ∀ D, H1 D = none → ∃ Pv : Nat → Hp → Prop, Pv 0 (upd H1 D (.lst [])) ∧ (∀ i H', i ≤ n → Pv i H' → G H') ∧
      (∀ i x H' H2, i < n → Pv i H' → Y i H' x H2 → gB X sc tg x (wipe σ (own.map (·.2))) H2 fun σ3 H3 => wipe σ3 (own.map (·.2)) = wipe σ (own.map (·.2)) ∧ eB X sc elt σ3 H3 fun y H4 => ∃ acc, H4 D = some (.lst acc) ∧ acc.length < sizeLine ∧ Pv (i + 1) (upd H4 D (.lst (acc ++ [y])))) ∧
      ∀ H', Pv n H' → Q (.ref D) H') (hs : ∀ x, foldedSetIterable it X.env x = pure x := by intro _; rfl) : eW X (.ListComp elt [⟨tg, it, [], 0⟩] sc pos) σ H Q :=
  eI (pe_lc (g := gB X sc tg) (tt := tYes) (te := eB X sc elt) cc.h (by rw [cn.h]; exact nd.h) PJw (by rw [cn.h]; exact ok) (fun s H0 C cl fp => ⟨fun pins s' _ _ v u _ I r h => (h s H0 C cl fp).run pins s' u I r⟩) (fun _ _ _ _ _ => pts_nil) (fun s H0 C cl fp => ⟨fun pins s' _ _ _ I h => (h s H0 C cl fp).run pins s' I⟩) hs)
    ⟨fun pins s I => wpAny_mono (h.run pins s I) (fun v s1 q => wpAny_mono q (fun u s2 ⟨i, fp, tn, J, H2, e, I2, T, t0, f2, n, G, Y, w, k⟩ => ⟨i, fp, tn, J, H2, e, I2, T, t0, f2, fun D hD => by
      obtain ⟨Pv, q0, q1, q2, q3⟩ := k D hD
      exact lc_it w Pv q0 q1 (fun i x H' H2' hi p y s0 H0 C cl fp => ⟨fun pins s' u I r => wpAny_mono ((q2 i x H' H2' hi p y s0 H0 C cl fp).run pins s' u I r) (fun _ s'' ⟨σ', H'', I'', e1, e2⟩ => ⟨σ', H'', I'', e1, e2⟩) fun _ _ z => z⟩) q3⟩) fun _ _ z => z) fun _ _ z => z⟩
/-- .. with one if -/
theorem e_lcI {sc : Scope} {N : List Str} {own : List (Str × Nat)} [cc : CxC X] [cn : CxN X N] [nd : NdN N] (ok : BlkOk N X.env.scope sc own)
    (h : jW X tg it σ H fun J H1 => ∃ n G Y, Walk J n G Y ∧ ∀ D, H1 D = none → ∃ Pv : Nat → Hp → Prop, Pv 0 (upd H1 D (.lst [])) ∧ (∀ i H', i ≤ n → Pv i H' → G H') ∧
      (∀ i x H' H2, i < n → Pv i H' → Y i H' x H2 → gB X sc tg x (wipe σ (own.map (·.2))) H2 fun σ3 H3 => wipe σ3 (own.map (·.2)) = wipe σ (own.map (·.2)) ∧ tB' X sc c σ3 H3 fun k H4 => if k = true then eB X sc elt σ3 H4 fun y H5 => ∃ acc, H5 D = some (.lst acc) ∧ acc.length < sizeLine ∧ Pv (i + 1) (upd H5 D (.lst (acc ++ [y]))) else Pv (i + 1) H4) ∧
      ∀ H', Pv n H' → Q (.ref D) H') (hs : ∀ x, foldedSetIterable it X.env x = pure x := by intro _; rfl) : eW X (.ListComp elt [⟨tg, it, [c], 0⟩] sc pos) σ H Q :=
  eI (pe_lc (g := gB X sc tg) (tt := tB' X sc c) (te := eB X sc elt) cc.h (by rw [cn.h]; exact nd.h) PJw (by rw [cn.h]; exact ok) (fun s H0 C cl fp => ⟨fun pins s' _ _ v u _ I r h => (h s H0 C cl fp).run pins s' u I r⟩) (fun s H0 C cl fp => pts_one ⟨fun pins s' _ _ _ I h => (h s H0 C cl fp).run pins s' I⟩) (fun s H0 C cl fp => ⟨fun pins s' _ _ _ I h => (h s H0 C cl fp).run pins s' I⟩) hs)
    ⟨fun pins s I => wpAny_mono (h.run pins s I) (fun v s1 q => wpAny_mono q (fun u s2 ⟨i, fp, tn, J, H2, e, I2, T, t0, f2, n, G, Y, w, k⟩ => ⟨i, fp, tn, J, H2, e, I2, T, t0, f2, fun D hD => by
      obtain ⟨Pv, q0, q1, q2, q3⟩ := k D hD
      exact lc_it w Pv q0 q1 q2 q3⟩) fun _ _ z => z) fun _ _ z => z⟩
/-- name = [..] whose place is stored from within -/
theorem s_setLc {sc : Scope} {N : List Str} {own : List (Str × Nat)} {y : Str} {i : Nat} [cc : CxC X] [cn : CxN X N] [sl : Slt N y i] [nd : NdN N] (ok : BlkOk N X.env.scope sc own)
    (h : jW X tg it σ H fun J H1 => ∃ n G Y, Walk J n G Y ∧ ∀ D', H1 D' = none → ∃ Pv : Nat → Hp → Prop, Pv 0 (upd H1 D' (.lst [])) ∧ (∀ i H', i ≤ n → Pv i H' → G H') ∧
      (∀ i x H' H2, i < n → Pv i H' → Y i H' x H2 → gB X sc tg x (wipe σ (own.map (·.2))) H2 fun σ3 H3 => wipe σ3 (own.map (·.2)) = wipe σ (own.map (·.2)) ∧ eB X sc elt σ3 H3 fun y H4 => ∃ acc, H4 D' = some (.lst acc) ∧ acc.length < sizeLine ∧ Pv (i + 1) (upd H4 D' (.lst (acc ++ [y])))) ∧
      ∀ H', Pv n H' → D.nx (σ.set i (some (.ref D'))) H') (hyl : X.env.scope.names.lookup y = some .local := by rfl)
    (hsw : swapsWith (.ListComp elt [⟨tg, it, [], 0⟩] sc pos) (some (.Name y p2)) p3.line X.env = pure true := by exact sw_true rfl rfl rfl (by decide +kernel)) (hs : ∀ x, foldedSetIterable it X.env x = pure x := by intro _; rfl) : sW X (.Assign [.Name y p2] (.ListComp elt [⟨tg, it, [], 0⟩] sc pos) p3) D σ H :=
  sI (ps_setLc (i := i) (g := gB X sc tg) (tt := tYes) (te := eB X sc elt) cc.h (by rw [cn.h]; exact nd.h) (by rw [cn.h]; exact sl.h) hyl hsw PJw (by rw [cn.h]; exact ok) (fun s H0 C cl fp => ⟨fun pins s' _ _ v u _ I r h => (h s H0 C cl fp).run pins s' u I r⟩) (fun _ _ _ _ _ => pts_nil) (fun s H0 C cl fp => ⟨fun pins s' _ _ _ I h => (h s H0 C cl fp).run pins s' I⟩) hs)
    ⟨fun pins s I => wpAny_mono (h.run pins s I) (fun v s1 q => wpAny_mono q (fun u s2 ⟨j, fp, tn, J, H2, e, I2, T, t0, f2, n, G, Y, w, k⟩ => ⟨j, fp, tn, J, H2, e, I2, T, t0, f2, fun D' hD => by
      obtain ⟨Pv, q0, q1, q2, q3⟩ := k D' hD
      exact lc_it w Pv q0 q1 (fun i x H' H2' hi p y s0 H0 C cl fp => ⟨fun pins s' u I r => wpAny_mono ((q2 i x H' H2' hi p y s0 H0 C cl fp).run pins s' u I r) (fun _ s'' ⟨σ', H'', I'', e1, e2⟩ => ⟨σ', H'', I'', e1, e2⟩) fun _ _ z => z⟩) q3⟩) fun _ _ z => z) fun _ _ z => z⟩
/-- name = [.. if ..] whose place is stored from within -/
theorem s_setLcI {sc : Scope} {N : List Str} {own : List (Str × Nat)} {y : Str} {i : Nat} [cc : CxC X] [cn : CxN X N] [sl : Slt N y i] [nd : NdN N] (ok : BlkOk N X.env.scope sc own)
    (h : jW X tg it σ H fun J H1 => ∃ n G Y, Walk J n G Y ∧ ∀ D', H1 D' = none → ∃ Pv : Nat → Hp → Prop, Pv 0 (upd H1 D' (.lst [])) ∧ (∀ i H', i ≤ n → Pv i H' → G H') ∧
      (∀ i x H' H2, i < n → Pv i H' → Y i H' x H2 → gB X sc tg x (wipe σ (own.map (·.2))) H2 fun σ3 H3 => wipe σ3 (own.map (·.2)) = wipe σ (own.map (·.2)) ∧ tB' X sc c σ3 H3 fun k H4 => if k = true then eB X sc elt σ3 H4 fun y H5 => ∃ acc, H5 D' = some (.lst acc) ∧ acc.length < sizeLine ∧ Pv (i + 1) (upd H5 D' (.lst (acc ++ [y]))) else Pv (i + 1) H4) ∧
      ∀ H', Pv n H' → D.nx (σ.set i (some (.ref D'))) H') (hyl : X.env.scope.names.lookup y = some .local := by rfl)
    (hsw : swapsWith (.ListComp elt [⟨tg, it, [c], 0⟩] sc pos) (some (.Name y p2)) p3.line X.env = pure true := by exact sw_true rfl rfl rfl (by decide +kernel)) (hs : ∀ x, foldedSetIterable it X.env x = pure x := by intro _; rfl) : sW X (.Assign [.Name y p2] (.ListComp elt [⟨tg, it, [c], 0⟩] sc pos) p3) D σ H :=
  sI (ps_setLc (i := i) (g := gB X sc tg) (tt := tB' X sc c) (te := eB X sc elt) cc.h (by rw [cn.h]; exact nd.h) (by rw [cn.h]; exact sl.h) hyl hsw PJw (by rw [cn.h]; exact ok) (fun s H0 C cl fp => ⟨fun pins s' _ _ v u _ I r h => (h s H0 C cl fp).run pins s' u I r⟩) (fun s H0 C cl fp => pts_one ⟨fun pins s' _ _ _ I h => (h s H0 C cl fp).run pins s' I⟩) (fun s H0 C cl fp => ⟨fun pins s' _ _ _ I h => (h s H0 C cl fp).run pins s' I⟩) hs)
    ⟨fun pins s I => wpAny_mono (h.run pins s I) (fun v s1 q => wpAny_mono q (fun u s2 ⟨j, fp, tn, J, H2, e, I2, T, t0, f2, n, G, Y, w, k⟩ => ⟨j, fp, tn, J, H2, e, I2, T, t0, f2, fun D' hD => by
      obtain ⟨Pv, q0, q1, q2, q3⟩ := k D' hD
      exact lc_it w Pv q0 q1 q2 q3⟩) fun _ _ z => z) fun _ _ z => z⟩
/-! ### slices -/
structure pW (X : Cx) (e : Option Expr) (σ : L2.St) (H : Hp) (Q : Option Int → Hp → Prop) : Prop where
  run : ∀ pins s, Inv X pins σ H s → wpAny (model X.prog X.w) X.A (evalPart e X.env) (fun u s' => ∃ o H', Inv X pins σ H' s' ∧ IsPart u o ∧ Q o H') X.xe s
theorem p_none {R : Option Int → Hp → Prop} (h : R none H) : pW X none σ H R := ⟨fun pins s I => by
  have z := (po_none (X := X)).run pins s σ H R I h
  exact wpAny_mono z (fun u s' ⟨o, H', a, b, c⟩ => ⟨o, H', a, b, c⟩) fun _ _ z => z⟩
theorem p_some {R : Option Int → Hp → Prop} (h : eW X e σ H fun v H1 => ∃ i, v = .int i ∧ R (some i) H1) : pW X (some e) σ H R := ⟨fun pins s I => by
  have z := (po_some (X := X) (PEw (e := e))).run pins s σ H R I h
  exact wpAny_mono z (fun u s' ⟨o, H', a, b, c⟩ => ⟨o, H', a, b, c⟩) fun _ _ z => z⟩
theorem POw {e : Option Expr} : PO X e (pW X e) := ⟨fun pins s _ _ _ I h => h.run pins s I⟩
theorem e_slice {lo hi : Option Expr} (h : eW X e σ H fun x H1 => pW X lo σ H1 fun l H2 => pW X hi σ H2 fun u H3 => nW X x l u H3 Q) : eW X (.Subscript e (.Slice lo hi none p2) pos) σ H Q := eI (pe_slice NRw PEw POw POw) h
theorem n_str {z : Str} {lo hi : Option Int} (hz : z.length ≤ sizeLine) (q : Q (.str (cutS z lo hi)) H) : nW X (.str z) lo hi H Q := nI sl_str ⟨z, rfl, hz, q⟩
theorem n_lst {p : Addr} {xs : List V} {lo hi : Option Int} (h : SqL X.K H p xs) (q : ∀ l H2, Same H H2 → H l = none → H2 l = some (.lst (cutV xs lo hi)) → (∀ b, b ≠ l → H2 b = H b) → Q (.ref l) H2) : nW X (.ref p) lo hi H Q :=
  nI sl_list ⟨p, xs, rfl, h, fun l hl => q l _ (fun x o e => by rw [upd_ne (ne_of_none e hl)]; exact e) hl upd_same fun x hx => upd_ne hx⟩
/-! ### methods of built-in types -/
theorem e_bm {T id : String} {name : Str} (pa : PlainAttrs T) (slot : Slot T name id) (hty : typeOf (.builtin id) = pure (.type "method_descriptor")) (h : eW X o σ H fun x H1 => tyV X.K T x H1 ∧ aW X (e :: es) σ H1 fun xs H2 => mW X id x xs H2 Q)
    (hbase : attributeBase o name X.env (eval o X.env) = eval o X.env := by rfl)
    (hfew : ((backTo pos (starEach (e :: es) X.env)).all (fun x => !x.1) && (backToKw pos (keywordEach [] X.env)).all (fun x => x.1.isSome) && decide ((e :: es).length + ([] : List Keyword).length + (if ([] : List Keyword).isEmpty then 0 else 1) < 30)) = true := by rfl)
    (hline : (apos.endLine == pos.line) = true := by rfl) (hs : starEach (e :: es) X.env = (false, eval e X.env) :: starEach es X.env := by rfl) (hplain : (backTo pos (starEach es X.env)).any (·.1) = false := by rfl) : eW X (.Call (.Attribute o name apos) (e :: es) [] pos) σ H Q :=
  eI (pe_bm pa slot hty MRw PEw PAw hbase hfew hline hs hplain) h
theorem e_bm0 {T id : String} {name : Str} (pa : PlainAttrs T) (slot : Slot T name id) (hty : typeOf (.builtin id) = pure (.type "method_descriptor")) (h : eW X o σ H fun x H1 => tyV X.K T x H1 ∧ mW X id x [] H1 Q)
    (hbase : attributeBase o name X.env (eval o X.env) = eval o X.env := by rfl) (hline : (apos.endLine == pos.line) = true := by rfl) : eW X (.Call (.Attribute o name apos) [] [] pos) σ H Q := eI (pe_bm0 pa slot hty MRw PEw hbase hline) h
theorem m_append {l : Addr} {xs : List V} {y : V} (h : H l = some (.lst xs)) (hz : xs.length < 16000000) (q : ∀ H2, H2 l = some (.lst (xs ++ [y])) → (∀ b, b ≠ l → H2 b = H b) → Q .non H2) : mW X "list.append" (.ref l) [y] H Q :=
  mI mt_append ⟨l, xs, y, rfl, rfl, h, Nat.lt_of_lt_of_le hz (by decide), q _ upd_same fun b hb => upd_ne hb⟩
theorem m_extend {l b : Addr} {xs zs : List V} (h : H l = some (.lst xs)) (h2 : H b = some (.lst zs)) (hz : xs.length + zs.length ≤ 100000) (q : ∀ H2, H2 l = some (.lst (xs ++ zs)) → (∀ b, b ≠ l → H2 b = H b) → Q .non H2) : mW X "list.extend" (.ref l) [.ref b] H Q :=
  mI mt_extend ⟨l, b, xs, zs, rfl, rfl, h, h2, Nat.le_trans hz (by decide), q _ upd_same fun b hb => upd_ne hb⟩
theorem m_pop {l : Addr} {xs : List V} {y : V} (h : H l = some (.lst (xs ++ [y]))) (q : ∀ H2, H2 l = some (.lst xs) → (∀ b, b ≠ l → H2 b = H b) → Q y H2) : mW X "list.pop" (.ref l) [] H Q :=
  mI mt_pop ⟨l, _, y, rfl, rfl, h, by simp, q _ (by rw [List.dropLast_concat]; exact upd_same) fun b hb => upd_ne hb⟩
theorem m_reverse {l : Addr} {xs : List V} (h : H l = some (.lst xs)) (q : ∀ H2, H2 l = some (.lst xs.reverse) → (∀ b, b ≠ l → H2 b = H b) → Q .non H2) : mW X "list.reverse" (.ref l) [] H Q :=
  mI mt_reverse ⟨l, _, rfl, rfl, h, q _ upd_same fun b hb => upd_ne hb⟩
theorem e_append (h : eW X o σ H fun x H1 => tyV X.K "list" x H1 ∧ aW X [e] σ H1 fun xs H2 => mW X "list.append" x xs H2 Q) (hbase : attributeBase o "append" X.env (eval o X.env) = eval o X.env := by rfl)
    (hfew : ((backTo pos (starEach [e] X.env)).all (fun x => !x.1) && (backToKw pos (keywordEach [] X.env)).all (fun x => x.1.isSome) && decide ([e].length + ([] : List Keyword).length + (if ([] : List Keyword).isEmpty then 0 else 1) < 30)) = true := by rfl)
    (hline : (apos.endLine == pos.line) = true := by rfl) (hs : starEach [e] X.env = (false, eval e X.env) :: starEach [] X.env := by rfl) : eW X (.Call (.Attribute o "append" apos) [e] [] pos) σ H Q :=
  e_bm PySem.F.plainAttrs_list PySem.F.slot_list_append PySem.F.type_list_append h hbase hfew hline hs rfl
theorem e_extend (h : eW X o σ H fun x H1 => tyV X.K "list" x H1 ∧ aW X [e] σ H1 fun xs H2 => mW X "list.extend" x xs H2 Q) (hbase : attributeBase o "extend" X.env (eval o X.env) = eval o X.env := by rfl)
    (hfew : ((backTo pos (starEach [e] X.env)).all (fun x => !x.1) && (backToKw pos (keywordEach [] X.env)).all (fun x => x.1.isSome) && decide ([e].length + ([] : List Keyword).length + (if ([] : List Keyword).isEmpty then 0 else 1) < 30)) = true := by rfl)
    (hline : (apos.endLine == pos.line) = true := by rfl) (hs : starEach [e] X.env = (false, eval e X.env) :: starEach [] X.env := by rfl) : eW X (.Call (.Attribute o "extend" apos) [e] [] pos) σ H Q :=
  e_bm PySem.F.plainAttrs_list PySem.F.slot_list_extend PySem.F.type_list_extend h hbase hfew hline hs rfl
theorem e_pop (h : eW X o σ H fun x H1 => tyV X.K "list" x H1 ∧ mW X "list.pop" x [] H1 Q) (hbase : attributeBase o "pop" X.env (eval o X.env) = eval o X.env := by rfl) (hline : (apos.endLine == pos.line) = true := by rfl) : eW X (.Call (.Attribute o "pop" apos) [] [] pos) σ H Q :=
  e_bm0 PySem.F.plainAttrs_list PySem.F.slot_list_pop PySem.F.type_list_pop h hbase hline
theorem e_reverse (h : eW X o σ H fun x H1 => tyV X.K "list" x H1 ∧ mW X "list.reverse" x [] H1 Q) (hbase : attributeBase o "reverse" X.env (eval o X.env) = eval o X.env := by rfl) (hline : (apos.endLine == pos.line) = true := by rfl) : eW X (.Call (.Attribute o "reverse" apos) [] [] pos) σ H Q :=
  e_bm0 PySem.F.plainAttrs_list PySem.F.slot_list_reverse PySem.F.type_list_reverse h hbase hline
theorem ty_l {K : PySem.W.Frag} {p : Addr} {xs : List V} (h : H p = some (.lst xs)) : tyV K "list" (.ref p) H := .inl ⟨rfl, _, SqL.of h⟩
theorem e_join (h : eW X o σ H fun x H1 => (∃ a, x = .str a) ∧ eW X e σ H1 fun y H2 => mW X "str.join" x [y] H2 Q) (hs : starEach [e] X.env = [(false, eval e X.env)] := by rfl) (hbase : attributeBase o "join" X.env (eval o X.env) = eval o X.env := by rfl) (hline : (apos.endLine == pos.line) = true := by rfl) : eW X (.Call (.Attribute o "join" apos) [e] [] pos) σ H Q :=
  eI (pe_m1 PySem.F.slot_str_join PySem.F.type_str_join MRw PEw PEw hs hbase hline) h
theorem e_split (h : eW X o σ H fun x H1 => (∃ a, x = .str a) ∧ eW X e σ H1 fun y H2 => mW X "str.split" x [y] H2 Q) (hs : starEach [e] X.env = [(false, eval e X.env)] := by rfl) (hbase : attributeBase o "split" X.env (eval o X.env) = eval o X.env := by rfl) (hline : (apos.endLine == pos.line) = true := by rfl) : eW X (.Call (.Attribute o "split" apos) [e] [] pos) σ H Q :=
  eI (pe_m1 PySem.F.slot_str_split PySem.F.type_str_split MRw PEw PEw hs hbase hline) h
end
section
variable {X : Cx} {H : Hp} {Q : VK} {i j : Int} {z u : Str} {p : Addr} {xs : List V}
theorem o_leS (q : Q (.bl (!decide (tl u < tl z))) H) : oW X (compareOp .LtE) (.str z) (.str u) H Q := oI op_le_str ⟨_, _, rfl, rfl, q⟩
theorem o_ltS (q : Q (.bl (decide (tl z < tl u))) H) : oW X (compareOp .Lt) (.str z) (.str u) H Q := oI op_lt_str ⟨_, _, rfl, rfl, q⟩
theorem o_inC {c : Nat} (q : Q (.bl (decide (c ∈ tl z))) H) : oW X (compareOp .In) (.str ⟨#[c]⟩) (.str z) H Q := oI op_in_sign ⟨_, _, rfl, rfl, q⟩
theorem o_niC {c : Nat} (q : Q (.bl (!decide (c ∈ tl z))) H) : oW X (compareOp .NotIn) (.str ⟨#[c]⟩) (.str z) H Q := oI op_notIn_sign ⟨_, _, rfl, rfl, q⟩
theorem k_ordC {c : Nat} (q : Q (.int (c : Int)) H) : kW X (.builtin "ord") [.str ⟨#[c]⟩] H Q := kI call_ord ⟨_, rfl, rfl, q⟩
theorem k_strI (h : i.natAbs.log2 < 1920) (q : Q (.str (Str.ofString (toString i))) H) : kW X (.type "str") [.int i] H Q := kI call_str_int ⟨_, rfl, h, q⟩
theorem k_intS (h : PySem.intText? z = some i) (hz : z.length ≤ 640) (q : Q (.int i) H) : kW X (.type "int") [.str z] H Q := kI call_int_str ⟨_, _, rfl, h, hz, q⟩
theorem k_sum {ns : List Int} [cc : CxC X] (h : SqL X.K H p (ns.map V.int)) (q : Q (.int ns.sum) H) : kW X (.builtin "sum") [.ref p] H Q := kI (cr_sum cc.h) ⟨_, _, rfl, h, q⟩
theorem k_all {bs : List Bool} [cc : CxC X] (h : SqL X.K H p (bs.map V.bl)) (q : Q (.bl (bs.all id)) H) : kW X (.builtin "all") [.ref p] H Q := kI (cr_all cc.h) ⟨_, _, rfl, h, q⟩
theorem k_dictD {kvs : List (Key × V)} (h : Rd H p (.dK kvs)) (q : ∀ l H2, Same H H2 → H l = none → H2 l = some (.dK kvs) → (∀ b, b ≠ l → H2 b = H b) → Q (.ref l) H2) : kW X (.type "dict") [.ref p] H Q :=
  kI call_dictD ⟨_, _, rfl, h, fun l hl => q l _ (fun x o e => by rw [upd_ne (ne_of_none e hl)]; exact e) hl upd_same fun x hx => upd_ne hx⟩
theorem k_listL (h : SqL X.K H p xs ∨ SqT X.K H p xs) (q : ∀ l H2, Same H H2 → H l = none → H2 l = some (.lst xs) → (∀ b, b ≠ l → H2 b = H b) → Q (.ref l) H2) : kW X (.type "list") [.ref p] H Q :=
  kI call_list_of ⟨_, _, rfl, h, fun l hl => q l _ (fun x o e => by rw [upd_ne (ne_of_none e hl)]; exact e) hl upd_same fun x hx => upd_ne hx⟩
theorem k_tupL (h : SqL X.K H p xs) (q : ∀ l H2, Same H H2 → H l = none → H2 l = some (.tup xs) → (∀ b, b ≠ l → H2 b = H b) → Q (.ref l) H2) : kW X (.type "tuple") [.ref p] H Q :=
  kI call_tuple_of ⟨_, _, rfl, .inl ⟨h, fun l hl => q l _ (fun x o e => by rw [upd_ne (ne_of_none e hl)]; exact e) hl upd_same fun x hx => upd_ne hx⟩⟩
theorem o_catL {q2 : Addr} {zs : List V} (h1 : H p = some (.lst xs)) (h2 : H q2 = some (.lst zs)) (hz : xs.length + zs.length ≤ 100000) (q : ∀ l H2, Same H H2 → H l = none → H2 l = some (.lst (xs ++ zs)) → (∀ b, b ≠ l → H2 b = H b) → Q (.ref l) H2) : oW X (binaryOp .Add) (.ref p) (.ref q2) H Q :=
  oI op_cat ⟨_, _, _, _, rfl, rfl, h1, h2, Nat.le_trans hz (by decide), fun l hl => q l _ (fun x o e => by rw [upd_ne (ne_of_none e hl)]; exact e) hl upd_same fun x hx => upd_ne hx⟩
theorem m_join {ys : List Str} {a : Str} (h : SqL X.K H p (ys.map V.str) ∨ SqT X.K H p (ys.map V.str)) (hz : (ys.map Str.length).sum + ys.length * a.length ≤ 16777216) (q : Q (.str (Txt.join a ys)) H) : mW X "str.join" (.str a) [.ref p] H Q := by
  exact mI mt_join ⟨_, _, _, rfl, rfl, h, hz, q⟩
theorem m_split {a b : Str} (hb : (b.length == 0) = false) (ha : a.length ≤ 1000000) (q : ∀ l H2, Same H H2 → H l = none → H2 l = some (.lst ((Txt.split a b).map V.str)) → (∀ b, b ≠ l → H2 b = H b) → Q (.ref l) H2) : mW X "str.split" (.str a) [.str b] H Q :=
  mI mt_split ⟨_, _, rfl, rfl, hb, by rw [sizeLine_eq]; omega, fun l hl => q l _ (fun x o e => by rw [upd_ne (ne_of_none e hl)]; exact e) hl upd_same fun x hx => upd_ne hx⟩
end
/-! ### things of any kind -/
mutual
inductive Th (K : PySem.W.Frag) (H : Hp) : V → PyData → Prop
  | non : Th K H .non .none
  | bl (b : Bool) : Th K H (.bl b) (.bool b)
  | int (i : Int) : Th K H (.int i) (.int i)
  | str (x : Str) (h : x.length ≤ 1000000) : Th K H (.str x) (.str x)
  | lst {a : Addr} {xs : List V} {ds : List PyData} : SqL K H a xs → ThAll K H xs ds → Th K H (.ref a) (.list ds)
  | tup {a : Addr} {xs : List V} {ds : List PyData} : SqT K H a xs → ThAll K H xs ds → Th K H (.ref a) (.tuple ds)
  | dct {a : Addr} {kvs : List (Key × V)} : H a = some (.dK kvs) → Th K H (.ref a) (.dict [])
inductive ThAll (K : PySem.W.Frag) (H : Hp) : List V → List PyData → Prop
  | nil : ThAll K H [] []
  | cons {v : V} {vs : List V} {d : PyData} {ds : List PyData} : Th K H v d → ThAll K H vs ds → ThAll K H (v :: vs) (d :: ds)
end
def tyName : PyData → String
  | .none => "NoneType"
  | .bool _ => "bool"
  | .int _ => "int"
  | .str _ => "str"
  | .list _ => "list"
  | .tuple _ => "tuple"
  | .dict _ => "dict"
theorem Th.ty {K : PySem.W.Frag} {H : Hp} {v : V} {d : PyData} (h : Th K H v d) : TyX K H v (.type (tyName d)) := by
  cases h with
  | non => exact .base .non
  | bl b => exact .base (.bl b)
  | int i => exact .base (.int i)
  | str x _ => exact .base (.str x)
  | lst hs _ =>
    rcases hs with (h | ⟨o, h⟩) | ⟨o, its, n, h, hc, _⟩
    · exact .base (.lst h)
    · exact .base (.frz h)
    · exact .kList h hc
  | tup hs _ =>
    rcases hs with (h | ⟨o, h⟩) | ⟨o, its, n, h, hc, _⟩
    · exact .base (.tup h)
    · exact .fTuple h
    · exact .kTuple h hc
  | dct h => exact .base (.dK h)
/-- whether data is of the built-in type -/
def isK (d : PyData) (n : String) : Bool := match d with
  | .none => false
  | .bool _ => n == "bool" || n == "int"
  | .int _ => n == "int"
  | .str _ => n == "str"
  | .list _ => n == "list"
  | .tuple _ => n == "tuple"
  | .dict _ => n == "dict"
theorem kitTh (d : PyData) : kitB (tyName d) "str" = some (isK d "str") ∧ kitB (tyName d) "int" = some (isK d "int") ∧ kitB (tyName d) "bool" = some (isK d "bool") ∧ kitB (tyName d) "list" = some (isK d "list") ∧ kitB (tyName d) "tuple" = some (isK d "tuple") ∧ kitB (tyName d) "dict" = some (isK d "dict") := by
  cases d <;> (simp only [tyName, isK]; decide +kernel)
section
variable {X : Cx} {H : Hp} {Q : VK} {v : V} {d : PyData}
theorem k_isStr (h : Th X.K H v d) (q : Q (.bl (isK d "str")) H) : kW X (.builtin "isinstance") [v, .ty "str"] H Q := k_isB h.ty (kitTh d).1 q
theorem k_isInt (h : Th X.K H v d) (q : Q (.bl (isK d "int")) H) : kW X (.builtin "isinstance") [v, .ty "int"] H Q := k_isB h.ty (kitTh d).2.1 q
theorem k_isBool (h : Th X.K H v d) (q : Q (.bl (isK d "bool")) H) : kW X (.builtin "isinstance") [v, .ty "bool"] H Q := k_isB h.ty (kitTh d).2.2.1 q
theorem k_isList (h : Th X.K H v d) (q : Q (.bl (isK d "list")) H) : kW X (.builtin "isinstance") [v, .ty "list"] H Q := k_isB h.ty (kitTh d).2.2.2.1 q
theorem k_isTuple (h : Th X.K H v d) (q : Q (.bl (isK d "tuple")) H) : kW X (.builtin "isinstance") [v, .ty "tuple"] H Q := k_isB h.ty (kitTh d).2.2.2.2.1 q
theorem k_isDict (h : Th X.K H v d) (q : Q (.bl (isK d "dict")) H) : kW X (.builtin "isinstance") [v, .ty "dict"] H Q := k_isB h.ty (kitTh d).2.2.2.2.2 q
end
/-- what is tracked stands so in a greater heap -/
theorem sq_more {K : PySem.W.Frag} {H H' : Hp} {a : Addr} {xs : List V} (s : Same H H') (h : SqT K H a xs) : SqT K H' a xs := by
  rcases h with (h | ⟨o, h⟩) | h
  · exact .inl (.inl (s _ _ h))
  · exact .inl (.inr ⟨o, s _ _ h⟩)
  · exact .inr h
mutual
theorem Th.more {K : PySem.W.Frag} {H H' : Hp} (s : Same H H') : ∀ (d : PyData) (v : V), Th K H v d → Th K H' v d
  | .none, _, h => by cases h; exact .non
  | .bool _, _, h => by cases h; exact .bl _
  | .int _, _, h => by cases h; exact .int _
  | .str _, _, h => by cases h with | str _ h => exact .str _ h
  | .list ds, _, h => by cases h with | lst hs ha => exact .lst (s.seq hs) (ThAll.more s ds _ ha)
  | .tuple ds, _, h => by cases h with | tup hs ha => exact .tup (sq_more s hs) (ThAll.more s ds _ ha)
  | .dict _, _, h => by cases h with | dct hd => exact .dct (s _ _ hd)
theorem ThAll.more {K : PySem.W.Frag} {H H' : Hp} (s : Same H H') : ∀ (ds : List PyData) (vs : List V), ThAll K H vs ds → ThAll K H' vs ds
  | [], _, h => by cases h; exact .nil
  | d :: ds, _, h => by cases h with | cons h1 h2 => exact .cons (Th.more s d _ h1) (ThAll.more s ds _ h2)
end
theorem ThAll.len {K : PySem.W.Frag} {H : Hp} : ∀ {vs : List V} {ds : List PyData}, ThAll K H vs ds → vs.length = ds.length
  | _, _, .nil => rfl
  | _, _, .cons _ h => congrArg (· + 1) h.len
theorem ThAll.get {K : PySem.W.Frag} {H : Hp} : ∀ {vs : List V} {ds : List PyData} {i : Nat} {v : V}, ThAll K H vs ds → vs[i]? = some v → ∃ d, ds[i]? = some d ∧ Th K H v d
  | _, _, _, _, .nil, e => by simp at e
  | _, _, 0, _, .cons h _, e => by simp at e; subst e; exact ⟨_, rfl, h⟩
  | _, _, i + 1, v, .cons _ t, e => by
    obtain ⟨d, h1, h2⟩ := ThAll.get (i := i) (v := v) t (by simpa using e)
    exact ⟨d, by simpa using h1, h2⟩
theorem all_snoc {α : Type} {p : α → Bool} {l : List α} {i : Nat} {x : α} (h : l[i]? = some x) : (l.take (i + 1)).all p = ((l.take i).all p && p x) := by
  have hl := (List.getElem?_eq_some_iff.mp h).1
  have e := (List.getElem?_eq_some_iff.mp h).2
  rw [← List.take_append_getElem hl, List.all_append, e]
  simp
theorem all_cut {α : Type} {p : α → Bool} {l : List α} {i : Nat} {x : α} (h : l[i]? = some x) (hx : p x = false) : l.all p = false := by
  have hm := List.mem_of_getElem? h
  cases e : l.all p with
  | false => rfl
  | true => rw [List.all_eq_true.mp e x hm] at hx; cases hx
theorem sz1m {n : Nat} (h : n ≤ 1000000) : n ≤ sizeLine := Nat.le_trans h (by decide)
theorem lt1 (a b : Nat) : ([a] < [b]) ↔ a < b := by simp [List.cons_lt_cons_iff]
section
variable {X : Cx} {σ : L2.St} {H : Hp} {Q : VK} {D : Ends} {pos p2 p3 p4 p5 : Pos} {it tg elt c : Expr}
/-- a comprehension whose elements are told one by one and track nothing that a turn could change -/
theorem e_lcM {sc : Scope} {N : List Str} {own : List (Str × Nat)} [cc : CxC X] [cn : CxN X N] [nd : NdN N] (ok : BlkOk N X.env.scope sc own)
    (h : jW X tg it σ H fun J H1 => ∃ n G Y, Walk J n G Y ∧ ∃ ys : List V, ys.length = n ∧ ys.length ≤ 100000 ∧ (∀ H', Same H1 H' → G H') ∧
      (∀ i x H' H2, i < n → Same H1 H' → Y i H' x H2 → Same H' H2 ∧ gB X sc tg x (wipe σ (own.map (·.2))) H2 fun σ3 H3 => wipe σ3 (own.map (·.2)) = wipe σ (own.map (·.2)) ∧ Same H2 H3 ∧ eB X sc elt σ3 H3 fun y H4 => ys[i]? = some y ∧ Same H3 H4) ∧
      ∀ l H', Same H1 H' → H1 l = none → H' l = some (.lst ys) → Q (.ref l) H') (hs : ∀ x, foldedSetIterable it X.env x = pure x := by intro _; rfl) : eW X (.ListComp elt [⟨tg, it, [], 0⟩] sc pos) σ H Q := by
  refine e_lc ok ⟨fun pins s I => wpAny_mono (h.run pins s I) (fun v s1 q => wpAny_mono q (fun u s2 ⟨i, fp, tn, J, H2, e, I2, T, t0, f2, n, G, Y, w, ys, hl, hn, q1, q2, q3⟩ => ⟨i, fp, tn, J, H2, e, I2, T, t0, f2, n, G, Y, w, fun D' hD => ⟨fun i H' => Same H2 H' ∧ H' D' = some (.lst (ys.take i)), ⟨fun b o e => by rw [upd_ne (ne_of_none e hD)]; exact e, upd_same⟩, fun _ _ _ p => q1 _ p.1, fun i x H' H3 hi p y s0 H0 C cl fp => ?_, fun H' p => q3 D' H' p.1 hD (by rw [p.2, ← hl, List.take_length])⟩⟩) fun _ _ z => z) fun _ _ z => z⟩ hs
  obtain ⟨k1, k2⟩ := q2 i x H' H3 hi p.1 y
  refine ⟨fun pins s' u I r => wpAny_mono ((k2 s0 H0 C cl fp).run pins s' u I r) (fun _ s'' ⟨σ', H'', I'', e1, e2, e3⟩ => ⟨σ', H'', I'', e1, fun s0 H0 C cl fp => ⟨fun pins s' I => wpAny_mono ((e3 s0 H0 C cl fp).run pins s' I) (fun u s4 ⟨v4, H4, I4, r4, ev, e4⟩ => ⟨v4, H4, I4, r4, ys.take i, e4 _ _ (e2 _ _ (k1 _ _ p.2)), ?_, ?_, ?_⟩) fun _ _ z => z⟩⟩) fun _ _ z => z⟩
  · rw [List.length_take]
    exact Nat.lt_of_le_of_lt (Nat.min_le_left _ _) (Nat.lt_of_lt_of_le (Nat.lt_of_lt_of_le (hl ▸ hi) hn) (by decide))
  · intro b o e
    rw [upd_ne (ne_of_none e hD)]
    exact e4 _ _ (e2 _ _ (k1 _ _ (p.1 _ _ e)))
  · rw [upd_same]
    have q := (List.getElem?_eq_some_iff.mp ev).1
    rw [← List.take_append_getElem q, (List.getElem?_eq_some_iff.mp ev).2]
/-- a comprehension whose elements are told by a word of the turn and the element -/
theorem e_lcP {sc : Scope} {N : List Str} {own : List (Str × Nat)} [cc : CxC X] [cn : CxN X N] [nd : NdN N] (ok : BlkOk N X.env.scope sc own) (Pr : Nat → V → Prop)
    (h : jW X tg it σ H fun J H1 => ∃ n G Y, Walk J n G Y ∧ n ≤ 100000 ∧ (∀ H', Same H1 H' → G H') ∧
      (∀ i x H' H2, i < n → Same H1 H' → Y i H' x H2 → Same H' H2 ∧ gB X sc tg x (wipe σ (own.map (·.2))) H2 fun σ3 H3 => wipe σ3 (own.map (·.2)) = wipe σ (own.map (·.2)) ∧ Same H2 H3 ∧ eB X sc elt σ3 H3 fun y H4 => Pr i y ∧ Same H3 H4) ∧
      ∀ l H' ys, Same H1 H' → H1 l = none → H' l = some (.lst ys) → ys.length = n → (∀ i y, ys[i]? = some y → Pr i y) → Q (.ref l) H') (hs : ∀ x, foldedSetIterable it X.env x = pure x := by intro _; rfl) : eW X (.ListComp elt [⟨tg, it, [], 0⟩] sc pos) σ H Q := by
  refine e_lc ok ⟨fun pins s I => wpAny_mono (h.run pins s I) (fun v s1 q => wpAny_mono q (fun u s2 ⟨i, fp, tn, J, H2, e, I2, T, t0, f2, n, G, Y, w, hn, q1, q2, q3⟩ => ⟨i, fp, tn, J, H2, e, I2, T, t0, f2, n, G, Y, w, fun D' hD => ⟨fun i H' => Same H2 H' ∧ ∃ acc, H' D' = some (.lst acc) ∧ acc.length = i ∧ ∀ j z, acc[j]? = some z → Pr j z, ⟨fun b o e => by rw [upd_ne (ne_of_none e hD)]; exact e, [], upd_same, rfl, by simp⟩, fun _ _ _ p => q1 _ p.1, fun i x H' H3 hi p y s0 H0 C cl fp => ?_, fun H' p => by
    obtain ⟨p1, acc, p2, p3, p4⟩ := p
    exact q3 D' H' acc p1 hD p2 p3 p4⟩⟩) fun _ _ z => z) fun _ _ z => z⟩ hs
  obtain ⟨k1, k2⟩ := q2 i x H' H3 hi p.1 y
  obtain ⟨p1, acc, p2, p3, p4⟩ := p
  refine ⟨fun pins s' u I r => wpAny_mono ((k2 s0 H0 C cl fp).run pins s' u I r) (fun _ s'' ⟨σ', H'', I'', e1, e2, e3⟩ => ⟨σ', H'', I'', e1, fun s0 H0 C cl fp => ⟨fun pins s' I => wpAny_mono ((e3 s0 H0 C cl fp).run pins s' I) (fun u s4 ⟨v4, H4, I4, r4, ev, e4⟩ => ⟨v4, H4, I4, r4, acc, e4 _ _ (e2 _ _ (k1 _ _ p2)), ?_, ?_, acc ++ [v4], upd_same, ?_, ?_⟩) fun _ _ z => z⟩⟩) fun _ _ z => z⟩
  · rw [p3]
    exact Nat.lt_of_lt_of_le (Nat.lt_of_lt_of_le hi hn) (by decide)
  · intro b o e
    rw [upd_ne (ne_of_none e hD)]
    exact e4 _ _ (e2 _ _ (k1 _ _ (p1 _ _ e)))
  · rw [List.length_append, p3]; rfl
  · intro j z hz
    by_cases hj : j < i
    · rw [List.getElem?_append_left (by omega)] at hz
      exact p4 j z hz
    · rw [List.getElem?_append_right (by omega), p3] at hz
      have hj2 : j = i := by
        have := (List.getElem?_eq_some_iff.mp hz).1
        simp at this
        omega
      subst hj2
      simp at hz
      rw [← hz]
      exact ev
theorem s_setLcP {sc : Scope} {N : List Str} {own : List (Str × Nat)} {y : Str} {i : Nat} [cc : CxC X] [cn : CxN X N] [sl : Slt N y i] [nd : NdN N] (ok : BlkOk N X.env.scope sc own) (Pr : Nat → V → Prop)
    (h : jW X tg it σ H fun J H1 => ∃ n G Y, Walk J n G Y ∧ n ≤ 100000 ∧ (∀ H', Same H1 H' → G H') ∧
      (∀ i x H' H2, i < n → Same H1 H' → Y i H' x H2 → Same H' H2 ∧ gB X sc tg x (wipe σ (own.map (·.2))) H2 fun σ3 H3 => wipe σ3 (own.map (·.2)) = wipe σ (own.map (·.2)) ∧ Same H2 H3 ∧ eB X sc elt σ3 H3 fun y H4 => Pr i y ∧ Same H3 H4) ∧
      ∀ l H' ys, Same H1 H' → H1 l = none → H' l = some (.lst ys) → ys.length = n → (∀ i y, ys[i]? = some y → Pr i y) → D.nx (σ.set i (some (.ref l))) H') (hyl : X.env.scope.names.lookup y = some .local := by rfl)
    (hsw : swapsWith (.ListComp elt [⟨tg, it, [], 0⟩] sc pos) (some (.Name y p2)) p3.line X.env = pure true := by exact sw_true rfl rfl rfl (by decide +kernel)) (hs : ∀ x, foldedSetIterable it X.env x = pure x := by intro _; rfl) : sW X (.Assign [.Name y p2] (.ListComp elt [⟨tg, it, [], 0⟩] sc pos) p3) D σ H := by
  refine s_setLc ok ⟨fun pins s I => wpAny_mono (h.run pins s I) (fun v s1 q => wpAny_mono q (fun u s2 ⟨i, fp, tn, J, H2, e, I2, T, t0, f2, n, G, Y, w, hn, q1, q2, q3⟩ => ⟨i, fp, tn, J, H2, e, I2, T, t0, f2, n, G, Y, w, fun D' hD => ⟨fun i H' => Same H2 H' ∧ ∃ acc, H' D' = some (.lst acc) ∧ acc.length = i ∧ ∀ j z, acc[j]? = some z → Pr j z, ⟨fun b o e => by rw [upd_ne (ne_of_none e hD)]; exact e, [], upd_same, rfl, by simp⟩, fun _ _ _ p => q1 _ p.1, fun i x H' H3 hi p y s0 H0 C cl fp => ?_, fun H' p => by
    obtain ⟨p1, acc, p2, p3, p4⟩ := p
    exact q3 D' H' acc p1 hD p2 p3 p4⟩⟩) fun _ _ z => z) fun _ _ z => z⟩ hyl hsw hs
  obtain ⟨k1, k2⟩ := q2 i x H' H3 hi p.1 y
  obtain ⟨p1, acc, p2, p3, p4⟩ := p
  refine ⟨fun pins s' u I r => wpAny_mono ((k2 s0 H0 C cl fp).run pins s' u I r) (fun _ s'' ⟨σ', H'', I'', e1, e2, e3⟩ => ⟨σ', H'', I'', e1, fun s0 H0 C cl fp => ⟨fun pins s' I => wpAny_mono ((e3 s0 H0 C cl fp).run pins s' I) (fun u s4 ⟨v4, H4, I4, r4, ev, e4⟩ => ⟨v4, H4, I4, r4, acc, e4 _ _ (e2 _ _ (k1 _ _ p2)), ?_, ?_, acc ++ [v4], upd_same, ?_, ?_⟩) fun _ _ z => z⟩⟩) fun _ _ z => z⟩
  · rw [p3]
    exact Nat.lt_of_lt_of_le (Nat.lt_of_lt_of_le hi hn) (by decide)
  · intro b o e
    rw [upd_ne (ne_of_none e hD)]
    exact e4 _ _ (e2 _ _ (k1 _ _ (p1 _ _ e)))
  · rw [List.length_append, p3]; rfl
  · intro j z hz
    by_cases hj : j < i
    · rw [List.getElem?_append_left (by omega)] at hz
      exact p4 j z hz
    · rw [List.getElem?_append_right (by omega), p3] at hz
      have hj2 : j = i := by
        have := (List.getElem?_eq_some_iff.mp hz).1
        simp at this
        omega
      subst hj2
      simp at hz
      rw [← hz]
      exact ev
/-- raise X('..') -/
theorem s_raise {x m : Str} {C : Addr} {j : Nat} {W : WX} [cc : CxC X] [ct : CxT X W] (T : ExcF X.K X.mg x C) (h : W (.ref C) none σ H) (hg : Gl X x := by rfl) (hdb : (x == ("__debug__" : Str)) = false := by decide) : sW X (.Raise (some (.Call (.Name x p2) [.Constant (.str m) j p3] [] p4)) none pos) D σ H :=
  sI (ps_raise cc.h ct.h (pmk_own PySem.F.excBase_ValueError T.ex T.mg T.kp (raises_own T.be T.ty) hg hdb)) h
end
theorem range_map {α β : Type} (f : α → β) (d : β) : ∀ (l : List α), (List.range l.length).map (fun i => (l[i]?.map f).getD d) = l.map f
  | [] => rfl
  | a :: l => by
    rw [List.length_cons, List.range_succ_eq_map, List.map_cons, List.map_map, List.map_cons, ← range_map f d l]
    simp [Function.comp_def]
theorem sIx_nn (n d : Nat) {i : Int} (h : 0 ≤ i) : HT.sIx n d (some i) = min i.toNat n := by
  show (if i < 0 then (i + (n : Int)).toNat else min i.toNat n) = _
  rw [if_neg (by omega)]
theorem cutL_from {α : Type} (xs : List α) {n : Nat} (hn : xs.length = n) {i : Int} (h : 0 ≤ i) : (xs.drop (HT.sIx n 0 (some i))).take (HT.sIx n n none - HT.sIx n 0 (some i)) = xs.drop i.toNat := by
  rw [sIx_nn _ _ h, HT.sIx_none, ← hn]
  by_cases k : i.toNat ≤ xs.length
  · rw [Nat.min_eq_left k, List.take_of_length_le (by rw [List.length_drop]; omega)]
  · rw [Nat.min_eq_right (by omega), List.drop_length, List.drop_of_length_le (by omega)]
    simp
theorem cutL_to {α : Type} (xs : List α) {n : Nat} (hn : xs.length = n) {i : Int} (h : 0 ≤ i) : (xs.drop (HT.sIx n 0 none)).take (HT.sIx n n (some i) - HT.sIx n 0 none) = xs.take i.toNat := by
  rw [sIx_nn _ _ h, HT.sIx_none, ← hn, List.drop_zero, Nat.sub_zero]
  by_cases k : i.toNat ≤ xs.length
  · rw [Nat.min_eq_left k]
  · rw [Nat.min_eq_right (by omega), List.take_length, List.take_of_length_le (by omega)]
theorem cutL_mid {α : Type} (xs : List α) {n : Nat} (hn : xs.length = n) {i j : Int} (h : 0 ≤ i) (h2 : i ≤ j) : (xs.drop (HT.sIx n 0 (some i))).take (HT.sIx n n (some j) - HT.sIx n 0 (some i)) = (xs.drop i.toNat).take (j.toNat - i.toNat) := by
  rw [sIx_nn _ _ h, sIx_nn _ _ (by omega), ← hn]
  by_cases k : i.toNat ≤ xs.length
  · rw [Nat.min_eq_left k]
    by_cases k2 : j.toNat ≤ xs.length
    · rw [Nat.min_eq_left k2]
    · rw [Nat.min_eq_right (by omega), List.take_of_length_le (by rw [List.length_drop]; omega), List.take_of_length_le (by rw [List.length_drop]; omega)]
  · rw [Nat.min_eq_right (a := i.toNat) (by omega), List.drop_length, List.drop_of_length_le (by omega)]
    simp
theorem cutV_from (xs : List V) {i : Int} (h : 0 ≤ i) : cutV xs (some i) none = xs.drop i.toNat := cutL_from xs rfl h
theorem cutV_to (xs : List V) {i : Int} (h : 0 ≤ i) : cutV xs none (some i) = xs.take i.toNat := cutL_to xs rfl h
theorem cutV_mid (xs : List V) {i j : Int} (h : 0 ≤ i) (h2 : i ≤ j) : cutV xs (some i) (some j) = (xs.drop i.toNat).take (j.toNat - i.toNat) := cutL_mid xs rfl h h2
theorem cutV_last (xs : List V) : cutV xs none (some (-1)) = xs.dropLast := by
  have h : HT.sIx xs.length xs.length (some (-1)) = xs.length - 1 := by
    show (if (-1 : Int) < 0 then (-1 + (xs.length : Int)).toNat else min (-1 : Int).toNat xs.length) = _
    rw [if_pos (by decide)]
    omega
  unfold cutV
  rw [h, HT.sIx_none, List.drop_zero, Nat.sub_zero, List.dropLast_eq_take]
theorem cutS_from (z : Str) {i : Int} (h : 0 ≤ i) : tl (cutS z (some i) none) = (tl z).drop i.toNat := cutL_from (tl z) (len_tl z).symm h
theorem cutS_to (z : Str) {i : Int} (h : 0 ≤ i) : tl (cutS z none (some i)) = (tl z).take i.toNat := cutL_to (tl z) (len_tl z).symm h
theorem cutS_mid (z : Str) {i j : Int} (h : 0 ≤ i) (h2 : i ≤ j) : tl (cutS z (some i) (some j)) = ((tl z).drop i.toNat).take (j.toNat - i.toNat) := cutL_mid (tl z) (len_tl z).symm h h2

/-! ### data that == may be asked of -/
structure Sh (k : Nat) (d : PyData) : Prop where
  can : d.canLay0 = true
  dep : d.depth ≤ k
theorem Sh.int {k : Nat} (i : Int) : Sh k (.int i) := ⟨rfl, Nat.zero_le _⟩
theorem Sh.bl {k : Nat} (i : Bool) : Sh k (.bool i) := ⟨rfl, Nat.zero_le _⟩
theorem Sh.non {k : Nat} : Sh k .none := ⟨rfl, Nat.zero_le _⟩
theorem Sh.str {k : Nat} {z : Str} (h : ∀ c ∈ tl z, c < 1114112) : Sh k (.str z) := ⟨by
  show z.cps.all (· < 0x110000) = true
  rw [← Array.all_toList]
  exact List.all_eq_true.mpr fun c hc => decide_eq_true (h c hc), Nat.zero_le _⟩
theorem can_all : ∀ {ds : List PyData}, (∀ d ∈ ds, d.canLay0 = true) → PyData.canLayAll0 ds = true
  | [], _ => rfl
  | d :: ds, h => by
    show (d.canLay0 && PyData.canLayAll0 ds) = true
    rw [h d (List.mem_cons_self ..), can_all fun x hx => h x (List.mem_cons_of_mem _ hx)]
    rfl
theorem depth_all {k : Nat} : ∀ {ds : List PyData}, (∀ d ∈ ds, d.depth ≤ k) → PyData.depthAll ds ≤ k
  | [], _ => Nat.zero_le _
  | d :: ds, h => by
    show max d.depth (PyData.depthAll ds) ≤ k
    exact Nat.max_le.mpr ⟨h d (List.mem_cons_self ..), depth_all fun x hx => h x (List.mem_cons_of_mem _ hx)⟩
theorem Sh.lst {k : Nat} {ds : List PyData} (h : ∀ d ∈ ds, Sh k d) : Sh (k + 1) (.list ds) := ⟨can_all fun d hd => (h d hd).can, Nat.succ_le_succ (depth_all fun d hd => (h d hd).dep)⟩
theorem Sh.tup {k : Nat} {ds : List PyData} (h : ∀ d ∈ ds, Sh k d) : Sh (k + 1) (.tuple ds) := ⟨can_all fun d hd => (h d hd).can, Nat.succ_le_succ (depth_all fun d hd => (h d hd).dep)⟩
theorem Sh.ok {k : Nat} {d : PyData} (h : Sh k d) (hk : k ≤ 64 := by decide) : SeqAt.shaped d = true := by
  show (d.canLay0 && decide (d.depth ≤ 64)) = true
  rw [h.can, decide_eq_true (Nat.le_trans h.dep hk)]
  rfl
theorem Sh.refl {k : Nat} {d : PyData} (h : Sh k d) : PyData.eqv d d = true := SeqAt.eqv_refl d h.can
theorem dp_strs {K : PySem.W.Frag} {H : Hp} : ∀ (l : List Str), DpAll K H (l.map V.str) (l.map PyData.str)
  | [] => .nil
  | z :: l => .cons (.str z) (dp_strs l)
theorem dp_ints {K : PySem.W.Frag} {H : Hp} : ∀ (l : List Int), DpAll K H (l.map V.int) (l.map PyData.int)
  | [] => .nil
  | z :: l => .cons (.int z) (dp_ints l)

/-! ### what kind of goal stands here -/
/-- a word of one value, once for all that follows -/
theorem eVia {X : Cx} {e : Expr} {σ : L2.St} {H : Hp} {Q : VK} (v : V) (h1 : ∀ Q' : VK, Q' v H → eW X e σ H Q') (h2 : Q v H) : eW X e σ H Q := h1 Q h2
/-- .., where the heap may grow -/
theorem eViaS {X : Cx} {e : Expr} {σ : L2.St} {H : Hp} {Q : VK} (P : V → Hp → Prop) (h1 : ∀ Q' : VK, (∀ v H', P v H' → Q' v H') → eW X e σ H Q') (h2 : ∀ v H', P v H' → Q v H') : eW X e σ H Q := h1 Q h2
theorem oMono {X : Cx} {f : Value → Value → Sem Value} {x y : V} {H : Hp} {Q Q' : VK} (h : oW X f x y H Q) (i : ∀ v H', Q v H' → Q' v H') : oW X f x y H Q' := ⟨fun pins s σ v u I rx ry => wpAny_mono (h.run pins s σ v u I rx ry) (fun _ _ ⟨v, H', a, b, c⟩ => ⟨v, H', a, b, i v H' c⟩) fun _ _ x => x⟩
theorem e_chainJ {X : Cx} {σ : L2.St} {H : Hp} {Q : VK} {pos : Pos} {a b c : Expr} {op op' : CmpOp} {d : Bool} (h : eW X a σ H fun x H1 => eW X b σ H1 fun y H2 => oW X (compareOp op) x y H2 fun z H3 => ∃ k, z = .bl k ∧ (k = true → ∀ Q' : VK, Q' (.bl d) H3 → eW X c σ H3 (fun w' H4 => oW X (compareOp op') y w' H4 Q')) ∧ Q (.bl (k && d)) H3)
    (hm : lastMarks [op, op'] [b, c] = false := by with_unfolding_all rfl) : eW X (.Compare a [op, op'] [b, c] pos) σ H Q :=
  e_chain (eMono h fun x H1 h1 => eMono h1 fun y H2 h2 => oMono h2 fun z H3 ⟨k, e, h3, q⟩ => ⟨k, e, by
    cases k with
    | true => exact iteT (h3 rfl _ q)
    | false => exact iteF q⟩) hm
theorem s_augA {X : Cx} {σ : L2.St} {H : Hp} {D : Ends} {pos p2 : Pos} {e : Expr} {N : List Str} {x : Str} {i : Nat} {v : Int} [cn : CxN X N] [sl : Slt N x i] [nd : NdN N] (hs : σ[i]? = some (some (.int v))) (h : eW X e σ H fun y H1 => ∃ j, y = .int j ∧ D.nx (σ.set i (some (.int (v + j)))) H1) (hx : Loc X.env.scope x := by first | exact Or.inl rfl | exact Or.inr rfl)
    (hf : X.fn x = true ∨ X.env.scope.names.lookup x = some .local := by first | exact .inl rfl | exact .inr rfl | assumption) : sW X (.AugAssign (.Name x p2) .Add e pos) D σ H :=
  sI (ps_aug (i := i) (by rw [cn.h]; exact nd.h) (by rw [cn.h]; exact sl.h) hx PEw ip_add hf) ⟨.int v, hs, eMono h fun y H1 ⟨j, e, q⟩ => ⟨v, j, rfl, e, q⟩⟩
theorem e_neg {X : Cx} {a : Expr} {σ : L2.St} {H : Hp} {Q : VK} {pos : Pos} (h : eW X a σ H fun x H1 => ∃ i, x = .int i ∧ Q (.int (-i)) H1) : eW X (.UnaryOp .USub a pos) σ H Q := e_un (eMono h fun x H1 ⟨i, e, q⟩ => by subst e; exact u_neg q)
/-- a test of one truth, once for all that follows -/
theorem tVia {X : Cx} {e : Expr} {σ : L2.St} {H : Hp} {R : Bool → Hp → Prop} (b : Bool) (P : Hp → Prop) (h1 : ∀ R' : Bool → Hp → Prop, (∀ H', P H' → R' b H') → tW X e σ H R') (h2 : ∀ H', P H' → R b H') : tW X e σ H R := h1 R h2
/-! ### dict displays -/
theorem sameU {H : Hp} {p : Addr} {o : HO} (hp : H p = none) : Same H (upd H p o) := fun x u e => by rw [upd_ne (ne_of_none e hp)]; exact e
section
variable {X : Cx} {σ : L2.St} {H : Hp} {Q : VK} {pos : Pos} {a b : Expr}
theorem e_dct0 (h : ∀ p H2, Same H H2 → H p = none → H2 p = some (.dK []) → (∀ b, b ≠ p → H2 b = H b) → Q (.ref p) H2) : eW X (.Dict [] [] pos) σ H Q :=
  eI pe_dnewK fun p hp => h p _ (sameU hp) hp upd_same fun _ hb => upd_ne hb
theorem e_dct1 (h : ∀ p H', Same H H' → H p = none → H' p = some (.dK []) → (∀ b, b ≠ p → H' b = H b) → eW X a σ H' fun x H1 => eW X b σ H1 fun y H2 => H2 p = some (.dK []) ∧ ∃ k : Key, x = kV k ∧ ∀ H3, H3 p = some (.dK (mergeK [] [(k, y)])) → (∀ b, b ≠ p → H3 b = H2 b) → Q (.ref p) H3) : eW X (.Dict [some a] [b] pos) σ H Q :=
  eI (pe_disp (pps_cons PEw PEw pps_nil) rfl rfl (fun z => nomatch z) (Nat.le_of_ble_eq_true rfl)) fun p hp => eMono (h p _ (sameU hp) hp upd_same fun _ hb => upd_ne hb) fun x H1 h1 => eMono h1 fun y H2 ⟨e, k, ek, q⟩ => ⟨e, [(k, y)], by rw [ek]; rfl, Nat.le_of_ble_eq_true rfl, q _ upd_same fun _ hb => upd_ne hb⟩
end
/-! ### tuples: parts and sums; dicts -/
/-- all that is a tuple stays -/
def TS (H H' : Hp) : Prop := ∀ b xs, H b = some (.tup xs) → H' b = some (.tup xs)
theorem TS.refl (H : Hp) : TS H H := fun _ _ h => h
theorem TS.trans {H H1 H2 : Hp} (a : TS H H1) (b : TS H1 H2) : TS H H2 := fun c o h => b c o (a c o h)
theorem Same.ts {H H' : Hp} (s : Same H H') : TS H H' := fun _ _ h => s _ _ h
/-- a list's or dict's place is stored anew: tuples stay -/
theorem TS.but {H H' : Hp} {l : Addr} {o : HO} (h : H l = some o) (hn : ∀ xs, o ≠ .tup xs) (k : ∀ b, b ≠ l → H' b = H b) : TS H H' := fun b xs e => by
  rw [k b fun z => hn xs (by rw [z, h] at e; exact Option.some.inj e)]
  exact e
theorem TS.butL {H H' : Hp} {l : Addr} {ys : List V} (h : H l = some (.lst ys)) (k : ∀ b, b ≠ l → H' b = H b) : TS H H' := TS.but h (fun _ z => nomatch z) k
theorem TS.butD {H H' : Hp} {l : Addr} {ys : List (Key × V)} (h : H l = some (.dK ys)) (k : ∀ b, b ≠ l → H' b = H b) : TS H H' := TS.but h (fun _ z => nomatch z) k
section
variable {X : Cx} {σ : L2.St} {H : Hp} {Q : VK} {pos p2 : Pos} {p q : Addr} {xs ys : List V} {lo hi : Option Int}
theorem n_tup (h : H p = some (.tup xs)) (k : ∀ t H2, Same H H2 → H2 t = some (.tup (cutV xs lo hi)) → Q (.ref t) H2) : nW X (.ref p) lo hi H Q :=
  nI sl_tupA ⟨p, xs, rfl, SqT.of h, fun ⟨e1, e2⟩ => k p H (Same.refl _) (by
    have e : cutV xs lo hi = xs := by
      unfold cutV
      rw [e1, e2, List.drop_zero, Nat.sub_zero, List.take_length]
    rw [e]; exact h), fun _ t ht => k t _ (sameU ht) upd_same⟩
theorem n_tupS (h : SqT X.K H p xs) (k : ∀ t H2, Same H H2 → SqT X.K H2 t (cutV xs lo hi) → Q (.ref t) H2) : nW X (.ref p) lo hi H Q :=
  nI sl_tupA ⟨p, xs, rfl, h, fun ⟨e1, e2⟩ => k p H (Same.refl _) (by
    have e : cutV xs lo hi = xs := by
      unfold cutV
      rw [e1, e2, List.drop_zero, Nat.sub_zero, List.take_length]
    rw [e]; exact h), fun _ t ht => k t _ (sameU ht) (SqT.of upd_same)⟩
theorem o_catT (h1 : H p = some (.tup xs)) (h2 : H q = some (.tup ys)) (hz : xs.length + ys.length ≤ 100000) (k : ∀ t H2, Same H H2 → H2 t = some (.tup (xs ++ ys)) → Q (.ref t) H2) : oW X (binaryOp .Add) (.ref p) (.ref q) H Q :=
  oI op_catA ⟨p, q, xs, ys, rfl, rfl, SqT.of h1, SqT.of h2, Nat.le_trans hz (by decide), fun e => k q H (Same.refl _) (by rw [e]; exact h2), fun _ e => k p H (Same.refl _) (by rw [e, List.append_nil]; exact h1), fun _ _ t ht => k t _ (sameU ht) upd_same⟩
theorem k_listD {d : Addr} {kvs : List (Key × V)} [cc : CxC X] (h : H d = some (.dK kvs)) (k : ∀ l H2, Same H H2 → H l = none → H2 l = some (.lst (kvs.map fun kv => kV kv.1)) → (∀ b, b ≠ l → H2 b = H b) → Q (.ref l) H2) : kW X (.type "list") [.ref d] H Q :=
  kI (call_listD cc.h) ⟨d, kvs, rfl, .inl h, fun l hl => k l _ (sameU hl) hl upd_same fun b hb => upd_ne hb⟩
/-- o[i] = v, o a dict whose keys are ints and texts -/
theorem g_setD {o i : Expr} {v : V} {R : L2.St → Hp → Prop} (hu : X.A.units + 1 < cLine) (h : eW X o σ H fun x H1 => eW X i σ H1 fun y H2 => ∃ d kvs k, x = .ref d ∧ H2 d = some (.dK kvs) ∧ y = kV k ∧ kvs.length ≤ 100000 ∧ ∀ H3, H3 d = some (.dK (putK kvs k v)) → (∀ b, b ≠ d → H3 b = H2 b) → R σ H3)
    (ha : ∀ v, assign (.Subscript o i pos) X.env v = (holding [v] (eval o X.env) >>= fun ov => holding [v, ov] (eval i X.env) >>= fun iv => standAt pos >>= fun _ => holding [v, ov, iv] (setItem ov iv v) >>= fun _ => release [v, ov, iv] []) := by intro _; rfl) : gW X (.Subscript o i pos) v σ H R :=
  gI (pg_sub PEw PEw (set_dict hu) ha) (eMono h fun x H1 h1 => eMono h1 fun y H2 ⟨d, kvs, k, e1, e2, e3, e4, q⟩ => ⟨d, _, e1, by rw [e3]; exact .k e2 (Nat.lt_of_le_of_lt e4 (by decide)), q _ upd_same fun b hb => upd_ne hb⟩)
theorem g_setL {o i : Expr} {v : V} {R : L2.St → Hp → Prop} (h : eW X o σ H fun x H1 => eW X i σ H1 fun y H2 => ∃ p xs k j, x = .ref p ∧ y = .int k ∧ H2 p = some (.lst xs) ∧ ixN xs.length k = some j ∧ ∀ H3, H3 p = some (.lst (xs.set j v)) → (∀ b, b ≠ p → H3 b = H2 b) → R σ H3)
    (ha : ∀ v, assign (.Subscript o i pos) X.env v = (holding [v] (eval o X.env) >>= fun ov => holding [v, ov] (eval i X.env) >>= fun iv => standAt pos >>= fun _ => holding [v, ov, iv] (setItem ov iv v) >>= fun _ => release [v, ov, iv] []) := by intro _; rfl) : gW X (.Subscript o i pos) v σ H R :=
  gI (pg_sub PEw PEw set_list ha) (eMono h fun x H1 h1 => eMono h1 fun y H2 ⟨p, xs, k, j, e1, e2, e3, e4, q⟩ => ⟨p, xs, k, j, e1, e2, e3, e4, q _ upd_same fun b hb => upd_ne hb⟩)
/-- a comprehension, its elements by a word of the heap that holds while tuples stay -/
theorem lcH_h {it tg elt : Expr} {sc : Scope} {own : List (Str × Nat)} {R : Addr → Hp → Prop} (Pr : Nat → V → Hp → Prop) (hP : ∀ i y H H', TS H H' → Pr i y H → Pr i y H')
    (h : jW X tg it σ H fun J H1 => ∃ n G Y, Walk J n G Y ∧ n ≤ 100000 ∧ (∀ H', Same H1 H' → G H') ∧
      (∀ i x H' H2, i < n → Same H1 H' → Y i H' x H2 → Same H' H2 ∧ gB X sc tg x (wipe σ (own.map (·.2))) H2 fun σ3 H3 => wipe σ3 (own.map (·.2)) = wipe σ (own.map (·.2)) ∧ Same H2 H3 ∧ eB X sc elt σ3 H3 fun y H4 => Pr i y H4 ∧ Same H3 H4) ∧
      ∀ l H' ys, Same H1 H' → H1 l = none → H' l = some (.lst ys) → ys.length = n → (∀ i y, ys[i]? = some y → Pr i y H') → R l H') :
    jW X tg it σ H fun J H1 => ∃ n G Y, Walk J n G Y ∧ ∀ D, H1 D = none → ∃ Pv : Nat → Hp → Prop, Pv 0 (upd H1 D (.lst [])) ∧ (∀ i H', i ≤ n → Pv i H' → G H') ∧
      (∀ i x H' H2, i < n → Pv i H' → Y i H' x H2 → gB X sc tg x (wipe σ (own.map (·.2))) H2 fun σ3 H3 => wipe σ3 (own.map (·.2)) = wipe σ (own.map (·.2)) ∧ eB X sc elt σ3 H3 fun y H4 => ∃ acc, H4 D = some (.lst acc) ∧ acc.length < sizeLine ∧ Pv (i + 1) (upd H4 D (.lst (acc ++ [y])))) ∧
      ∀ H', Pv n H' → R D H' := by
  refine ⟨fun pins s I => wpAny_mono (h.run pins s I) (fun v s1 q => wpAny_mono q (fun u s2 ⟨i, fp, tn, J, H2, e, I2, T, t0, f2, n, G, Y, w, hn, q1, q2, q3⟩ => ⟨i, fp, tn, J, H2, e, I2, T, t0, f2, n, G, Y, w, fun D' hD => ⟨fun i H' => Same H2 H' ∧ ∃ acc, H' D' = some (.lst acc) ∧ acc.length = i ∧ ∀ j z, acc[j]? = some z → Pr j z H', ⟨sameU hD, [], upd_same, rfl, by simp⟩, fun _ _ _ p => q1 _ p.1, fun i x H' H3 hi p y s0 H0 C cl fp => ?_, fun H' p => by
    obtain ⟨p1, acc, p2, p3, p4⟩ := p
    exact q3 D' H' acc p1 hD p2 p3 p4⟩⟩) fun _ _ z => z) fun _ _ z => z⟩
  obtain ⟨k1, k2⟩ := q2 i x H' H3 hi p.1 y
  obtain ⟨p1, acc, p2, p3, p4⟩ := p
  refine ⟨fun pins s' u I r => wpAny_mono ((k2 s0 H0 C cl fp).run pins s' u I r) (fun _ s'' ⟨σ', H'', I'', e1, e2, e3⟩ => ⟨σ', H'', I'', e1, fun s0 H0 C cl fp => ⟨fun pins s' I => wpAny_mono ((e3 s0 H0 C cl fp).run pins s' I) (fun u s4 ⟨v4, H4, I4, r4, ev, e4⟩ => ⟨v4, H4, I4, r4, acc, e4 _ _ (e2 _ _ (k1 _ _ p2)), ?_, ?_, acc ++ [v4], upd_same, ?_, ?_⟩) fun _ _ z => z⟩⟩) fun _ _ z => z⟩
  · rw [p3]
    exact Nat.lt_of_lt_of_le (Nat.lt_of_lt_of_le hi hn) (by decide)
  · intro b o e
    rw [upd_ne (ne_of_none e hD)]
    exact e4 _ _ (e2 _ _ (k1 _ _ (p1 _ _ e)))
  · rw [List.length_append, p3]; rfl
  · have k4 := e4 _ _ (e2 _ _ (k1 _ _ p2))
    have up : TS H4 (upd H4 D' (.lst (acc ++ [v4]))) := TS.butL k4 fun b hb => upd_ne hb
    intro j z hz
    by_cases hj : j < i
    · rw [List.getElem?_append_left (by omega)] at hz
      exact hP _ _ _ _ ((TS.trans (Same.ts k1) (TS.trans (Same.ts e2) (Same.ts e4))).trans up) (p4 j z hz)
    · rw [List.getElem?_append_right (by omega), p3] at hz
      have hj2 : j = i := by
        have := (List.getElem?_eq_some_iff.mp hz).1
        simp at this
        omega
      subst hj2
      simp at hz
      rw [← hz]
      exact hP _ _ _ _ up ev
theorem e_lcH {it tg elt : Expr} {sc : Scope} {N : List Str} {own : List (Str × Nat)} [cc : CxC X] [cn : CxN X N] [nd : NdN N] (ok : BlkOk N X.env.scope sc own) (Pr : Nat → V → Hp → Prop) (hP : ∀ i y H H', TS H H' → Pr i y H → Pr i y H')
    (h : jW X tg it σ H fun J H1 => ∃ n G Y, Walk J n G Y ∧ n ≤ 100000 ∧ (∀ H', Same H1 H' → G H') ∧
      (∀ i x H' H2, i < n → Same H1 H' → Y i H' x H2 → Same H' H2 ∧ gB X sc tg x (wipe σ (own.map (·.2))) H2 fun σ3 H3 => wipe σ3 (own.map (·.2)) = wipe σ (own.map (·.2)) ∧ Same H2 H3 ∧ eB X sc elt σ3 H3 fun y H4 => Pr i y H4 ∧ Same H3 H4) ∧
      ∀ l H' ys, Same H1 H' → H1 l = none → H' l = some (.lst ys) → ys.length = n → (∀ i y, ys[i]? = some y → Pr i y H') → Q (.ref l) H') (hs : ∀ x, foldedSetIterable it X.env x = pure x := by intro _; rfl) : eW X (.ListComp elt [⟨tg, it, [], 0⟩] sc pos) σ H Q :=
  e_lc ok (lcH_h (R := fun l H' => Q (.ref l) H') Pr hP h) hs
theorem s_setLcH {it tg elt : Expr} {sc : Scope} {N : List Str} {own : List (Str × Nat)} {y : Str} {i : Nat} {D : Ends} {p3 : Pos} [cc : CxC X] [cn : CxN X N] [sl : Slt N y i] [nd : NdN N] (ok : BlkOk N X.env.scope sc own) (Pr : Nat → V → Hp → Prop) (hP : ∀ i y H H', TS H H' → Pr i y H → Pr i y H')
    (h : jW X tg it σ H fun J H1 => ∃ n G Y, Walk J n G Y ∧ n ≤ 100000 ∧ (∀ H', Same H1 H' → G H') ∧
      (∀ i x H' H2, i < n → Same H1 H' → Y i H' x H2 → Same H' H2 ∧ gB X sc tg x (wipe σ (own.map (·.2))) H2 fun σ3 H3 => wipe σ3 (own.map (·.2)) = wipe σ (own.map (·.2)) ∧ Same H2 H3 ∧ eB X sc elt σ3 H3 fun y H4 => Pr i y H4 ∧ Same H3 H4) ∧
      ∀ l H' ys, Same H1 H' → H1 l = none → H' l = some (.lst ys) → ys.length = n → (∀ i y, ys[i]? = some y → Pr i y H') → D.nx (σ.set i (some (.ref l))) H') (hyl : X.env.scope.names.lookup y = some .local := by rfl)
    (hsw : swapsWith (.ListComp elt [⟨tg, it, [], 0⟩] sc pos) (some (.Name y p2)) p3.line X.env = pure true := by exact sw_true rfl rfl rfl (by decide +kernel)) (hs : ∀ x, foldedSetIterable it X.env x = pure x := by intro _; rfl) : sW X (.Assign [.Name y p2] (.ListComp elt [⟨tg, it, [], 0⟩] sc pos) p3) D σ H :=
  s_setLc ok (lcH_h (R := fun l H' => D.nx (σ.set i (some (.ref l))) H') Pr hP h) hyl hsw hs
/-- a comprehension, its elements by a word of the heap that holds while all but the comprehension's own list stays -/
theorem lcK_h {it tg elt : Expr} {sc : Scope} {own : List (Str × Nat)} {R : Addr → Hp → Prop} (Pr : Nat → V → Hp → Prop) (hP : ∀ i y H H', Same H H' → Pr i y H → Pr i y H') (hK : ∀ i y H H' D acc, H D = some (.lst acc) → (∀ (j : Nat) z, acc[j]? = some z → Pr j z H) → (∀ b, b ≠ D → H' b = H b) → Pr i y H → Pr i y H')
    (h : jW X tg it σ H fun J H1 => ∃ n G Y, Walk J n G Y ∧ n ≤ 100000 ∧ (∀ H', Same H1 H' → G H') ∧
      (∀ i x H' H2, i < n → Same H1 H' → Y i H' x H2 → Same H' H2 ∧ gB X sc tg x (wipe σ (own.map (·.2))) H2 fun σ3 H3 => wipe σ3 (own.map (·.2)) = wipe σ (own.map (·.2)) ∧ Same H2 H3 ∧ eB X sc elt σ3 H3 fun y H4 => Pr i y H4 ∧ Same H3 H4) ∧
      ∀ l H' ys, Same H1 H' → H1 l = none → H' l = some (.lst ys) → ys.length = n → (∀ i y, ys[i]? = some y → Pr i y H') → R l H') :
    jW X tg it σ H fun J H1 => ∃ n G Y, Walk J n G Y ∧ ∀ D, H1 D = none → ∃ Pv : Nat → Hp → Prop, Pv 0 (upd H1 D (.lst [])) ∧ (∀ i H', i ≤ n → Pv i H' → G H') ∧
      (∀ i x H' H2, i < n → Pv i H' → Y i H' x H2 → gB X sc tg x (wipe σ (own.map (·.2))) H2 fun σ3 H3 => wipe σ3 (own.map (·.2)) = wipe σ (own.map (·.2)) ∧ eB X sc elt σ3 H3 fun y H4 => ∃ acc, H4 D = some (.lst acc) ∧ acc.length < sizeLine ∧ Pv (i + 1) (upd H4 D (.lst (acc ++ [y])))) ∧
      ∀ H', Pv n H' → R D H' := by
  refine ⟨fun pins s I => wpAny_mono (h.run pins s I) (fun v s1 q => wpAny_mono q (fun u s2 ⟨i, fp, tn, J, H2, e, I2, T, t0, f2, n, G, Y, w, hn, q1, q2, q3⟩ => ⟨i, fp, tn, J, H2, e, I2, T, t0, f2, n, G, Y, w, fun D' hD => ⟨fun i H' => Same H2 H' ∧ ∃ acc, H' D' = some (.lst acc) ∧ acc.length = i ∧ ∀ j z, acc[j]? = some z → Pr j z H', ⟨sameU hD, [], upd_same, rfl, by simp⟩, fun _ _ _ p => q1 _ p.1, fun i x H' H3 hi p y s0 H0 C cl fp => ?_, fun H' p => by
    obtain ⟨p1, acc, p2, p3, p4⟩ := p
    exact q3 D' H' acc p1 hD p2 p3 p4⟩⟩) fun _ _ z => z) fun _ _ z => z⟩
  obtain ⟨k1, k2⟩ := q2 i x H' H3 hi p.1 y
  obtain ⟨p1, acc, p2, p3, p4⟩ := p
  refine ⟨fun pins s' u I r => wpAny_mono ((k2 s0 H0 C cl fp).run pins s' u I r) (fun _ s'' ⟨σ', H'', I'', e1, e2, e3⟩ => ⟨σ', H'', I'', e1, fun s0 H0 C cl fp => ⟨fun pins s' I => wpAny_mono ((e3 s0 H0 C cl fp).run pins s' I) (fun u s4 ⟨v4, H4, I4, r4, ev, e4⟩ => ⟨v4, H4, I4, r4, acc, e4 _ _ (e2 _ _ (k1 _ _ p2)), ?_, ?_, acc ++ [v4], upd_same, ?_, ?_⟩) fun _ _ z => z⟩⟩) fun _ _ z => z⟩
  · rw [p3]
    exact Nat.lt_of_lt_of_le (Nat.lt_of_lt_of_le hi hn) (by decide)
  · intro b o e
    rw [upd_ne (ne_of_none e hD)]
    exact e4 _ _ (e2 _ _ (k1 _ _ (p1 _ _ e)))
  · rw [List.length_append, p3]; rfl
  · have k4 := e4 _ _ (e2 _ _ (k1 _ _ p2))
    have sm : Same H' H4 := k1.trans (e2.trans e4)
    have pa : ∀ (j : Nat) z, acc[j]? = some z → Pr j z H4 := fun j z hz => hP _ _ _ _ sm (p4 j z hz)
    have up : ∀ i y, Pr i y H4 → Pr i y (upd H4 D' (.lst (acc ++ [v4]))) := fun i y h => hK _ _ _ _ _ _ k4 pa (fun b hb => upd_ne hb) h
    intro j z hz
    by_cases hj : j < i
    · rw [List.getElem?_append_left (by omega)] at hz
      exact up _ _ (pa j z hz)
    · rw [List.getElem?_append_right (by omega), p3] at hz
      have hj2 : j = i := by
        have := (List.getElem?_eq_some_iff.mp hz).1
        simp at this
        omega
      subst hj2
      simp at hz
      rw [← hz]
      exact up _ _ ev
theorem e_lcK {it tg elt : Expr} {sc : Scope} {N : List Str} {own : List (Str × Nat)} [cc : CxC X] [cn : CxN X N] [nd : NdN N] (ok : BlkOk N X.env.scope sc own) (Pr : Nat → V → Hp → Prop) (hP : ∀ i y H H', Same H H' → Pr i y H → Pr i y H') (hK : ∀ i y H H' D acc, H D = some (.lst acc) → (∀ (j : Nat) z, acc[j]? = some z → Pr j z H) → (∀ b, b ≠ D → H' b = H b) → Pr i y H → Pr i y H')
    (h : jW X tg it σ H fun J H1 => ∃ n G Y, Walk J n G Y ∧ n ≤ 100000 ∧ (∀ H', Same H1 H' → G H') ∧
      (∀ i x H' H2, i < n → Same H1 H' → Y i H' x H2 → Same H' H2 ∧ gB X sc tg x (wipe σ (own.map (·.2))) H2 fun σ3 H3 => wipe σ3 (own.map (·.2)) = wipe σ (own.map (·.2)) ∧ Same H2 H3 ∧ eB X sc elt σ3 H3 fun y H4 => Pr i y H4 ∧ Same H3 H4) ∧
      ∀ l H' ys, Same H1 H' → H1 l = none → H' l = some (.lst ys) → ys.length = n → (∀ i y, ys[i]? = some y → Pr i y H') → Q (.ref l) H') (hs : ∀ x, foldedSetIterable it X.env x = pure x := by intro _; rfl) : eW X (.ListComp elt [⟨tg, it, [], 0⟩] sc pos) σ H Q :=
  e_lc ok (lcK_h (R := fun l H' => Q (.ref l) H') Pr hP hK h) hs
theorem s_setLcK {it tg elt : Expr} {sc : Scope} {N : List Str} {own : List (Str × Nat)} {y : Str} {i : Nat} {D : Ends} {p3 : Pos} [cc : CxC X] [cn : CxN X N] [sl : Slt N y i] [nd : NdN N] (ok : BlkOk N X.env.scope sc own) (Pr : Nat → V → Hp → Prop) (hP : ∀ i y H H', Same H H' → Pr i y H → Pr i y H') (hK : ∀ i y H H' D acc, H D = some (.lst acc) → (∀ (j : Nat) z, acc[j]? = some z → Pr j z H) → (∀ b, b ≠ D → H' b = H b) → Pr i y H → Pr i y H')
    (h : jW X tg it σ H fun J H1 => ∃ n G Y, Walk J n G Y ∧ n ≤ 100000 ∧ (∀ H', Same H1 H' → G H') ∧
      (∀ i x H' H2, i < n → Same H1 H' → Y i H' x H2 → Same H' H2 ∧ gB X sc tg x (wipe σ (own.map (·.2))) H2 fun σ3 H3 => wipe σ3 (own.map (·.2)) = wipe σ (own.map (·.2)) ∧ Same H2 H3 ∧ eB X sc elt σ3 H3 fun y H4 => Pr i y H4 ∧ Same H3 H4) ∧
      ∀ l H' ys, Same H1 H' → H1 l = none → H' l = some (.lst ys) → ys.length = n → (∀ i y, ys[i]? = some y → Pr i y H') → D.nx (σ.set i (some (.ref l))) H') (hyl : X.env.scope.names.lookup y = some .local := by rfl)
    (hsw : swapsWith (.ListComp elt [⟨tg, it, [], 0⟩] sc pos) (some (.Name y p2)) p3.line X.env = pure true := by exact sw_true rfl rfl rfl (by decide +kernel)) (hs : ∀ x, foldedSetIterable it X.env x = pure x := by intro _; rfl) : sW X (.Assign [.Name y p2] (.ListComp elt [⟨tg, it, [], 0⟩] sc pos) p3) D σ H :=
  s_setLc ok (lcK_h (R := fun l H' => D.nx (σ.set i (some (.ref l))) H') Pr hP hK h) hyl hsw hs
end
/-! ### a text so often -/
theorem fold_app : ∀ (n : Nat) (a : Array Nat) (z : Array Nat), ((List.replicate n z).foldl (· ++ ·) a).toList = a.toList ++ (List.replicate n z.toList).flatten
  | 0, a, z => by simp
  | n + 1, a, z => by
    rw [List.replicate_succ, List.foldl_cons, fold_app n, Array.toList_append, List.replicate_succ, List.flatten_cons, List.append_assoc]
theorem o_repS {X : Cx} {H : Hp} {Q : VK} {z : Str} {n : Int} (h0 : 0 ≤ n) (h1 : n ≤ 100000) (hz : z.length ≤ 100) (q : ∀ y, tl y = (List.replicate n.toNat (tl z)).flatten → Q (.str y) H) : oW X (binaryOp .Mult) (.str z) (.int n) H Q := by
  refine ⟨fun pins s σ v u I rx ry => ?_⟩
  obtain ⟨t, rfl⟩ := rx
  obtain ⟨t', rfl⟩ := ry
  have hm : z.length * n.toNat ≤ 100 * 100000 := Nat.mul_le_mul hz (by omega)
  refine PySem.P.mul_str (by rw [decide_eq_false (by omega), decide_eq_false (by omega)]; rfl) (fun c _ => ?_) (fun _ _ => ?_) ?_
  · have : (z.length : Int) ≤ (2 ^ 63 - 1) / n := by
      refine Int.le_ediv_of_mul_le (by omega) ?_
      have e : (z.length : Int) * n = ((z.length * n.toNat : Nat) : Int) := by
        rw [Int.natCast_mul, Int.toNat_of_nonneg h0]
      rw [e]
      omega
    omega
  · show decide (z.length * n.toNat > sizeLine) = false
    rw [sizeLine_eq]
    exact decide_eq_false (by omega)
  · by_cases c : n < 1
    · rw [if_pos c]
      refine ⟨by decide, ⟨.str Str.empty, H, I.tok _, ⟨_, rfl⟩, q _ ?_⟩⟩
      have : n.toNat = 0 := by omega
      rw [this]
      rfl
    · rw [if_neg c]
      by_cases c2 : (n == 1 || z.length == 0) = true
      · rw [if_pos c2]
        refine ⟨.str z, H, I.tok _, ⟨t, rfl⟩, q z ?_⟩
        rcases Bool.or_eq_true_iff.mp c2 with c3 | c3
        · have : n = 1 := beq_iff_eq.mp c3
          subst this
          simp
        · have e : tl z = [] := List.eq_nil_of_length_eq_zero (by rw [← len_tl]; exact beq_iff_eq.mp c3)
          rw [e]
          simp
      · rw [if_neg c2]
        have e : tl (⟨(List.replicate n.toNat z.cps).foldl (· ++ ·) #[]⟩ : Str) = (List.replicate n.toNat (tl z)).flatten := by
          show ((List.replicate n.toNat z.cps).foldl (· ++ ·) #[]).toList = _
          rw [fold_app]
          rfl
        refine ⟨?_, ⟨.str _, H, I.tok _, ⟨_, rfl⟩, q _ e⟩⟩
        rw [len_tl, e, List.length_flatten, List.map_replicate, List.sum_replicate_nat, ← len_tl, Nat.mul_comm, sizeLine_eq]
        omega
/-! ### exceptions: try, what a clause names, isinstance of what is caught -/
def trX (X : Cx) (pn : List (Addr × Obj)) (xe : Value → Shared → Prop) : Cx := X.tr pn xe
def suX (X : Cx) (a : Addr) (pn : List (Addr × Obj)) : Cx := X.suite a pn
theorem bMono {X : Cx} {b : List Stmt} {D : Ends} {σ : L2.St} {H : Hp} {nx : L2.St → Hp → Prop} (h : bW X b D σ H) (i : ∀ σ' H', D.nx σ' H' → nx σ' H') : bW X b { D with nx := nx } σ H := ⟨fun pins s I => wpAny_mono (h.run pins s I) (fun f s1 q => by
  cases f with
  | next => obtain ⟨σ', H', a, c⟩ := q; exact ⟨σ', H', a, i _ _ c⟩
  | brk => exact q
  | cont => exact q
  | ret v => exact q) fun _ _ x => x⟩
theorem sMono {X : Cx} {st : Stmt} {D : Ends} {σ : L2.St} {H : Hp} (nx : L2.St → Hp → Prop) (h : sW X st (Dnx D nx) σ H) (i : ∀ σ' H', nx σ' H' → D.nx σ' H') : sW X st D σ H := ⟨fun pins s I => wpAny_mono (h.run pins s I) (fun f s1 q => by
  cases f with
  | next => obtain ⟨σ', H', a, c⟩ := q; exact ⟨σ', H', a, i _ _ c⟩
  | brk => exact q
  | cont => exact q
  | ret v => exact q) fun _ _ x => x⟩
section
variable {X : Cx} {pn : List (Addr × Obj)} {xe : Value → Shared → Prop} {a : Addr}
instance {N : List Str} [c : CxN X N] : CxN (trX X pn xe) N := ⟨c.h⟩
instance {K : PySem.W.Frag} [c : CxK X K] : CxK (trX X pn xe) K := ⟨c.h⟩
instance {mg : Str → Option Value} [c : CxM X mg] : CxM (trX X pn xe) mg := ⟨c.h⟩
instance [c : CxC X] : CxC (trX X pn xe) := ⟨c.h⟩
instance {N : List Str} [c : CxN X N] : CxN (suX X a pn) N := ⟨c.h⟩
instance {K : PySem.W.Frag} [c : CxK X K] : CxK (suX X a pn) K := ⟨c.h⟩
instance {mg : Str → Option Value} [c : CxM X mg] : CxM (suX X a pn) mg := ⟨c.h⟩
instance : CxO (suX X a pn) := ⟨PassesOwn.never⟩
instance : CxT (suX X a pn) (fun _ _ _ _ => False) := ⟨takes0 (X := suX X a pn)⟩
end
section
variable {K : PySem.W.Frag} {mg : Str → Option Value} {x y : Str} {C D : Addr} {b : Bool}
theorem ExcF.excC (T : ExcF K mg x C) : ExcC K C := ⟨T.ga, T.gk, T.be, T.hd, T.ha, T.hn, T.ht, T.hm⟩
theorem ExcF.self (T : ExcF K mg x C) : PySem.W.subIn K (.ref C) (.ref C) = some true := by
  have q := T.ex
  unfold PySem.W.excIn at q
  show PySem.W.mroIn K C (.ref C) = some true
  unfold PySem.W.mroIn PySem.W.clsIn
  split at q
  · rename_i dd cd sl ho
    rw [ho]
    dsimp only
    split at q
    · rename_i C' bm k0 k1 k2 k3 n k5 hm hs
      simp only [Bool.and_eq_true, beq_iff_eq] at q
      obtain ⟨⟨⟨⟨⟨e, _⟩, _⟩, _⟩, _⟩, _⟩ := q
      subst e
      rw [Option.bind_some, hm]
      simp
    · cases q
  · cases q
theorem ExcF.kit (TD : ExcF K mg x D) (TC : ExcF K mg y C) (h : PySem.W.subIn K (.ref D) (.ref C) = some b) : PySem.W.kitOne K (.ref D) (.ref C) = some b := by
  by_cases e : D = C
  · subst e
    rw [TD.self] at h
    cases h
    exact kit_self
  · exact kit_refs h TC.ic TC.ty e
theorem ExcF.kitVE (TD : ExcF K mg x D) : PySem.W.kitOne K (.ref D) (.type "ValueError") = some true := by
  have e2 : (Value.ref D == Value.type "ValueError") = false := by simp
  have e3 : PySem.W.kitMeta "ValueError" = true := by decide +kernel
  show (if (Value.ref D == Value.type "ValueError") = true then some true else if PySem.W.kitMeta "ValueError" = true then PySem.W.subIn K (.ref D) (.type "ValueError") else none) = some true
  rw [e2, if_neg Bool.false_ne_true, if_pos e3]
  exact TD.ve
theorem ExcF.exm (TC : ExcF K mg y C) (h : PySem.W.subIn K (.ref D) (.ref C) = some b) : PySem.W.exmOne K (.ref D) (.ref C) = some b := PySem.W.exm_ref TC.be TC.hd TC.ty h
theorem kit_none {t : Value} : ∀ {cs : List Addr}, (∀ c ∈ cs, PySem.W.kitOne K t (.ref c) = some false) → PySem.W.kitAny K t (cs.map Value.ref) = some false
  | [], _ => rfl
  | c :: cs, h => by
    show (match PySem.W.kitOne K t (.ref c) with
      | some true => some true
      | some false => PySem.W.kitAny K t (cs.map Value.ref)
      | none => none) = some false
    rw [h c List.mem_cons_self]
    exact kit_none fun d hd => h d (List.mem_cons_of_mem _ hd)
theorem vals_refs : ∀ {cs : List Addr} {its : List Value}, Vals (cs.map V.ref) its → its = cs.map Value.ref
  | [], _, .nil => rfl
  | c :: cs, _, .cons r t => by
    have e : _ = Value.ref c := r
    rw [e, vals_refs t]
    rfl
end
section
variable {X : Cx} {σ : L2.St} {H : Hp} {D : Ends} {Q : VK} {pos pos' np p2 p3 p4 : Pos} {st b₀ : Stmt} {body suite orelse : List Stmt} {N : List Str} {x y n : Str} {a C E : Addr} {oe : Obj} {pn : List (Addr × Obj)} {b : Bool} {mg : Str → Option Value}
/-- isinstance(e, C), e what the suite holds -/
theorem k_isE (TD : ExcF X.K mg x E) (TC : ExcF X.K mg y C) (hz : Zc (.ref E) none oe) (hf : ∃ vs, oe.data = .fields vs) (h : PySem.W.subIn X.K (.ref E) (.ref C) = some b) (q : Q (.bl b) H) : kW (suX X a ((a, oe) :: pn)) (.builtin "isinstance") [.ref a, .ref C] H Q :=
  kI (X := X.suite a ((a, oe) :: pn)) (call_isE TD.excC hz hf) ⟨_, _, _, rfl, fun _ r => r, TD.kit TC h, q⟩
theorem k_isEV (TD : ExcF X.K mg x E) (hz : Zc (.ref E) none oe) (hf : ∃ vs, oe.data = .fields vs) (q : Q (.bl true) H) : kW (suX X a ((a, oe) :: pn)) (.builtin "isinstance") [.ref a, .ty "ValueError"] H Q :=
  kI (X := X.suite a ((a, oe) :: pn)) (call_isE TD.excC hz hf) ⟨_, _, _, rfl, fun _ r => r, TD.kitVE, q⟩
/-- isinstance(e, (C1, C2, ..)), none of them -/
theorem k_isEN {t : Addr} (cs : List Addr) (TD : ExcF X.K mg x E) (hz : Zc (.ref E) none oe) (hf : ∃ vs, oe.data = .fields vs) (ht : H t = some (.tup (cs.map V.ref))) (h : ∀ c ∈ cs, PySem.W.kitOne X.K (.ref E) (.ref c) = some false) (q : Q (.bl false) H) :
    kW (suX X a ((a, oe) :: pn)) (.builtin "isinstance") [.ref a, .ref t] H Q := by
  refine ⟨fun pins s σ us I r => ?_⟩
  cases r with
  | cons rx rr =>
    cases rr with
    | cons rt rr =>
      cases rr
      cases rx
      cases rt
      obtain ⟨hget, _⟩ := I.pin (a, oe) (List.mem_append.mpr (.inl List.mem_cons_self))
      obtain ⟨vs, hv⟩ := hf
      have J : PySem.W.InstAt s.heap a oe E none := by
        obtain ⟨oc, od, oda, osl⟩ := oe
        obtain ⟨h1, h2⟩ := hz
        dsimp only at h1 h2 hv
        subst h1 h2 hv
        exact ⟨hget, rfl, rfl, trivial⟩
      have C := TD.excC
      obtain ⟨_, its, rv, ho⟩ : ObjOk X.prog X.w H s.heap t (.tup (cs.map V.ref)) := I.hok t _ ht
      have e := vals_refs rv
      subst e
      obtain ⟨⟨oc, dd, dt, osl⟩, hg, e1, nn, e2⟩ := ho
      dsimp only at e1 e2
      subst e1 e2
      exact PySem.W.kia_tup (PySem.W.handS_kitx_exc C.hg C.hk C.hs C.hd C.ha C.hn C.ht C.hm) I.kIn J hg (kit_none h) (fun z => nomatch z) fun tk => ⟨.bl false, H, I.kept (t' := tk) fun _ _ z => z, rfl, q⟩
theorem k_intB {k : Bool} (q : Q (.int (if k then 1 else 0)) H) : kW X (.type "int") [.bl k] H Q := kI call_int1 (.inr ⟨k, rfl, q⟩)
/-- try: body, except x as n: suite -/
theorem s_tryAs {i : Nat} {Wout : WX} [cn : CxN X N] [sl : Slt N n i] [nd : NdN N] [ct : CxT X Wout] (T : ExcF X.K X.mg x C) (W : WX)
    (hw : ∀ cls d σ' H', W cls d σ' H' → (PySem.W.exmOne X.K cls (.ref C) = some true ∧ ∀ a oe pn, H' a = none → Zc cls d oe → (∃ vs, oe.data = .fields vs) →
        bW (suX X a ((a, oe) :: pn)) (b₀ :: suite) { nx := fun σ' H' => D.nx (σ'.set i none) H', rt := D.rt, bk := fun σ' H' => D.bk (σ'.set i none) H', ct := fun σ' H' => D.ct (σ'.set i none) H' } (σ'.set i (some (.ref a))) H') ∨
      (PySem.W.exmOne X.K cls (.ref C) = some false ∧ Wout cls d σ' H'))
    (hb : ∀ pn xe, CxT (trX X pn xe) W → CxO (trX X pn xe) → bW (trX X pn xe) body D σ H)
    (hg : Gl X x := by rfl) (hdb : (x == ("__debug__" : Str)) = false := by decide) (hln : X.env.kindOf n = some .local := by rfl) (hs : X.stack = X.env :: X.outer := by rfl) (hf : X.env.frame = some X.env.locals := by rfl) :
    sW X (.Try body [.ExceptHandler (some (.Name x np)) (some n) (b₀ :: suite) pos'] [] [] pos) D σ H :=
  sI (ps_try_as hs hf (by rw [cn.h]; exact nd.h) (by rw [cn.h]; exact sl.h) hln ⟨hg, hdb, .inl T.mg⟩ ct.h
    (tb := fun W' D' σ' H' => ∀ pn xe, CxT (trX X pn xe) W' → CxO (trX X pn xe) → bW (trX X pn xe) body D' σ' H')
    (ts := fun a cls d D' σ' H' => ∀ oe pn, Zc cls d oe → (∃ vs, oe.data = .fields vs) → bW (suX X a ((a, oe) :: pn)) (b₀ :: suite) D' σ' H')
    (fun W' pn xe tk ow => ⟨fun pins s σ H D I q => (q pn xe ⟨tk⟩ ⟨ow⟩).run pins s I⟩)
    (fun a oe cls d pn hz hf => ⟨fun pins s σ H D I q => (q oe pn hz hf).run pins s I⟩))
   (fun pn xe c1 c2 => hb pn xe ⟨c1.h.imp fun cls d σ' H' w => (hw cls d σ' H' w).elim (fun ⟨h1, h2⟩ => ⟨true, h1, fun _ a ha oe pn hz hf => h2 a oe pn ha hz hf, fun z => nomatch z⟩) fun ⟨h1, h2⟩ => ⟨false, h1, (fun z => nomatch z), fun _ => h2⟩⟩ c2)
/-- try: body, except x: suite, else: orelse -/
theorem s_tryElse {Wout : WX} [ct : CxT X Wout] (T : ExcF X.K X.mg x C) (W : WX)
    (hw : ∀ cls d σ' H', W cls d σ' H' → (PySem.W.exmOne X.K cls (.ref C) = some true ∧ ∀ a oe pn, H' a = none → Zc cls d oe → (∃ vs, oe.data = .fields vs) → bW (suX X a ((a, oe) :: pn)) (b₀ :: suite) D σ' H') ∨ (PySem.W.exmOne X.K cls (.ref C) = some false ∧ Wout cls d σ' H'))
    (hb : ∀ pn xe, CxT (trX X pn xe) W → CxO (trX X pn xe) → bW (trX X pn xe) body (Dsq X orelse D) σ H)
    (hg : Gl X x := by rfl) (hdb : (x == ("__debug__" : Str)) = false := by decide) (hs : X.stack = X.env :: X.outer := by rfl) (hf : X.env.frame = some X.env.locals := by rfl) :
    sW X (.Try body [.ExceptHandler (some (.Name x np)) none (b₀ :: suite) pos'] orelse [] pos) D σ H :=
  sI (ps_try_onlyE (u := bW X orelse) PBw hs hf ⟨hg, hdb, .inl T.mg⟩ ct.h
    (tb := fun W' D' σ' H' => ∀ pn xe, CxT (trX X pn xe) W' → CxO (trX X pn xe) → bW (trX X pn xe) body D' σ' H')
    (ts := fun a cls d D' σ' H' => ∀ oe pn, Zc cls d oe → (∃ vs, oe.data = .fields vs) → bW (suX X a ((a, oe) :: pn)) (b₀ :: suite) D' σ' H')
    (fun W' pn xe tk ow => ⟨fun pins s σ H D I q => (q pn xe ⟨tk⟩ ⟨ow⟩).run pins s I⟩)
    (fun a oe cls d pn hz hf => ⟨fun pins s σ H D I q => (q oe pn hz hf).run pins s I⟩))
   (fun pn xe c1 c2 => hb pn xe ⟨c1.h.imp fun cls d σ' H' w => (hw cls d σ' H' w).elim (fun ⟨h1, h2⟩ => ⟨true, h1, fun _ a ha oe pn hz hf => h2 a oe pn ha hz hf, fun z => nomatch z⟩) fun ⟨h1, h2⟩ => ⟨false, h1, (fun z => nomatch z), fun _ => h2⟩⟩ c2)
/-- try: body, except x: suite -/
theorem s_tryOnly {Wout : WX} [ct : CxT X Wout] (T : ExcF X.K X.mg x C) (W : WX)
    (hw : ∀ cls d σ' H', W cls d σ' H' → (PySem.W.exmOne X.K cls (.ref C) = some true ∧ ∀ a oe pn, H' a = none → Zc cls d oe → (∃ vs, oe.data = .fields vs) → bW (suX X a ((a, oe) :: pn)) (b₀ :: suite) D σ' H') ∨ (PySem.W.exmOne X.K cls (.ref C) = some false ∧ Wout cls d σ' H'))
    (hb : ∀ pn xe, CxT (trX X pn xe) W → CxO (trX X pn xe) → bW (trX X pn xe) body D σ H)
    (hg : Gl X x := by rfl) (hdb : (x == ("__debug__" : Str)) = false := by decide) (hs : X.stack = X.env :: X.outer := by rfl) (hf : X.env.frame = some X.env.locals := by rfl) :
    sW X (.Try body [.ExceptHandler (some (.Name x np)) none (b₀ :: suite) pos'] [] [] pos) D σ H :=
  s_tryElse T W hw (fun pn xe c1 c2 => ⟨fun pins s I => (bMono (hb pn xe c1 c2) (fun σ' H' q => b_nil q)).run pins s I⟩) hg hdb hs hf
end
/-! ### try with clauses of any kind -/
theorem wp_forIn {M : Model} {A : Around} {E : Value → Shared → Prop} {α β : Type} {f : α → β → Sem (ForInStep β)} {init : β} {s : Shared} {Q : β → Shared → Prop} : ∀ L : List α, (∀ c ∈ L, ∀ R : ForInStep β → Shared → Prop, R (.yield init) s → wpAny M A (f c init) R E s) → Q init s → wpAny M A (forIn L init f) Q E s
  | [], _, q => by rw [List.forIn_nil]; exact wpAny_pure q
  | c :: L, h, q => by
    rw [List.forIn_cons]
    exact wpAny_bind (h c (List.mem_cons_self ..) _ (wp_forIn L (fun d hd => h d (List.mem_cons_of_mem _ hd)) q))
theorem exm_none {M : Model} {K : PySem.W.Frag} {cs : List Addr} {cls : Value} {tp e : Addr} {h : Heap} (X : K.In h) (LT : PySem.W.Looks M h (typeOf (.ref e)) cls) (hp : h.get? tp = some { cls := .type "tuple", data := .seq (cs.map Value.ref).toArray })
    (hx : ∀ c ∈ cs, PySem.W.exmOne K cls (.ref c) = some false) : PySem.W.Looks M h (excMatches (.ref e) (.ref tp)) false := by
  intro A Q E s k₀ q
  obtain ⟨hh, g, d, tk, os⟩ := s
  have k : ∀ b o, h.get? b = some o → hh.get? b = some o := k₀
  have LTT : PySem.W.Looks M h (isInstance (.ref tp) (.type "tuple")) true := ((PySem.W.Looks.ld hp).andThen .now).andThen (PySem.W.Looks.of_pure isSubtype_tuple_tuple)
  have hpp := k _ _ hp
  unfold excMatches
  refine wpAny_bind ((LTT.keeps k).at ?_)
  dsimp only
  rw [if_pos rfl]
  first
    | refine wpAny_bind (wpAny_seqItems hpp rfl ?_)
    | refine wpAny_bind (wpAny_bind (wpAny_seqItems hpp rfl (wpAny_pure ?_)))
  dsimp only [Option.getD_some, Option.getD]
  have get : ∀ v ∈ cs.map Value.ref, PySem.W.exmOne K cls v = some false := fun v hv => by
    obtain ⟨c, hc, rfl⟩ := List.mem_map.mp hv
    exact hx c hc
  refine wpAny_bind (wpAny_pure (wpAny_bind (wp_forIn _ (fun c hc R r => ?_) ?_)))
  · have L1 := (PySem.W.exm_cls (M := M) X (get c hc)).1.keeps k
    refine wpAny_bind (L1.at ?_)
    rw [if_neg (by decide)]
    exact wpAny_pure r
  · refine wpAny_bind ((LT.keeps k).at ?_)
    refine wpAny_bind (wp_forIn _ (fun c hc R r => ?_) ?_)
    · have L1 := (PySem.W.exm_cls (M := M) X (get c hc)).2.keeps k
      refine wpAny_bind (L1.at ?_)
      rw [if_neg (by decide)]
      exact wpAny_pure r
    · exact wpAny_pure q
/-- an exception that was caught, kept -/
def ExK (cls : Value) (d : Option Addr) (a : Addr) : HO := .ext fun h => ∃ (oe : Obj) (vs : Array Value), h.get? a = some oe ∧ Zc cls d oe ∧ oe.data = .fields vs
theorem exK_ok {P : Program} {w : World} {H : Hp} {h : Heap} {a : Addr} {cls : Value} {d : Option Addr} {oe : Obj} {vs : Array Value} (e : h.get? a = some oe) (z : Zc cls d oe) (q : oe.data = .fields vs) : ObjOk P w H h a (ExK cls d a) :=
  ⟨⟨oe, vs, e, z, q⟩, ⟨oe, e⟩, fun _ _ ⟨o, v, q, r⟩ k => ⟨o, v, k o q, r⟩⟩
/-- what stood unseen is seen -/
theorem lay_old {X : Cx} {pins : List (Addr × Obj)} {σ : L2.St} {H : Hp} {s : Shared} {a : Addr} {o : HO} (I : Inv X pins σ H s) (hn : H a = none) (h0 : X.s_0.heap.get? a = none) (nl : a ≠ X.env.locals) (nc : ∀ v, ¬ s.heap.IsCell a v)
    (np : ∀ p ∈ X.pn ++ pins, p.1 ≠ a) (new : ObjOk X.prog X.w (upd H a o) s.heap a o) : Inv X pins σ (upd H a o) s where
  ok := I.ok
  os := I.os
  bare := I.bare
  base := { keep := I.base.keep, slot := I.base.slot, there := I.base.there
            free := fun b u q n x => by rw [upd_ne fun z => by rw [z, h0] at q; cases q]; exact I.base.free b u q n x
            tups := fun b xs q => by
              have t := I.base.tups b xs q
              rw [upd_ne fun z => by rw [z, hn] at t; cases t]; exact t
            frzs := fun b u xs q => by
              have t := I.base.frzs b u xs q
              rw [upd_ne fun z => by rw [z, hn] at t; cases t]; exact t
            tbls := fun b ps q => by
              obtain ⟨m, t⟩ := I.base.tbls b ps q
              exact ⟨m, by rw [upd_ne fun z => by rw [z, hn] at t; cases t]; exact t⟩ }
  loc := I.loc
  cell := I.cell
  free := by rw [upd_ne (Ne.symm nl)]; exact I.free
  freeC := fun x c e => by
    rw [upd_ne fun z => by
      obtain ⟨v, hv⟩ := I.cell x c e
      rw [z] at hv
      exact nc v hv]
    exact I.freeC x c e
  pin := fun p hp => by
    obtain ⟨q1, q2, q3⟩ := I.pin p hp
    exact ⟨q1, by rw [upd_ne (np p hp)]; exact q2, q3⟩
  hok := HOk.laidN I.hok (fun _ _ z => z) hn new
  len := I.len
/-- the ends of a suite: what is held is kept -/
def keptD (D : Ends) (f : L2.St → L2.St) (cls : Value) (d : Option Addr) (a : Addr) : Ends where
  nx := fun σ H => ∀ H2, Same H H2 → H2 a = some (ExK cls d a) → D.nx (f σ) H2
  rt := fun v H => ∀ H2, Same H H2 → H2 a = some (ExK cls d a) → D.rt v H2
  bk := fun σ H => ∀ H2, Same H H2 → H2 a = some (ExK cls d a) → D.bk (f σ) H2
  ct := fun σ H => ∀ H2, Same H H2 → H2 a = some (ExK cls d a) → D.ct (f σ) H2
/-- the names of a tuple of classes -/
inductive Tst (X : Cx) : List Expr → List Addr → Prop
  | nil : Tst X [] []
  | cons {x : Str} {c : Addr} {np : Pos} {es : List Expr} {cs : List Addr} (hc : Names X x (.ref c)) (hs : starEach (.Name x np :: es) X.env = (false, eval (.Name x np) X.env) :: starEach es X.env) (t : Tst X es cs) : Tst X (.Name x np :: es) (c :: cs)
/-- what the clauses do with an exception of the class cls -/
inductive Caught (X : Cx) (D : Ends) (Wout : WX) (cls : Value) (d : Option Addr) (σ : L2.St) (H : Hp) : List ExceptHandler → Prop
  | out (w : Wout cls d σ H) : Caught X D Wout cls d σ H []
  | skip {x : Str} {c : Addr} {np pos : Pos} {nm : Option Str} {b₀ : Stmt} {suite : List Stmt} {hds : List ExceptHandler} (hc : Names X x (.ref c)) (hx : PySem.W.exmOne X.K cls (.ref c) = some false) (r : Caught X D Wout cls d σ H hds) : Caught X D Wout cls d σ H (.ExceptHandler (some (.Name x np)) nm (b₀ :: suite) pos :: hds)
  | skipT {es : List Expr} {k : Nat} {cs : List Addr} {tp pos : Pos} {nm : Option Str} {b₀ : Stmt} {suite : List Stmt} {hds : List ExceptHandler} (t : Tst X es cs) (hz : cs.length ≤ 1000) (hx : ∀ c ∈ cs, PySem.W.exmOne X.K cls (.ref c) = some false) (r : Caught X D Wout cls d σ H hds) :
      Caught X D Wout cls d σ H (.ExceptHandler (some (.Tuple es k tp)) nm (b₀ :: suite) pos :: hds)
  | hit {x : Str} {c : Addr} {np pos : Pos} {b₀ : Stmt} {suite : List Stmt} {hds : List ExceptHandler} (hc : Names X x (.ref c)) (hx : PySem.W.exmOne X.K cls (.ref c) = some true)
      (q : ∀ a oe pn, H a = none → Zc cls d oe → (∃ vs, oe.data = .fields vs) → bW (suX X a ((a, oe) :: pn)) (b₀ :: suite) (keptD D id cls d a) σ H) : Caught X D Wout cls d σ H (.ExceptHandler (some (.Name x np)) none (b₀ :: suite) pos :: hds)
  | hitAs {x n : Str} {i : Nat} {c : Addr} {np pos : Pos} {b₀ : Stmt} {suite : List Stmt} {hds : List ExceptHandler} (hN : X.N.Nodup) (hi : X.N[i]? = some n) (hln : X.env.kindOf n = some .local) (hc : Names X x (.ref c)) (hx : PySem.W.exmOne X.K cls (.ref c) = some true)
      (q : ∀ a oe pn, H a = none → Zc cls d oe → (∃ vs, oe.data = .fields vs) → bW (suX X a ((a, oe) :: pn)) (b₀ :: suite) (keptD D (·.set i none) cls d a) (σ.set i (some (.ref a))) H) : Caught X D Wout cls d σ H (.ExceptHandler (some (.Name x np)) (some n) (b₀ :: suite) pos :: hds)
theorem tst_name {X : Cx} {a : Addr} {pn pins : List (Addr × Obj)} {σ : L2.St} {H : Hp} {s : Shared} {x : Str} {np : Pos} {c : Value} (hc : Names X x c) (S : Inv (X.suite a pn) pins σ H s) {Q : Value → Shared → Prop} {E : Value → Shared → Prop} (q : Q c s) :
    wpAny (model X.prog X.w) (X.A.mark (some (.ref a))) (eval (.Name x np) X.env) Q E s := by
  obtain ⟨hg, hdb, hm | ⟨hm, hv, hn⟩⟩ := hc
  · exact ld_glob (X := X.suite a pn) S hg hm q hdb
  · exact ld_blt (X := X.suite a pn) S hg hm hv q hn hdb
theorem tst_run {X : Cx} {a : Addr} {pn pins : List (Addr × Obj)} {σ : L2.St} {H : Hp} {s : Shared} {pos : Pos} (S : Inv (X.suite a pn) pins σ H s) {E : Value → Shared → Prop} : ∀ {es : List Expr} {cs : List Addr}, Tst X es cs → ∀ {Q : List Value → Shared → Prop}, Q (cs.map Value.ref) s →
    wpAny (model X.prog X.w) (X.A.mark (some (.ref a))) (spliced (backTo pos (starEach es X.env))) Q E s
  | _, _, .nil, Q, q => wpAny_pure q
  | _, _, .cons hc hs t, Q, q => by
    rw [hs]
    show wpAny _ _ (spliced ((false, eval _ X.env) :: backTo pos _)) _ _ s
    exact Calls.spliced_cons (tst_name hc S (tst_run S t q))
theorem s_tryC {X : Cx} {σ : L2.St} {H : Hp} {D : Ends} {pos : Pos} {body orelse : List Stmt} {h₀ : ExceptHandler} {hds : List ExceptHandler} {Wout : WX} [ct : CxT X Wout] (W : WX)
    (hw : ∀ cls d σ' H', W cls d σ' H' → Caught X D Wout cls d σ' H' (h₀ :: hds))
    (hb : ∀ pn xe, CxT (trX X pn xe) W → CxO (trX X pn xe) → bW (trX X pn xe) body (Dsq X orelse D) σ H)
    (hs : X.stack = X.env :: X.outer := by rfl) (hf : X.env.frame = some X.env.locals := by rfl) (hex : X.ex = [] := by rfl) : sW X (.Try body (h₀ :: hds) orelse [] pos) D σ H := by
  refine ⟨fun pins s I => ?_⟩
  have ok := I.ok
  have fr0 : X.A.frames = some (X.env :: X.outer) := by rw [ok.frames, hs]
  refine wpAny_Try_except ?_
  refine wpAny_mono ((hb (X.pn ++ pins) (fun e s1 => wpAny (model X.prog X.w) X.A (noteFrame e X.env) (fun _ s2 => wpAny (model X.prog X.w) X.A (setFlight e none) (fun _ s3 => wpAny (model X.prog X.w) X.A (handleBy e X.env (h₀ :: hds)) (SP X pins D) X.xe s3) X.xe s2) X.xe s1)
    ⟨fun u s' xx => ?_⟩ ⟨PassesOwn.looking⟩).run [] s (I.toTry _)) (fun f s1 hsp => ?_) (fun e s1 he => he)
  · obtain ⟨a, B, sI, pins', σ', H', cls, d, rfl, J0, nb, up, sky, na, os, ag, w⟩ := xx
    have JJ : Inv X pins σ' H' sI := J0.ofTry ok
    have sky2 : Sky B (X.env :: X.outer) a (Zc cls d) X.env.locals s'.heap := by rw [← hs]; exact sky
    show wpAny (model X.prog X.w) X.A (noteFrame (.ref a) X.env) _ _ _
    refine Sky.land Zc.steady fr0 hf sky2 fun h3 fl3 up3 => ?_
    have aB : B.get? a = none := fl3.2.1
    have nfr : a ∉ frs (X.env :: X.outer) := fun hm => by
      obtain ⟨oe3, vs3, he3, _, hd3⟩ := fl3.there
      obtain ⟨_, o', e', hnf⟩ := fl3.2.2.1.mem hm; rw [he3] at e'; cases e'; exact hnf _ hd3
    have nL : a ≠ X.env.locals := fun z => nfr (List.mem_filterMap.mpr ⟨X.env, List.mem_cons_self .., by rw [hf, z]⟩)
    have nF : a ∉ X.fs := fun hm => by
      obtain ⟨e, he, q⟩ := List.mem_filterMap.mp hm; exact nfr (List.mem_filterMap.mpr ⟨e, List.mem_cons_of_mem _ he, q⟩)
    have ngr : ∀ o, ¬ sI.heap.get? a = some o := fun o e => by
      have t := nb a o e (by show a ∉ frs X.stack; rw [hs]; exact nfr); rw [aB] at t; cases t
    have h0 : X.s_0.heap.get? a = none := by
      cases e : X.s_0.heap.get? a with
      | none => rfl
      | some o => obtain ⟨o', q⟩ := JJ.base.there a o e (by rw [hex]; simp); exact absurd q (ngr o')
    have np : ∀ p ∈ X.pn ++ pins, p.1 ≠ a := fun p hp z => ngr p.2 (by rw [← z]; exact (JJ.pin p hp).1)
    have fac : ∀ h, HandSPX.FlyingZ B (X.env :: X.outer) a (Zc cls d) h → sI.heap.UpToSlots h → Inv X pins σ' H' { s' with heap := h } ∧ ∃ oe, Zc cls d oe ∧ (∃ vs, oe.data = .fields vs) ∧ h.get? a = some oe ∧ Inv (X.suite a ((a, oe) :: (X.pn ++ pins))) [] σ' H' { s' with heap := h } := fun h fl u => by
      obtain ⟨oe, vs, he, hz, hd⟩ := fl.there
      have J : Inv X pins σ' H' { s' with heap := h } := JJ.landed nb fl.1 u os ag
      exact ⟨J, oe, hz, ⟨vs, hd⟩, he, J.suite he hd na nL nF⟩
    have kept6 : ∀ {oe : Obj} {σ6 : L2.St} {H6 : Hp} {s6 : Shared}, Zc cls d oe → (∃ vs, oe.data = .fields vs) → Inv (X.suite a ((a, oe) :: (X.pn ++ pins))) [] σ6 H6 s6 → Inv X pins σ6 (upd H6 a (ExK cls d a)) s6 ∧ Same H6 (upd H6 a (ExK cls d a)) := fun {oe σ6 H6 s6} hz hd S6 => by
      obtain ⟨vs, hd⟩ := hd
      obtain ⟨p1, p2, p3, p4, p5⟩ := S6.pin (a, oe) (List.mem_append_left _ (List.mem_cons_self ..))
      exact ⟨lay_old (S6.unsuite ok) p2 h0 nL (fun v ⟨o, q1, q2⟩ => by rw [p1] at q1; cases q1; exact p5 v q2) np (exK_ok p1 hz hd), sameU p2⟩
    have go : ∀ {hs2 : List ExceptHandler}, Caught X D Wout cls d σ' H' hs2 → ∀ h, HandSPX.FlyingZ B (X.env :: X.outer) a (Zc cls d) h → sI.heap.UpToSlots h → wpAny (model X.prog X.w) X.A (handleBy (.ref a) X.env hs2) (SP X pins D) X.xe { s' with heap := h } := by
      intro hs2 hk
      induction hk with
      | out w =>
        intro h fl u
        refine wpAny_handleBy_nil ?_
        obtain ⟨_, _, _, oe, vs, T, oT, ts, he, hz, hd, h1, hr⟩ := id fl
        unfold PySem.passOn; refine wpAny_bind (wpAny_field he hd h1 ?_); rw [if_neg (show ¬ ((Value.ref T == Value.none) = true) from by simp)]
        have fin : wpAny (model X.prog X.w) X.A (setFlight (.ref a) X.env.frame) (fun _ s4 => wpAny (model X.prog X.w) X.A (throw (.ref a) : Sem Flow) (SP X pins D) X.xe s4) X.xe { s' with heap := h } := by
          rw [hf]; exact HandSPX.setFlight_upZ fl fun h4 hh4 up4 => wpAny_throw (ct.h _ _ ⟨a, B, sI, pins, σ', H', cls, d, rfl, JJ, nb, u.trans up4, .inr (.inr (by rw [hs]; exact hh4)), na, os, ag, w⟩)
        first | exact wpAny_bind (wpAny_pure (wpAny_bind fin)) | exact wpAny_bind fin
      | skip hc hx r ih =>
        intro h fl u
        obtain ⟨J, oe, hz, hd, he, S⟩ := fac h fl u
        refine wpAny_handleBy_cons (codeAny_handlers_test ?_) (by intro q; cases q)
        have LT : PySem.W.Looks (model X.prog X.w) h (typeOf (.ref a)) cls := fun A Q E s k q => wpAny_typeOf_ref (k _ _ he) (by rw [hz.1]; exact q)
        refine tst_name hc S ((PySem.W.exm_one (M := model X.prog X.w) J.kIn LT hx).here ?_)
        exact ih h fl u
      | @skipT es k cs tp pos nm b₀ suite hds t hz1 hx r ih =>
        intro h fl u
        obtain ⟨J, oe, hz, hd, he, S⟩ := fac h fl u
        refine wpAny_handleBy_cons (codeAny_handlers_test ?_) (by intro q; cases q)
        refine wpAny_Tuple_spliced (tst_run S t ⟨by rw [List.length_map]; exact Nat.le_trans hz1 (by decide), ?_⟩)
        have kp : ∀ b o, h.get? b = some o → (h.push { cls := .type "tuple", data := .seq (cs.map Value.ref).toArray }).get? b = some o := fun b o e => Heap.get?_push_of_some _ e
        have fl2 : HandSPX.FlyingZ B (X.env :: X.outer) a (Zc cls d) (h.push { cls := .type "tuple", data := .seq (cs.map Value.ref).toArray }) := by
          obtain ⟨q1, q2, q3, oe', vs, T, oT, ts, r1, r2, r3, r4, r5, r6, r7, r8⟩ := id fl
          exact ⟨fun b o e => kp b o (q1 b o e), q2, q3.of_keeps fun b o e _ => ⟨o, kp b o e, rfl⟩, oe', vs, T, oT, ts, kp _ _ r1, r2, r3, r4, r5, r6, kp _ _ r7, r8⟩
        have u2 : sI.heap.UpToSlots (h.push { cls := .type "tuple", data := .seq (cs.map Value.ref).toArray }) := u.trans fun b o e _ => ⟨o.slots, kp b o e⟩
        have LT : PySem.W.Looks (model X.prog X.w) (h.push { cls := .type "tuple", data := .seq (cs.map Value.ref).toArray }) (typeOf (.ref a)) cls := fun A Q E s k q => wpAny_typeOf_ref (k _ _ (kp _ _ he)) (by rw [hz.1]; exact q)
        refine (exm_none (M := model X.prog X.w) (fac _ fl2 u2).1.kIn LT (Heap.get?_push_size _ rfl) hx).here ?_
        exact ih _ fl2 u2
      | hit hc hx q =>
        intro h fl u
        obtain ⟨J, oe, hz, hd, he, S⟩ := fac h fl u
        refine wpAny_handleBy_cons (codeAny_handlers_test ?_) (by intro q; cases q)
        have LT : PySem.W.Looks (model X.prog X.w) h (typeOf (.ref a)) cls := fun A Q E s k q => wpAny_typeOf_ref (k _ _ he) (by rw [hz.1]; exact q)
        refine tst_name hc S ((PySem.W.exm_one (M := model X.prog X.w) J.kIn LT hx).here ?_)
        refine codeAny_handlers_suite (HandSPX.lands_againZ fl fun h4 fl4 up4 => ?_)
        obtain ⟨J4, oe4, hz4, hd4, he4, S4⟩ := fac h4 fl4 (u.trans up4)
        refine wpAny_mono ((q a oe4 (X.pn ++ pins) na hz4 hd4).run [] _ S4) (fun f s6 hsp => ?_) fun _ _ z => False.elim z
        cases f with
        | next => obtain ⟨σ6, H6, S6, q6⟩ := hsp; obtain ⟨k1, k2⟩ := kept6 hz4 hd4 S6; exact ⟨_, _, k1, q6 _ k2 upd_same⟩
        | brk => obtain ⟨σ6, H6, S6, q6⟩ := hsp; obtain ⟨k1, k2⟩ := kept6 hz4 hd4 S6; exact ⟨_, _, k1, q6 _ k2 upd_same⟩
        | cont => obtain ⟨σ6, H6, S6, q6⟩ := hsp; obtain ⟨k1, k2⟩ := kept6 hz4 hd4 S6; exact ⟨_, _, k1, q6 _ k2 upd_same⟩
        | ret v => obtain ⟨v6, σ6, H6, S6, r6, q6⟩ := hsp; obtain ⟨k1, k2⟩ := kept6 hz4 hd4 S6; exact ⟨_, _, _, k1, r6, q6 _ k2 upd_same⟩
      | @hitAs x n i c np pos b₀ suite hds hN hi hln hc hx q =>
        intro h fl u
        obtain ⟨J, oe, hz, hd, he, S⟩ := fac h fl u
        refine wpAny_handleBy_cons (codeAny_handlers_test ?_) (by intro q; cases q)
        have LT : PySem.W.Looks (model X.prog X.w) h (typeOf (.ref a)) cls := fun A Q E s k q => wpAny_typeOf_ref (k _ _ he) (by rw [hz.1]; exact q)
        refine tst_name hc S ((PySem.W.exm_one (M := model X.prog X.w) J.kIn LT hx).here ?_)
        refine codeAny_handlers_suite_as (HandSPX.lands_againZ fl fun h4 fl4 up4 => ?_)
        obtain ⟨J4, oe4, hz4, hd4, he4, S4⟩ := fac h4 fl4 (u.trans up4)
        have hloc : Loc X.env.scope n := .inl hln
        refine store_ok (X := X.suite a ((a, oe4) :: (X.pn ++ pins))) (v := .ref a) S4 hN hi hloc rfl (fun s5 S5 => ?_) (.inr hln)
        refine wpAny_mono ((q a oe4 (X.pn ++ pins) na hz4 hd4).run [] s5 S5) (fun f s6 hsp => ?_) fun _ _ z => False.elim z
        cases f with
        | next => obtain ⟨σ6, H6, S6, q6⟩ := hsp; obtain ⟨k1, k2⟩ := kept6 hz4 hd4 S6; exact gone_ok k1 hN hi hln fun s7 J7 => ⟨_, _, J7, q6 _ k2 upd_same⟩
        | brk => obtain ⟨σ6, H6, S6, q6⟩ := hsp; obtain ⟨k1, k2⟩ := kept6 hz4 hd4 S6; exact gone_ok k1 hN hi hln fun s7 J7 => ⟨_, _, J7, q6 _ k2 upd_same⟩
        | cont => obtain ⟨σ6, H6, S6, q6⟩ := hsp; obtain ⟨k1, k2⟩ := kept6 hz4 hd4 S6; exact gone_ok k1 hN hi hln fun s7 J7 => ⟨_, _, J7, q6 _ k2 upd_same⟩
        | ret v => obtain ⟨v6, σ6, H6, S6, r6, q6⟩ := hsp; obtain ⟨k1, k2⟩ := kept6 hz4 hd4 S6; exact gone_ok k1 hN hi hln fun s7 J7 => ⟨_, _, _, J7, r6, q6 _ k2 upd_same⟩
    exact go (hw cls d σ' H' w) h3 fl3 (up.trans up3)
  · cases f with
    | next => obtain ⟨σ2, H2, J2, q⟩ := hsp; exact q.run pins s1 (J2.ofTry ok)
    | brk => obtain ⟨σ2, H2, J2, q⟩ := hsp; exact ⟨σ2, H2, J2.ofTry ok, q⟩
    | cont => obtain ⟨σ2, H2, J2, q⟩ := hsp; exact ⟨σ2, H2, J2.ofTry ok, q⟩
    | ret v => obtain ⟨v, σ2, H2, J2, r, q⟩ := hsp; exact ⟨v, σ2, H2, J2.ofTry ok, r, q⟩
section
variable {X : Cx} {H : Hp} {Q : VK} {x y : Str} {a C E : Addr} {b : Bool} {mg : Str → Option Value}
theorem instK {pins : List (Addr × Obj)} {σ : L2.St} {s : Shared} (I : Inv X pins σ H s) (hk : H a = some (ExK (.ref E) none a)) : ∃ oe, PySem.W.InstAt s.heap a oe E none := by
  obtain ⟨⟨oe, vs, e, z, hv⟩, _⟩ : ObjOk X.prog X.w H s.heap a (ExK (.ref E) none a) := I.hok a _ hk
  refine ⟨oe, ?_⟩
  obtain ⟨oc, od, oda, osl⟩ := oe
  obtain ⟨h1, h2⟩ := z
  dsimp only at h1 h2 hv
  subst h1 h2 hv
  exact ⟨e, rfl, rfl, trivial⟩
/-- isinstance(e, C), e an exception that was caught and kept -/
theorem k_isK (TD : ExcF X.K mg x E) (TC : ExcF X.K mg y C) (hk : H a = some (ExK (.ref E) none a)) (h : PySem.W.subIn X.K (.ref E) (.ref C) = some b) (q : Q (.bl b) H) : kW X (.builtin "isinstance") [.ref a, .ref C] H Q := by
  refine ⟨fun pins s σ us I r => ?_⟩
  cases r with
  | cons rx rr =>
    cases rr with
    | cons rt rr =>
      cases rr; cases rx; cases rt
      obtain ⟨oe, J⟩ := instK I hk
      have K := TD.excC
      exact PySem.W.kia_one (PySem.W.handS_kitx_exc K.hg K.hk K.hs K.hd K.ha K.hn K.ht K.hm) I.kIn J (TD.kit TC h) (fun z => nomatch z) fun tk => ⟨.bl b, H, I.kept (t' := tk) fun _ _ z => z, rfl, q⟩
theorem k_isKV (TD : ExcF X.K mg x E) (hk : H a = some (ExK (.ref E) none a)) (q : Q (.bl true) H) : kW X (.builtin "isinstance") [.ref a, .ty "ValueError"] H Q := by
  refine ⟨fun pins s σ us I r => ?_⟩
  cases r with
  | cons rx rr =>
    cases rr with
    | cons rt rr =>
      cases rr; cases rx; cases rt
      obtain ⟨oe, J⟩ := instK I hk
      have K := TD.excC
      exact PySem.W.kia_one (PySem.W.handS_kitx_exc K.hg K.hk K.hs K.hd K.ha K.hn K.ht K.hm) I.kIn J TD.kitVE (fun z => nomatch z) fun tk => ⟨.bl true, H, I.kept (t' := tk) fun _ _ z => z, rfl, q⟩
end
/-! ### list(reversed(xs)) -/
section
open RT
section
variable {prog : Program} {w : World} {A : Around} {E : Value → Shared → Prop} {s : Shared}
theorem wpAny_extend_rev {R : Result → Shared → Prop} (hh : A.handled = none) {it l : Addr} {items : Array Value} (S : Addr) (res : Value) (c₀ : Nat) (hS : s.heap.get? S = some { cls := .type "list", data := .seq #[] c₀ })
    (hit : s.heap.IsRevIter it l ((items.size : Int) - 1)) (hl : s.heap.IsList l items) (hne : l ≠ it) (hSi : S ≠ it) (hSl : S ≠ l) (hn : items.size ≤ sizeLine)
    (hR : ∀ h' tk acc' c', (∀ b o, b ≠ S → b ≠ it → s.heap.get? b = some o → h'.get? b = some o) → h'.get? S = some { cls := .type "list", dict := none, data := .seq acc' c', slots := #[] } →
      ItemsOf (fun i v => items[items.size - 1 - i]? = some v) acc' items.size → R (.ok (.ret res)) { s with heap := h', toks := tk }) :
    wpAny (model prog w) A.in1 (Builtin.List.listExtendWith (.ref S) (.ref it) res)
      (fun fin s' => match fin with | .done f => R (.ok f) s' | .again c' => c'.quiet = true ∧ codeAny (model prog w) A c' R s') (fun e s' => R (.error e) s') s := by
  have W := (Walks.listRev (prog := prog) (w := w) (A := A.in1) hh it l hne items).toS
  have hSf : S ∉ [it, l] := by simp only [List.mem_cons, List.not_mem_nil, or_false, not_or]; exact ⟨hSi, hSl⟩
  have hT : s.TypeIs (.ref it) "list_reverseiterator" := Heap.IsRevIter.typeIs hit
  have h1 : Builtin.List.listSameRef (.ref S) (.ref it) = false := by simp [Builtin.List.listSameRef, hSi]
  unfold Builtin.List.listExtendWith
  refine wpAny_bind (wpAny_typeOf hT ?_)
  rw [if_neg (by rw [h1]; decide)]
  refine wpAny_bind (wpAny_pyIter_revIter hit ?_)
  refine wpAny_bind (wpAny_holding ?_)
  unfold Builtin.List.listLengthHint
  refine wpAny_bind (wpAny_specialOf hT nolen_lri ?_)
  show wpAny _ A.in1 (specialOf (Value.ref it) (Str.ofString "__length_hint__") >>= _) _ _ _
  refine wpAny_bind (wpAny_specialOf hT hint_lri ?_)
  generalize hid : ("list_reverseiterator.__length_hint__" : String) = id0
  wp_delta
  rw [show splitId id0 = some ("list_reverseiterator", "__length_hint__") from by subst hid; decide +kernel]
  subst hid
  refine wpAny_bind (wpAny_isInstance (b := true) hT (by rw [isSubtype_type]; kernel_rfl) ?_)
  refine wpAny_pure ?_
  rw [if_neg (by decide)]
  have e0 : ((items.size : Nat) : Int) - 1 - ((0 : Nat) : Int) = (items.size : Int) - 1 := by omega
  refine wpAny_pure ⟨plainId_quiet F.plain_extend_loop _, codeAny_extend_loopS W hn _ hSf _ items.size 0 _ _ _ rfl (Nat.zero_le _) ⟨Nat.zero_le _, by rw [e0]; exact hit, hl⟩ hS (ItemsOf.nil _) fun s' acc' c' hm hS' hacc => ?_⟩
  rw [Moved.eq_with hm]
  refine hR s'.heap s'.toks acc' c' (fun b o hb hb2 e => hm.heap b o (fun hmem => ?_) e) hS' hacc
  rcases List.mem_cons.mp hmem with e' | hmem
  · exact hb e'
  · exact hb2 (List.mem_singleton.mp hmem)
theorem call_list_rev {it l : Addr} {items : Array Value} {Q : Value → Shared → Prop} (hh : A.handled = none) (hit : s.heap.IsRevIter it l ((items.size : Int) - 1)) (hl : s.heap.IsList l items) (hne : l ≠ it) (hn : items.size ≤ sizeLine)
    (hQ : ∀ h' tk acc' c', (∀ b o, b ≠ it → s.heap.get? b = some o → h'.get? b = some o) →
      h'.get? s.heap.objs.size = some { cls := .type "list", dict := none, data := .seq acc' c', slots := #[] } → ItemsOf (fun i v => items[items.size - 1 - i]? = some v) acc' items.size → Q (.ref s.heap.objs.size) { s with heap := h', toks := tk }) :
    wpAny (model prog w) A (call (.type "list") [.ref it]) Q E s := by
  obtain ⟨oi, hoi, _⟩ := id hit
  obtain ⟨ol, hol, _⟩ := id hl
  have hSi : s.heap.objs.size ≠ it := Nat.ne_of_gt (Heap.lt_size hoi)
  have hSl : s.heap.objs.size ≠ l := Nat.ne_of_gt (Heap.lt_size hol)
  refine callType_codes (Q₁ := fun obj s₁ => obj = .ref s.heap.objs.size ∧ s₁ = { s with heap := s.heap.push { cls := .type "list", data := .seq #[] } }) F.called_list (F.typeCall_list_1 _) F.entry_list_init
    (code_list_new _ ⟨rfl, rfl⟩) fun obj s₁ h₁ => ?_
  obtain ⟨rfl, rfl⟩ := h₁
  have hS : (s.heap.push { cls := .type "list", data := .seq #[] }).get? s.heap.objs.size = some { cls := .type "list", data := .seq #[] } := Heap.get?_push_size _ rfl
  have hit1 : (s.heap.push { cls := .type "list", data := .seq #[] }).IsRevIter it l ((items.size : Int) - 1) := hit.at fun o e => Heap.get?_push_of_some _ e
  have hl1 : (s.heap.push { cls := .type "list", data := .seq #[] }).IsList l items := hl.push _
  refine ⟨⟨_, hS, rfl⟩, F.args_list_init_2 _ _, ?_⟩
  show wpAny _ _ (do let old ← Builtin.List.listItems (.ref s.heap.objs.size); Builtin.List.listUpdate (.ref s.heap.objs.size) (fun _ => #[]); letGo old.toList.reverse; Builtin.List.listExtendWith (.ref s.heap.objs.size) (.ref it) .none) _ _ _
  refine wpAny_bind ?_
  unfold Builtin.List.listItems
  refine wpAny_bind (wpAny_seqItems hS rfl (wpAny_pure ?_))
  show wpAny _ _ (updateSeq s.heap.objs.size (fun _ => #[]) >>= fun _ => letGo (#[] : Array Value).toList.reverse >>= fun _ => Builtin.List.listExtendWith (.ref s.heap.objs.size) (.ref it) .none) _ _ _
  refine wpAny_bind (wpAny_updateSeq hS rfl ?_)
  have hS₂ := Heap.get?_update_self (Obj.mapSeq (fun _ => (#[] : Array Value))) hS rfl
  have oth : ∀ b o, b ≠ s.heap.objs.size → (s.heap.push { cls := .type "list", data := .seq #[] }).get? b = some o → ((s.heap.push { cls := .type "list", data := .seq #[] }).update s.heap.objs.size (Obj.mapSeq (fun _ => (#[] : Array Value)))).get? b = some o :=
    fun b o hb e => (Heap.get?_update_other _ _ (Ne.symm hb)).trans e
  have hit2 : ((s.heap.push { cls := .type "list", data := .seq #[] }).update s.heap.objs.size (Obj.mapSeq (fun _ => (#[] : Array Value)))).IsRevIter it l ((items.size : Int) - 1) := hit1.at fun o e => oth it o hSi.symm e
  have hl2 : ((s.heap.push { cls := .type "list", data := .seq #[] }).update s.heap.objs.size (Obj.mapSeq (fun _ => (#[] : Array Value)))).IsList l items := by
    obtain ⟨o, ho, r⟩ := hl1
    exact ⟨o, oth l o hSl.symm ho, r⟩
  refine wpAny_bind (wpAny_letGo ?_)
  refine wpAny_extend_rev (s := { s with heap := (s.heap.push { cls := .type "list", data := .seq #[] }).update s.heap.objs.size (Obj.mapSeq (fun _ => (#[] : Array Value))) }) (R := wants (fun r s₂ => r = Value.none ∧ Q (Value.ref s.heap.objs.size) s₂) E) (A := A.in1) hh s.heap.objs.size .none _ hS₂ hit2 hl2 hne hSi hSl hn fun h' tk acc' c' hk hS' hacc => ?_
  exact ⟨rfl, hQ h' tk acc' c' (fun b o hb e => hk b o (Nat.ne_of_lt (Heap.lt_size e)) hb (oth b o (Nat.ne_of_lt (Heap.lt_size e)) (Heap.get?_push_of_some _ e))) hS' hacc⟩
end
/-- list(reversed(xs)), xs a list -/
theorem e_listRev {X : Cx} {σ : L2.St} {H : Hp} {Q : VK} {e : Expr} {p p2 pos pos2 : Pos} {mg : Str → Option Value} [cc : CxC X] [cm : CxM X mg] [g1 : Gn mg "list" none] [g2 : Gn mg "reversed" none]
    (h : eW X e σ H fun v H1 => ∃ (a : Addr) (xs : List V), v = .ref a ∧ SqL X.K H1 a xs ∧ ∀ l H2, Same H1 H2 → H1 l = none → H2 l = some (.lst xs.reverse) → (∀ b, b ≠ l → H2 b = H1 b) → Q (.ref l) H2)
    (hg : Gl X "list" := by rfl) (hg2 : Gl X "reversed" := by rfl) (hs : starEach [e] X.env = (false, eval e X.env) :: starEach [] X.env := by rfl)
    (hs2 : starEach [.Call (.Name "reversed" p2) [e] [] pos2] X.env = (false, eval (.Call (.Name "reversed" p2) [e] [] pos2) X.env) :: starEach [] X.env := by rfl) : eW X (.Call (.Name "list" p) [.Call (.Name "reversed" p2) [e] [] pos2] [] pos) σ H Q := by
  refine ⟨fun pins s I => ?_⟩
  have hm : X.mg "list" = none := by rw [cm.h]; exact g1.h
  have hm2 : X.mg "reversed" = none := by rw [cm.h]; exact g2.h
  refine Call_ (ld_blt I hg hm boot_list (PyProof.Rows.callWith_type1 (args_cons (Call_ (ld_blt I hg2 hm2 PyProof.Rows.boot_reversed (PyProof.Rows.callWith_type1 (args_cons (thn (h.run pins s I) fun u s1 ⟨v, H1, I1, r1, q1⟩ => args_nil ?_) hs) hs rfl))) hs2) hs2 rfl))
  obtain ⟨a, xs, ev, hq, q⟩ := q1
  subst ev
  obtain rfl : u = Value.ref a := r1
  obtain ⟨its, rv, p', hz⟩ := I1.list hq
  refine call_reversed_list p'.isList (args_nil ?_)
  have k0 : ∀ b o, s1.heap.get? b = some o → (s1.heap.push (revObj a ((its.toArray.size : Int) - 1))).get? b = some o := fun b o e => Heap.get?_push_of_some _ e
  have I2 : Inv X pins σ H1 { s1 with heap := s1.heap.push (revObj a ((its.toArray.size : Int) - 1)) } := I1.kept (t' := s1.toks) k0
  obtain ⟨f0, f1, f2, f3, f4, f5⟩ := I1.fpOk (H' := H1) (b := s1.heap.objs.size) (Nat.le_refl _) (I1.hok.fresh (Nat.le_refl _))
  have hl := p'.isList
  obtain ⟨ol, hol, _⟩ := id hl
  have hne : a ≠ s1.heap.objs.size := Nat.ne_of_lt (Heap.lt_size hol)
  have hn : its.toArray.size ≤ sizeLine := by rw [List.size_toArray, ← rv.length]; exact hz
  refine call_list_rev (s := { s1 with heap := s1.heap.push (revObj a ((its.toArray.size : Int) - 1)) }) (I1.ok.hd cc.h) ⟨_, Heap.get?_push_size _ rfl, rfl, rfl⟩ (hl.push _) hne hn fun h' tk acc c' hk hS hi => ?_
  have I3 : Inv X pins σ H1 { s1 with heap := h', toks := tk } := I2.turned (t' := tk) (fun b o hb e => hk b o hb e) f0 f1 f3 f4 f5
  have hn1 : H1 (s1.heap.push (revObj a ((its.toArray.size : Int) - 1))).objs.size = none := I2.hok.fresh (Nat.le_refl _)
  refine ⟨.ref _, upd H1 (s1.heap.push (revObj a ((its.toArray.size : Int) - 1))).objs.size (.lst xs.reverse), I1.laid (t' := tk) (fun b u e => hk b u (Nat.ne_of_lt (Heap.lt_size e)) (k0 b u e)) ?_ ⟨by rw [List.length_reverse]; exact hz, acc.toList, c', RT.vals_rev rv hi, by simpa using hS⟩, rfl, q _ _ (sameU hn1) hn1 upd_same fun b hb => upd_ne hb⟩
  show s1.heap.objs.size ≤ _
  rw [Heap.size_push]
  omega
end
/-! ### comprehensions with one if, told turn by turn -/
section
variable {X : Cx} {σ : L2.St} {H : Hp} {Q : VK} {pos p2 p3 : Pos} {it tg elt cnd : Expr} {D : Ends}
theorem lcF_h {sc : Scope} {own : List (Str × Nat)} {R : Addr → Hp → Prop} (c : Nat → Bool) (ys : Nat → V)
    (h : jW X tg it σ H fun J H1 => ∃ n G Y, Walk J n G Y ∧ n ≤ 100000 ∧ (∀ H', Same H1 H' → G H') ∧
      (∀ i x H' H2, i < n → Same H1 H' → Y i H' x H2 → Same H' H2 ∧ gB X sc tg x (wipe σ (own.map (·.2))) H2 fun σ3 H3 => wipe σ3 (own.map (·.2)) = wipe σ (own.map (·.2)) ∧ Same H2 H3 ∧ tB' X sc cnd σ3 H3 fun k H4 => Same H3 H4 ∧ k = c i ∧ (k = true → eB X sc elt σ3 H4 fun y H5 => y = ys i ∧ Same H4 H5)) ∧
      ∀ l H', Same H1 H' → H1 l = none → H' l = some (.lst (((List.range n).filter c).map ys)) → R l H') :
    jW X tg it σ H fun J H1 => ∃ n G Y, Walk J n G Y ∧ ∀ D, H1 D = none → ∃ Pv : Nat → Hp → Prop, Pv 0 (upd H1 D (.lst [])) ∧ (∀ i H', i ≤ n → Pv i H' → G H') ∧
      (∀ i x H' H2, i < n → Pv i H' → Y i H' x H2 → gB X sc tg x (wipe σ (own.map (·.2))) H2 fun σ3 H3 => wipe σ3 (own.map (·.2)) = wipe σ (own.map (·.2)) ∧ tB' X sc cnd σ3 H3 fun k H4 => if k = true then eB X sc elt σ3 H4 fun y H5 => ∃ acc, H5 D = some (.lst acc) ∧ acc.length < sizeLine ∧ Pv (i + 1) (upd H5 D (.lst (acc ++ [y]))) else Pv (i + 1) H4) ∧
      ∀ H', Pv n H' → R D H' := by
  refine ⟨fun pins s I => wpAny_mono (h.run pins s I) (fun v s1 q => wpAny_mono q (fun u s2 ⟨i, fp, tn, J, H2, e, I2, T, t0, f2, n, G, Y, w, hn, q1, q2, q3⟩ => ⟨i, fp, tn, J, H2, e, I2, T, t0, f2, n, G, Y, w, fun D' hD => ⟨fun i H' => Same H2 H' ∧ H' D' = some (.lst (((List.range i).filter c).map ys)), ⟨sameU hD, upd_same⟩, fun _ _ _ p => q1 _ p.1, fun i x H' H3 hi p y s0 H0 C cl fp => ?_, fun H' p => q3 D' H' p.1 hD p.2⟩⟩) fun _ _ z => z) fun _ _ z => z⟩
  obtain ⟨k1, k2⟩ := q2 i x H' H3 hi p.1 y
  obtain ⟨p1, p2⟩ := p
  have step : (List.range (i + 1)).filter c = (List.range i).filter c ++ (if c i = true then [i] else []) := by
    rw [List.range_succ, List.filter_append]
    congr 1
    by_cases q : c i = true
    · rw [if_pos q, List.filter_cons_of_pos q, List.filter_nil]
    · rw [if_neg q, List.filter_cons_of_neg q, List.filter_nil]
  refine ⟨fun pins s' u I r => wpAny_mono ((k2 s0 H0 C cl fp).run pins s' u I r) (fun _ s'' ⟨σ', H'', I'', e1, e2, e3⟩ => ⟨σ', H'', I'', e1, fun s0 H0 C cl fp => ⟨fun pins s' I => wpAny_mono ((e3 s0 H0 C cl fp).run pins s' I) (fun u s4 ⟨H4, I4, e4, ek, ey⟩ => ⟨H4, I4, ?_⟩) fun _ _ z => z⟩⟩) fun _ _ z => z⟩
  have s4' : Same H' H4 := fun b o q => e4 _ _ (e2 _ _ (k1 _ _ q))
  cases u with
  | false =>
    refine iteF ⟨fun b o q => s4' _ _ (p1 _ _ q), ?_⟩
    rw [step, if_neg (by rw [← ek]; exact Bool.false_ne_true), List.append_nil]
    exact s4' _ _ p2
  | true =>
    refine iteT fun s0 H0 C cl fp => ⟨fun pins s' I => wpAny_mono ((ey rfl s0 H0 C cl fp).run pins s' I) (fun u s5 ⟨v5, H5, I5, r5, ev, e5⟩ => ⟨v5, H5, I5, r5, _, e5 _ _ (s4' _ _ p2), ?_, ?_, ?_⟩) fun _ _ z => z⟩
    · rw [List.length_map]
      have := List.length_filter_le c (List.range i)
      rw [List.length_range] at this
      rw [sizeLine_eq]
      omega
    · intro b o e
      rw [upd_ne (ne_of_none e hD)]
      exact e5 _ _ (s4' _ _ (p1 _ _ e))
    · rw [upd_same, step, if_pos ek.symm, List.map_append, ev]
      rfl
theorem e_lcF {sc : Scope} {N : List Str} {own : List (Str × Nat)} [cc : CxC X] [cn : CxN X N] [nd : NdN N] (ok : BlkOk N X.env.scope sc own) (c : Nat → Bool) (ys : Nat → V)
    (h : jW X tg it σ H fun J H1 => ∃ n G Y, Walk J n G Y ∧ n ≤ 100000 ∧ (∀ H', Same H1 H' → G H') ∧
      (∀ i x H' H2, i < n → Same H1 H' → Y i H' x H2 → Same H' H2 ∧ gB X sc tg x (wipe σ (own.map (·.2))) H2 fun σ3 H3 => wipe σ3 (own.map (·.2)) = wipe σ (own.map (·.2)) ∧ Same H2 H3 ∧ tB' X sc cnd σ3 H3 fun k H4 => Same H3 H4 ∧ k = c i ∧ (k = true → eB X sc elt σ3 H4 fun y H5 => y = ys i ∧ Same H4 H5)) ∧
      ∀ l H', Same H1 H' → H1 l = none → H' l = some (.lst (((List.range n).filter c).map ys)) → Q (.ref l) H') (hs : ∀ x, foldedSetIterable it X.env x = pure x := by intro _; rfl) : eW X (.ListComp elt [⟨tg, it, [cnd], 0⟩] sc pos) σ H Q :=
  e_lcI ok (lcF_h (R := fun l H' => Q (.ref l) H') c ys h) hs
theorem s_setLcF {sc : Scope} {N : List Str} {own : List (Str × Nat)} {y : Str} {i : Nat} [cc : CxC X] [cn : CxN X N] [sl : Slt N y i] [nd : NdN N] (ok : BlkOk N X.env.scope sc own) (c : Nat → Bool) (ys : Nat → V)
    (h : jW X tg it σ H fun J H1 => ∃ n G Y, Walk J n G Y ∧ n ≤ 100000 ∧ (∀ H', Same H1 H' → G H') ∧
      (∀ i x H' H2, i < n → Same H1 H' → Y i H' x H2 → Same H' H2 ∧ gB X sc tg x (wipe σ (own.map (·.2))) H2 fun σ3 H3 => wipe σ3 (own.map (·.2)) = wipe σ (own.map (·.2)) ∧ Same H2 H3 ∧ tB' X sc cnd σ3 H3 fun k H4 => Same H3 H4 ∧ k = c i ∧ (k = true → eB X sc elt σ3 H4 fun y H5 => y = ys i ∧ Same H4 H5)) ∧
      ∀ l H', Same H1 H' → H1 l = none → H' l = some (.lst (((List.range n).filter c).map ys)) → D.nx (σ.set i (some (.ref l))) H') (hyl : X.env.scope.names.lookup y = some .local := by rfl)
    (hsw : swapsWith (.ListComp elt [⟨tg, it, [cnd], 0⟩] sc pos) (some (.Name y p2)) p3.line X.env = pure true := by exact sw_true rfl rfl rfl (by decide +kernel)) (hs : ∀ x, foldedSetIterable it X.env x = pure x := by intro _; rfl) : sW X (.Assign [.Name y p2] (.ListComp elt [⟨tg, it, [cnd], 0⟩] sc pos) p3) D σ H :=
  s_setLcI ok (lcF_h (R := fun l H' => D.nx (σ.set i (some (.ref l))) H') c ys h) hyl hsw hs
theorem lcG_h {sc : Scope} {own : List (Str × Nat)} {R : Addr → Hp → Prop}
    (h : jW X tg it σ H fun J H1 => ∃ c : Nat → Bool, ∃ ys : Nat → V, ∃ n G Y, Walk J n G Y ∧ n ≤ 100000 ∧ (∀ H', Same H1 H' → G H') ∧
      (∀ i x H' H2, i < n → Same H1 H' → Y i H' x H2 → Same H' H2 ∧ gB X sc tg x (wipe σ (own.map (·.2))) H2 fun σ3 H3 => wipe σ3 (own.map (·.2)) = wipe σ (own.map (·.2)) ∧ Same H2 H3 ∧ tB' X sc cnd σ3 H3 fun k H4 => Same H3 H4 ∧ k = c i ∧ (k = true → eB X sc elt σ3 H4 fun y H5 => y = ys i ∧ Same H4 H5)) ∧
      ∀ l H', Same H1 H' → H1 l = none → H' l = some (.lst (((List.range n).filter c).map ys)) → R l H') :
    jW X tg it σ H fun J H1 => ∃ n G Y, Walk J n G Y ∧ ∀ D, H1 D = none → ∃ Pv : Nat → Hp → Prop, Pv 0 (upd H1 D (.lst [])) ∧ (∀ i H', i ≤ n → Pv i H' → G H') ∧
      (∀ i x H' H2, i < n → Pv i H' → Y i H' x H2 → gB X sc tg x (wipe σ (own.map (·.2))) H2 fun σ3 H3 => wipe σ3 (own.map (·.2)) = wipe σ (own.map (·.2)) ∧ tB' X sc cnd σ3 H3 fun k H4 => if k = true then eB X sc elt σ3 H4 fun y H5 => ∃ acc, H5 D = some (.lst acc) ∧ acc.length < sizeLine ∧ Pv (i + 1) (upd H5 D (.lst (acc ++ [y]))) else Pv (i + 1) H4) ∧
      ∀ H', Pv n H' → R D H' := by
  refine ⟨fun pins s I => wpAny_mono (h.run pins s I) (fun v s1 q => wpAny_mono q (fun u s2 ⟨i, fp, tn, J, H2, e, I2, T, t0, f2, c, ys, n, G, Y, w, hn, q1, q2, q3⟩ => ⟨i, fp, tn, J, H2, e, I2, T, t0, f2, n, G, Y, w, fun D' hD => ⟨fun i H' => Same H2 H' ∧ H' D' = some (.lst (((List.range i).filter c).map ys)), ⟨sameU hD, upd_same⟩, fun _ _ _ p => q1 _ p.1, fun i x H' H3 hi p y s0 H0 C cl fp => ?_, fun H' p => q3 D' H' p.1 hD p.2⟩⟩) fun _ _ z => z) fun _ _ z => z⟩
  obtain ⟨k1, k2⟩ := q2 i x H' H3 hi p.1 y
  obtain ⟨p1, p2⟩ := p
  have step : (List.range (i + 1)).filter c = (List.range i).filter c ++ (if c i = true then [i] else []) := by
    rw [List.range_succ, List.filter_append]
    congr 1
    by_cases q : c i = true
    · rw [if_pos q, List.filter_cons_of_pos q, List.filter_nil]
    · rw [if_neg q, List.filter_cons_of_neg q, List.filter_nil]
  refine ⟨fun pins s' u I r => wpAny_mono ((k2 s0 H0 C cl fp).run pins s' u I r) (fun _ s'' ⟨σ', H'', I'', e1, e2, e3⟩ => ⟨σ', H'', I'', e1, fun s0 H0 C cl fp => ⟨fun pins s' I => wpAny_mono ((e3 s0 H0 C cl fp).run pins s' I) (fun u s4 ⟨H4, I4, e4, ek, ey⟩ => ⟨H4, I4, ?_⟩) fun _ _ z => z⟩⟩) fun _ _ z => z⟩
  have s4' : Same H' H4 := fun b o q => e4 _ _ (e2 _ _ (k1 _ _ q))
  cases u with
  | false =>
    refine iteF ⟨fun b o q => s4' _ _ (p1 _ _ q), ?_⟩
    rw [step, if_neg (by rw [← ek]; exact Bool.false_ne_true), List.append_nil]
    exact s4' _ _ p2
  | true =>
    refine iteT fun s0 H0 C cl fp => ⟨fun pins s' I => wpAny_mono ((ey rfl s0 H0 C cl fp).run pins s' I) (fun u s5 ⟨v5, H5, I5, r5, ev, e5⟩ => ⟨v5, H5, I5, r5, _, e5 _ _ (s4' _ _ p2), ?_, ?_, ?_⟩) fun _ _ z => z⟩
    · rw [List.length_map]
      have := List.length_filter_le c (List.range i)
      rw [List.length_range] at this
      rw [sizeLine_eq]
      omega
    · intro b o e
      rw [upd_ne (ne_of_none e hD)]
      exact e5 _ _ (s4' _ _ (p1 _ _ e))
    · rw [upd_same, step, if_pos ek.symm, List.map_append, ev]
      rfl
theorem e_lcG {sc : Scope} {N : List Str} {own : List (Str × Nat)} [cc : CxC X] [cn : CxN X N] [nd : NdN N] (ok : BlkOk N X.env.scope sc own)
    (h : jW X tg it σ H fun J H1 => ∃ c : Nat → Bool, ∃ ys : Nat → V, ∃ n G Y, Walk J n G Y ∧ n ≤ 100000 ∧ (∀ H', Same H1 H' → G H') ∧
      (∀ i x H' H2, i < n → Same H1 H' → Y i H' x H2 → Same H' H2 ∧ gB X sc tg x (wipe σ (own.map (·.2))) H2 fun σ3 H3 => wipe σ3 (own.map (·.2)) = wipe σ (own.map (·.2)) ∧ Same H2 H3 ∧ tB' X sc cnd σ3 H3 fun k H4 => Same H3 H4 ∧ k = c i ∧ (k = true → eB X sc elt σ3 H4 fun y H5 => y = ys i ∧ Same H4 H5)) ∧
      ∀ l H', Same H1 H' → H1 l = none → H' l = some (.lst (((List.range n).filter c).map ys)) → Q (.ref l) H') (hs : ∀ x, foldedSetIterable it X.env x = pure x := by intro _; rfl) : eW X (.ListComp elt [⟨tg, it, [cnd], 0⟩] sc pos) σ H Q :=
  e_lcI ok (lcG_h (R := fun l H' => Q (.ref l) H') h) hs
theorem s_setLcG {sc : Scope} {N : List Str} {own : List (Str × Nat)} {y : Str} {i : Nat} [cc : CxC X] [cn : CxN X N] [sl : Slt N y i] [nd : NdN N] (ok : BlkOk N X.env.scope sc own)
    (h : jW X tg it σ H fun J H1 => ∃ c : Nat → Bool, ∃ ys : Nat → V, ∃ n G Y, Walk J n G Y ∧ n ≤ 100000 ∧ (∀ H', Same H1 H' → G H') ∧
      (∀ i x H' H2, i < n → Same H1 H' → Y i H' x H2 → Same H' H2 ∧ gB X sc tg x (wipe σ (own.map (·.2))) H2 fun σ3 H3 => wipe σ3 (own.map (·.2)) = wipe σ (own.map (·.2)) ∧ Same H2 H3 ∧ tB' X sc cnd σ3 H3 fun k H4 => Same H3 H4 ∧ k = c i ∧ (k = true → eB X sc elt σ3 H4 fun y H5 => y = ys i ∧ Same H4 H5)) ∧
      ∀ l H', Same H1 H' → H1 l = none → H' l = some (.lst (((List.range n).filter c).map ys)) → D.nx (σ.set i (some (.ref l))) H') (hyl : X.env.scope.names.lookup y = some .local := by rfl)
    (hsw : swapsWith (.ListComp elt [⟨tg, it, [cnd], 0⟩] sc pos) (some (.Name y p2)) p3.line X.env = pure true := by exact sw_true rfl rfl rfl (by decide +kernel)) (hs : ∀ x, foldedSetIterable it X.env x = pure x := by intro _; rfl) : sW X (.Assign [.Name y p2] (.ListComp elt [⟨tg, it, [cnd], 0⟩] sc pos) p3) D σ H :=
  s_setLcI ok (lcG_h (R := fun l H' => D.nx (σ.set i (some (.ref l))) H') h) hyl hsw hs
theorem e_lcQ {sc : Scope} {N : List Str} {own : List (Str × Nat)} [cc : CxC X] [cn : CxN X N] [nd : NdN N] (ok : BlkOk N X.env.scope sc own)
    (h : jW X tg it σ H fun J H1 => ∃ Pr : Nat → V → Prop, ∃ n G Y, Walk J n G Y ∧ n ≤ 100000 ∧ (∀ H', Same H1 H' → G H') ∧
      (∀ i x H' H2, i < n → Same H1 H' → Y i H' x H2 → Same H' H2 ∧ gB X sc tg x (wipe σ (own.map (·.2))) H2 fun σ3 H3 => wipe σ3 (own.map (·.2)) = wipe σ (own.map (·.2)) ∧ Same H2 H3 ∧ eB X sc elt σ3 H3 fun y H4 => Pr i y ∧ Same H3 H4) ∧
      ∀ l H' ys, Same H1 H' → H1 l = none → H' l = some (.lst ys) → ys.length = n → (∀ i y, ys[i]? = some y → Pr i y) → Q (.ref l) H') (hs : ∀ x, foldedSetIterable it X.env x = pure x := by intro _; rfl) : eW X (.ListComp elt [⟨tg, it, [], 0⟩] sc pos) σ H Q := by
  refine e_lc ok ⟨fun pins s I => wpAny_mono (h.run pins s I) (fun v s1 q => wpAny_mono q (fun u s2 ⟨i, fp, tn, J, H2, e, I2, T, t0, f2, Pr, n, G, Y, w, hn, q1, q2, q3⟩ => ⟨i, fp, tn, J, H2, e, I2, T, t0, f2, n, G, Y, w, fun D' hD => ⟨fun i H' => Same H2 H' ∧ ∃ acc, H' D' = some (.lst acc) ∧ acc.length = i ∧ ∀ j z, acc[j]? = some z → Pr j z, ⟨fun b o e => by rw [upd_ne (ne_of_none e hD)]; exact e, [], upd_same, rfl, by simp⟩, fun _ _ _ p => q1 _ p.1, fun i x H' H3 hi p y s0 H0 C cl fp => ?_, fun H' p => by
    obtain ⟨p1, acc, p2, p3, p4⟩ := p
    exact q3 D' H' acc p1 hD p2 p3 p4⟩⟩) fun _ _ z => z) fun _ _ z => z⟩ hs
  obtain ⟨k1, k2⟩ := q2 i x H' H3 hi p.1 y
  obtain ⟨p1, acc, p2, p3, p4⟩ := p
  refine ⟨fun pins s' u I r => wpAny_mono ((k2 s0 H0 C cl fp).run pins s' u I r) (fun _ s'' ⟨σ', H'', I'', e1, e2, e3⟩ => ⟨σ', H'', I'', e1, fun s0 H0 C cl fp => ⟨fun pins s' I => wpAny_mono ((e3 s0 H0 C cl fp).run pins s' I) (fun u s4 ⟨v4, H4, I4, r4, ev, e4⟩ => ⟨v4, H4, I4, r4, acc, e4 _ _ (e2 _ _ (k1 _ _ p2)), ?_, ?_, acc ++ [v4], upd_same, ?_, ?_⟩) fun _ _ z => z⟩⟩) fun _ _ z => z⟩
  · rw [p3]
    exact Nat.lt_of_lt_of_le (Nat.lt_of_lt_of_le hi hn) (by decide)
  · intro b o e
    rw [upd_ne (ne_of_none e hD)]
    exact e4 _ _ (e2 _ _ (k1 _ _ (p1 _ _ e)))
  · rw [List.length_append, p3]; rfl
  · intro j z hz
    by_cases hj : j < i
    · rw [List.getElem?_append_left (by omega)] at hz
      exact p4 j z hz
    · rw [List.getElem?_append_right (by omega), p3] at hz
      have hj2 : j = i := by
        have := (List.getElem?_eq_some_iff.mp hz).1
        simp at this
        omega
      subst hj2
      simp at hz
      rw [← hz]
      exact ev
theorem s_setLcQ {sc : Scope} {N : List Str} {own : List (Str × Nat)} {y : Str} {i : Nat} [cc : CxC X] [cn : CxN X N] [sl : Slt N y i] [nd : NdN N] (ok : BlkOk N X.env.scope sc own)
    (h : jW X tg it σ H fun J H1 => ∃ Pr : Nat → V → Prop, ∃ n G Y, Walk J n G Y ∧ n ≤ 100000 ∧ (∀ H', Same H1 H' → G H') ∧
      (∀ i x H' H2, i < n → Same H1 H' → Y i H' x H2 → Same H' H2 ∧ gB X sc tg x (wipe σ (own.map (·.2))) H2 fun σ3 H3 => wipe σ3 (own.map (·.2)) = wipe σ (own.map (·.2)) ∧ Same H2 H3 ∧ eB X sc elt σ3 H3 fun y H4 => Pr i y ∧ Same H3 H4) ∧
      ∀ l H' ys, Same H1 H' → H1 l = none → H' l = some (.lst ys) → ys.length = n → (∀ i y, ys[i]? = some y → Pr i y) → D.nx (σ.set i (some (.ref l))) H') (hyl : X.env.scope.names.lookup y = some .local := by rfl)
    (hsw : swapsWith (.ListComp elt [⟨tg, it, [], 0⟩] sc pos) (some (.Name y p2)) p3.line X.env = pure true := by exact sw_true rfl rfl rfl (by decide +kernel)) (hs : ∀ x, foldedSetIterable it X.env x = pure x := by intro _; rfl) : sW X (.Assign [.Name y p2] (.ListComp elt [⟨tg, it, [], 0⟩] sc pos) p3) D σ H := by
  refine s_setLc ok ⟨fun pins s I => wpAny_mono (h.run pins s I) (fun v s1 q => wpAny_mono q (fun u s2 ⟨i, fp, tn, J, H2, e, I2, T, t0, f2, Pr, n, G, Y, w, hn, q1, q2, q3⟩ => ⟨i, fp, tn, J, H2, e, I2, T, t0, f2, n, G, Y, w, fun D' hD => ⟨fun i H' => Same H2 H' ∧ ∃ acc, H' D' = some (.lst acc) ∧ acc.length = i ∧ ∀ j z, acc[j]? = some z → Pr j z, ⟨fun b o e => by rw [upd_ne (ne_of_none e hD)]; exact e, [], upd_same, rfl, by simp⟩, fun _ _ _ p => q1 _ p.1, fun i x H' H3 hi p y s0 H0 C cl fp => ?_, fun H' p => by
    obtain ⟨p1, acc, p2, p3, p4⟩ := p
    exact q3 D' H' acc p1 hD p2 p3 p4⟩⟩) fun _ _ z => z) fun _ _ z => z⟩ hyl hsw hs
  obtain ⟨k1, k2⟩ := q2 i x H' H3 hi p.1 y
  obtain ⟨p1, acc, p2, p3, p4⟩ := p
  refine ⟨fun pins s' u I r => wpAny_mono ((k2 s0 H0 C cl fp).run pins s' u I r) (fun _ s'' ⟨σ', H'', I'', e1, e2, e3⟩ => ⟨σ', H'', I'', e1, fun s0 H0 C cl fp => ⟨fun pins s' I => wpAny_mono ((e3 s0 H0 C cl fp).run pins s' I) (fun u s4 ⟨v4, H4, I4, r4, ev, e4⟩ => ⟨v4, H4, I4, r4, acc, e4 _ _ (e2 _ _ (k1 _ _ p2)), ?_, ?_, acc ++ [v4], upd_same, ?_, ?_⟩) fun _ _ z => z⟩⟩) fun _ _ z => z⟩
  · rw [p3]
    exact Nat.lt_of_lt_of_le (Nat.lt_of_lt_of_le hi hn) (by decide)
  · intro b o e
    rw [upd_ne (ne_of_none e hD)]
    exact e4 _ _ (e2 _ _ (k1 _ _ (p1 _ _ e)))
  · rw [List.length_append, p3]; rfl
  · intro j z hz
    by_cases hj : j < i
    · rw [List.getElem?_append_left (by omega)] at hz
      exact p4 j z hz
    · rw [List.getElem?_append_right (by omega), p3] at hz
      have hj2 : j = i := by
        have := (List.getElem?_eq_some_iff.mp hz).1
        simp at this
        omega
      subst hj2
      simp at hz
      rw [← hz]
      exact ev
end
theorem filter_ix {α : Type} (f : α → V) (p : α → Bool) (d : V) : ∀ (l : List α), ((List.range l.length).filter fun i => (l[i]?.map p).getD false).map (fun i => (l[i]?.map f).getD d) = (l.filter p).map f
  | [] => rfl
  | a :: l => by
    rw [List.length_cons, List.range_succ_eq_map, List.filter_cons, List.filter_map]
    have ih := filter_ix f p d l
    have e1 : ((fun i => ((a :: l)[i]?.map p).getD false) ∘ Nat.succ) = fun i => (l[i]?.map p).getD false := by
      funext i
      simp
    rw [e1]
    simp only [List.getElem?_cons_zero, Option.map_some, Option.getD_some]
    by_cases q : p a = true
    · rw [if_pos q, List.filter_cons_of_pos q, List.map_cons, List.map_cons, List.map_map, ← ih]
      simp [Function.comp_def]
    · rw [if_neg q, List.filter_cons_of_neg q, List.map_map, ← ih]
      simp [Function.comp_def]
/-! ### a dict that is walked is locked -/
def lockD (D : Ends) (d : Addr) (u : HO) (od : Obj) : Ends where
  nx := fun σ H => H d = some (.frz od u) ∧ ∀ H2, H2 d = some u → (∀ b, b ≠ d → H2 b = H b) → D.nx σ H2
  rt := fun v H => H d = some (.frz od u) ∧ ∀ H2, H2 d = some u → (∀ b, b ≠ d → H2 b = H b) → D.rt v H2
  bk := fun σ H => H d = some (.frz od u) ∧ ∀ H2, H2 d = some u → (∀ b, b ≠ d → H2 b = H b) → D.bk σ H2
  ct := fun σ H => H d = some (.frz od u) ∧ ∀ H2, H2 d = some u → (∀ b, b ≠ d → H2 b = H b) → D.ct σ H2
theorem s_lock {X : Cx} {st : Stmt} {D : Ends} {σ : L2.St} {H : Hp} {d : Addr} {u : HO} (hd : H d = some u) (mu : Mut (some u)) (h : ∀ od H1, H1 d = some (.frz od u) → (∀ b, b ≠ d → H1 b = H b) → sW X st (lockD D d u od) σ H1) : sW X st D σ H :=
  sI (ps_lock PSw) ⟨d, u, hd, mu, fun od => ⟨fun pins s I => wpAny_mono ((h od _ upd_same fun b hb => upd_ne hb).run pins s I) (fun f s1 q => by
    cases f with
    | next => obtain ⟨σ', H', a, e, c⟩ := q; exact ⟨σ', H', a, e, c _ upd_same fun b hb => upd_ne hb⟩
    | brk => obtain ⟨σ', H', a, e, c⟩ := q; exact ⟨σ', H', a, e, c _ upd_same fun b hb => upd_ne hb⟩
    | cont => obtain ⟨σ', H', a, e, c⟩ := q; exact ⟨σ', H', a, e, c _ upd_same fun b hb => upd_ne hb⟩
    | ret v => obtain ⟨x, σ', H', a, r, e, c⟩ := q; exact ⟨x, σ', H', a, r, e, c _ upd_same fun b hb => upd_ne hb⟩) fun _ _ z => z⟩⟩
/-! ### words that want that a token was given out; replace -/
structure eT (X : Cx) (e : Expr) (σ : L2.St) (H : Hp) (Q : VK) : Prop where
  run : ∀ pins s, 1 ≤ s.toks → Inv X pins σ H s → wpAny (model X.prog X.w) X.A (eval e X.env) (EP X pins σ Q) X.xe s
structure aT (X : Cx) (es : List Expr) (σ : L2.St) (H : Hp) (Q : List V → Hp → Prop) : Prop where
  run : ∀ pos pins s, 1 ≤ s.toks → Inv X pins σ H s → wpAny (model X.prog X.w) X.A (spliced (backTo pos (starEach es X.env))) (AP X pins σ Q) X.xe s
section
variable {X : Cx} {σ : L2.St} {H : Hp} {Q : VK} {R : List V → Hp → Prop} {pos p2 apos : Pos} {a o : Expr} {es : List Expr} {c y z : Str} {j k : Nat} {c0 c1 : Pos}
theorem eT_of (h : eW X a σ H Q) : eT X a σ H Q := ⟨fun pins s _ I => h.run pins s I⟩
theorem aT_of (h : aW X es σ H R) : aT X es σ H R := ⟨fun pos pins s _ I => h.run pos pins s I⟩
theorem aT_cons (h : eT X a σ H fun x H1 => aT X es σ H1 fun xs H2 => R (x :: xs) H2) (hs : starEach (a :: es) X.env = (false, eval a X.env) :: starEach es X.env := by rfl) : aT X (a :: es) σ H R := ⟨fun pos pins s ht I => by
  rw [hs]
  show wpAny _ _ (spliced ((false, eval a X.env) :: backTo pos (starEach es X.env))) _ _ s
  exact Calls.spliced_cons (wpAny_mono (PySem.wpAny_toks (h.run pins s ht I)) (fun u s1 ⟨hk, x, H1, I1, r1, q1⟩ => wpAny_mono (q1.run pos pins s1 (Nat.le_trans ht hk) I1) (fun us s2 ⟨xs, H2, I2, r2, q2⟩ => ⟨x :: xs, H2, I2, .cons r1 r2, q2⟩) fun _ _ w => w) fun _ _ w => w.2)⟩
theorem a_binS {op : Operator} (h : eW X a σ H fun x H1 => oW X (binaryOp op) x (.str c) H1 fun v H2 => aT X es σ H2 fun xs H3 => R (v :: xs) H3)
    (hs : starEach (.BinOp a op (.Constant (.str c) j p2) pos :: es) X.env = (false, eval (.BinOp a op (.Constant (.str c) j p2) pos) X.env) :: starEach es X.env := by rfl) : aW X (.BinOp a op (.Constant (.str c) j p2) pos :: es) σ H R := ⟨fun pos2 pins s I => by
  rw [hs]
  show wpAny _ _ (spliced ((false, eval _ X.env) :: backTo pos2 (starEach es X.env))) _ _ s
  exact Calls.spliced_cons (wpAny_BinOp (thn (h.run pins s I) fun v s1 ⟨x, H1, I1, r1, q1⟩ => Calls.Constant_str (wpAny_mono (PySem.wpAny_toks (q1.run pins _ σ v _ (I1.tok (s1.toks + 1)) r1 ⟨s1.toks, rfl⟩)) (fun u s3 ⟨hk, w, H3, I3, r3, q3⟩ =>
    wpAny_mono (q3.run pos2 pins s3 (Nat.le_trans (Nat.le_add_left 1 _) hk) I3) (fun us s4 ⟨xs, H4, I4, r4, q4⟩ => ⟨w :: xs, H4, I4, .cons r3 r4, q4⟩) fun _ _ w => w) fun _ _ w => w.2)))⟩
theorem eT_repl (h : eW X o σ H fun v H1 => ∃ x, v = .str x ∧ x.length + (x.length + 1) * z.length ≤ 16777216 ∧ Q (.str (Txt.replace x y z)) H1) (hyz : (y == z) = false := by decide)
    (hst : starEach [.Constant (.str y) j c0, .Constant (.str z) k c1] X.env = [(false, eval (.Constant (.str y) j c0) X.env), (false, eval (.Constant (.str z) k c1) X.env)] := by rfl)
    (hbase : attributeBase o "replace" X.env (eval o X.env) = eval o X.env := by rfl) (hline : (apos.endLine == pos.line) = true := by rfl) : eT X (.Call (.Attribute o "replace" apos) [.Constant (.str y) j c0, .Constant (.str z) k c1] [] pos) σ H Q :=
  ⟨fun pins s ht I => CwR.pet_replC PEw hyz hst hbase hline pins s σ H Q ht I h⟩
theorem e_lower (h : eW X o σ H fun v H1 => ∃ x, v = .str x ∧ x.length ≤ 5592405 ∧ Q (.str (Txt.lower x)) H1) (hbase : attributeBase o "lower" X.env (eval o X.env) = eval o X.env := by rfl) (hline : (apos.endLine == pos.line) = true := by rfl) : eW X (.Call (.Attribute o "lower" apos) [] [] pos) σ H Q :=
  eI (pe_lower PEw hbase hline) (eMono h fun v H1 ⟨x, e, hz, q⟩ => ⟨⟨x, e⟩, x, e, rfl, hz, q⟩)
end
/-! ### the longer walk: what stands in a heap, found by itself -/
theorem _root_.L2.Same.none {G H : Hp} {p : Addr} (s : Same G H) (h : H p = Option.none) : G p = Option.none := by
  cases e : G p with
  | none => rfl
  | some o => rw [s _ _ e] at h; cases h
theorem Same.at' {G H : Hp} {p : Addr} {o : HO} (s : Same G H) (h : G p = some o) : H p = some o := s _ _ h
theorem Same.seq' {K : PySem.W.Frag} {G H : Hp} {a : Addr} {xs : List V} (s : Same G H) (h : SqL K G a xs) : SqL K H a xs := s.seq h
theorem Same.seqT' {K : PySem.W.Frag} {G H : Hp} {a : Addr} {xs : List V} (s : Same G H) (h : SqT K G a xs) : SqT K H a xs := sq_more s h
theorem Same.th' {K : PySem.W.Frag} {G H : Hp} {v : V} {d : PyData} (s : Same G H) (h : Th K G v d) : Th K H v d := Th.more s d v h
theorem Same.thA' {K : PySem.W.Frag} {G H : Hp} {v : List V} {d : List PyData} (s : Same G H) (h : ThAll K G v d) : ThAll K H v d := ThAll.more s d v h
theorem Same.tr' {F G H : Hp} (s : Same G H) (h : Same F G) : Same F H := h.trans s
mutual
theorem Th.dp {K : PySem.W.Frag} {H : Hp} : ∀ (d : PyData) (v : V), Th K H v d → d.canLay0 = true → Dp K H v d
  | .none, _, h, _ => by cases h; exact .non
  | .bool _, _, h, _ => by cases h; exact .bl _
  | .int _, _, h, _ => by cases h; exact .int _
  | .str _, _, h, _ => by cases h; exact .str _
  | .list ds, _, h, c => by cases h with | lst hs ha => exact .lst hs (ThAll.dp ds _ ha c)
  | .tuple ds, _, h, c => by cases h with | tup hs ha => exact .tup hs (ThAll.dp ds _ ha c)
  | .dict _, _, _, c => by cases c
theorem ThAll.dp {K : PySem.W.Frag} {H : Hp} : ∀ (ds : List PyData) (vs : List V), ThAll K H vs ds → PyData.canLayAll0 ds = true → DpAll K H vs ds
  | [], _, h, _ => by cases h; exact .nil
  | d :: ds, _, h, c => by
    have c2 : (d.canLay0 && PyData.canLayAll0 ds) = true := c
    rw [Bool.and_eq_true] at c2
    cases h with | cons h1 h2 => exact .cons (Th.dp d _ h1 c2.1) (ThAll.dp ds _ h2 c2.2)
end
theorem Th.dpS {K : PySem.W.Frag} {H : Hp} {k : Nat} {d : PyData} {v : V} (h : Th K H v d) (s : Sh k d) : Dp K H v d := Th.dp d v h s.can
theorem vals_signs : ∀ (cs : List Nat) (vs : List Value), vs.length = cs.length → (∀ (j : Nat) (v : Value), vs[j]? = some v → ∃ c u, cs[j]? = some c ∧ v = Value.str ⟨#[c]⟩ u) → Vals (cs.map fun c => V.str ⟨#[c]⟩) vs
  | [], [], _, _ => .nil
  | c :: cs, v :: vs, h, k => by
    obtain ⟨c', u, e1, e2⟩ := k 0 v rfl
    cases e1
    exact .cons ⟨u, e2⟩ (vals_signs cs vs (by simpa using h) fun j w e => by simpa using k (j + 1) w (by simpa using e))
  | [], _ :: _, h, _ => by simp at h
  | _ :: _, [], h, _ => by simp at h
/-- list(s), s a text -/
theorem k_listS {X : Cx} {H : Hp} {Q : VK} {z : Str} [cc : CxC X] (hz : z.length ≤ 100000) (q : ∀ l H2, Same H H2 → H l = none → H2 l = some (.lst ((tl z).map fun c => V.str ⟨#[c]⟩)) → (∀ b, b ≠ l → H2 b = H b) → Q (.ref l) H2) : kW X (.type "list") [.str z] H Q := ⟨fun pins s σ us I r => by
  obtain ⟨u, rfl, rx⟩ := vals1 r
  obtain ⟨t, rfl⟩ := rx
  have hz2 : z.cps.size ≤ sizeLine := Nat.le_trans (show z.length ≤ 100000 from hz) (by decide)
  refine PySem.call_list_str (I.ok.hd cc.h) z t (fun h' tk acc' c' k e hit => ?_) hz2
  have hn := I.hok.fresh (Nat.le_refl s.heap.objs.size)
  refine ⟨.ref _, upd H s.heap.objs.size (.lst ((tl z).map fun c => V.str ⟨#[c]⟩)), I.laid (t' := tk) k (Nat.le_refl _) ⟨?_, acc'.toList, c', vals_signs _ _ ?_ fun j v hv => ?_, by simpa using e⟩, rfl, q _ _ (sameU hn) hn upd_same fun b hb => upd_ne hb⟩
  · rw [List.length_map]; exact hz2
  · rw [Array.length_toList, hit.1]
    rfl
  · obtain ⟨c, u, q1, q2⟩ := hit.2 j v (by simpa using hv)
    exact ⟨c, u, by simpa [tl] using q1, q2⟩⟩
/-! ### enumerate over a tuple, over a text -/
section
open PySem.Builtin PySem.W
set_option maxHeartbeats 2000000 in
theorem meets_enum1 {v : Value} {o : Obj} {H : Heap → Prop} (B : Begins v o H) :
    Meets (Builtin.«enumerate.__new__» ⟨[.type "enumerate", v], []⟩) (fun _ R s => H s.heap ∧
      R (.ok (.ret (.ref (s.heap.push o).objs.size))) { s with heap := (s.heap.push o).push { cls := .type "enumerate", data := .fields #[.none, .bool false, .ref s.heap.objs.size, rawInt 0, .none, .none] } }) :=
  .of_wp fun prog w A R s h => by
    obtain ⟨hp, g, d, tk, os⟩ := s; obtain ⟨h1, h⟩ := h
    have hsub := sub_enumerate
    have q1 : ∀ {A' : Around} {E : Value → Shared → Prop} {Q : Value → Shared → Prop}, Q (.ref hp.objs.size) ⟨hp.push o, g, d, tk, os⟩ → wpAny (model prog w) A' (pyIter v) Q E ⟨hp, g, d, tk, os⟩ :=
      fun q => B.iter prog w _ _ ⟨hp, g, d, tk, os⟩ _ h1 q
    wp_walk using q1
    refine wpAny_stack_any fun st => wpAny_pure ?_
    split
    · rename_i c _ _ _ _ _
      cases (c == Value.type "enumerate")
      · wp_walk using q1
        exact ⟨_, rfl, h⟩
      · wp_walk using q1
        exact ⟨_, rfl, h⟩
    · wp_walk using q1
      exact ⟨_, rfl, h⟩
theorem enum_begins1 {prog : Program} {w : World} {A : Around} {E : Value → Shared → Prop} {s : Shared} {v : Value} {o : Obj} {H : Heap → Prop} {Q : Value → Shared → Prop} (B : Begins v o H) (h1 : H s.heap)
    (h : ∀ h', IsEnum h' (s.heap.objs.size + 1) s.heap.objs.size 0 .none → h'.get? s.heap.objs.size = some o → h'.objs.size = s.heap.objs.size + 2 →
      (∀ b o, s.heap.get? b = some o → h'.get? b = some o) → Q (.ref (s.heap.objs.size + 1)) { s with heap := h' }) :
    wpAny (model prog w) A (call (.type "enumerate") [v]) Q E s := by
  refine callType_new F.called_enumerate (by decide) (F.typeCall_enumerate_1 _) (F.newCall_enumerate_1 _) (fun obj => F.args_object_init_2 obj _) F.entry_enumerate_new
    (meets_enum1 B) ⟨h1, ?_⟩
  have hz : (s.heap.push o).objs.size = s.heap.objs.size + 1 := Heap.size_push ..
  show _ ∧ _
  rw [hz]
  have he : IsEnum ((s.heap.push o).push { cls := .type "enumerate", data := .fields #[.none, .bool false, .ref s.heap.objs.size, rawInt 0, .none, .none] }) (s.heap.objs.size + 1) s.heap.objs.size 0 .none := by
    have := Heap.get?_push_size (s.heap.push o) (o := { cls := .type "enumerate", data := .fields #[.none, .bool false, .ref s.heap.objs.size, rawInt 0, .none, .none] }) rfl
    rw [hz] at this; exact this
  refine ⟨⟨_, he, rfl⟩, h _ he (Heap.get?_push_of_some _ (Heap.get?_push_size _ B.free)) (by rw [Heap.size_push, hz]) fun b o x => Heap.get?_push_of_some _ (Heap.get?_push_of_some _ x)⟩
def IteT (K : PySem.W.Frag) (a : Addr) : It :=
  ⟨fun i H => ∃ (xs : List V) (x : V), SqT K H a xs ∧ xs[i]? = some x, fun i H v H' => ∃ T x, v = .ref T ∧ H T = none ∧ H' = upd H T (.tup [.int (i : Nat), x]) ∧ ∀ xs, SqT K H a xs → xs[i]? = some x, fun i H => ∃ xs : List V, SqT K H a xs ∧ xs.length = i⟩
def IteS (z : Str) : It :=
  ⟨fun i _ => i < z.cps.size, fun i H v H' => ∃ T c, v = .ref T ∧ H T = none ∧ H' = upd H T (.tup [.int (i : Nat), .str ⟨#[c]⟩]) ∧ z.cps[i]? = some c, fun i _ => i = z.cps.size⟩
theorem enum_turn {X : Cx} {pins : List (Addr × Obj)} {s : Shared} {σ : L2.St} {H : Hp} {E : Value → Shared → Prop} {elts : List Expr} {kk : Nat} {tpos : Pos} {e it : Addr} {fp : List Addr} {n i : Nat} {Pu : Nat → Value → Prop} {St : Nat → Heap → Prop} {PV : V → Prop} {old : Value}
    (I : Inv X pins σ H s) (hf : ∀ b ∈ [e, it], FpOk X pins H b) (D : Draws X.prog X.w X.A.in1 it fp n Pu St) (he : IsEnum s.heap e it ((i : Nat) : Int) old) (hst : St i s.heap) (hlt : i < n) (hne : e ≠ it) (hef : e ∉ fp)
    (hPV : ∀ u, Pu i u → ∃ x, RelV x u ∧ PV x) :
    wpAny (model X.prog X.w) X.A (pyNext (.ref e)) (fun r s1 => ∃ u, r = some u ∧ wpAny (model X.prog X.w) X.A (letOwnedTupleGo (.Tuple elts kk tpos) (.ref e) u) (fun _ s2 => ∃ x H', Inv X pins σ H' s2 ∧ RelV x u ∧
      (∃ T y, x = .ref T ∧ H T = none ∧ H' = upd H T (.tup [.int (i : Nat), y]) ∧ PV y) ∧ ((∃ old, IsEnum s2.heap e it ((i + 1 : Nat) : Int) old) ∧ St (i + 1) s2.heap) ∧ ∀ b ∈ [e, it], H' b = none) E s1) E s := by
  have hel : e < s.heap.objs.size := Heap.lt_size he
  have hil : it < s.heap.objs.size := by obtain ⟨_, q⟩ := D.live _ _ hst; exact Heap.lt_size q
  refine wpAny_pyNext_enum_itemD D he hst hlt hne hef fun u h' tk hPu ho hst' hT hsz hk => ?_
  obtain ⟨x, ru, px⟩ := hPV u hPu
  refine ⟨_, rfl, wpAny_letOwnedTupleGo_enum (s := { s with heap := h', toks := tk + 1 }) ho fun h'' he' sb => ?_⟩
  have hT2 : h''.get? s.heap.objs.size = some { cls := .type "tuple", data := .seq #[.int i tk, u] } := (sb.2 _ (Nat.ne_of_gt hel)).trans hT
  have new : ObjOk X.prog X.w (upd H s.heap.objs.size (.tup [.int (i : Nat), x])) h'' s.heap.objs.size (.tup [.int (i : Nat), x]) :=
    ⟨by show 2 ≤ sizeLine; decide, [.int i tk, u], .cons ⟨_, rfl⟩ (.cons ru .nil), ⟨_, hT2, rfl, _, rfl⟩⟩
  have I1 : Inv X pins σ (upd H s.heap.objs.size (.tup [.int (i : Nat), x])) { s with heap := h'', toks := tk + 1 } :=
    I.turnedNew (ch := [e, it]) (fun b ob hb q => (sb.2 b (fun z => hb (by simp [z]))).trans (hk b ob (fun z => hb (by simp [z])) (fun z => hb (by simp [z])) q)) hf (Nat.le_refl _) new
  refine ⟨.ref s.heap.objs.size, _, I1, rfl, ⟨_, x, rfl, I.hok.fresh (Nat.le_refl _), rfl, px⟩, ⟨⟨u, ?_⟩, D.frame _ _ _ hst' fun b hb o q => (sb.2 b fun z => hef (z ▸ hb)).trans q⟩, fun b hb => ?_⟩
  · have e1 : ((i + 1 : Nat) : Int) = (i : Int) + 1 := by omega
    rw [e1]; exact he'
  · have hb' : b < s.heap.objs.size := by
      have e' : b = e ∨ b = it := by simpa using hb
      rcases e' with z | z
      · rw [z]; exact hel
      · rw [z]; exact hil
    rw [upd_ne (Nat.ne_of_lt hb')]
    exact (hf b hb).1
theorem turn_enumT {P : Program} {w : World} {K : PySem.W.Frag} {elts : List Expr} {kk : Nat} {tpos : Pos} (a e it : Addr) :
    Turn P w K (.Tuple elts kk tpos) (IteT K a) [e, it] e (fun i h => (∃ old, IsEnum h e it ((i : Nat) : Int) old) ∧ h.IsTupleIter it a i ∧ e ≠ it ∧ a ≠ it ∧ a ≠ e) where
  mem := by simp
  obj := fun i h st b hb => by
    obtain ⟨⟨old, he⟩, ⟨o, ho, hc, hd⟩, _⟩ := st
    have e' : b = e ∨ b = it := by simpa using hb
    rcases e' with z | z
    · rw [z]; exact ⟨_, he, fun v q => nomatch q⟩
    · rw [z]; exact ⟨o, ho, fun v q => by rw [hd] at q; cases q⟩
  keep := fun i h h' st k => let ⟨⟨old, he⟩, hi, hne⟩ := st; ⟨⟨old, k e (by simp) _ he⟩, hi.at fun o q => k it (by simp) o q, hne⟩
  item := by
    intro X hP hw hK hc i pins s σ H E I hf st hg
    subst hP hw hK
    obtain ⟨⟨old, he⟩, hit, hne, hai, hae⟩ := st
    obtain ⟨xs, x, hq, hx⟩ := hg
    obtain ⟨its, rv, p, hz⟩ := I.tuple hq
    obtain ⟨u, hu, ru⟩ := rv.get hx
    have hli : i < its.toArray.size := by
      have := (List.getElem?_eq_some_iff.mp hu).1
      simpa using this
    refine wpAny_mono (enum_turn (PV := fun y => ∀ xs, SqT X.K H a xs → xs[i]? = some y) I hf (Draws.tuple (A := X.A.in1) (show X.A.in1.handled = Option.none from I.ok.hd hc) it a hai its.toArray) he ⟨hit, p⟩ hli hne (by simp only [List.mem_cons, List.not_mem_nil, or_false, not_or]; exact ⟨hne, hae.symm⟩) fun u' hu' => ?_) (fun r s1 ⟨u1, e1, h1⟩ => ⟨u1, e1, wpAny_mono h1 (fun _ s2 ⟨x2, H', I2, r2, y2, ⟨q1, q2, _⟩, q3⟩ => ⟨x2, H', I2, r2, y2, ⟨q1, q2, hne, hai, hae⟩, q3⟩) fun _ _ z => z⟩) fun _ _ z => z
    have e2 : u' = u := by
      have hu' : its.toArray[i]? = some u' := hu'
      rw [List.getElem?_toArray, hu] at hu'
      exact (Option.some.inj hu').symm
    subst e2
    exact ⟨x, ru, fun ys hy => by rw [I.tuple_inj hy hq]; exact hx⟩
  done := by
    intro X hP hw hK hc i pins s σ H E I hf st hg
    subst hP hw hK
    obtain ⟨⟨old, he⟩, hit, hne, hai, hae⟩ := st
    obtain ⟨xs, hq, hx⟩ := hg
    obtain ⟨its, rv, p, hz⟩ := I.tuple hq
    obtain ⟨f0, f1, f2, f3, f4, f5⟩ := hf it (by simp)
    have hl := rv.length
    refine wpAny_pyNext_enum_endD (Draws.tuple (A := X.A.in1) (show X.A.in1.handled = Option.none from I.ok.hd hc) it a hai its.toArray) he (St := fun i h => h.IsTupleIter it a i ∧ h.IsTuple a its.toArray) ⟨?_, p⟩ fun h' eb => ⟨rfl, I.turned (t' := s.toks) (fun b o hb q => eb b o hb q) f0 f1 f3 f4 f5⟩
    rw [List.size_toArray, ← hl, hx]
    exact hit
  self := fun A i s Q E st h => let ⟨⟨_, he⟩, _⟩ := st; wpAny_pyIter_enum he h
theorem j_enumT {X : Cx} {σ : L2.St} {H : Hp} {R : It → Hp → Prop} {a : Expr} {p2 p3 pos : Pos} {mg : Str → Option Value} {elts : List Expr} {kk : Nat} [cm : CxM X mg] [g : Gn mg "enumerate" none] (h : eW X a σ H fun v H1 => ∃ (p : Addr) (xs : List V), v = .ref p ∧ SqT X.K H1 p xs ∧ R (IteT X.K p) H1) (hg : Gl X "enumerate" := by rfl) (hs : starEach [a] X.env = (false, eval a X.env) :: starEach [] X.env := by rfl) :
    jW X (.Tuple elts kk p3) (.Call (.Name "enumerate" p2) [a] [] pos) σ H R := ⟨fun pins s I => by
  have hm : X.mg "enumerate" = none := by rw [cm.h]; exact g.h
  refine Call_ (ld_blt I hg hm boot_enumerate (PyProof.Rows.callWith_type1 (args_cons (thn (h.run pins s I) fun u s1 ⟨v, H1, I1, r1, q1⟩ => args_nil ?_) hs) hs rfl))
  obtain ⟨p, xs, ev, hq, q⟩ := q1
  subst ev
  obtain rfl : u = Value.ref p := r1
  obtain ⟨its, rv, p', hz⟩ := I1.tuple hq
  refine enum_begins1 (begins_tuple p its.toArray) p' fun h' he hit hsz hk => wpAny_pyIter_enum he ?_
  have I2 : Inv X pins σ H1 { s1 with heap := h' } := I1.kept (t' := s1.toks) hk
  have hpl : p < s1.heap.objs.size := by obtain ⟨o, ho, _⟩ := p'; exact Heap.lt_size ho
  refine ⟨s1.heap.objs.size + 1, [s1.heap.objs.size + 1, s1.heap.objs.size], _, _, H1, rfl, I2, turn_enumT p (s1.heap.objs.size + 1) s1.heap.objs.size, ⟨⟨.none, he⟩, ⟨_, hit, rfl, rfl⟩, Nat.succ_ne_self _, Nat.ne_of_lt hpl, Nat.ne_of_lt (Nat.lt_succ_of_lt hpl)⟩, fun b hb => ?_, q⟩
  have e' : b = s1.heap.objs.size + 1 ∨ b = s1.heap.objs.size := by simpa using hb
  have hle : s1.heap.objs.size ≤ b := by
    rcases e' with z | z
    · rw [z]; exact Nat.le_add_right _ _
    · rw [z]; exact Nat.le_refl _
  exact I1.fpOk hle (I1.hok.fresh hle)⟩
theorem walk_enumT {K : PySem.W.Frag} {a : Addr} {xs : List V} : Walk (IteT K a) xs.length (fun H => SqT K H a xs) (fun i H v H' => ∃ T x, v = .ref T ∧ H T = none ∧ H' = upd H T (.tup [.int (i : Nat), x]) ∧ xs[i]? = some x) :=
  ⟨fun i _ hi q => ⟨xs, xs[i], q, by simp [hi]⟩, fun _ q => ⟨xs, q, rfl⟩, fun _ _ _ _ _ q ⟨T, x, e1, e2, e3, e4⟩ => ⟨T, x, e1, e2, e3, e4 xs q⟩⟩
theorem walk_enumL {K : PySem.W.Frag} {a : Addr} {xs : List V} : Walk (Ite K a) xs.length (fun H => SqL K H a xs) (fun i H v H' => ∃ T x, v = .ref T ∧ H T = none ∧ H' = upd H T (.tup [.int (i : Nat), x]) ∧ xs[i]? = some x) :=
  ⟨fun i _ hi q => ⟨xs, xs[i], q, by simp [hi]⟩, fun _ q => ⟨xs, q, Nat.le_refl _⟩, fun _ _ _ _ _ q ⟨T, x, e1, e2, e3, e4⟩ => ⟨T, x, e1, e2, e3, e4 xs q⟩⟩
theorem turn_enumS {P : Program} {w : World} {K : PySem.W.Frag} {elts : List Expr} {kk : Nat} {tpos : Pos} (z : Str) (t : Tok) (e it : Addr) :
    Turn P w K (.Tuple elts kk tpos) (IteS z) [e, it] e (fun i h => (∃ old, IsEnum h e it ((i : Nat) : Int) old) ∧ h.IsStrIter it (strIterType z) z t i ∧ e ≠ it) where
  mem := by simp
  obj := fun i h st b hb => by
    obtain ⟨⟨old, he⟩, ⟨o, ho, hc, hd⟩, _⟩ := st
    have e' : b = e ∨ b = it := by simpa using hb
    rcases e' with z | z
    · rw [z]; exact ⟨_, he, fun v q => nomatch q⟩
    · rw [z]; exact ⟨o, ho, fun v q => by rw [hd] at q; cases q⟩
  keep := fun i h h' st k => let ⟨⟨old, he⟩, ⟨o, ho, r⟩, hne⟩ := st; ⟨⟨old, k e (by simp) _ he⟩, ⟨o, k it (by simp) o ho, r⟩, hne⟩
  item := by
    intro X hP hw hK hc i pins s σ H E I hf st hg
    subst hP hw hK
    obtain ⟨⟨old, he⟩, hit, hne⟩ := st
    have hg : i < z.cps.size := hg
    refine wpAny_mono (enum_turn (PV := fun y => ∃ c, z.cps[i]? = some c ∧ y = V.str ⟨#[c]⟩) I hf (Draws.text (A := X.A.in1) (show X.A.in1.handled = Option.none from I.ok.hd hc) it z t) he hit hg hne (by simp only [List.mem_cons, List.not_mem_nil, or_false]; exact hne) fun u' hu' => ?_) (fun r s1 ⟨u1, e1, h1⟩ => ⟨u1, e1, wpAny_mono h1 (fun _ s2 ⟨x2, H', I2, r2, ⟨T, y, y1, y2, y3, c, y4, y5⟩, ⟨q1, q2⟩, q3⟩ => ⟨x2, H', I2, r2, ⟨T, c, y1, y2, by rw [y3, y5], y4⟩, ⟨q1, q2, hne⟩, q3⟩) fun _ _ z => z⟩) fun _ _ z => z
    obtain ⟨c, u, q1, rfl⟩ := hu'
    exact ⟨.str ⟨#[c]⟩, ⟨u, rfl⟩, c, q1, rfl⟩
  done := by
    intro X hP hw hK hc i pins s σ H E I hf st hg
    subst hP hw hK
    obtain ⟨⟨old, he⟩, hit, hne⟩ := st
    have hg : i = z.cps.size := hg
    obtain ⟨f0, f1, f2, f3, f4, f5⟩ := hf it (by simp)
    exact wpAny_pyNext_enum_endD (Draws.text (A := X.A.in1) (show X.A.in1.handled = Option.none from I.ok.hd hc) it z t) he (by rw [← hg]; exact hit) fun h' eb => ⟨rfl, I.turned (t' := s.toks) (fun b o hb q => eb b o hb q) f0 f1 f3 f4 f5⟩
  self := fun A i s Q E st h => let ⟨⟨_, he⟩, _⟩ := st; wpAny_pyIter_enum he h
theorem j_enumS {X : Cx} {σ : L2.St} {H : Hp} {R : It → Hp → Prop} {a : Expr} {p2 p3 pos : Pos} {mg : Str → Option Value} {elts : List Expr} {kk : Nat} [cm : CxM X mg] [g : Gn mg "enumerate" none] (h : eW X a σ H fun v H1 => ∃ (z : Str), v = .str z ∧ R (IteS z) H1) (hg : Gl X "enumerate" := by rfl) (hs : starEach [a] X.env = (false, eval a X.env) :: starEach [] X.env := by rfl) :
    jW X (.Tuple elts kk p3) (.Call (.Name "enumerate" p2) [a] [] pos) σ H R := ⟨fun pins s I => by
  have hm : X.mg "enumerate" = none := by rw [cm.h]; exact g.h
  refine Call_ (ld_blt I hg hm boot_enumerate (PyProof.Rows.callWith_type1 (args_cons (thn (h.run pins s I) fun u s1 ⟨v, H1, I1, r1, q1⟩ => args_nil ?_) hs) hs rfl))
  obtain ⟨z, ev, q⟩ := q1
  subst ev
  obtain ⟨t, rfl⟩ := r1
  refine enum_begins1 (begins_text z t) trivial fun h' he hit hsz hk => wpAny_pyIter_enum he ?_
  have I2 : Inv X pins σ H1 { s1 with heap := h' } := I1.kept (t' := s1.toks) hk
  refine ⟨s1.heap.objs.size + 1, [s1.heap.objs.size + 1, s1.heap.objs.size], _, _, H1, rfl, I2, turn_enumS z t (s1.heap.objs.size + 1) s1.heap.objs.size, ⟨⟨.none, he⟩, ⟨_, hit, rfl, rfl⟩, Nat.succ_ne_self _⟩, fun b hb => ?_, q⟩
  have e' : b = s1.heap.objs.size + 1 ∨ b = s1.heap.objs.size := by simpa using hb
  have hle : s1.heap.objs.size ≤ b := by
    rcases e' with z | z
    · rw [z]; exact Nat.le_add_right _ _
    · rw [z]; exact Nat.le_refl _
  exact I1.fpOk hle (I1.hok.fresh hle)⟩
theorem walk_enumS {z : Str} : Walk (IteS z) z.cps.size (fun _ => True) (fun i H v H' => ∃ T c, v = .ref T ∧ H T = none ∧ H' = upd H T (.tup [.int (i : Nat), .str ⟨#[c]⟩]) ∧ z.cps[i]? = some c) :=
  ⟨fun i _ hi _ => hi, fun _ _ => rfl, fun _ _ _ _ _ _ y => y⟩
end
/-! ### a part's first sign -/
def isSg (p : Str) : Bool := (tl p).head? == some 39
section
variable {X : Cx} {σ : L2.St} {H : Hp} {R : Bool → Hp → Prop} {p1 p2 p3 p4 : Pos} {e : Expr} {j1 j2 : Nat}
theorem isq (a : Nat) : decide ((⟨#[a]⟩ : Str) = Str.ofString "'") = decide (a = 39) := decide_eq_decide.mpr (by
  have h : tl (Str.ofString "'") = [39] := by decide +kernel
  constructor
  · intro e
    have : tl (⟨#[a]⟩ : Str) = [39] := by rw [e, h]
    exact (List.cons.inj this).1
  · intro e
    exact ext_tl (by rw [h, e]))
theorem isq_sg {p : Str} {c : Nat} {l : List Nat} (h : tl p = c :: l) : isSg p = decide (c = 39) := by
  unfold isSg
  rw [h]
  show (some c == some 39) = _
  by_cases q : c = 39
  · rw [q]; rfl
  · rw [decide_eq_false q]; simp [q]
theorem o_sgN {p : Str} {c : Nat} {l : List Nat} (h : tl p = c :: l) {Q : VK} (q : Q (.bl (!isSg p)) H) : oW X (compareOp .NotEq) (.str ⟨#[c]⟩) (.str (Str.ofString "'")) H Q := o_neS (by rw [isq, ← isq_sg h]; exact q)
theorem o_sgE {p : Str} {c : Nat} {l : List Nat} (h : tl p = c :: l) {Q : VK} (q : Q (.bl (isSg p)) H) : oW X (compareOp .Eq) (.str ⟨#[c]⟩) (.str (Str.ofString "'")) H Q := o_eqS (by rw [isq, ← isq_sg h]; exact q)
/-- e[0] != "'" -/
theorem t_sg (h : eW X e σ H fun x H1 => ∃ p, x = .str p ∧ ((∃ c l, tl p = c :: l) ∧ p.length ≤ 1000000) ∧ R (!isSg p) H1) : tW X (.Compare (.Subscript e (.Constant (.int 0) j1 p1) p2) [.NotEq] [.Constant (.str (Str.ofString "'")) j2 p3] p4) σ H R :=
  t_cmp (e_ix (eMono h fun x H1 ⟨p, ex, ⟨⟨c, l, hc⟩, hl⟩, q⟩ => by
    subst ex
    exact e_int (i_str (sz1m hl) (c := c) (by rw [show p.cps.toList = c :: l from hc]; exact atI_nat (by decide) rfl) (e_str (o_sgN hc ⟨_, rfl, q⟩)))))
theorem t_sgE (h : eW X e σ H fun x H1 => ∃ p, x = .str p ∧ ((∃ c l, tl p = c :: l) ∧ p.length ≤ 1000000) ∧ R (isSg p) H1) : tW X (.Compare (.Subscript e (.Constant (.int 0) j1 p1) p2) [.Eq] [.Constant (.str (Str.ofString "'")) j2 p3] p4) σ H R :=
  t_cmp (e_ix (eMono h fun x H1 ⟨p, ex, ⟨⟨c, l, hc⟩, hl⟩, q⟩ => by
    subst ex
    exact e_int (i_str (sz1m hl) (c := c) (by rw [show p.cps.toList = c :: l from hc]; exact atI_nat (by decide) rfl) (e_str (o_sgE hc ⟨_, rfl, q⟩)))))
end
/-! ### dicts by values: what stands at a key -/
theorem subTail {M : Model} {A : Around} {E : Value → Shared → Prop} {s : Shared} {prog : Program} {w : World} {value slice : Expr} {o i : Value} {T id : String} {Q : Value → Shared → Prop} (hT : s.TypeIs o T)
    (hl : typeLookup (.type T) "__getitem__" = pure (some (.builtin id))) (h : wpAny (model prog w) A (getItem o i) Q E s)
    (hs : subscripted slice false o i = operate [o, i] (getItem o i)) : wpAny (model prog w) A (subscriptTail value slice o i) Q E s := by
  unfold subscriptTail
  refine wpAny_bind ?_
  rw [getitemInPython_of_ne hT.not_modules]
  refine wpAny_bind (wpAny_specialOf hT hl ?_)
  have fin : wpAny (model prog w) A (subscripted slice false o i) (fun r s₃ => wpAny (model prog w) A (letTemporaryGo value o r >>= fun _ => pure r) Q E s₃) E s := by
    rw [hs]
    exact wpAny_operating (wpAny_mono h (fun r s₃ h₃ => wpAny_bind (wpAny_letTemporaryGo (wpAny_pure h₃))) fun _ _ x => x)
  first
    | exact wpAny_pure (wpAny_bind fin)
    | exact wpAny_bind (wpAny_pure (wpAny_bind fin))
    | exact wpAny_bind fin
section
variable {X : Cx} {σ : L2.St} {H : Hp} {Q : VK} {a b : Addr} {y v : V} {r : Option V} {pos p2 apos : Pos} {o e f : Expr}
theorem i_dget (hu : X.A.units + 1 < cLine) (g : DGet H a y (some v)) (q : Q v H) : iW X (.ref a) y H Q := ⟨fun value slice pins s σ u' u I rx ry hs => by
  obtain rfl : u' = Value.ref a := rx
  exact subTail (M := model X.prog X.w) (dict_typeIs I g) PySem.F.slot_dict_getitem.lookup (d_getItem hu I g ry fun w' s3 I3 rw' => ⟨v, H, I3, rw', q⟩) hs⟩
theorem o_din (hu : X.A.units + 1 < cLine) (g : DGet H a y r) (q : Q (.bl r.isSome) H) : oW X (compareOp .In) y (.ref a) H Q := ⟨fun pins s σ u u' I ry rx => by
  obtain rfl : u' = Value.ref a := rx
  exact d_in hu I g ry fun s3 I3 => ⟨.bl r.isSome, H, I3, rfl, q⟩⟩
theorem o_dni (hu : X.A.units + 1 < cLine) (g : DGet H a y r) (q : Q (.bl (!r.isSome)) H) : oW X (compareOp .NotIn) y (.ref a) H Q := ⟨fun pins s σ u u' I ry rx => by
  obtain rfl : u' = Value.ref a := rx
  exact d_notIn hu I g ry fun s3 I3 => ⟨.bl (!r.isSome), H, I3, rfl, q⟩⟩
theorem e_dget1 (hu : X.A.units + 1 < cLine) (h : eW X o σ H fun x H1 => ∃ a, x = .ref a ∧ IsD H1 a ∧ eW X e σ H1 fun y H2 => ∃ r, DGet H2 a y r ∧ Q (r.getD .non) H2) (hb : attributeBase o "get" X.env (eval o X.env) = eval o X.env := by rfl)
    (hf : ((backTo pos (starEach [e] X.env)).all (fun x => !x.1) && (backToKw pos (keywordEach [] X.env)).all (fun x => x.1.isSome) && decide (([e] : List Expr).length + ([] : List Keyword).length + (if ([] : List Keyword).isEmpty then 0 else 1) < 30)) = true := by rfl)
    (hl : (apos.endLine == pos.line) = true := by rfl) (ht : backTo pos (starEach [e] X.env) = [(false, eval e X.env)] := by rfl) : eW X (.Call (.Attribute o "get" apos) [e] [] pos) σ H Q := eI (pe_dget1 hu PEw PEw ⟨hb, hf, hl, ht⟩) h
theorem e_dget2 (hu : X.A.units + 1 < cLine) (h : eW X o σ H fun x H1 => ∃ a, x = .ref a ∧ IsD H1 a ∧ eW X e σ H1 fun y H2 => eW X f σ H2 fun z H3 => ∃ r, DGet H3 a y r ∧ Q (r.getD z) H3) (hb : attributeBase o "get" X.env (eval o X.env) = eval o X.env := by rfl)
    (hf : ((backTo pos (starEach [e, f] X.env)).all (fun x => !x.1) && (backToKw pos (keywordEach [] X.env)).all (fun x => x.1.isSome) && decide (([e, f] : List Expr).length + ([] : List Keyword).length + (if ([] : List Keyword).isEmpty then 0 else 1) < 30)) = true := by rfl)
    (hl : (apos.endLine == pos.line) = true := by rfl) (ht : backTo pos (starEach [e, f] X.env) = [(false, eval e X.env), (false, eval f X.env)] := by rfl) : eW X (.Call (.Attribute o "get" apos) [e, f] [] pos) σ H Q := eI (pe_dget2 hu PEw PEw PEw ⟨hb, hf, hl, ht⟩) h
theorem e_dsetd (h : eW X o σ H fun x H1 => ∃ a, x = .ref a ∧ IsD H1 a ∧ eW X e σ H1 fun y H2 => eW X f σ H2 fun z H3 => ∃ (kvs : List (Key × V)) (k : Key), H3 a = some (.dK kvs) ∧ y = kV k ∧ kvs.length ≤ 100000 ∧ (∀ v, valV kvs k = some v → Q v H3) ∧ (valV kvs k = none → ∀ H4, H4 a = some (.dK (putK kvs k z)) → (∀ b, b ≠ a → H4 b = H3 b) → Q z H4)) (hb : attributeBase o "setdefault" X.env (eval o X.env) = eval o X.env := by rfl)
    (hf : ((backTo pos (starEach [e, f] X.env)).all (fun x => !x.1) && (backToKw pos (keywordEach [] X.env)).all (fun x => x.1.isSome) && decide (([e, f] : List Expr).length + ([] : List Keyword).length + (if ([] : List Keyword).isEmpty then 0 else 1) < 30)) = true := by rfl)
    (hl : (apos.endLine == pos.line) = true := by rfl) (ht : backTo pos (starEach [e, f] X.env) = [(false, eval e X.env), (false, eval f X.env)] := by rfl) : eW X (.Call (.Attribute o "setdefault" apos) [e, f] [] pos) σ H Q :=
  eI (pe_dsetd PEw PEw PEw ⟨hb, hf, hl, ht⟩) (eMono h fun x H1 ⟨a, ea, d, h1⟩ => ⟨a, ea, d, eMono h1 fun y H2 h2 => eMono h2 fun z H3 ⟨kvs, k, e1, e2, e3, q1, q2⟩ => ⟨kvs, k, e1, e2, Nat.lt_of_le_of_lt e3 (by decide), q1, fun hn => q2 hn _ upd_same fun b hb => upd_ne hb⟩⟩)
/-- o[i] = v, o a dict whose keys are tuples -/
theorem g_setT {i : Expr} {R : L2.St → Hp → Prop} (hu : X.A.units + 1 < cLine) (h : eW X o σ H fun x H1 => eW X i σ H1 fun y H2 => ∃ (d : Addr) (kvs : List (List Key × V)) (k : List Key) (b : Addr), x = .ref d ∧ H2 d = some (.dT kvs) ∧ y = .ref b ∧ H2 b = some (.tup (k.map kV)) ∧ kvs.length ≤ 10000000 ∧ ∀ H3, H3 d = some (.dT (putK kvs k v)) → (∀ b, b ≠ d → H3 b = H2 b) → R σ H3)
    (ha : ∀ v, assign (.Subscript o i pos) X.env v = (holding [v] (eval o X.env) >>= fun ov => holding [v, ov] (eval i X.env) >>= fun iv => standAt pos >>= fun _ => holding [v, ov, iv] (setItem ov iv v) >>= fun _ => release [v, ov, iv] []) := by intro _; rfl) : gW X (.Subscript o i pos) v σ H R :=
  gI (pg_sub PEw PEw (set_dict hu) ha) (eMono h fun x H1 h1 => eMono h1 fun y H2 ⟨d, kvs, k, b, e1, e2, e3, e4, e5, q⟩ => ⟨d, _, e1, by rw [e3]; exact .t e2 e4 (Nat.lt_of_le_of_lt e5 (by decide)), q _ upd_same fun b hb => upd_ne hb⟩)
theorem e_dctT (h : ∀ p H2, Same H H2 → H p = none → H2 p = some (.dT []) → (∀ b, b ≠ p → H2 b = H b) → Q (.ref p) H2) : eW X (.Dict [] [] pos) σ H Q :=
  eI pe_dnewT fun p hp => h p _ (sameU hp) hp upd_same fun _ hb => upd_ne hb
end
theorem rm1 {k : Nat} {A : Around} (hr : Room k A) : A.units + 1 < cLine := by have := hr.units; omega
/-! ### two lists, one by one -/
inductive All2 {α β : Type} (R : α → β → Prop) : List α → List β → Prop
  | nil : All2 R [] []
  | cons {a : α} {b : β} {as : List α} {bs : List β} : R a b → All2 R as bs → All2 R (a :: as) (b :: bs)
section
variable {α β : Type} {R S : α → β → Prop}
theorem All2.len : ∀ {as : List α} {bs : List β}, All2 R as bs → as.length = bs.length
  | _, _, .nil => rfl
  | _, _, .cons _ h => congrArg (· + 1) h.len
theorem All2.mono (i : ∀ a b, R a b → S a b) : ∀ {as : List α} {bs : List β}, All2 R as bs → All2 S as bs
  | _, _, .nil => .nil
  | _, _, .cons h t => .cons (i _ _ h) (t.mono i)
theorem All2.get : ∀ {as : List α} {bs : List β} {i : Nat} {a : α}, All2 R as bs → as[i]? = some a → ∃ b, bs[i]? = some b ∧ R a b
  | _, _, _, _, .nil, e => by simp at e
  | _, _, 0, _, .cons h _, e => by simp at e; subst e; exact ⟨_, rfl, h⟩
  | _, _, i + 1, a, .cons _ t, e => by
    obtain ⟨d, h1, h2⟩ := All2.get (i := i) (a := a) t (by simpa using e)
    exact ⟨d, by simpa using h1, h2⟩
theorem All2.get' : ∀ {as : List α} {bs : List β} {i : Nat} {b : β}, All2 R as bs → bs[i]? = some b → ∃ a, as[i]? = some a ∧ R a b
  | _, _, _, _, .nil, e => by simp at e
  | _, _, 0, _, .cons h _, e => by simp at e; subst e; exact ⟨_, rfl, h⟩
  | _, _, i + 1, a, .cons _ t, e => by
    obtain ⟨d, h1, h2⟩ := All2.get' (i := i) (b := a) t (by simpa using e)
    exact ⟨d, by simpa using h1, h2⟩
theorem All2.app : ∀ {as : List α} {bs : List β} {cs : List α} {ds : List β}, All2 R as bs → All2 R cs ds → All2 R (as ++ cs) (bs ++ ds)
  | _, _, _, _, .nil, k => k
  | _, _, _, _, .cons h t, k => .cons h (t.app k)
theorem All2.snoc {as : List α} {bs : List β} {a : α} {b : β} (h : All2 R as bs) (k : R a b) : All2 R (as ++ [a]) (bs ++ [b]) := h.app (.cons k .nil)
theorem All2.take : ∀ {as : List α} {bs : List β} (n : Nat), All2 R as bs → All2 R (as.take n) (bs.take n)
  | _, _, 0, _ => by simp; exact .nil
  | _, _, _ + 1, .nil => by simp; exact .nil
  | _, _, n + 1, .cons h t => .cons h (t.take n)
theorem All2.drop : ∀ {as : List α} {bs : List β} (n : Nat), All2 R as bs → All2 R (as.drop n) (bs.drop n)
  | _, _, 0, h => by simpa using h
  | _, _, _ + 1, .nil => by simp; exact .nil
  | _, _, n + 1, .cons _ t => t.drop n
theorem All2.rev : ∀ {as : List α} {bs : List β}, All2 R as bs → All2 R as.reverse bs.reverse
  | _, _, .nil => .nil
  | _, _, .cons h t => by simp only [List.reverse_cons]; exact t.rev.snoc h
theorem All2.ex {P : α → Prop} (h : ∀ a, P a → ∃ b, R a b) : ∀ {as : List α}, (∀ a ∈ as, P a) → ∃ bs, All2 R as bs
  | [], _ => ⟨[], .nil⟩
  | a :: as, k => by
    obtain ⟨b, hb⟩ := h a (k a (List.mem_cons_self ..))
    obtain ⟨bs, hbs⟩ := All2.ex h (as := as) fun x hx => k x (List.mem_cons_of_mem _ hx)
    exact ⟨b :: bs, .cons hb hbs⟩
end
theorem thAll_of {K : PySem.W.Frag} {H : Hp} : ∀ {vs : List V} {ds : List PyData}, All2 (Th K H) vs ds → ThAll K H vs ds
  | _, _, .nil => .nil
  | _, _, .cons h t => .cons h (thAll_of t)
theorem thAll_to {K : PySem.W.Frag} {H : Hp} : ∀ {vs : List V} {ds : List PyData}, ThAll K H vs ds → All2 (Th K H) vs ds
  | _, _, .nil => .nil
  | _, _, .cons h t => .cons h (thAll_to t)
theorem ThAll.app {K : PySem.W.Frag} {H : Hp} {xs ys : List V} {ds es : List PyData} (h : ThAll K H xs ds) (k : ThAll K H ys es) : ThAll K H (xs ++ ys) (ds ++ es) := thAll_of ((thAll_to h).app (thAll_to k))
theorem ThAll.take {K : PySem.W.Frag} {H : Hp} {xs : List V} {ds : List PyData} (n : Nat) (h : ThAll K H xs ds) : ThAll K H (xs.take n) (ds.take n) := thAll_of ((thAll_to h).take n)
theorem ThAll.drop {K : PySem.W.Frag} {H : Hp} {xs : List V} {ds : List PyData} (n : Nat) (h : ThAll K H xs ds) : ThAll K H (xs.drop n) (ds.drop n) := thAll_of ((thAll_to h).drop n)
theorem walk_range0 {n : Nat} : Walk (Itr 0 n) n (fun _ => True) (fun i H v H' => H' = H ∧ v = .int ((i : Nat) : Int)) :=
  ⟨fun _ _ hi _ => hi, fun _ _ => Nat.le_refl _, fun i H x H' _ _ y => ⟨y.1, y.2.trans (by show V.int (0 + (i : Int)) = _; rw [Int.zero_add])⟩⟩
/-! ### a number in a list of numbers -/
theorem inV_int (h : Int) : ∀ hs : List Int, inV (.int h) (hs.map V.int) = decide (h ∈ hs)
  | [] => rfl
  | a :: hs => by
    have ih := inV_int h hs
    unfold inV at ih ⊢
    rw [List.map_cons, List.any_cons, ih]
    have e : eqV (.int a) (.int h) = decide (a = h) := by
      by_cases q : a = h
      · subst q
        rw [decide_eq_true rfl]
        simp [eqV]
      · rw [decide_eq_false q]
        simp [eqV, q]
    rw [e]
    by_cases q : a = h
    · subst q; simp
    · have q2 : ¬ h = a := fun z => q z.symm
      simp [q, q2]
theorem inV_nat (h : Nat) (hs : List Nat) : inV (.int (h : Nat)) (hs.map fun k => V.int (k : Nat)) = decide (h ∈ hs) := by
  have e : (hs.map fun k => V.int ((k : Nat) : Int)) = (hs.map fun k => ((k : Nat) : Int)).map V.int := by rw [List.map_map]; rfl
  rw [e, inV_int]
  refine decide_eq_decide.mpr ⟨fun q => ?_, fun q => List.mem_map.mpr ⟨h, q, rfl⟩⟩
  obtain ⟨x, hx, ex⟩ := List.mem_map.mp q
  have : x = h := by omega
  rw [← this]
  exact hx
theorem flat_nats (hs : List Nat) : (hs.map fun k => V.int ((k : Nat) : Int)).all flatV = true := by
  rw [List.all_map]
  exact List.all_eq_true.mpr fun _ _ => rfl
theorem o_inN {X : Cx} {H : Hp} {Q : VK} {p : Addr} {h : Nat} {hs : List Nat} (k : SqL X.K H p (hs.map fun k => V.int ((k : Nat) : Int))) (q : Q (.bl (decide (h ∈ hs))) H) : oW X (compareOp .In) (.int (h : Nat)) (.ref p) H Q :=
  oI op_in_seq ⟨p, _, rfl, .inl k, rfl, flat_nats hs, by rw [if_neg Bool.false_ne_true, inV_nat]; exact q⟩
theorem o_niN {X : Cx} {H : Hp} {Q : VK} {p : Addr} {h : Nat} {hs : List Nat} (k : SqL X.K H p (hs.map fun k => V.int ((k : Nat) : Int))) (q : Q (.bl (!decide (h ∈ hs))) H) : oW X (compareOp .NotIn) (.int (h : Nat)) (.ref p) H Q :=
  oI op_notIn_seq ⟨p, _, rfl, .inl k, rfl, flat_nats hs, by rw [if_pos rfl, inV_nat]; exact q⟩
theorem dp_nats {K : PySem.W.Frag} {H : Hp} : ∀ (l : List Nat), DpAll K H (l.map fun k => V.int ((k : Nat) : Int)) (l.map fun k => PyData.int ((k : Nat) : Int))
  | [] => .nil
  | z :: l => .cons (.int _) (dp_nats l)
theorem th_nats {K : PySem.W.Frag} {H : Hp} : ∀ (l : List Nat), ThAll K H (l.map fun k => V.int ((k : Nat) : Int)) (l.map fun k => PyData.int ((k : Nat) : Int))
  | [] => .nil
  | z :: l => .cons (.int _) (th_nats l)
theorem nat_get {ks : List Nat} {i : Nat} {k : Nat} (h : ks[i]? = some k) {j : Int} (hj : j = (i : Nat)) : atI (ks.map fun k => V.int ((k : Nat) : Int)) j = some (.int ((k : Nat) : Int)) := by
  subst hj
  exact atI_nat (by omega) (by rw [show ((i : Nat) : Int).toNat = i by omega, List.getElem?_map, h]; rfl)
theorem nats_sh (l : List Nat) : Sh 1 (.list (l.map fun k => PyData.int ((k : Nat) : Int))) := .lst fun d hd => by
  obtain ⟨k, _, rfl⟩ := List.mem_map.mp hd
  exact .int _
theorem eqvAll_nats : ∀ (l m : List Nat), PyData.eqvAll (l.map fun k => PyData.int ((k : Nat) : Int)) (m.map fun k => PyData.int ((k : Nat) : Int)) = decide (l = m)
  | [], [] => rfl
  | [], _ :: _ => by rw [decide_eq_false (by simp)]; rfl
  | _ :: _, [] => by rw [decide_eq_false (by simp)]; rfl
  | a :: l, b :: m => by
    show (((a : Int) == (b : Int)) && PyData.eqvAll (l.map fun k => PyData.int ((k : Nat) : Int)) (m.map fun k => PyData.int ((k : Nat) : Int))) = _
    rw [eqvAll_nats l m]
    by_cases e : a = b
    · subst e
      by_cases e2 : l = m
      · subst e2; simp
      · rw [decide_eq_false e2, decide_eq_false fun z => e2 (List.cons.inj z).2]; simp
    · rw [decide_eq_false fun z => e (List.cons.inj z).1]
      have : ((a : Int) == (b : Int)) = false := by rw [beq_eq_false_iff_ne]; omega
      rw [this]; rfl
theorem eqv_nats (l m : List Nat) : PyData.eqv (.list (l.map fun k => PyData.int ((k : Nat) : Int))) (.list (m.map fun k => PyData.int ((k : Nat) : Int))) = decide (l = m) := eqvAll_nats l m
/-! ### existences whose first word is an equation of values -/
section
theorem xV1 {A1 : Type} {v : V} {f : A1 → V} {p : A1 → Prop} (h : ∃ x1, v = f x1 ∧ p x1) : ∃ x1, v = f x1 ∧ p x1 := h
theorem xL1 {A1 : Type} {v : List V} {f : A1 → List V} {p : A1 → Prop} (h : ∃ x1, v = f x1 ∧ p x1) : ∃ x1, v = f x1 ∧ p x1 := h
theorem xV2 {A1 : Type} {A2 : Type} {v : V} {f : A1 → A2 → V} {p : A1 → A2 → Prop} (h : ∃ x1 x2, v = f x1 x2 ∧ p x1 x2) : ∃ x1 x2, v = f x1 x2 ∧ p x1 x2 := h
theorem xL2 {A1 : Type} {A2 : Type} {v : List V} {f : A1 → A2 → List V} {p : A1 → A2 → Prop} (h : ∃ x1 x2, v = f x1 x2 ∧ p x1 x2) : ∃ x1 x2, v = f x1 x2 ∧ p x1 x2 := h
theorem xV3 {A1 : Type} {A2 : Type} {A3 : Type} {v : V} {f : A1 → A2 → A3 → V} {p : A1 → A2 → A3 → Prop} (h : ∃ x1 x2 x3, v = f x1 x2 x3 ∧ p x1 x2 x3) : ∃ x1 x2 x3, v = f x1 x2 x3 ∧ p x1 x2 x3 := h
theorem xL3 {A1 : Type} {A2 : Type} {A3 : Type} {v : List V} {f : A1 → A2 → A3 → List V} {p : A1 → A2 → A3 → Prop} (h : ∃ x1 x2 x3, v = f x1 x2 x3 ∧ p x1 x2 x3) : ∃ x1 x2 x3, v = f x1 x2 x3 ∧ p x1 x2 x3 := h
theorem xV4 {A1 : Type} {A2 : Type} {A3 : Type} {A4 : Type} {v : V} {f : A1 → A2 → A3 → A4 → V} {p : A1 → A2 → A3 → A4 → Prop} (h : ∃ x1 x2 x3 x4, v = f x1 x2 x3 x4 ∧ p x1 x2 x3 x4) : ∃ x1 x2 x3 x4, v = f x1 x2 x3 x4 ∧ p x1 x2 x3 x4 := h
theorem xL4 {A1 : Type} {A2 : Type} {A3 : Type} {A4 : Type} {v : List V} {f : A1 → A2 → A3 → A4 → List V} {p : A1 → A2 → A3 → A4 → Prop} (h : ∃ x1 x2 x3 x4, v = f x1 x2 x3 x4 ∧ p x1 x2 x3 x4) : ∃ x1 x2 x3 x4, v = f x1 x2 x3 x4 ∧ p x1 x2 x3 x4 := h
theorem xV5 {A1 : Type} {A2 : Type} {A3 : Type} {A4 : Type} {A5 : Type} {v : V} {f : A1 → A2 → A3 → A4 → A5 → V} {p : A1 → A2 → A3 → A4 → A5 → Prop} (h : ∃ x1 x2 x3 x4 x5, v = f x1 x2 x3 x4 x5 ∧ p x1 x2 x3 x4 x5) : ∃ x1 x2 x3 x4 x5, v = f x1 x2 x3 x4 x5 ∧ p x1 x2 x3 x4 x5 := h
theorem xL5 {A1 : Type} {A2 : Type} {A3 : Type} {A4 : Type} {A5 : Type} {v : List V} {f : A1 → A2 → A3 → A4 → A5 → List V} {p : A1 → A2 → A3 → A4 → A5 → Prop} (h : ∃ x1 x2 x3 x4 x5, v = f x1 x2 x3 x4 x5 ∧ p x1 x2 x3 x4 x5) : ∃ x1 x2 x3 x4 x5, v = f x1 x2 x3 x4 x5 ∧ p x1 x2 x3 x4 x5 := h
theorem xV6 {A1 : Type} {A2 : Type} {A3 : Type} {A4 : Type} {A5 : Type} {A6 : Type} {v : V} {f : A1 → A2 → A3 → A4 → A5 → A6 → V} {p : A1 → A2 → A3 → A4 → A5 → A6 → Prop} (h : ∃ x1 x2 x3 x4 x5 x6, v = f x1 x2 x3 x4 x5 x6 ∧ p x1 x2 x3 x4 x5 x6) : ∃ x1 x2 x3 x4 x5 x6, v = f x1 x2 x3 x4 x5 x6 ∧ p x1 x2 x3 x4 x5 x6 := h
theorem xL6 {A1 : Type} {A2 : Type} {A3 : Type} {A4 : Type} {A5 : Type} {A6 : Type} {v : List V} {f : A1 → A2 → A3 → A4 → A5 → A6 → List V} {p : A1 → A2 → A3 → A4 → A5 → A6 → Prop} (h : ∃ x1 x2 x3 x4 x5 x6, v = f x1 x2 x3 x4 x5 x6 ∧ p x1 x2 x3 x4 x5 x6) : ∃ x1 x2 x3 x4 x5 x6, v = f x1 x2 x3 x4 x5 x6 ∧ p x1 x2 x3 x4 x5 x6 := h
theorem xV7 {A1 : Type} {A2 : Type} {A3 : Type} {A4 : Type} {A5 : Type} {A6 : Type} {A7 : Type} {v : V} {f : A1 → A2 → A3 → A4 → A5 → A6 → A7 → V} {p : A1 → A2 → A3 → A4 → A5 → A6 → A7 → Prop} (h : ∃ x1 x2 x3 x4 x5 x6 x7, v = f x1 x2 x3 x4 x5 x6 x7 ∧ p x1 x2 x3 x4 x5 x6 x7) : ∃ x1 x2 x3 x4 x5 x6 x7, v = f x1 x2 x3 x4 x5 x6 x7 ∧ p x1 x2 x3 x4 x5 x6 x7 := h
theorem xL7 {A1 : Type} {A2 : Type} {A3 : Type} {A4 : Type} {A5 : Type} {A6 : Type} {A7 : Type} {v : List V} {f : A1 → A2 → A3 → A4 → A5 → A6 → A7 → List V} {p : A1 → A2 → A3 → A4 → A5 → A6 → A7 → Prop} (h : ∃ x1 x2 x3 x4 x5 x6 x7, v = f x1 x2 x3 x4 x5 x6 x7 ∧ p x1 x2 x3 x4 x5 x6 x7) : ∃ x1 x2 x3 x4 x5 x6 x7, v = f x1 x2 x3 x4 x5 x6 x7 ∧ p x1 x2 x3 x4 x5 x6 x7 := h
theorem iteBT {b : Bool} {A B : Prop} (hb : b = true) (h : A) : if b = true then A else B := by subst hb; exact iteT h
theorem iteBF {b : Bool} {A B : Prop} (hb : b = false) (h : B) : if b = true then A else B := by subst hb; exact iteF h
theorem xA {v u : V} {p : Prop} (h : v = u ∧ p) : v = u ∧ p := h
theorem xC {v u : Bool} {p : Prop} (h : v = u ∧ p) : v = u ∧ p := h
theorem xB {v u : List V} {p : Prop} (h : v = u ∧ p) : v = u ∧ p := h
end
section
variable {X : Cx} {σ : L2.St} {H : Hp} {Q : VK} {D : Ends} {e : Expr} {es : List Expr} {st : Stmt} {b : List Stmt} {R : Bool → Hp → Prop} {U : List V → Hp → Prop} {x y : V} {f : Value → Value → Sem Value} {g : Value} {xs : List V}
theorem is_e (h : eW X e σ H Q) : eW X e σ H Q := h
theorem is_call {n : Str} {p2 pos : Pos} {ks : List Keyword} (h : eW X (.Call (.Name n p2) es ks pos) σ H Q) : eW X (.Call (.Name n p2) es ks pos) σ H Q := h
theorem is_raise {e o : Option Expr} {pos : Pos} (h : sW X (.Raise e o pos) D σ H) : sW X (.Raise e o pos) D σ H := h
theorem is_ex {α : Type} {p : α → Prop} (h : ∃ x, p x) : ∃ x, p x := h
theorem is_and {α : Type} {a b : α} {p : Prop} (h : a = b ∧ p) : a = b ∧ p := h
theorem is_bo {op : Operator} (h : oW X (binaryOp op) x y H Q) : oW X (binaryOp op) x y H Q := h
theorem is_ixP {n : Nat} {o : OfNat Int n} (h : iW X x (.int (@OfNat.ofNat Int n o)) H Q) : iW X x (.int (@OfNat.ofNat Int n o)) H Q := h
theorem is_ixN {n : Nat} {o : OfNat Int n} (h : iW X x (.int (-(@OfNat.ofNat Int n o))) H Q) : iW X x (.int (-(@OfNat.ofNat Int n o))) H Q := h
theorem is_o (h : oW X f x y H Q) : oW X f x y H Q := h
theorem is_k (h : kW X g xs H Q) : kW X g xs H Q := h
theorem is_i (h : iW X x y H Q) : iW X x y H Q := h
theorem is_a (h : aW X es σ H U) : aW X es σ H U := h
theorem is_s (h : sW X st D σ H) : sW X st D σ H := h
theorem is_b (h : bW X b D σ H) : bW X b D σ H := h
theorem is_t (h : tW X e σ H R) : tW X e σ H R := h
theorem is_c (h : cW X e σ H R) : cW X e σ H R := h
theorem is_p {e : Option Expr} {q : Option Int → Hp → Prop} (h : pW X e σ H q) : pW X e σ H q := h
theorem is_g {v : V} {q : L2.St → Hp → Prop} (h : gW X e v σ H q) : gW X e v σ H q := h
theorem is_iteD {p : Prop} {d : Decidable p} {e : Decidable (decide p = true)} {A B : Prop} (h : @ite Prop (decide p = true) e A B) : @ite Prop (decide p = true) e A B := h
theorem is_iteND {p : Prop} {d : Decidable p} {e : Decidable ((!decide p) = true)} {A B : Prop} (h : @ite Prop ((!decide p) = true) e A B) : @ite Prop ((!decide p) = true) e A B := h
theorem iteDT {p : Prop} [Decidable p] {A B : Prop} (hp : p) (h : A) : if decide p = true then A else B := by rw [decide_eq_true hp]; exact iteT h
theorem iteDF {p : Prop} [Decidable p] {A B : Prop} (hp : ¬ p) (h : B) : if decide p = true then A else B := by rw [decide_eq_false hp]; exact iteF h
theorem iteNDT {p : Prop} [Decidable p] {A B : Prop} (hp : ¬ p) (h : A) : if (!decide p) = true then A else B := by rw [decide_eq_false hp]; exact iteT h
theorem iteNDF {p : Prop} [Decidable p] {A B : Prop} (hp : p) (h : B) : if (!decide p) = true then A else B := by rw [decide_eq_true hp]; exact iteF h
theorem ref_ne_non {a : Addr} : ¬ V.ref a = V.non := fun z => nomatch z
theorem int_ne_non {a : Int} : ¬ V.int a = V.non := fun z => nomatch z
theorem str_ne_non {a : Str} : ¬ V.str a = V.non := fun z => nomatch z
theorem bl_ne_non {a : Bool} : ¬ V.bl a = V.non := fun z => nomatch z
theorem is_ite {p : Prop} {d : Decidable p} {A B : Prop} (h : @ite Prop p d A B) : @ite Prop p d A B := h
end
end G

namespace G
open PySem PySem.Spec PyProof.Rows L2 TL
/-! ### attributes -/
section
variable {X : Cx} {σ : L2.St} {H : Hp} {Q : VK} {D : Ends} {pos p2 p3 : Pos} {o e : Expr} {f : Str}
theorem e_fld (h : eW X e σ H fun x H1 => ∃ a C dx fs v, x = .ref a ∧ H1 a = some (.ins C dx fs) ∧ Cls X.K C ∧ NoAttr X.K C f ∧ fs.lookup f = some v ∧ Q v H1) (hb : attributeBase e f X.env (eval e X.env) = eval e X.env := by rfl) : eW X (.Attribute e f pos) σ H Q := eI (pe_fld PEw hb) h
theorem s_fld (h : eW X e σ H fun y H1 => eW X o σ H1 fun x H2 => ∃ a C dx fs, x = .ref a ∧ H2 a = some (.ins C dx fs) ∧ Cls X.K C ∧ NoAttr X.K C f ∧ fs.length < 1000 ∧ ∀ H3, H3 a = some (.ins C dx (putF f y fs)) → (∀ b, b ≠ a → H3 b = H2 b) → D.nx σ H3)
    (hs : swapsWith e (some (.Attribute o f p2)) pos.line X.env = pure false := by rfl) : sW X (.Assign [.Attribute o f p2] e pos) D σ H :=
  sI (ps_fld PEw PEw hs) (eMono h fun y H1 q => eMono q fun x H2 ⟨a, C, dx, fs, e1, e2, e3, e4, e5, q⟩ => ⟨a, C, dx, fs, e1, e2, e3, e4, e5, q _ upd_same fun b hb => upd_ne hb⟩)
/-- o.f += e, numbers -/
theorem s_fldaug (h : eW X o σ H fun x H1 => ∃ a C dx fs i, x = .ref a ∧ H1 a = some (.ins C dx fs) ∧ Cls X.K C ∧ NoAttr X.K C f ∧ fs.lookup f = some (.int i) ∧ eW X e σ H1 fun y H2 => ∃ j dx' fs', y = .int j ∧ H2 a = some (.ins C dx' fs') ∧ fs'.length < 1000 ∧ ∀ H3, H3 a = some (.ins C dx' (putF f (.int (i + j)) fs')) → (∀ b, b ≠ a → H3 b = H2 b) → D.nx σ H3) : sW X (.AugAssign (.Attribute o f p2) .Add e pos) D σ H :=
  sI (ps_fldaug PEw PEw in_add) (eMono h fun x H1 ⟨a, C, dx, fs, i, e1, e2, e3, e4, e5, q⟩ => ⟨a, C, dx, fs, .int i, e1, e2, e3, e4, e5, eMono q fun y H2 ⟨j, dx', fs', w1, w2, w3, w4⟩ => ⟨i, j, rfl, w1, dx', fs', w2, w3, w4 _ upd_same fun b hb => upd_ne hb⟩⟩)
end
/-- facts of the classes by instances -/
class NoA (K : PySem.W.Frag) (C : Addr) (f : Str) : Prop where h : NoAttr K C f
class ClsI (K : PySem.W.Frag) (C : Addr) : Prop where h : Cls K C
section
variable {X : Cx} {σ : L2.St} {H : Hp} {Q : VK} {D : Ends} {pos p2 p3 : Pos} {e : Expr} {f x : Str} {N : List Str} {K : PySem.W.Frag} {i : Nat} {a C dx : Addr} {fs : List (Str × V)} {v : V}
/-- x.f, x a name -/
theorem is_attr (h : eW X (.Attribute (.Name x p2) f pos) σ H Q) : eW X (.Attribute (.Name x p2) f pos) σ H Q := h
theorem e_fldV [cn : CxN X N] [ck : CxK X K] [sl : Slt N x i] (hs : σ[i]? = some (some (.ref a))) (hi : H a = some (.ins C dx fs)) [na : NoA K C f] [cl : ClsI K C] (hl : fs.lookup f = some v) (q : Q v H)
    (hv : Vis X.env.scope x := by first | exact Or.inl rfl | exact Or.inr (Or.inl rfl) | exact Or.inr (Or.inr rfl)) (hd : (x == ("__debug__" : Str)) = false := by decide) (hcd : (x == ("__classdict__" : Str)) = false := by decide)
    (hb : attributeBase (.Name x p2) f X.env (eval (.Name x p2) X.env) = eval (.Name x p2) X.env := by rfl) : eW X (.Attribute (.Name x p2) f pos) σ H Q :=
  e_fld (e_var hs ⟨a, C, dx, fs, v, rfl, hi, by rw [ck.h]; exact cl.h, by rw [ck.h]; exact na.h, hl, q⟩ hv hd hcd) hb
/-- x.f = e, x a name -/
theorem s_fldV [cn : CxN X N] [ck : CxK X K] [sl : Slt N x i] (h : eW X e σ H fun y H1 => ∃ a C dx fs, σ[i]? = some (some (.ref a)) ∧ H1 a = some (.ins C dx fs) ∧ NoA K C f ∧ ClsI K C ∧ fs.length < 1000 ∧ ∀ H3, H3 a = some (.ins C dx (putF f y fs)) → (∀ b, b ≠ a → H3 b = H1 b) → D.nx σ H3)
    (hv : Vis X.env.scope x := by first | exact Or.inl rfl | exact Or.inr (Or.inl rfl) | exact Or.inr (Or.inr rfl)) (hd : (x == ("__debug__" : Str)) = false := by decide) (hcd : (x == ("__classdict__" : Str)) = false := by decide)
    (hs : swapsWith e (some (.Attribute (.Name x p3) f p2)) pos.line X.env = pure false := by rfl) : sW X (.Assign [.Attribute (.Name x p3) f p2] e pos) D σ H :=
  s_fld (eMono h fun y H1 ⟨a, C, dx, fs, w1, w2, w3, w4, w5, w6⟩ => e_var w1 ⟨a, C, dx, fs, rfl, w2, by rw [ck.h]; exact w4.h, by rw [ck.h]; exact w3.h, w5, w6⟩ hv hd hcd) hs
end
/-! ### classes with __init__ -/
structure Ini (P : Program) (w : World) (K : PySem.W.Frag) (mg : Str → Option Value) (base : Heap) (C : Addr) (k : Nat) (ps : List Str) (sp : Sp) : Prop where
  ex : ∃ (f : Addr) (fd : FuncData), Mk K C f ∧ Binds K fd ps [] ∧ FnOk P w K mg base (L2.CX P w) k f fd ps sp
section
variable {X : Cx} {σ : L2.St} {H : Hp} {Q : VK} {pos p2 apos : Pos} {e o : Expr} {es : List Expr} {mg : Str → Option Value} {C : Addr} {x m : Str} {k : Nat} {ps : List Str} {sp : Sp} {W : WX}
theorem run_makeS {CX : CXT} {f : Addr} {fd : FuncData} {E : XK} {pins : List (Addr × Obj)} {s : Shared} {us : List Value} {vs : List V} (M : Mk X.K C f) (F : FnOk X.prog X.w X.K X.mg X.base CX k f fd ps sp) (hr : Room (k + 1) X.A) (hb : Binds X.K fd ps [])
    (hx : PassesAt CX X σ E) (I : Inv X pins σ H s) (r : Vals vs us)
    (h : ∀ x dx, H x = none → H dx = none → dx ≠ x → sp (.ref x :: vs) (upd (upd H dx (.own x)) x (.ins C dx [])) (fun v H2 => v = .non ∧ Q (.ref x) H2) E) :
    wpAny (model X.prog X.w) X.A (call (.ref C) us) (EP X pins σ Q) X.xe s := by
  have hq := h (s.heap.objs.size + 1) s.heap.objs.size (I.hok.fresh (Nat.le_succ _)) (I.hok.fresh (Nat.le_refl _)) (Nat.ne_of_lt (Nat.lt_succ_self _))
  have I2 := Inv.made (C := C) I
  have r2 : Vals (V.ref (s.heap.objs.size + 1) :: vs) (Value.ref (s.heap.objs.size + 1) :: us) := .cons rfl r
  have hl : (Value.ref (s.heap.objs.size + 1) :: us ++ []).length = ps.length := by
    have e := r2.length
    rw [F.len _ _ _ _ hq] at e
    rw [List.append_nil]
    exact e.symm
  have b := hb _ (Value.ref (s.heap.objs.size + 1) :: us) I2.kIn hl
  rw [List.append_nil] at b
  refine wpAny_call (make_map (f := f) I.kIn M.makes M.init (beq_iff_eq.mp M.fn) (codeAny_mono (F.run _ X.stack _ _ ⟨Value.ref (s.heap.objs.size + 1) :: us, []⟩ (Value.ref (s.heap.objs.size + 1) :: us) _ _ E (hr.make C us [])
    (I2.env0.make C us []) b r2 hq) fun r s' hq' => ?_))
  cases r with
  | error e => exact hx pins _ _ e s' I2 hq'
  | ok fl =>
    cases fl with
    | ret u =>
      obtain ⟨v, H', I3, rv, ev, q3⟩ := I2.after hq'
      subst ev
      exact ⟨rv, ⟨V.ref (s.heap.objs.size + 1), H', I3, rfl, q3⟩⟩
    | next => exact False.elim hq'
    | brk => exact False.elim hq'
    | cont => exact False.elim hq'
theorem e_make [ct : CxT X W] [cm : CxM X mg] [g : Gn mg x (some (.ref C))] (F : Ini X.prog X.w X.K X.mg X.base C k ps sp) (hr : Room (k + 1) X.A)
    (h : aW X (e :: es) σ H fun vs H1 => ∀ p dx H2, Same H1 H2 → H1 p = none → H1 dx = none → dx ≠ p → H2 p = some (.ins C dx []) → H2 dx = some (.own p) → (∀ b, b ≠ p → b ≠ dx → H2 b = H1 b) → sp (.ref p :: vs) H2 (fun v H3 => v = .non ∧ Q (.ref p) H3) fun cls d H' => W cls d σ H')
    (hg : Gl X x := by rfl) (hdb : (x == ("__debug__" : Str)) = false := by decide) (he : starEach (e :: es) X.env = (false, eval e X.env) :: starEach es X.env := by rfl) (hpl : (backTo pos (starEach es X.env)).any (·.1) = false := by rfl) : eW X (.Call (.Name x p2) (e :: es) [] pos) σ H Q := by
  obtain ⟨f, fd, h1, h2, h3⟩ := F.ex
  refine ⟨fun pins s I => wpAny_Call_Name_kw (ld_glob I hg (by rw [cm.h]; exact g.h) ?_ hdb)⟩
  refine PySem.W.callWith_K (h₀ := X.base) I.ok.mod.kin h1.kp (thn (h.run pos pins s I) fun us s1 ⟨vs, H1, I1, r, q⟩ => ⟨I1.kIn, ?_⟩) he hpl
  exact run_makeS h1 h3 hr h2 (passAt ct.h σ) I1 r fun p dx hp hdx hne => q p dx _ (Same.made' hp hdx) hp hdx hne upd_same (by rw [upd_ne hne]; exact upd_same) fun b hb hb2 => by rw [upd_ne hb, upd_ne hb2]
/-- o.m(e, ..), that may raise -/
theorem e_methR [ct : CxT X W] (c : Cls X.K C) (F : Md X.prog X.w X.K X.mg X.base C m k ps sp) (hr : Room k X.A)
    (h : eW X o σ H fun x H1 => ∃ a dx fs, x = .ref a ∧ H1 a = some (.ins C dx fs) ∧ fs.lookup m = none ∧ aW X (e :: es) σ H1 fun vs H2 => sp (x :: vs) H2 Q fun cls d H' => W cls d σ H') {pl : Sem Bool}
    (hst : starEach (e :: es) X.env = (false, eval e X.env) :: starEach es X.env := by rfl) (hpl : (backTo pos (starEach es X.env)).any (·.1) = false := by rfl)
    (ht : eval (.Call (.Attribute o m apos) (e :: es) [] pos) X.env = (do
      let ov ← eval o X.env
      standAt apos.atName
      let (f, first) ← holding [ov] (getMethod ov m pl)
      callWith pos f first (backTo pos (starEach (e :: es) X.env)) (backToKw pos (keywordEach [] X.env))) := by rfl) : eW X (.Call (.Attribute o m apos) (e :: es) [] pos) σ H Q := by
  obtain ⟨f, fd, h1, h2, h3⟩ := F.ex
  refine ⟨fun pins s I => PySem.W.methodCall_KW (pl := pl) (thn (h.run pins s I) fun u s1 ⟨x, H1, I1, rx, a, dx, fs, ex, ea, l, q⟩ => ?_) ht⟩
  subst ex
  obtain rfl : u = Value.ref a := rx
  refine getmeth_ok I1 ea c h1 l ?_
  refine PySem.W.callWith_K (first := [.ref a]) (h₀ := X.base) I.ok.mod.kin h1.kp (thn (q.run pos pins s1 I1) fun us s2 ⟨vs, H2, I2, r, q2⟩ => ⟨I2.kIn, ?_⟩) hst hpl
  exact run_fnS (E := WE W) (us := .ref a :: us) (vs := .ref a :: vs) h3 hr h2 (passAt ct.h σ) I2 (.cons rfl r) q2
/-- x.m(e, ..), x.m(), x a name -/
theorem is_meth {ks : List Keyword} {y : Str} {p3 : Pos} (h : eW X (.Call (.Attribute (.Name y p3) m apos) es ks pos) σ H Q) : eW X (.Call (.Attribute (.Name y p3) m apos) es ks pos) σ H Q := h
theorem e_methV {N : List Str} {y : Str} {i : Nat} {a dx : Addr} {fs : List (Str × V)} {p3 : Pos} [ct : CxT X W] [cn : CxN X N] [sl : Slt N y i] (c : Cls X.K C) (F : Md X.prog X.w X.K X.mg X.base C m k ps sp) (hr : Room k X.A) (hs : σ[i]? = some (some (.ref a))) (hi : H a = some (.ins C dx fs)) (hl : fs.lookup m = none)
    (h : aW X (e :: es) σ H fun vs H2 => sp (.ref a :: vs) H2 Q fun cls d H' => W cls d σ H') {pl : Sem Bool}
    (hv : Vis X.env.scope y := by first | exact Or.inl rfl | exact Or.inr (Or.inl rfl) | exact Or.inr (Or.inr rfl)) (hd : (y == ("__debug__" : Str)) = false := by decide) (hcd : (y == ("__classdict__" : Str)) = false := by decide)
    (hst : starEach (e :: es) X.env = (false, eval e X.env) :: starEach es X.env := by rfl) (hpl : (backTo pos (starEach es X.env)).any (·.1) = false := by rfl)
    (ht : eval (.Call (.Attribute (.Name y p3) m apos) (e :: es) [] pos) X.env = (do
      let ov ← eval (.Name y p3) X.env
      standAt apos.atName
      let (f, first) ← holding [ov] (getMethod ov m pl)
      callWith pos f first (backTo pos (starEach (e :: es) X.env)) (backToKw pos (keywordEach [] X.env))) := by rfl) : eW X (.Call (.Attribute (.Name y p3) m apos) (e :: es) [] pos) σ H Q :=
  e_methR c F hr (e_var hs ⟨a, dx, fs, rfl, hi, hl, h⟩ hv hd hcd) hst hpl ht
theorem e_methR0 [ct : CxT X W] (c : Cls X.K C) (F : Md X.prog X.w X.K X.mg X.base C m k ps sp) (hr : Room k X.A)
    (h : eW X o σ H fun x H1 => ∃ a dx fs, x = .ref a ∧ H1 a = some (.ins C dx fs) ∧ fs.lookup m = none ∧ sp [x] H1 Q fun cls d H' => W cls d σ H') {pl : Sem Bool}
    (ht : eval (.Call (.Attribute o m apos) [] [] pos) X.env = (do
      let ov ← eval o X.env
      standAt apos.atName
      let (f, first) ← holding [ov] (getMethod ov m pl)
      callWith pos f first (backTo pos (starEach [] X.env)) (backToKw pos (keywordEach [] X.env))) := by rfl) : eW X (.Call (.Attribute o m apos) [] [] pos) σ H Q := by
  obtain ⟨f, fd, h1, h2, h3⟩ := F.ex
  refine ⟨fun pins s I => PySem.W.methodCall_KW (pl := pl) (thn (h.run pins s I) fun u s1 ⟨x, H1, I1, rx, a, dx, fs, ex, ea, l, q⟩ => ?_) ht⟩
  subst ex
  obtain rfl : u = Value.ref a := rx
  refine getmeth_ok I1 ea c h1 l ?_
  exact PySem.W.callWith_K0 (first := [.ref a]) I1.kIn h1.kp (run_fnS (E := WE W) (us := [.ref a]) (vs := [.ref a]) h3 hr h2 (passAt ct.h σ) I1 (.cons rfl .nil) q)
theorem e_methV0 {N : List Str} {y : Str} {i : Nat} {a dx : Addr} {fs : List (Str × V)} {p3 : Pos} [ct : CxT X W] [cn : CxN X N] [sl : Slt N y i] (c : Cls X.K C) (F : Md X.prog X.w X.K X.mg X.base C m k ps sp) (hr : Room k X.A) (hs : σ[i]? = some (some (.ref a))) (hi : H a = some (.ins C dx fs)) (hl : fs.lookup m = none)
    (h : sp [.ref a] H Q fun cls d H' => W cls d σ H') {pl : Sem Bool}
    (hv : Vis X.env.scope y := by first | exact Or.inl rfl | exact Or.inr (Or.inl rfl) | exact Or.inr (Or.inr rfl)) (hd : (y == ("__debug__" : Str)) = false := by decide) (hcd : (y == ("__classdict__" : Str)) = false := by decide)
    (ht : eval (.Call (.Attribute (.Name y p3) m apos) [] [] pos) X.env = (do
      let ov ← eval (.Name y p3) X.env
      standAt apos.atName
      let (f, first) ← holding [ov] (getMethod ov m pl)
      callWith pos f first (backTo pos (starEach [] X.env)) (backToKw pos (keywordEach [] X.env))) := by rfl) : eW X (.Call (.Attribute (.Name y p3) m apos) [] [] pos) σ H Q :=
  e_methR0 c F hr (e_var hs ⟨a, dx, fs, rfl, hi, hl, h⟩ hv hd hcd) ht
end
/-! ### dicts with tuple keys -/
section
variable {X : Cx} {pins : List (Addr × Obj)} {σ : L2.St} {H : Hp} {s : Shared} {a b : Addr} {r : Value} {d : V} {k : List Key} {A : Around} {E : Value → Shared → Prop}
theorem d_setdT {kvs : List (List Key × V)} {Q : Value → Shared → Prop} (hu : A.units + 1 < cLine) (I : Inv X pins σ H s) (e : H a = some (.dT kvs)) (eb : H b = some (.tup (k.map kV))) (rd : RelV d r) (hl : kvs.length < sizeLine)
    (h1 : ∀ v, valV kvs k = some v → ∀ (w' : Value) (s' : Shared), Inv X pins σ H s' → RelV v w' → Q w' s') (h2 : valV kvs k = none → ∀ (w' : Value) (s' : Shared), Inv X pins σ (upd H a (.dT (putK kvs k d))) s' → RelV d w' → Q w' s') :
    wpAny (model X.prog X.w) A (call (.builtin "dict.setdefault") [.ref a, .ref b, r]) Q E s := by
  obtain ⟨z, hd, xs, rel, dd⟩ := dt_of I.hok e
  have hz : xs.length ≤ sizeLine := by rw [← Paired.length rel]; exact z
  have hl2 : (putK kvs k d).length ≤ sizeLine := by have := length_putK kvs k d; omega
  refine call_setdefault_heap (hsz := hz) (tupleKind_room_in1 hu) (key_of I.hok eb) hd dd (fun p hp => ?_) fun hn h' dd' hs => ?_
  · have q := rel.val k
    rw [hp] at q
    cases q0 : valV kvs k with
    | none => rw [q0] at q; exact (show False from q).elim
    | some v0 => rw [q0] at q; exact h1 v0 q0 _ _ (I.tok _) q
  · have q := rel.val k
    rw [hn] at q
    cases q0 : valV kvs k with
    | some v0 => rw [q0] at q; exact (show False from q).elim
    | none =>
      refine h2 q0 _ _ ?_ rd
      obtain ⟨q, es, ep, hq, h2, h3, h4, _, h5⟩ := dd'
      refine d_write I (by rw [e]; exact True.intro) hs ⟨q, hq⟩ ⟨hl2, hd, _, (rel.put k eb rd).keeps fun c ys ec => ?_, q, es, ep, hq, h2, h3, h4, h5⟩
      rw [upd_ne (ne_of ec e (fun z => nomatch z))]
      exact ec
end
section
variable {X : Cx} {σ : L2.St} {H : Hp} {Q : VK} {o e f : Expr} {apos cpos : Pos} {R : It → Hp → Prop}
theorem e_dsetdT (hu : X.A.units + 1 < cLine) (h : eW X o σ H fun x H1 => ∃ a, x = .ref a ∧ IsD H1 a ∧ eW X e σ H1 fun y H2 => eW X f σ H2 fun z H3 => ∃ (kvs : List (List Key × V)) (k : List Key) (b : Addr), H3 a = some (.dT kvs) ∧ y = .ref b ∧ H3 b = some (.tup (k.map kV)) ∧ kvs.length ≤ 10000000 ∧ (∀ v, valV kvs k = some v → Q v H3) ∧ (valV kvs k = none → ∀ H4, H4 a = some (.dT (putK kvs k z)) → (∀ b, b ≠ a → H4 b = H3 b) → Q z H4))
    (m : M2 X o "setdefault" apos e f cpos := by exact ⟨rfl, rfl, rfl, rfl⟩) : eW X (.Call (.Attribute o "setdefault" apos) [e, f] [] cpos) σ H Q := by
  refine ⟨fun pins s I => ?_⟩
  refine wpAny_Call_method m.base m.few m.line PySem.F.plainAttrs_dict PySem.F.slot_dict_setdefault PySem.F.type_dict_setdefault (thn (h.run pins s I) fun u s1 ⟨x, H1, I1, rx, a, ex, d, q1⟩ => ?_)
  subst ex
  obtain rfl : u = Value.ref a := rx
  obtain ⟨t1, t2, _⟩ := isD_at I1 d
  refine ⟨t1, t2, ?_⟩
  rw [m.trees]
  refine Calls.callWith_builtin rfl (Calls.evalArgs_plain (Calls.spliced_cons (thn (q1.run pins s1 I1) fun iv s2 ⟨y, H2, I2, ry, q2⟩ =>
    Calls.spliced_cons (thn (q2.run pins s2 I2) fun fv s3 ⟨z, H3, I3, rz, kvs, k, b, ea, ey, eb, hl, q3, q4⟩ => Calls.spliced_nil ?_))))
  subst ey
  obtain rfl : iv = Value.ref b := ry
  exact d_setdT hu I3 ea eb rz (by rw [sizeLine_eq]; omega) (fun v hv w' s4 I4 rw' => ⟨v, _, I4, rw', q3 v hv⟩) fun hn w' s4 I4 rw' => ⟨z, _, I4, rw', q4 hn _ upd_same fun c hc => upd_ne hc⟩
/-- the entries of the locked dict at d, tuple keys -/
def ItiT (d : Addr) (o : Obj) (kvs : List (List Key × V)) : It :=
  ⟨fun i H => H d = some (.frz o (.dT kvs)) ∧ i < kvs.length, fun i H x H' => ∃ T k v q, kvs[i]? = some (k, v) ∧ x = .ref T ∧ H T = none ∧ H q = some (.tup (k.map kV)) ∧ H' = upd H T (.tup [.ref q, v]), fun i H => H d = some (.frz o (.dT kvs)) ∧ kvs.length ≤ i⟩
end
theorem Inv.frzT2 {X : Cx} {pins : List (Addr × Obj)} {σ : L2.St} {H : Hp} {s : Shared} {d : Addr} {o : Obj} {kvs : List (List Key × V)} (I : Inv X pins σ H s) (h : H d = some (.frz o (.dT kvs))) :
    (d == sysModules) = false ∧ s.heap.get? d = some o ∧ o.ExactDict ∧ ∃ (es : Array DictEntry) (ep : Nat), o.data = .dict es ep ∧ es.size = kvs.length ∧
      ∀ (i : Nat) (k : List Key) (v : V), kvs[i]? = some (k, v) → ∃ (en : DictEntry) (q : Addr), es[i]? = some en ∧ en.key = .ref q ∧ H q = some (.tup (k.map kV)) ∧ RelV v en.val := by
  obtain ⟨hd, z, hs, xs, pr, o', es, ep, ho, hx, hdt, he, _⟩ := I.hok d _ h
  rw [hd] at ho
  cases ho
  refine ⟨hs, hd, hx, es, ep, hdt, ?_, fun i k v e => ?_⟩
  · have l1 : es.size = xs.length := size_of_entries he
    have l2 : kvs.length = xs.length := Paired.length pr
    omega
  · obtain ⟨b, hb, e1, e2, e3⟩ := paired_get pr e
    have q := entry_at he i
    rw [hb] at q
    exact ⟨_, b.2.1, q, rfl, e2, e3⟩
section
variable {P : Program} {w : World} {K : PySem.W.Frag} {tg : Expr} {d : Addr} {o : Obj} {es : Array DictEntry} {ep : Nat}
theorem turn_itemsT {kvs : List (List Key × V)} {elts : List Expr} {kk : Nat} {tpos : Pos} (it : Addr) (hod : o.data = .dict es ep) :
    Turn P w K (.Tuple elts kk tpos) (ItiT d o kvs) [it] it (fun i h => ∃ ok ov, IsItemIter h it d i kvs.length ep ok ov) where
  mem := by simp
  obj := fun i h st b hb => by
    have e : b = it := by simpa using hb
    subst e
    obtain ⟨ok, ov, e⟩ := st
    exact ⟨_, e, fun v z => nomatch z⟩
  keep := fun i h h' st k => let ⟨ok, ov, e⟩ := st; ⟨ok, ov, k it (by simp) _ e⟩
  item := by
    intro X hP hw hK hc i pins s σ H E I hf st hg
    subst hP hw hK
    obtain ⟨hd, hi⟩ := hg
    obtain ⟨hs, hgd, hx, es', ep', hdt, hsz, ent⟩ := Inv.frzT2 I hd
    obtain ⟨rfl, rfl⟩ := dict_ep hod hdt
    obtain ⟨⟨k, v⟩, hkv⟩ : ∃ p, kvs[i]? = some p := ⟨kvs[i], List.getElem?_eq_getElem hi⟩
    obtain ⟨en, q, hen, hkey, hq, ru⟩ := ent i k v hkv
    obtain ⟨ok, ov, he⟩ := st
    rw [← hsz] at he
    have hlt : it < s.heap.objs.size := Heap.lt_size he
    have hi2 : i < es'.size := by omega
    have een : es'[i] = en := by
      have := Array.getElem?_eq_getElem hi2
      rw [this] at hen
      exact Option.some.inj hen
    refine wpAny_pyNext_items_item_raw he ⟨o, hgd, hx, hdt⟩ hi2 fun h' ho hT hz hk => ?_
    rw [een, hkey] at ho hT
    refine ⟨_, rfl, wpAny_letOwnedTupleGo_items (s := { s with heap := h' }) ho fun h'' he' sb => ?_⟩
    have hT2 : h''.get? s.heap.objs.size = some { cls := .type "tuple", data := .seq #[.ref q, en.val] } := (sb.2 _ (Nat.ne_of_gt hlt)).trans hT
    have new : ObjOk X.prog X.w (upd H s.heap.objs.size (.tup [.ref q, v])) h'' s.heap.objs.size (.tup [.ref q, v]) :=
      ⟨by show 2 ≤ sizeLine; decide, [.ref q, en.val], .cons rfl (.cons ru .nil), ⟨_, hT2, rfl, _, rfl⟩⟩
    have I1 : Inv X pins σ (upd H s.heap.objs.size (.tup [.ref q, v])) { s with heap := h'' } :=
      I.turnedNew (t' := s.toks) (ch := [it]) (fun b ob hb e => (sb.2 b (by simpa using hb)).trans (hk b ob (by simpa using hb) e)) hf (Nat.le_refl _) new
    refine ⟨.ref s.heap.objs.size, _, I1, rfl, ⟨_, k, v, q, hkv, rfl, I.hok.fresh (Nat.le_refl _), hq, rfl⟩, ⟨.ref q, en.val, ?_⟩, fun b hb => ?_⟩
    · rw [← hsz]; exact he'
    · have e : b = it := by simpa using hb
      rw [e, upd_ne (Nat.ne_of_lt hlt)]
      exact (hf it (by simp)).1
  done := by
    intro X hP hw hK hc i pins s σ H E I hf st hg
    subst hP hw hK
    obtain ⟨hd, hi⟩ := hg
    obtain ⟨f0, f1, f2, f3, f4, f5⟩ := hf it (by simp)
    obtain ⟨hs, hgd, hx, es', ep', hdt, hsz, ent⟩ := Inv.frzT2 I hd
    obtain ⟨rfl, rfl⟩ := dict_ep hod hdt
    obtain ⟨ok, ov, he⟩ := st
    rw [← hsz] at he
    exact wpAny_pyNext_items_end_raw (I.ok.hd hc) he ⟨o, hgd, hx, hdt⟩ (by omega) fun h' eb => ⟨rfl, I.turned (t' := s.toks) (fun b ob hb e => eb b ob hb e) f0 f1 f3 f4 f5⟩
  self := fun A i s Q E st h => let ⟨_, _, e⟩ := st; PySem.W.kcp_self e h
end
theorem j_itemsT {X : Cx} {σ : L2.St} {H : Hp} {R : It → Hp → Prop} {e : Expr} {elts : List Expr} {kk : Nat} {p3 apos cpos : Pos} (h : eW X e σ H fun x H1 => ∃ d o kvs, x = .ref d ∧ H1 d = some (.frz o (.dT kvs)) ∧ R (ItiT d o kvs) H1)
    (hbase : attributeBase e "items" X.env (eval e X.env) = eval e X.env := by rfl) (hline : (apos.endLine == cpos.line) = true := by rfl) : jW X (.Tuple elts kk p3) (.Call (.Attribute e "items" apos) [] [] cpos) σ H R := by
  refine ⟨fun pins s I => ?_⟩
  refine wpAny_Call_method (T := "dict") (id := "dict.items") hbase rfl hline F.plainAttrs_dict F.slot_dict_items F.type_dict_items (thn (h.run pins s I) fun u s1 ⟨x, H1, I1, rx, d, o, kvs, ex, hd, q⟩ => ?_)
  subst ex
  obtain rfl : u = Value.ref d := rx
  obtain ⟨hs, hgd, hx, es, ep, hdt, hsz, ent⟩ := Inv.frzT2 I1 hd
  have hr : s1.heap.DictRaw d es ep := ⟨o, hgd, hx, hdt⟩
  refine ⟨hr.typeIs, fun b q => by cases q; exact ⟨o, hgd, hx.2.1⟩, ?_⟩
  have I2 : Inv X pins σ H1 { s1 with heap := s1.heap.push { cls := .type "dict_items", data := .fields #[.ref d] } } := I1.kept (t' := s1.toks) fun b ob q => Heap.get?_push_of_some _ q
  have fin : wpAny (model X.prog X.w) X.A (pyIter (.ref s1.heap.objs.size)) (PIE X pins σ (.Tuple elts kk p3) R) X.xe { s1 with heap := s1.heap.push { cls := .type "dict_items", data := .fields #[.ref d] } } := by
    refine wpAny_pyIter_items_raw (d := d) ⟨_, Heap.get?_push_size _ rfl, rfl, rfl⟩ (hr.at fun ob q => Heap.get?_push_of_some _ q) (pi_one (tk := s1.toks) I2 _ (turn_itemsT _ hdt) ⟨.none, .none, ?_⟩ q)
    rw [← hsz]
    exact Heap.get?_push_size _ rfl
  show wpAny _ _ (callWith cpos (.builtin "dict.items") [.ref d] [] []) _ X.xe s1
  exact method_meetsIn F.slot_dict_items F.entry_dict_items rfl (PySem.evalArgs_none ⟨rfl, hr.typeIs, F.args_dict_items_1 _, _, meets_dict_items_raw d hs, ⟨es, ep, hr⟩, fin⟩)
theorem walk_itemsT {d : Addr} {o : Obj} {kvs : List (List Key × V)} : Walk (ItiT d o kvs) kvs.length (fun H => H d = some (.frz o (.dT kvs))) (fun i H x H' => ∃ T k v q, kvs[i]? = some (k, v) ∧ x = .ref T ∧ H T = none ∧ H q = some (.tup (k.map kV)) ∧ H' = upd H T (.tup [.ref q, v])) :=
  ⟨fun _ _ hi q => ⟨q, hi⟩, fun _ q => ⟨q, Nat.le_refl _⟩, fun _ _ _ _ _ _ y => y⟩
/-! ### a list against the empty one -/
section
variable {X : Cx} {H : Hp} {Q : VK} {p q : Addr} {xs : List V}
theorem o_neNil (hu : X.A.units + 64 < cLine) (h1 : H p = some (.lst xs)) (h2 : H q = some (.lst [])) (qq : Q (.bl (!decide (xs = []))) H) : oW X (compareOp .NotEq) (.ref p) (.ref q) H Q := by
  refine ⟨fun pins s σ v u I rx ry => ?_⟩
  cases rx
  cases ry
  obtain ⟨z, its, n, r, hl, e⟩ := I.lstM h1
  obtain ⟨z2, its2, n2, r2, hl2, e2⟩ := I.lstM h2
  cases r2
  have L1 : s.heap.IsList p its.toArray := ⟨_, e, rfl, n, rfl⟩
  have L2 : s.heap.IsList q (#[] : Array Value) := ⟨_, e2, rfl, n2, rfl⟩
  cases r with
  | nil =>
    refine SeqAt.RcNeAt.lists (e := fun _ => true) L1 L2 rfl (by omega) (fun j h1 => by cases h1) X.prog X.w X.xe _ ?_
    exact ⟨.bl false, H, I, rfl, qq⟩
  | @cons x y xs ys a b =>
    refine SeqAt.RcNeAt.lists_lengths L1 L2 (by simp) (by omega) X.prog X.w X.xe _ ?_
    exact ⟨.bl true, H, I, rfl, by rw [decide_eq_false (by simp)] at qq; exact qq⟩
theorem o_eqNil (hu : X.A.units + 64 < cLine) (h1 : H p = some (.lst xs)) (h2 : H q = some (.lst [])) (qq : Q (.bl (decide (xs = []))) H) : oW X (compareOp .Eq) (.ref p) (.ref q) H Q := by
  refine ⟨fun pins s σ v u I rx ry => ?_⟩
  cases rx
  cases ry
  obtain ⟨z, its, n, r, hl, e⟩ := I.lstM h1
  obtain ⟨z2, its2, n2, r2, hl2, e2⟩ := I.lstM h2
  cases r2
  have L1 : s.heap.IsList p its.toArray := ⟨_, e, rfl, n, rfl⟩
  have L2 : s.heap.IsList q (#[] : Array Value) := ⟨_, e2, rfl, n2, rfl⟩
  cases r with
  | nil =>
    refine SeqAt.RcAt.lists (e := fun _ => true) L1 L2 rfl (by omega) (fun j h1 => by cases h1) X.prog X.w X.xe _ ?_
    exact ⟨.bl true, H, I, rfl, qq⟩
  | @cons x y xs ys a b =>
    refine SeqAt.RcAt.lists_lengths L1 L2 (by simp) (by omega) X.prog X.w X.xe _ ?_
    exact ⟨.bl false, H, I, rfl, by rw [decide_eq_false (by simp)] at qq; exact qq⟩
end
/-! ### a list is told more by a tuple; list(d) with tuple keys -/
section
open PySem.AutoSeq1
theorem list_extend_tupG (l : Addr) (items : Array Value) (n : Nat) (b : Addr) (items2 : Array Value) (hs0 : ¬(!items.isEmpty && Builtin.List.listTooLong (items.size + items2.size)) = true) (hs1 : items.size ≤ sizeLine) (hs2 : items.size + items2.size ≤ sizeLine + 1) :
    Meets (Builtin.«list.extend» ⟨[.ref l, .ref b], []⟩) (fun _ R s => s.heap.get? l = some { cls := .type "list", dict := none, data := .seq items n, slots := #[] } ∧ IsTup s.heap b items2 ∧ R (.ok (.ret Value.none)) { s with heap := s.heap.update l (Obj.mapSeq fun x => x ++ items2), toks := s.toks }) :=
  .of_wp fun prog w A R s h => by
    obtain ⟨hp, g, d, tk, os⟩ := s; obtain ⟨hl, ⟨⟨c, dd, da, sl⟩, hb, hc, n2, hd⟩, h⟩ := h
    cases hc
    cases hd
    have f1 := idx_int; have f2 := AutoSeq1.sub_tuple_tuple; have f3 := AutoSeq1.sub_list_list; have f4 := AutoSeq1.sub_tuple_list; have f5 := AutoSeq1.sub_list_tuple;
    have hz' : (items ++ items2).size ≤ sizeLine + 1 := by rw [Array.size_append]; exact hs2
    wp_walk using (wpAny_updateSeq hl rfl (hz := hs1) (_hz' := hz')), wpAny_loadPart' hl, wpAny_loadPart' hb; exact ⟨_, rfl, h⟩
end
theorem mt_extendT {X : Cx} : MtM X "list.extend" (fun x vs H Q => ∃ l b xs zs, x = .ref l ∧ vs = [.ref b] ∧ H l = some (.lst xs) ∧ SqT X.K H b zs ∧ xs.length + zs.length ≤ sizeLine ∧ Q .non (upd H l (.lst (xs ++ zs)))) := by
  intro pins s σ H x vs v us Q I rx rv h
  obtain ⟨l, b, xs, zs, rfl, rfl, hH, hB, hz, q⟩ := h
  cases rx
  obtain ⟨u, rfl, ru⟩ := rv.one
  cases ru
  obtain ⟨z, its, n, r, hl, e⟩ := I.lstM hH
  obtain ⟨its2, r2, e2, z2⟩ := I.tuple hB
  have hl2 := r2.length
  have hsz : its.toArray.size + its2.toArray.size ≤ sizeLine := by rw [List.size_toArray, List.size_toArray]; omega
  have hlong : ¬ (!its.toArray.isEmpty && Builtin.List.listTooLong (its.toArray.size + its2.toArray.size)) = true := by
    rw [notLongL hsz, Bool.and_false]
    exact Bool.false_ne_true
  refine call_meets F.slot_list_extend ⟨_, e, rfl⟩ F.entry_list_extend (F.args_list_extend_2 _ _)
    (list_extend_tupG l its.toArray n b its2.toArray hlong (by rw [List.size_toArray]; omega) (by omega)) ⟨e, e2, ?_⟩
  refine ⟨.non, _, I.lset (its' := its ++ its2) hH e (by simp) (r.append r2) ?_, rfl, q⟩
  rw [List.length_append]
  omega
theorem m_extendT {X : Cx} {H : Hp} {Q : VK} {l b : Addr} {xs zs : List V} (h : H l = some (.lst xs)) (h2 : SqT X.K H b zs) (hz : xs.length + zs.length ≤ 16000000) (q : ∀ H2, H2 l = some (.lst (xs ++ zs)) → (∀ b, b ≠ l → H2 b = H b) → Q .non H2) : mW X "list.extend" (.ref l) [.ref b] H Q :=
  mI mt_extendT ⟨l, b, xs, zs, rfl, rfl, h, h2, Nat.le_trans hz (by decide), q _ upd_same fun b hb => upd_ne hb⟩
theorem k_listDT {X : Cx} {H : Hp} {Q : VK} {d : Addr} {kvs : List (List Key × V)} [cc : CxC X] (h : H d = some (.dT kvs)) (q : ∀ l bs H2, Same H H2 → H l = none → H2 l = some (.lst (bs.map V.ref)) → IsKeys H kvs bs → (∀ b, b ≠ l → H2 b = H b) → Q (.ref l) H2) : kW X (.type "list") [.ref d] H Q :=
  kI (call_list_dT cc.h) ⟨d, kvs, rfl, .inl h, fun l bs hl hk => q l bs _ (sameU hl) hl upd_same hk fun b hb => upd_ne hb⟩
theorem length_putK_old {κ : Type} [DecidableEq κ] {kvs : List (κ × V)} {k : κ} {v : V} (h : (valV kvs k).isSome = true) : (putK kvs k v).length = kvs.length := by
  unfold putK
  rw [valV_any, h, if_pos rfl, List.length_map]
/-- d[k] -= e, keys that are tuples, numbers -/
theorem s_dsubT {X : Cx} {σ : L2.St} {H : Hp} {D : Ends} {o i e : Expr} {pos p2 : Pos} (hu : X.A.units + 1 < cLine) (h : eW X o σ H fun x H1 => eW X i σ H1 fun y H2 => ∃ (d : Addr) (kvs : List (List Key × V)) (k : List Key) (b : Addr) (n : Int), x = .ref d ∧ H2 d = some (.dT kvs) ∧ y = .ref b ∧ H2 b = some (.tup (k.map kV)) ∧ valV kvs k = some (.int n) ∧ kvs.length ≤ 10000000 ∧ eW X e σ H2 fun z H3 => ∃ j, z = .int j ∧ Same H2 H3 ∧ ∀ H4, H4 d = some (.dT (putK kvs k (.int (n - j)))) → (∀ b, b ≠ d → H4 b = H3 b) → D.nx σ H4)
    (ha : ∀ ov iv new, augStore i ov iv new = (do holding [new, ov, iv] (setItem ov iv new); release [new, ov, iv] []; pure .next) := by intro _ _ _; rfl) : sW X (.AugAssign (.Subscript o i p2) .Sub e pos) D σ H :=
  sI (ps_daug hu PEw PEw PEw in_sub ha) (eMono h fun x H1 h1 => eMono h1 fun y H2 ⟨d, kvs, k, b, n, e1, e2, e3, e4, e5, e6, q⟩ => ⟨d, .int n, e1, by rw [e3, ← e5]; exact DGet.t e2 e4, eMono q fun z H3 ⟨j, ej, s, q2⟩ => ⟨n, j, rfl, ej, _, by rw [e3]; exact DPut.t (s _ _ e2) (s _ _ e4) (Nat.lt_of_le_of_lt e6 (by decide)), q2 _ upd_same fun b hb => upd_ne hb⟩⟩)
/-- x in t, a tuple, as data -/
theorem o_inTD {X : Cx} {H : Hp} {Q : VK} {x y : V} {d : PyData} {ds : List PyData} (hu : X.A.units + 64 < cLine) (hx : Dp X.K H x d) (hy : Dp X.K H y (.tuple ds)) (sd : Sh 10 d) (se : Sh 10 (.tuple ds)) (q : Q (.bl (ds.any fun e => PyData.eqv e d)) H) : oW X (compareOp .In) x y H Q := ⟨fun pins s σ u u' I rx ry => by
  obtain ⟨as, r1⟩ := Dp.reads I d x u hx rx
  obtain ⟨bs, r2⟩ := Dp.reads I (.tuple ds) y u' hy ry
  have h1 := sd.dep
  have h2 : min (PyData.depthAll ds) d.depth ≤ d.depth := Nat.min_le_right _ _
  exact SeqAt.in_tuple_data r2 r1 (PySem.PyData.plain_of_canLay0 _ se.can) (PySem.PyData.plain_of_canLay0 _ sd.can) (by omega) ⟨.bl _, H, I, rfl, q⟩⟩
/-- x in xs, a list, as data -/
theorem o_inLD {X : Cx} {H : Hp} {Q : VK} {x y : V} {d : PyData} {ds : List PyData} (hu : X.A.units + 64 < cLine) (hx : Dp X.K H x d) (hy : Dp X.K H y (.list ds)) (sd : Sh 10 d) (se : Sh 10 (.list ds)) (q : Q (.bl (ds.any fun e => PyData.eqv e d)) H) : oW X (compareOp .In) x y H Q := ⟨fun pins s σ u u' I rx ry => by
  obtain ⟨as, r1⟩ := Dp.reads I d x u hx rx
  obtain ⟨bs, r2⟩ := Dp.reads I (.list ds) y u' hy ry
  have h1 := sd.dep
  have h2 : min (PyData.depthAll ds) d.depth ≤ d.depth := Nat.min_le_right _ _
  exact SeqAt.in_list_data r2 r1 (PySem.PyData.plain_of_canLay0 _ se.can) (PySem.PyData.plain_of_canLay0 _ sd.can) (by omega) ⟨.bl _, H, I, rfl, q⟩⟩
/-- x not in xs, a list, as data -/
theorem o_niLD {X : Cx} {H : Hp} {Q : VK} {x y : V} {d : PyData} {ds : List PyData} (hu : X.A.units + 64 < cLine) (hx : Dp X.K H x d) (hy : Dp X.K H y (.list ds)) (sd : Sh 10 d) (se : Sh 10 (.list ds)) (q : Q (.bl (!ds.any fun e => PyData.eqv e d)) H) : oW X (compareOp .NotIn) x y H Q := ⟨fun pins s σ u u' I rx ry => by
  obtain ⟨as, r1⟩ := Dp.reads I d x u hx rx
  obtain ⟨bs, r2⟩ := Dp.reads I (.list ds) y u' hy ry
  have h1 := sd.dep
  have h2 : min (PyData.depthAll ds) d.depth ≤ d.depth := Nat.min_le_right _ _
  exact SeqAt.notIn_list_data r2 r1 (PySem.PyData.plain_of_canLay0 _ se.can) (PySem.PyData.plain_of_canLay0 _ sd.can) (by omega) ⟨.bl _, H, I, rfl, q⟩⟩
theorem e_clear {X : Cx} {σ : L2.St} {H : Hp} {Q : VK} {o : Expr} {apos pos : Pos} (h : eW X o σ H fun x H1 => tyV X.K "list" x H1 ∧ mW X "list.clear" x [] H1 Q) (hbase : attributeBase o "clear" X.env (eval o X.env) = eval o X.env := by rfl) (hline : (apos.endLine == pos.line) = true := by rfl) : eW X (.Call (.Attribute o "clear" apos) [] [] pos) σ H Q :=
  e_bm0 PySem.F.plainAttrs_list PySem.F.slot_list_clear PySem.F.type_list_clear h hbase hline
theorem m_clear {X : Cx} {H : Hp} {Q : VK} {l : Addr} {xs : List V} (h : H l = some (.lst xs)) (q : ∀ H2, H2 l = some (.lst []) → (∀ b, b ≠ l → H2 b = H b) → Q .non H2) : mW X "list.clear" (.ref l) [] H Q :=
  mI mt_clear ⟨l, _, rfl, rfl, h, q _ upd_same fun b hb => upd_ne hb⟩
theorem j_keysT {X : Cx} {σ : L2.St} {H : Hp} {R : It → Hp → Prop} {it tg : Expr} (h : eW X it σ H fun x H1 => ∃ d o kvs, x = .ref d ∧ H1 d = some (.frz o (.dT kvs)) ∧ R (Itkt d o kvs) H1) : jW X tg it σ H R :=
  jI (pi_keys PEw) (eMono h fun x H1 ⟨d, o, kvs, e, k, q⟩ => ⟨d, o, e, .inr ⟨kvs, k, q⟩⟩)
theorem k_lenDT {X : Cx} {H : Hp} {Q : VK} {d : Addr} {kvs : List (List Key × V)} (h : H d = some (.dT kvs)) (q : Q (.int ((kvs.length : Nat) : Int)) H) : kW X (.builtin "len") [.ref d] H Q := kI call_len_dT ⟨_, _, rfl, h, q⟩
/-! ### max(xs, default=d) -/
theorem depthAll_ints : ∀ l : List Int, PyData.depthAll (l.map PyData.int) = 0
  | [] => rfl
  | _ :: l => by
    show max 0 (PyData.depthAll (l.map PyData.int)) = 0
    rw [depthAll_ints l]
    rfl
theorem alike_ints (l : List Int) : PySem.W.AlikeAll (l.map PyData.int) := ⟨fun x hx y hy => by
  obtain ⟨i, _, rfl⟩ := List.mem_map.mp hx
  obtain ⟨j, _, rfl⟩ := List.mem_map.mp hy
  rfl, fun x hx e => by
  obtain ⟨i, _, rfl⟩ := List.mem_map.mp hx
  cases e⟩
def rMaxDf (K : PySem.W.Frag) : List V → List V → Hp → VK → Prop := fun vs zs H Q => ∃ (p : Addr) (ns : List Int) (y : V), vs = [.ref p] ∧ zs = [y] ∧ SqL K H p (ns.map V.int) ∧ (ns = [] → Q y H) ∧ ∀ n ns', ns = n :: ns' → Q (.int (ns'.foldl max n)) H
theorem cr_maxDf {X : Cx} (hc : X.calm = true) (hu : X.A.units + 64 < cLine) : CallRK X (.builtin "max") [Str.ofString "default"] (rMaxDf X.K) := by
  intro pins s σ H vs zs us ws Q I r rz h
  obtain ⟨p, ns, y, rfl, rfl, hs, q0, q1⟩ := h
  obtain rfl := Vals.ref1 r
  obtain ⟨w1, rfl, e1⟩ := vals1 rz
  obtain ⟨its, rv, hl, hz⟩ := I.list hs
  obtain ⟨as, rs⟩ := Dp.readsAll I (ns.map .int) _ _ (dp_ints ns) rv
  show wpAny _ _ (call (.builtin "max") [.ref p] [(Str.ofString "default", w1)]) _ _ _
  refine PySem.W.max_list_default (vs := its.toArray) (I.ok.hd hc) hl.isList rs (alike_ints ns) (by rw [depthAll_ints]; omega) (fun e h' tk hk => ⟨y, H, I.kept (t' := tk) hk, e1, q0 (by cases ns with | nil => rfl | cons a l => cases e)⟩) fun z zs' i v h' tk bs e hv rd hk => ?_
  cases ns with
  | nil => cases e
  | cons n ns' =>
    cases e
    rw [PySem.W.maxD_ints] at rd
    cases rd
    exact ⟨.int (ns'.foldl max n), H, I.kept (t' := tk) hk, ⟨_, rfl⟩, q1 n ns' rfl⟩
theorem e_maxDf {X : Cx} {σ : L2.St} {H : Hp} {Q : VK} {mg : Str → Option Value} {e d : Expr} {pos p2 kpos : Pos} [cc : CxC X] [cm : CxM X mg] [g : Gn mg "max" none] (hu : X.A.units + 64 < cLine) (h : eW X e σ H fun x H1 => eW X d σ H1 fun y H2 => ∃ p ns, x = .ref p ∧ SqL X.K H2 p (ns.map V.int) ∧ (ns = [] → Q y H2) ∧ ∀ n ns', ns = n :: ns' → Q (.int (ns'.foldl max n)) H2) (hg : Gl X "max" := by rfl) (hs1 : starEach [e] X.env = (false, eval e X.env) :: starEach [] X.env := by rfl)
    (he : backTo pos (starEach [e] X.env) = (false, eval e X.env) :: backTo pos (starEach [] X.env) := by rfl) (hpl : (backTo pos (starEach [e] X.env)).any (·.1) = false := by rfl)
    (hall : (backToKw pos (keywordEach [⟨some (Str.ofString "default"), d, kpos⟩] X.env)).all (·.1.isSome) = true := by rfl) (hnone : (backToKw pos (keywordEach [⟨some (Str.ofString "default"), d, kpos⟩] X.env)).any (·.1.isNone) = false := by rfl) (hks : (backToKw pos (keywordEach [⟨some (Str.ofString "default"), d, kpos⟩] X.env)).filterMap (·.1) = [Str.ofString "default"] := by rfl) : eW X (.Call (.Name "max" p2) [e] [⟨some (Str.ofString "default"), d, kpos⟩] pos) σ H Q :=
  eI (pe_callBK (cr_maxDf cc.h hu) hg (by rw [cm.h]; exact g.h) (by decide +kernel) (pa_cons PEw pa_nil hs1) (pk_cons PEw pk_nil) (he := he) (hpl := hpl) (hall := hall) (hnone := hnone) (hks := hks)) (eMono h fun x H1 q => eMono q fun y H2 ⟨p, ns, e1, e2, e3, e4⟩ => ⟨p, ns, y, by rw [e1], rfl, e2, e3, e4⟩)
/-! ### a dict display of one pair, the key a tuple; list.pop(0) -/
section
open PySem PySem.Spec PyProof.Rows
theorem pe_dispT1 {X : Cx} {pos : Pos} {a b : Expr} {ta tb : TE} (hu : X.A.units + 1 < cLine) (ha : PE X a ta) (hb : PE X b tb) : PE X (.Dict [some a] [b] pos) (fun σ H Q => ∀ p, H p = none → tPairs [(ta, tb)] σ (upd H p (.dT [])) fun ps H2 => H2 p = some (.dT []) ∧ ∃ (k : List Key) (c : Addr) (y : V), ps = [(.ref c, y)] ∧ H2 c = some (.tup (k.map kV)) ∧ Q (.ref p) (upd H2 p (.dT (putK [] k y)))) := by
  refine ⟨fun pins s σ H Q I q => ?_⟩
  have hn := I.hok.fresh (Nat.le_refl s.heap.objs.size)
  have I1 := I.laid (a := s.heap.objs.size) (o := .dT []) (h' := s.heap.push { cls := .type "dict", data := .dict #[] }) (t' := s.toks) (fun _ _ q => Heap.get?_push_of_some _ q) (Nat.le_refl _) (dt_empty s.heap I.big)
  rw [arm_eval_Dict, zip_pairTrees [some a] [b] X.env pos rfl rfl, dictDisplay_pairs (pairTrees [some a] [b] X.env pos) (fun z => nomatch z) (by show 1 < 17; decide)]
  refine wpAny_bind (wpAny_standAt (wpAny_bind (wpAny_subDictH (knd := tupleKind (mixKind X.prog X.w)) (Q := fun d s' => wpAny (model X.prog X.w) X.A (pure (Value.ref d)) _ X.xe s') (by show X.A.units < cLine; omega) (by show 1 ≤ 15; decide) ?_)))
  refine thn ((pps_cons ha hb pps_nil).run pins _ σ _ (fun ps H2 => H2 s.heap.objs.size = some (.dT []) ∧ ∃ (k : List Key) (c : Addr) (y : V), ps = [(.ref c, y)] ∧ H2 c = some (.tup (k.map kV)) ∧ Q (.ref s.heap.objs.size) (upd H2 s.heap.objs.size (.dT (putK [] k y)))) I1 ?_) fun ws s2 ⟨ps, H2, I2, rel, e, k, c, y, ep, ec, q2⟩ => ?_
  · exact q _ hn
  subst ep
  obtain ⟨z, hd, xs, r0, dd⟩ := dt_of I2.hok e
  cases r0
  obtain ⟨u1, w1, rfl, r1, r2⟩ : ∃ u1 w1, ws = [(u1, w1)] ∧ RelV (.ref c) u1 ∧ RelV y w1 := by
    cases rel with
    | cons hq t => cases t; exact ⟨_, _, rfl, hq.1, hq.2⟩
  cases (show u1 = Value.ref c from r1)
  refine ⟨[(k, c, w1)], ⟨rfl, rfl, key_of I2.hok ec, trivial⟩, dd, fun h' tk dd' hs => wpAny_pure ?_⟩
  obtain ⟨q, es, ep, hq, h2, h3, h4, _, h5⟩ := dd'
  have hput : KT H2 (putK [] k y) (storedAllH [] [(k, c, w1)]) := KT.put (kvs := []) (xs := []) .nil k ec r2
  refine ⟨.ref s.heap.objs.size, _, d_write (ob := .dT (putK [] k y)) I2 (by rw [e]; exact True.intro) hs ⟨q, hq⟩ ⟨(by rw [sizeLine_eq]; show 1 ≤ _; decide), hd, _, hput.keeps fun c ys ec => ?_, q, es, ep, hq, h2, h3, h4, h5⟩, rfl, q2⟩
  rw [upd_ne (ne_of ec e (fun z => nomatch z))]
  exact ec
theorem e_dctT1 {X : Cx} {σ : L2.St} {H : Hp} {Q : VK} {pos : Pos} {a b : Expr} (hu : X.A.units + 1 < cLine) (h : ∀ p H', Same H H' → H p = none → H' p = some (.dT []) → (∀ b, b ≠ p → H' b = H b) → eW X a σ H' fun x H1 => eW X b σ H1 fun y H2 => H2 p = some (.dT []) ∧ ∃ (k : List Key) (c : Addr), x = .ref c ∧ H2 c = some (.tup (k.map kV)) ∧ ∀ H3, H3 p = some (.dT [(k, y)]) → (∀ b, b ≠ p → H3 b = H2 b) → Q (.ref p) H3) : eW X (.Dict [some a] [b] pos) σ H Q :=
  eI (pe_dispT1 hu PEw PEw) fun p hp => eMono (h p _ (sameU hp) hp upd_same fun _ hb => upd_ne hb) fun x H1 h1 => eMono h1 fun y H2 ⟨e, k, c, ek, ec, q⟩ => ⟨e, k, c, y, by rw [ek], ec, q _ upd_same fun _ hb => upd_ne hb⟩
theorem m_pop0 {X : Cx} {H : Hp} {Q : VK} {l : Addr} {x : V} {xs : List V} (h : H l = some (.lst (x :: xs))) (q : ∀ H2, H2 l = some (.lst xs) → (∀ b, b ≠ l → H2 b = H b) → Q x H2) : mW X "list.pop" (.ref l) [.int 0] H Q :=
  mI mt_popAt ⟨l, _, 0, 0, x, rfl, rfl, h, by decide, by decide, by unfold seqIndex?; simp, rfl, q _ (by rw [List.eraseIdx_cons_zero]; exact upd_same) fun b hb => upd_ne hb⟩
theorem e_popA {X : Cx} {σ : L2.St} {H : Hp} {Q : VK} {o e : Expr} {pos apos : Pos} (h : eW X o σ H fun x H1 => tyV X.K "list" x H1 ∧ aW X [e] σ H1 fun xs H2 => mW X "list.pop" x xs H2 Q) (hbase : attributeBase o "pop" X.env (eval o X.env) = eval o X.env := by rfl)
    (hfew : ((backTo pos (starEach [e] X.env)).all (fun x => !x.1) && (backToKw pos (keywordEach [] X.env)).all (fun x => x.1.isSome) && decide ([e].length + ([] : List Keyword).length + (if ([] : List Keyword).isEmpty then 0 else 1) < 30)) = true := by rfl)
    (hline : (apos.endLine == pos.line) = true := by rfl) (hs : starEach [e] X.env = (false, eval e X.env) :: starEach [] X.env := by rfl) : eW X (.Call (.Attribute o "pop" apos) [e] [] pos) σ H Q :=
  e_bm PySem.F.plainAttrs_list PySem.F.slot_list_pop PySem.F.type_list_pop h hbase hfew hline hs rfl
end
/-! int * tuple -/
theorem int_mul_tuple (a : Int) (t : Tok) (l : Addr) (items : Array Value) (n : Nat) (dd : Option Addr) (sl : Array (Option Value)) :
    Meets (Builtin.«int.__mul__» ⟨[.int a t, .ref l], []⟩) (fun _ R s => s.heap.get? l = some { cls := .type "tuple", dict := dd, data := .seq items n, slots := sl } ∧ R (.ok (.ret Value.notImplemented)) s) :=
  .of_wp fun prog w A R s h => by obtain ⟨hp, g, d, tk, os⟩ := s; obtain ⟨hl, h⟩ := h; wp_walk using wpAny_loadPart' hl; exact ⟨_, rfl, h⟩
theorem op_repTL {X : Cx} : OpR X (binaryOp .Mult) (fun x y H Q => rRepT X.K y x H Q) := by
  intro pins s σ H x y v u Q I rx ry h
  obtain ⟨l, k, xs, rfl, rfl, hT, hne, h1, h2, hz, q⟩ := h
  cases ry
  obtain ⟨t, rfl⟩ := rx
  obtain ⟨its, r, ⟨⟨cls, dd, data, sl⟩, ho, hc, n, hd⟩, hs⟩ := I.tuple hT
  simp only at hc hd
  subst hc hd
  have hle : its.length = xs.length := r.length.symm
  have hn : its ≠ [] := fun e => hne (by
    rw [e] at hle
    exact List.eq_nil_of_length_eq_zero hle.symm)
  have hi : its.toArray.isEmpty = false := by
    cases its with
    | nil => exact absurd rfl hn
    | cons a b => rfl
  have hsz0 : its.toArray.size = xs.length := by rw [List.size_toArray, hle]
  have hm : ((its.toArray.size : Nat) : Int) * k ≤ 1000000 := by
    rw [hsz0]
    have a1 : ((xs.length : Nat) : Int) * k ≤ 1000 * k := Int.mul_le_mul_of_nonneg_right (by omega) (by omega)
    omega
  have flen : (List.replicate k.toNat its).flatten.length ≤ sizeLine := by
    rw [PyProof.Rows.lm_len_rep_flat, hle, sizeLine_eq]
    have a1 : k.toNat * xs.length ≤ 1000 * 1000 := Nat.mul_le_mul (by omega) hz
    omega
  have c0 : (decide (k < -(2 ^ 63)) || decide (k ≥ 2 ^ 63)) = false := by
    rw [decide_eq_false (by omega), decide_eq_false (by omega)] <;> rfl
  have c1 : (its.toArray.isEmpty || k == 1) = false := by
    rw [hi, Bool.false_or]
    exact beq_eq_false_iff_ne.mpr (by omega)
  have c2 : (decide (k ≤ 0) || its.toArray.isEmpty) = false := by
    rw [hi, Bool.or_false]
    exact decide_eq_false (by omega)
  have c4 : Builtin.Tuple.tupleTooMany (((its.toArray.size : Nat) : Int) * k) = false := by
    unfold Builtin.Tuple.tupleTooMany
    rw [sizeLine_eq]
    exact decide_eq_false (by omega)
  refine lm_binaryOp_repeat_right (T := "tuple") (U := "int") (by decide) (fun s' => typeIs_int s' k t) ⟨_, ho, rfl⟩ F.fills_int_mul noFill_tuple_mul F.slot_int_mul lm_noRepeat_int repeat_tuple F.slot_int_index.lookup
    (call_meets F.slot_int_mul (typeIs_int s k t) F.entry_int_mul (F.args_int_mul_2 _ _) (int_mul_tuple k t l its.toArray n dd sl)
      ⟨ho, rfl, ⟨_, ho, rfl⟩, call_meets F.slot_tuple_mul ⟨_, ho, rfl⟩ F.entry_tuple_mul (F.args_tuple_mul_2 _ _) (tuple_mulW l its.toArray n dd sl k t c0 c1 c2 (by omega) c4 (by rw [size_rep, List.size_toArray]; exact flen)) ⟨ho, ?_⟩⟩)
  rw [size_rep]
  refine ⟨.ref s.heap.objs.size, _, I.laid (t' := s.toks) (o := .tup (List.replicate k.toNat xs).flatten) (fun b ob q => Heap.get?_push_of_some _ q) (Nat.le_refl _) ?_, rfl, q _ (I.hok.fresh (Nat.le_refl _))⟩
  exact ⟨by rw [PyProof.Rows.lm_len_rep_flat, sizeLine_eq]; have a1 : k.toNat * xs.length ≤ 1000 * 1000 := Nat.mul_le_mul (by omega) hz; omega, _, r.rep k.toNat, IsTup.new _ _⟩
theorem o_repTL {X : Cx} {H : Hp} {Q : VK} {p : Addr} {xs : List V} {k : Int} (h : H p = some (.tup xs)) (h0 : xs ≠ []) (h1 : 2 ≤ k) (h2 : k ≤ 1000) (hz : xs.length ≤ 1000) (q : ∀ t H2, Same H H2 → H t = none → H2 t = some (.tup (List.replicate k.toNat xs).flatten) → Q (.ref t) H2) : oW X (binaryOp .Mult) (.int k) (.ref p) H Q :=
  oI op_repTL ⟨p, k, xs, rfl, rfl, SqT.of h, h0, h1, h2, hz, fun t ht => q t _ (sameU ht) ht upd_same⟩
/-! partition; pop(i); len of a dict -/
theorem e_partition {X : Cx} {σ : L2.St} {H : Hp} {Q : VK} {o e : Expr} {pos apos : Pos} (h : eW X o σ H fun x H1 => (∃ a, x = .str a) ∧ eW X e σ H1 fun y H2 => mW X "str.partition" x [y] H2 Q) (hs : starEach [e] X.env = [(false, eval e X.env)] := by rfl) (hbase : attributeBase o "partition" X.env (eval o X.env) = eval o X.env := by rfl) (hline : (apos.endLine == pos.line) = true := by rfl) : eW X (.Call (.Attribute o "partition" apos) [e] [] pos) σ H Q :=
  eI (pe_m1 PySem.F.slot_str_partition PySem.F.type_str_partition MRw PEw PEw hs hbase hline) h
theorem m_partition {X : Cx} {H : Hp} {Q : VK} {a b : Str} (hb : (b.length == 0) = false) (ha : a.length ≤ 1000000) (q : ∀ p H2, Same H H2 → H p = none → H2 p = some (.tup [.str (Txt.partition a b).1, .str (Txt.partition a b).2.1, .str (Txt.partition a b).2.2]) → Q (.ref p) H2) : mW X "str.partition" (.str a) [.str b] H Q :=
  mI mt_partition ⟨_, _, rfl, rfl, hb, by rw [sizeLine_eq]; omega, fun l hl => q l _ (sameU hl) hl upd_same⟩
theorem m_popK {X : Cx} {H : Hp} {Q : VK} {l : Addr} {xs : List V} {k : Nat} {y : V} (h : H l = some (.lst xs)) (hk : xs[k]? = some y) (hz : xs.length ≤ 100000) (q : ∀ H2, H2 l = some (.lst (xs.eraseIdx k)) → (∀ b, b ≠ l → H2 b = H b) → Q y H2) : mW X "list.pop" (.ref l) [.int ((k : Nat) : Int)] H Q :=
  mI mt_popAt ⟨l, xs, (k : Nat), k, y, rfl, rfl, h, by omega, by have := (List.getElem?_eq_some_iff.mp hk).1; omega, by
    have := (List.getElem?_eq_some_iff.mp hk).1
    exact (ixN_seq (n := xs.length) (i := ((k : Nat) : Int)) (j := k) (by unfold ixN; rw [if_pos (by omega), if_pos (by omega)]; rfl)).1, hk, q _ upd_same fun b hb => upd_ne hb⟩
theorem k_lenD {X : Cx} {H : Hp} {Q : VK} {d : Addr} {kvs : List (Key × V)} (h : H d = some (.dK kvs)) (q : Q (.int ((kvs.length : Nat) : Int)) H) : kW X (.builtin "len") [.ref d] H Q := kI call_lenD ⟨_, _, rfl, h, q⟩
/-- C(), with an __init__ of one's own -/
theorem e_make0 {X : Cx} {σ : L2.St} {H : Hp} {Q : VK} {pos p2 : Pos} {mg : Str → Option Value} {C : Addr} {x : Str} {k : Nat} {ps : List Str} {sp : Sp} {W : WX} [ct : CxT X W] [cm : CxM X mg] [g : Gn mg x (some (.ref C))] (F : Ini X.prog X.w X.K X.mg X.base C k ps sp) (hr : Room (k + 1) X.A)
    (h : ∀ p dx H2, Same H H2 → H p = none → H dx = none → dx ≠ p → H2 p = some (.ins C dx []) → H2 dx = some (.own p) → (∀ b, b ≠ p → b ≠ dx → H2 b = H b) → sp [.ref p] H2 (fun v H3 => v = .non ∧ Q (.ref p) H3) fun cls d H' => W cls d σ H')
    (hg : Gl X x := by rfl) (hdb : (x == ("__debug__" : Str)) = false := by decide) : eW X (.Call (.Name x p2) [] [] pos) σ H Q := by
  obtain ⟨f, fd, h1, h2, h3⟩ := F.ex
  exact ⟨fun pins s I => wpAny_Call_Name_kw (ld_glob I hg (by rw [cm.h]; exact g.h) (PySem.W.callWith_K0 I.kIn h1.kp (run_makeS h1 h3 hr h2 (passAt ct.h σ) I .nil fun p dx hp hdx hne => h p dx _ (Same.made' hp hdx) hp hdx hne upd_same (by rw [upd_ne hne]; exact upd_same) fun b hb hb2 => by rw [upd_ne hb, upd_ne hb2])) hdb)⟩
/-! tuple * int, any number -/
section
open PySem PySem.Spec PyProof.Rows
theorem tuple_mul1 (l : Addr) (items : Array Value) (n : Nat) (dd : Option Addr) (sl : Array (Option Value)) (x : Int) (u : Tok) (c0 : (decide (x < -(2 ^ 63)) || decide (x ≥ 2 ^ 63)) = false) (c1 : (items.isEmpty || x == 1) = true) :
    Meets (Builtin.«tuple.__mul__» ⟨[.ref l, .int x u], []⟩) (fun _ R s => s.heap.get? l = some { cls := .type "tuple", dict := dd, data := .seq items n, slots := sl } ∧ R (.ok (.ret (Value.ref l))) s) :=
  .of_wp fun prog w A R s h => by
    obtain ⟨hp, g, d, tk, os⟩ := s
    obtain ⟨hl, h⟩ := h
    have f1 := AutoSeq1.idx_int
    wp_walk using wpAny_loadPart' hl
    repeat (first
      | (refine wpAny_ite_false (decide_eq_false (by rw [c0]; exact Bool.false_ne_true)) ?_; wp_walk using wpAny_loadPart' hl)
      | (refine wpAny_ite_true (decide_eq_true c1) ?_; wp_walk using wpAny_loadPart' hl))
    exact ⟨_, rfl, h⟩

theorem tuple_mul0 (l : Addr) (items : Array Value) (n : Nat) (dd : Option Addr) (sl : Array (Option Value)) (x : Int) (u : Tok) (c0 : (decide (x < -(2 ^ 63)) || decide (x ≥ 2 ^ 63)) = false) (c1 : (items.isEmpty || x == 1) = false) (c2 : (decide (x ≤ 0) || items.isEmpty) = true) :
    Meets (Builtin.«tuple.__mul__» ⟨[.ref l, .int x u], []⟩) (fun _ R s => s.heap.get? l = some { cls := .type "tuple", dict := dd, data := .seq items n, slots := sl } ∧
      R (.ok (.ret (Value.ref s.heap.objs.size))) { s with heap := s.heap.push { cls := Value.type "tuple", data := Data.seq #[] }, toks := s.toks }) :=
  .of_wp fun prog w A R s h => by
    obtain ⟨hp, g, d, tk, os⟩ := s
    obtain ⟨hl, h⟩ := h
    have f1 := AutoSeq1.idx_int
    wp_walk using wpAny_loadPart' hl
    repeat (first
      | (refine wpAny_ite_false (decide_eq_false (by rw [c0]; exact Bool.false_ne_true)) ?_; wp_walk using wpAny_loadPart' hl)
      | (refine wpAny_ite_false (decide_eq_false (by rw [c1]; exact Bool.false_ne_true)) ?_; wp_walk using wpAny_loadPart' hl)
      | (refine wpAny_ite_true (decide_eq_true c2) ?_; wp_walk using wpAny_loadPart' hl))
    exact ⟨_, rfl, h⟩
theorem op_repTA {X : Cx} : OpR X (binaryOp .Mult) (fun x y H Q => ∃ l k xs, x = .ref l ∧ y = .int k ∧ H l = some (.tup xs) ∧ xs ≠ [] ∧ 0 ≤ k ∧ k ≤ 1000 ∧ xs.length ≤ 1000 ∧ (k = 1 → Q (.ref l) H) ∧ ∀ p, H p = none → Q (.ref p) (upd H p (.tup (List.replicate k.toNat xs).flatten))) := by
  intro pins s σ H x y v u Q I rx ry h
  obtain ⟨l, k, xs, rfl, rfl, hH, hne, h1, h2, hz, q1, q⟩ := h
  have hT : SqT X.K H l xs := SqT.of hH
  by_cases c : 2 ≤ k
  · exact op_repT pins s σ H (.ref l) (.int k) v u Q I rx ry ⟨l, k, xs, rfl, rfl, hT, hne, c, h2, hz, q⟩
  cases rx
  obtain ⟨t, rfl⟩ := ry
  obtain ⟨its, r, ⟨⟨cls, dd, data, sl⟩, ho, hc, n, hd⟩, hs⟩ := I.tuple hT
  simp only at hc hd
  subst hc hd
  have hle : its.length = xs.length := r.length.symm
  have hn : its ≠ [] := fun e => hne (by
    rw [e] at hle
    exact List.eq_nil_of_length_eq_zero hle.symm)
  have hi : its.toArray.isEmpty = false := by
    cases its with
    | nil => exact absurd rfl hn
    | cons a b => rfl
  have c0 : (decide (k < -(2 ^ 63)) || decide (k ≥ 2 ^ 63)) = false := by
    rw [decide_eq_false (by omega), decide_eq_false (by omega)] <;> rfl
  by_cases e1 : k = 1
  · refine wpAny_binaryOp_repeat_ref (T := "tuple") (U := "int") (by decide) ⟨_, ho, rfl⟩ (fun s' => typeIs_int s' k t) noFill_tuple_mul F.fills_int_mul F.slot_int_rmul repeat_tuple F.slot_int_index.lookup
      (call_meets F.slot_int_rmul (typeIs_int s k t) F.entry_int_rmul (F.args_int_rmul_2 _ _) (int_rmul_tuple k t l its.toArray n dd sl)
        ⟨ho, rfl, ⟨_, ho, rfl⟩, call_meets F.slot_tuple_mul ⟨_, ho, rfl⟩ F.entry_tuple_mul (F.args_tuple_mul_2 _ _) (tuple_mul1 l its.toArray n dd sl k t c0 (by rw [e1]; simp)) ⟨ho, ?_⟩⟩)
    exact ⟨.ref l, H, I.tok _, rfl, q1 e1⟩
  · have e0 : k = 0 := by omega
    refine wpAny_binaryOp_repeat_ref (T := "tuple") (U := "int") (by decide) ⟨_, ho, rfl⟩ (fun s' => typeIs_int s' k t) noFill_tuple_mul F.fills_int_mul F.slot_int_rmul repeat_tuple F.slot_int_index.lookup
      (call_meets F.slot_int_rmul (typeIs_int s k t) F.entry_int_rmul (F.args_int_rmul_2 _ _) (int_rmul_tuple k t l its.toArray n dd sl)
        ⟨ho, rfl, ⟨_, ho, rfl⟩, call_meets F.slot_tuple_mul ⟨_, ho, rfl⟩ F.entry_tuple_mul (F.args_tuple_mul_2 _ _) (tuple_mul0 l its.toArray n dd sl k t c0 (by rw [hi, e0]; rfl) (by rw [e0]; rfl)) ⟨ho, ?_⟩⟩)
    refine ⟨.ref s.heap.objs.size, _, I.laid (t' := s.toks) (o := .tup (List.replicate k.toNat xs).flatten) (fun b ob q => Heap.get?_push_of_some _ q) (Nat.le_refl _) ?_, rfl, q _ (I.hok.fresh (Nat.le_refl _))⟩
    rw [e0]
    exact ⟨by show 0 ≤ sizeLine; exact Nat.zero_le _, [], .nil, IsTup.new _ _⟩
theorem o_repTA {X : Cx} {H : Hp} {Q : VK} {p : Addr} {xs : List V} {k : Int} (h : H p = some (.tup xs)) (h0 : xs ≠ []) (h1 : 0 ≤ k) (h2 : k ≤ 1000) (hz : xs.length ≤ 1000) (q : ∀ t H2, Same H H2 → H2 t = some (.tup (List.replicate k.toNat xs).flatten) → Q (.ref t) H2) : oW X (binaryOp .Mult) (.ref p) (.int k) H Q :=
  oI op_repTA ⟨p, k, xs, rfl, rfl, h, h0, h1, h2, hz, fun e => q p H (Same.refl _) (by rw [h, e]; show _ = some (HO.tup (List.replicate 1 xs).flatten); simp), fun t ht => q t _ (sameU ht) upd_same⟩
end
end G

namespace Lw
open PySem PySem.Spec PyProof.Rows L2 TL G
local macro_rules | `(tactic| kby_none) => `(tactic| first | exact Same.refl _ | assumption | exact Same.tr' (by assumption) (by kby_none))
local macro_rules | `(tactic| ki_room) => `(tactic| first | assumption | exact Same.at' (by assumption) (by ki_room))
local macro_rules | `(tactic| kt_chr) => `(tactic| first | assumption | exact Th.non | exact Th.int _ | exact Th.bl _ | exact Same.th' (by assumption) (by kt_chr) | exact Same.thA' (by assumption) (by kt_chr))
local macro_rules | `(tactic| kpc_check) => `(tactic| first | decide +kernel | (simp only [sizeLine_eq]; omega) | omega)
local macro_rules | `(tactic| kl_some) => `(tactic| first | assumption | exact SqL.of (by ki_room) | exact Same.seq' (by assumption) (by kl_some))
local macro_rules | `(tactic| k_units) => `(tactic| first | assumption | exact SqT.of (by ki_room) | exact Same.seqT' (by assumption) (by k_units))
local macro_rules | `(tactic| kl_room) => `(tactic| first | assumption | exact SqT.of (by ki_room) | exact SqL.of (by ki_room) | kl_some | k_units)
local macro_rules | `(tactic| units_room1) => `(tactic| first | assumption | grind [Same])
local macro_rules | `(tactic| wrow_post) => `(tactic| first | assumption | (intro b9 o9 h9; grind [Same]))
local macro_rules | `(tactic| tupd_mem) => `(tactic| first | assumption | (intro h9; grind [Same]))
local macro_rules | `(tactic| wp_step) => `(tactic| repeat first | ((with_reducible refine is_ite ?_); first | (with_reducible refine iteT ?_) | (with_reducible refine iteF ?_) | ((with_reducible refine is_iteD ?_); first | refine iteDT (by first | with_reducible rfl | decide +kernel) ?_ | refine iteDF (by first | exact ref_ne_non | exact int_ne_non | exact str_ne_non | exact bl_ne_non | decide +kernel) ?_) | ((with_reducible refine is_iteND ?_); first | refine iteNDF (by first | with_reducible rfl | decide +kernel) ?_ | refine iteNDT (by first | exact ref_ne_non | exact int_ne_non | exact str_ne_non | exact bl_ne_non | decide +kernel) ?_) | ((fail_if_success (with_reducible refine is_iteD ?_)); (fail_if_success (with_reducible refine is_iteND ?_)); first | refine iteT ?_ | refine iteF ?_)) | ((fail_if_success (with_reducible refine is_ite ?_)); first | (refine is_e ?_; first | refine e_var rfl ?_ | refine e_int ?_ | refine e_str ?_ | refine e_bl ?_ | refine e_non ?_ | refine e_bin ?_ | refine e_slice ?_ | refine e_ix ?_ | refine e_isN ?_ | refine e_notN ?_ | refine e_cmp ?_ | refine e_callB ?_ | refine e_listRev ?_ | refine e_callTy ?_ | refine e_globR ?_ | refine e_globI ?_ | refine e_globS ?_ | refine e_ty ?_ | refine e_neg ?_ | refine e_not ?_ | refine e_one ?_ | refine e_ifE ?_ | refine e_tupN ?_ | refine e_lstN ?_ | refine e_dct0 ?_) | (refine is_o ?_; first | (with_reducible refine o_add ?_) | (with_reducible refine o_sub ?_) | ((with_reducible refine is_bo (op := .Mod) ?_); refine o_mod (by decide) ?_) | ((with_reducible refine is_bo (op := .FloorDiv) ?_); refine o_div ⟨by decide, by decide⟩ ?_) | (with_reducible refine o_eqI ?_) | (with_reducible refine o_neI ?_) | (with_reducible refine o_eqS ?_) | (with_reducible refine o_neS ?_) | (with_reducible refine o_lt ?_) | (with_reducible refine o_le ?_) | (with_reducible refine o_gt ?_) | (with_reducible refine o_ge ?_) | (with_reducible refine o_p60 ?_) | (with_reducible refine o_p30 ?_) | ((with_reducible refine is_bo (op := .Pow) ?_); refine o_pow ⟨by decide, by decide, by decide⟩ ?_) | (with_reducible refine o_leS ?_) | (with_reducible refine o_ltS ?_) | (with_reducible refine o_inC ?_) | (with_reducible refine o_niC ?_) | (with_reducible refine o_eqB ?_) | (with_reducible refine o_neB ?_)) | (refine is_a ?_; first | refine a_cons ?_ | refine a_nil ?_) | (refine is_b ?_; first | refine b_cons ?_ | refine b_nil ?_) | (refine is_p ?_; first | refine p_none ?_ | refine p_some ?_) | (refine is_s ?_; first | refine s_set ?_ | refine s_if ?_ | refine s_ret ?_ | refine s_expr ?_ | refine s_retN ?_ | refine s_brk ?_ | refine s_cont ?_ | refine s_pass ?_ | refine s_augA rfl ?_) | (refine is_t ?_; first | refine t_isN ?_ | refine t_notN ?_ | refine t_cmp ?_ | refine t_chain ?_ | refine t_not ?_ | refine t_and ?_ | refine t_or ?_ | refine t_val ?_) | (refine is_c ?_; first | refine c_and1 ?_ | refine c_or1 ?_ | refine c_and ?_ | refine c_or ?_) | (refine is_g ?_; first | refine g_name ?_ | refine g_tup ⟨_, _, rfl, (by k_units), (by rfl), ?_⟩ | refine g_lst ⟨_, _, rfl, (by kl_some), (by rfl), ?_⟩) | (refine is_h ?_; first | refine h_cons ?_ | refine h_nil ?_) | (refine is_k ?_; first | refine k_min ?_ | refine k_max ?_ | refine k_ordC ?_) | (refine is_and ?_; refine ⟨rfl, ?_⟩) | (refine is_ex ?_; first | refine ⟨_, rfl, ?_⟩ | refine ⟨_, _, rfl, ?_⟩ | refine ⟨_, _, _, rfl, ?_⟩ | refine ⟨_, _, rfl, rfl, ?_⟩ | refine ⟨_, _, _, rfl, rfl, rfl, ?_⟩ | refine ⟨_, _, _, _, rfl, ?_⟩ | refine ⟨_, _, _, _, _, rfl, ?_⟩ | refine ⟨_, _, _, _, _, _, rfl, ?_⟩)))
local macro_rules | `(tactic| tm_side) => `(tactic| repeat first | ((with_reducible refine is_ite ?_); first | (with_reducible refine iteT ?_) | (with_reducible refine iteF ?_) | ((with_reducible refine is_iteD ?_); first | refine iteDT (by first | with_reducible rfl | decide +kernel) ?_ | refine iteDF (by first | exact ref_ne_non | exact int_ne_non | exact str_ne_non | exact bl_ne_non | decide +kernel) ?_) | ((with_reducible refine is_iteND ?_); first | refine iteNDF (by first | with_reducible rfl | decide +kernel) ?_ | refine iteNDT (by first | exact ref_ne_non | exact int_ne_non | exact str_ne_non | exact bl_ne_non | decide +kernel) ?_) | ((fail_if_success (with_reducible refine is_iteD ?_)); (fail_if_success (with_reducible refine is_iteND ?_)); first | refine iteT ?_ | refine iteF ?_)) | ((fail_if_success (with_reducible refine is_ite ?_)); first | (refine is_e ?_; first | refine e_var rfl ?_ | refine e_int ?_ | refine e_str ?_ | refine e_bl ?_ | refine e_non ?_ | refine e_bin ?_ | refine e_slice ?_ | refine e_ix ?_ | refine e_isN ?_ | refine e_notN ?_ | refine e_cmp ?_ | refine e_callB ?_ | refine e_listRev ?_ | refine e_callTy ?_ | refine e_globR ?_ | refine e_globI ?_ | refine e_globS ?_ | refine e_ty ?_ | refine e_neg ?_ | refine e_not ?_ | refine e_one ?_ | refine e_ifE ?_ | refine e_tupN ?_ | refine e_lstN ?_ | refine e_dct0 ?_ | (refine is_call ?_; top_name) | (refine is_meth ?_; kpc_turns) | refine e_append ?_ | refine e_and ?_ | refine e_or ?_ | (refine is_attr ?_; refine e_fldV rfl (by ki_room) rfl ?_)) | (refine is_o ?_; first | (with_reducible refine o_add ?_) | (with_reducible refine o_sub ?_) | ((with_reducible refine is_bo (op := .Mod) ?_); refine o_mod (by decide) ?_) | ((with_reducible refine is_bo (op := .FloorDiv) ?_); refine o_div ⟨by decide, by decide⟩ ?_) | (with_reducible refine o_eqI ?_) | (with_reducible refine o_neI ?_) | (with_reducible refine o_eqS ?_) | (with_reducible refine o_neS ?_) | (with_reducible refine o_lt ?_) | (with_reducible refine o_le ?_) | (with_reducible refine o_gt ?_) | (with_reducible refine o_ge ?_) | (with_reducible refine o_p60 ?_) | (with_reducible refine o_p30 ?_) | ((with_reducible refine is_bo (op := .Pow) ?_); refine o_pow ⟨by decide, by decide, by decide⟩ ?_) | (with_reducible refine o_leS ?_) | (with_reducible refine o_ltS ?_) | (with_reducible refine o_inC ?_) | (with_reducible refine o_niC ?_) | (with_reducible refine o_eqB ?_) | (with_reducible refine o_neB ?_)) | (refine is_a ?_; first | refine a_cons ?_ | refine a_nil ?_) | (refine is_b ?_; first | refine b_cons ?_ | refine b_nil ?_) | (refine is_p ?_; first | refine p_none ?_ | refine p_some ?_) | (refine is_s ?_; first | refine s_set ?_ | refine s_if ?_ | refine s_ret ?_ | refine s_expr ?_ | refine s_retN ?_ | refine s_brk ?_ | refine s_cont ?_ | refine s_pass ?_ | refine s_augA rfl ?_ | refine s_asgT ?_ | (refine is_raise ?_; top_raise)) | (refine is_t ?_; first | refine t_isN ?_ | refine t_notN ?_ | refine t_cmp ?_ | refine t_chain ?_ | refine t_not ?_ | refine t_and ?_ | refine t_or ?_ | refine t_val ?_) | (refine is_c ?_; first | refine c_and1 ?_ | refine c_or1 ?_ | refine c_and ?_ | refine c_or ?_) | (refine is_g ?_; first | refine g_name ?_ | refine g_tup ⟨_, _, rfl, (by k_units), (by rfl), ?_⟩ | refine g_lst ⟨_, _, rfl, (by kl_some), (by rfl), ?_⟩) | (refine is_h ?_; first | refine h_cons ?_ | refine h_nil ?_) | (refine is_k ?_; first | refine k_min ?_ | refine k_max ?_ | refine k_ordC ?_ | refine k_lenL (by kl_some) ?_ | refine k_lenT (by k_units) ?_ | refine k_lenS (by kpc_check) ?_) | (refine is_and ?_; refine ⟨rfl, ?_⟩) | (refine is_ex ?_; first | refine ⟨_, rfl, ?_⟩ | refine ⟨_, _, rfl, ?_⟩ | refine ⟨_, _, _, rfl, ?_⟩ | refine ⟨_, _, rfl, rfl, ?_⟩ | refine ⟨_, _, _, rfl, rfl, rfl, ?_⟩ | refine ⟨_, _, _, _, rfl, ?_⟩ | refine ⟨_, _, _, _, _, rfl, ?_⟩ | refine ⟨_, _, _, _, _, _, rfl, ?_⟩) | ((first | (with_reducible refine is_ixP ?_) | (with_reducible refine is_ixN ?_)); first | refine i_tup (by k_units) rfl ?_ | refine i_lst (by kl_some) rfl ?_ | refine i_tup (by k_units) (atI_nat (by decide) rfl) ?_ | refine i_lst (by kl_some) (atI_nat (by decide) rfl) ?_) | intro (_ : Addr) _ _ _ _ _))
local macro_rules | `(tactic| kxs_still) => `(tactic| repeat first | ((with_reducible refine is_ite ?_); first | (with_reducible refine iteT ?_) | (with_reducible refine iteF ?_) | ((with_reducible refine is_iteD ?_); first | refine iteDT (by first | with_reducible rfl | decide +kernel) ?_ | refine iteDF (by first | exact ref_ne_non | exact int_ne_non | exact str_ne_non | exact bl_ne_non | decide +kernel) ?_ | refine iteDT (by omega) ?_ | refine iteDF (by omega) ?_) | ((with_reducible refine is_iteND ?_); first | refine iteNDF (by first | with_reducible rfl | decide +kernel) ?_ | refine iteNDT (by first | exact ref_ne_non | exact int_ne_non | exact str_ne_non | exact bl_ne_non | decide +kernel) ?_ | refine iteNDF (by omega) ?_ | refine iteNDT (by omega) ?_) | ((fail_if_success (with_reducible refine is_iteD ?_)); (fail_if_success (with_reducible refine is_iteND ?_)); first | refine iteBT rfl ?_ | refine iteBF rfl ?_)) | ((fail_if_success (with_reducible refine is_ite ?_)); first | (refine is_e ?_; first | refine e_var rfl ?_ | refine e_int ?_ | refine e_str ?_ | refine e_bl ?_ | refine e_non ?_ | refine e_bin ?_ | refine e_slice ?_ | refine e_ix ?_ | refine e_isN ?_ | refine e_notN ?_ | refine e_cmp ?_ | refine e_callB ?_ | refine e_listRev ?_ | refine e_callTy ?_ | refine e_globR ?_ | refine e_globI ?_ | refine e_globS ?_ | refine e_ty ?_ | refine e_neg ?_ | refine e_not ?_ | refine e_one ?_ | refine e_ifE ?_ | refine e_tupN ?_ | refine e_lstN ?_ | refine e_dct0 ?_ | (refine is_call ?_; top_name) | (refine is_meth ?_; kpc_turns) | refine e_append ?_ | refine e_and ?_ | refine e_or ?_ | (refine is_attr ?_; refine e_fldV rfl (by ki_room) rfl ?_)) | (refine is_o ?_; first | (with_reducible refine o_add ?_) | (with_reducible refine o_sub ?_) | ((with_reducible refine is_bo (op := .Mod) ?_); refine o_mod (by decide) ?_) | ((with_reducible refine is_bo (op := .FloorDiv) ?_); refine o_div ⟨by decide, by decide⟩ ?_) | (with_reducible refine o_eqI ?_) | (with_reducible refine o_neI ?_) | (with_reducible refine o_eqS ?_) | (with_reducible refine o_neS ?_) | (with_reducible refine o_lt ?_) | (with_reducible refine o_le ?_) | (with_reducible refine o_gt ?_) | (with_reducible refine o_ge ?_) | (with_reducible refine o_p60 ?_) | (with_reducible refine o_p30 ?_) | ((with_reducible refine is_bo (op := .Pow) ?_); refine o_pow ⟨by decide, by decide, by decide⟩ ?_) | (with_reducible refine o_leS ?_) | (with_reducible refine o_ltS ?_) | (with_reducible refine o_inC ?_) | (with_reducible refine o_niC ?_) | (with_reducible refine o_eqB ?_) | (with_reducible refine o_neB ?_)) | (refine is_a ?_; first | refine a_cons ?_ | refine a_nil ?_) | (refine is_b ?_; first | refine b_cons ?_ | refine b_nil ?_) | (refine is_p ?_; first | refine p_none ?_ | refine p_some ?_) | (refine is_s ?_; first | refine s_set ?_ | refine s_if ?_ | refine s_ret ?_ | refine s_expr ?_ | refine s_retN ?_ | refine s_brk ?_ | refine s_cont ?_ | refine s_pass ?_ | refine s_augA rfl ?_ | refine s_asgT ?_ | (refine is_raise ?_; top_raise)) | (refine is_t ?_; first | refine t_sg ?_ | refine t_sgE ?_ | refine t_isN ?_ | refine t_notN ?_ | refine t_cmp ?_ | refine t_chain ?_ | refine t_not ?_ | refine t_and ?_ | refine t_or ?_ | refine t_val ?_) | (refine is_c ?_; first | refine c_and1 ?_ | refine c_or1 ?_ | refine c_and ?_ | refine c_or ?_) | (refine is_g ?_; first | refine g_name ?_ | refine g_tup ⟨_, _, rfl, (by k_units), (by rfl), ?_⟩ | refine g_lst ⟨_, _, rfl, (by kl_some), (by rfl), ?_⟩) | (refine is_h ?_; first | refine h_cons ?_ | refine h_nil ?_) | (refine is_k ?_; first | refine k_min ?_ | refine k_max ?_ | refine k_ordC ?_ | refine k_lenL (by kl_some) ?_ | refine k_lenT (by k_units) ?_ | refine k_lenS (by kpc_check) ?_) | ((first | (with_reducible refine xA ?_) | (with_reducible refine xB ?_) | (with_reducible refine xC ?_)); refine ⟨rfl, ?_⟩) | (refine xV1 ?_; refine ⟨_, rfl, ?_⟩) | (refine xL1 ?_; refine ⟨_, rfl, ?_⟩) | (refine xL2 ?_; refine ⟨_, _, rfl, ?_⟩) | (refine xL3 ?_; refine ⟨_, _, _, rfl, ?_⟩) | (refine xL4 ?_; refine ⟨_, _, _, _, rfl, ?_⟩) | (refine xL5 ?_; refine ⟨_, _, _, _, _, rfl, ?_⟩) | (refine xL6 ?_; refine ⟨_, _, _, _, _, _, rfl, ?_⟩) | (refine xL7 ?_; refine ⟨_, _, _, _, _, _, _, rfl, ?_⟩) | ((first | (with_reducible refine is_ixP ?_) | (with_reducible refine is_ixN ?_)); first | refine i_tup (by k_units) rfl ?_ | refine i_lst (by kl_some) rfl ?_ | refine i_tup (by k_units) (atI_nat (by decide) rfl) ?_ | refine i_lst (by kl_some) (atI_nat (by decide) rfl) ?_) | (refine is_i ?_; first | refine i_lst (by kl_some) (atI_nat (by decide) (by assumption)) ?_ | refine i_tup (by k_units) (atI_nat (by decide) (by assumption)) ?_ | refine i_lst (by kl_some) (by assumption) ?_ | refine i_tup (by k_units) (by assumption) ?_)))
local macro_rules | `(tactic| kt_eqs) => `(tactic| repeat first | ((with_reducible refine is_ite ?_); first | (with_reducible refine iteT ?_) | (with_reducible refine iteF ?_) | ((with_reducible refine is_iteD ?_); first | refine iteDT (by first | with_reducible rfl | decide +kernel) ?_ | refine iteDF (by first | exact ref_ne_non | exact int_ne_non | exact str_ne_non | exact bl_ne_non | decide +kernel) ?_ | refine iteDT (by omega) ?_ | refine iteDF (by omega) ?_) | ((with_reducible refine is_iteND ?_); first | refine iteNDF (by first | with_reducible rfl | decide +kernel) ?_ | refine iteNDT (by first | exact ref_ne_non | exact int_ne_non | exact str_ne_non | exact bl_ne_non | decide +kernel) ?_ | refine iteNDF (by omega) ?_ | refine iteNDT (by omega) ?_) | ((fail_if_success (with_reducible refine is_iteD ?_)); (fail_if_success (with_reducible refine is_iteND ?_)); first | refine iteBT rfl ?_ | refine iteBF rfl ?_)) | ((fail_if_success (with_reducible refine is_ite ?_)); first | (refine is_e ?_; first | refine e_var rfl ?_ | refine e_int ?_ | refine e_str ?_ | refine e_bl ?_ | refine e_non ?_ | refine e_bin ?_ | refine e_slice ?_ | refine e_ix ?_ | refine e_isN ?_ | refine e_notN ?_ | refine e_cmp ?_ | refine e_callB ?_ | refine e_listRev ?_ | refine e_callTy ?_ | refine e_globR ?_ | refine e_globI ?_ | refine e_globS ?_ | refine e_ty ?_ | refine e_neg ?_ | refine e_not ?_ | refine e_one ?_ | refine e_ifE ?_ | refine e_tupN ?_ | refine e_lstN ?_ | (refine is_call ?_; top_name) | (refine is_meth ?_; kpc_turns) | refine e_append ?_ | refine e_and ?_ | refine e_or ?_ | (refine is_attr ?_; refine e_fldV rfl (by ki_room) rfl ?_)) | (refine is_o ?_; first | (with_reducible refine o_add ?_) | (with_reducible refine o_sub ?_) | ((with_reducible refine is_bo (op := .Mod) ?_); refine o_mod (by decide) ?_) | ((with_reducible refine is_bo (op := .FloorDiv) ?_); refine o_div ⟨by decide, by decide⟩ ?_) | (with_reducible refine o_eqI ?_) | (with_reducible refine o_neI ?_) | (with_reducible refine o_eqS ?_) | (with_reducible refine o_neS ?_) | (with_reducible refine o_lt ?_) | (with_reducible refine o_le ?_) | (with_reducible refine o_gt ?_) | (with_reducible refine o_ge ?_) | (with_reducible refine o_p60 ?_) | (with_reducible refine o_p30 ?_) | ((with_reducible refine is_bo (op := .Pow) ?_); refine o_pow ⟨by decide, by decide, by decide⟩ ?_) | (with_reducible refine o_leS ?_) | (with_reducible refine o_ltS ?_) | (with_reducible refine o_inC ?_) | (with_reducible refine o_niC ?_) | (with_reducible refine o_eqB ?_) | (with_reducible refine o_neB ?_)) | (refine is_a ?_; first | refine a_cons ?_ | refine a_nil ?_) | (refine is_b ?_; first | refine b_cons ?_ | refine b_nil ?_) | (refine is_p ?_; first | refine p_none ?_ | refine p_some ?_) | (refine is_s ?_; first | refine s_set ?_ | refine s_if ?_ | refine s_ret ?_ | refine s_expr ?_ | refine s_retN ?_ | refine s_brk ?_ | refine s_cont ?_ | refine s_pass ?_ | refine s_augA rfl ?_ | refine s_asgT ?_ | (refine is_raise ?_; top_raise)) | (refine is_t ?_; first | refine t_sg ?_ | refine t_sgE ?_ | refine t_isN ?_ | refine t_notN ?_ | refine t_cmp ?_ | refine t_chain ?_ | refine t_not ?_ | refine t_and ?_ | refine t_or ?_ | refine t_val ?_) | (refine is_c ?_; first | refine c_and1 ?_ | refine c_or1 ?_ | refine c_and ?_ | refine c_or ?_) | (refine is_g ?_; first | refine g_name ?_ | refine g_tup ⟨_, _, rfl, (by k_units), (by rfl), ?_⟩ | refine g_lst ⟨_, _, rfl, (by kl_some), (by rfl), ?_⟩) | (refine is_h ?_; first | refine h_cons ?_ | refine h_nil ?_) | (refine is_k ?_; first | refine k_min ?_ | refine k_max ?_ | refine k_ordC ?_ | refine k_lenL (by kl_some) ?_ | refine k_lenT (by k_units) ?_ | refine k_lenS (by kpc_check) ?_) | ((first | (with_reducible refine xA ?_) | (with_reducible refine xB ?_) | (with_reducible refine xC ?_)); refine ⟨rfl, ?_⟩) | (refine xV1 ?_; refine ⟨_, rfl, ?_⟩) | (refine xL1 ?_; refine ⟨_, rfl, ?_⟩) | (refine xL2 ?_; refine ⟨_, _, rfl, ?_⟩) | (refine xL3 ?_; refine ⟨_, _, _, rfl, ?_⟩) | (refine xL4 ?_; refine ⟨_, _, _, _, rfl, ?_⟩) | (refine xL5 ?_; refine ⟨_, _, _, _, _, rfl, ?_⟩) | (refine xL6 ?_; refine ⟨_, _, _, _, _, _, rfl, ?_⟩) | (refine xL7 ?_; refine ⟨_, _, _, _, _, _, _, rfl, ?_⟩) | ((first | (with_reducible refine is_ixP ?_) | (with_reducible refine is_ixN ?_)); first | refine i_tup (by k_units) rfl ?_ | refine i_lst (by kl_some) rfl ?_ | refine i_tup (by k_units) (atI_nat (by decide) rfl) ?_ | refine i_lst (by kl_some) (atI_nat (by decide) rfl) ?_) | (refine is_i ?_; first | refine i_lst (by kl_some) (atI_nat (by decide) (by assumption)) ?_ | refine i_tup (by k_units) (atI_nat (by decide) (by assumption)) ?_ | refine i_lst (by kl_some) (by assumption) ?_ | refine i_tup (by k_units) (by assumption) ?_)))
local macro_rules | `(tactic| k_here) => `(tactic| repeat first | ((with_reducible refine is_ite ?_); first | (with_reducible refine iteT ?_) | (with_reducible refine iteF ?_) | ((with_reducible refine is_iteD ?_); first | refine iteDT (by first | with_reducible rfl | decide +kernel) ?_ | refine iteDF (by first | exact ref_ne_non | exact int_ne_non | exact str_ne_non | exact bl_ne_non | decide +kernel) ?_ | refine iteDT (by omega) ?_ | refine iteDF (by omega) ?_) | ((with_reducible refine is_iteND ?_); first | refine iteNDF (by first | with_reducible rfl | decide +kernel) ?_ | refine iteNDT (by first | exact ref_ne_non | exact int_ne_non | exact str_ne_non | exact bl_ne_non | decide +kernel) ?_ | refine iteNDF (by omega) ?_ | refine iteNDT (by omega) ?_) | ((fail_if_success (with_reducible refine is_iteD ?_)); (fail_if_success (with_reducible refine is_iteND ?_)); first | refine iteBT rfl ?_ | refine iteBF rfl ?_)) | ((fail_if_success (with_reducible refine is_ite ?_)); first | (refine is_e ?_; first | refine e_var rfl ?_ | refine e_int ?_ | refine e_str ?_ | refine e_bl ?_ | refine e_non ?_ | refine e_bin ?_ | refine e_slice ?_ | refine e_ix ?_ | refine e_isN ?_ | refine e_notN ?_ | refine e_cmp ?_ | refine e_callB ?_ | refine e_listRev ?_ | refine e_callTy ?_ | refine e_globR ?_ | refine e_globI ?_ | refine e_globS ?_ | refine e_ty ?_ | refine e_neg ?_ | refine e_not ?_ | refine e_one ?_ | refine e_ifE ?_ | refine e_tupN ?_ | refine e_lstN ?_ | refine e_dct0 ?_ | (refine is_call ?_; top_name) | (refine is_meth ?_; kpc_turns) | refine e_append ?_ | refine e_and ?_ | refine e_or ?_ | (refine is_attr ?_; refine e_fldV rfl (by ki_room) rfl ?_)) | (refine is_o ?_; first | (with_reducible refine o_add ?_) | (with_reducible refine o_sub ?_) | ((with_reducible refine is_bo (op := .Mod) ?_); refine o_mod (by decide) ?_) | ((with_reducible refine is_bo (op := .FloorDiv) ?_); refine o_div ⟨by decide, by decide⟩ ?_) | (with_reducible refine o_eqI ?_) | (with_reducible refine o_neI ?_) | (with_reducible refine o_eqS ?_) | (with_reducible refine o_neS ?_) | (with_reducible refine o_lt ?_) | (with_reducible refine o_le ?_) | (with_reducible refine o_gt ?_) | (with_reducible refine o_ge ?_) | (with_reducible refine o_p60 ?_) | (with_reducible refine o_p30 ?_) | ((with_reducible refine is_bo (op := .Pow) ?_); refine o_pow ⟨by decide, by decide, by decide⟩ ?_) | (with_reducible refine o_leS ?_) | (with_reducible refine o_ltS ?_) | (with_reducible refine o_inC ?_) | (with_reducible refine o_niC ?_) | (with_reducible refine o_eqB ?_) | (with_reducible refine o_neB ?_)) | (refine is_a ?_; first | refine a_cons ?_ | refine a_nil ?_) | (refine is_b ?_; first | refine b_cons ?_ | refine b_nil ?_) | (refine is_p ?_; first | refine p_none ?_ | refine p_some ?_) | (refine is_s ?_; first | refine s_set ?_ | refine s_if ?_ | refine s_ret ?_ | refine s_expr ?_ | refine s_retN ?_ | refine s_brk ?_ | refine s_cont ?_ | refine s_pass ?_ | refine s_augA rfl ?_ | refine s_asgT ?_ | (refine is_raise ?_; top_raise)) | (refine is_t ?_; first | refine t_sg ?_ | refine t_sgE ?_ | refine t_isN ?_ | refine t_notN ?_ | refine t_cmp ?_ | refine t_chain ?_ | refine t_not ?_ | ((fail_if_success refine t_and ?_); (fail_if_success refine t_or ?_); refine t_val ?_)) | (refine is_c ?_; first | refine c_and1 ?_ | refine c_or1 ?_ | refine c_and ?_ | refine c_or ?_) | (refine is_g ?_; first | refine g_name ?_ | refine g_tup ⟨_, _, rfl, (by k_units), (by rfl), ?_⟩ | refine g_lst ⟨_, _, rfl, (by kl_some), (by rfl), ?_⟩) | (refine is_h ?_; first | refine h_cons ?_ | refine h_nil ?_) | (refine is_k ?_; first | refine k_min ?_ | refine k_max ?_ | refine k_ordC ?_ | refine k_lenL (by kl_some) ?_ | refine k_lenT (by k_units) ?_ | refine k_lenS (by kpc_check) ?_) | ((first | (with_reducible refine xA ?_) | (with_reducible refine xB ?_) | (with_reducible refine xC ?_)); refine ⟨rfl, ?_⟩) | (refine xV1 ?_; refine ⟨_, rfl, ?_⟩) | (refine xL1 ?_; refine ⟨_, rfl, ?_⟩) | (refine xL2 ?_; refine ⟨_, _, rfl, ?_⟩) | (refine xL3 ?_; refine ⟨_, _, _, rfl, ?_⟩) | (refine xL4 ?_; refine ⟨_, _, _, _, rfl, ?_⟩) | (refine xL5 ?_; refine ⟨_, _, _, _, _, rfl, ?_⟩) | (refine xL6 ?_; refine ⟨_, _, _, _, _, _, rfl, ?_⟩) | (refine xL7 ?_; refine ⟨_, _, _, _, _, _, _, rfl, ?_⟩) | ((first | (with_reducible refine is_ixP ?_) | (with_reducible refine is_ixN ?_)); first | refine i_tup (by k_units) rfl ?_ | refine i_lst (by kl_some) rfl ?_ | refine i_tup (by k_units) (atI_nat (by decide) rfl) ?_ | refine i_lst (by kl_some) (atI_nat (by decide) rfl) ?_) | (refine is_i ?_; first | refine i_lst (by kl_some) (atI_nat (by decide) (by assumption)) ?_ | refine i_tup (by k_units) (atI_nat (by decide) (by assumption)) ?_ | refine i_lst (by kl_some) (by assumption) ?_ | refine i_tup (by k_units) (by assumption) ?_)))
local macro_rules | `(tactic| kt_ktab) => `(tactic| repeat first | ((with_reducible refine is_ite ?_); first | (with_reducible refine iteT ?_) | (with_reducible refine iteF ?_) | ((with_reducible refine is_iteD ?_); first | refine iteDT (by first | with_reducible rfl | decide +kernel) ?_ | refine iteDF (by first | exact ref_ne_non | exact int_ne_non | exact str_ne_non | exact bl_ne_non | decide +kernel) ?_ | refine iteDT (by omega) ?_ | refine iteDF (by omega) ?_) | ((with_reducible refine is_iteND ?_); first | refine iteNDF (by first | with_reducible rfl | decide +kernel) ?_ | refine iteNDT (by first | exact ref_ne_non | exact int_ne_non | exact str_ne_non | exact bl_ne_non | decide +kernel) ?_ | refine iteNDF (by omega) ?_ | refine iteNDT (by omega) ?_) | ((fail_if_success (with_reducible refine is_iteD ?_)); (fail_if_success (with_reducible refine is_iteND ?_)); first | refine iteBT rfl ?_ | refine iteBF rfl ?_)) | ((fail_if_success (with_reducible refine is_ite ?_)); first | (refine is_e ?_; first | refine e_var rfl ?_ | refine e_int ?_ | refine e_str ?_ | refine e_bl ?_ | refine e_non ?_ | refine e_bin ?_ | refine e_slice ?_ | refine e_ix ?_ | refine e_isN ?_ | refine e_notN ?_ | refine e_cmp ?_ | refine e_callB ?_ | refine e_listRev ?_ | refine e_callTy ?_ | refine e_globR ?_ | refine e_globI ?_ | refine e_globS ?_ | refine e_ty ?_ | refine e_neg ?_ | refine e_not ?_ | refine e_one ?_ | refine e_ifE ?_ | refine e_tupN ?_ | refine e_lstN ?_ | refine e_dct0 ?_ | (refine is_call ?_; top_name) | (refine is_meth ?_; kpc_turns) | refine e_append ?_ | refine e_and ?_ | refine e_or ?_ | (refine is_attr ?_; refine e_fldV rfl (by ki_room) rfl ?_)) | (refine is_o ?_; first | (with_reducible refine o_add ?_) | (with_reducible refine o_sub ?_) | ((with_reducible refine is_bo (op := .Mod) ?_); refine o_mod (by decide) ?_) | ((with_reducible refine is_bo (op := .FloorDiv) ?_); refine o_div ⟨by decide, by decide⟩ ?_) | (with_reducible refine o_eqI ?_) | (with_reducible refine o_neI ?_) | (with_reducible refine o_eqS ?_) | (with_reducible refine o_neS ?_) | (with_reducible refine o_lt ?_) | (with_reducible refine o_le ?_) | (with_reducible refine o_gt ?_) | (with_reducible refine o_ge ?_) | (with_reducible refine o_p60 ?_) | (with_reducible refine o_p30 ?_) | ((with_reducible refine is_bo (op := .Pow) ?_); refine o_pow ⟨by decide, by decide, by decide⟩ ?_) | (with_reducible refine o_leS ?_) | (with_reducible refine o_ltS ?_) | (with_reducible refine o_inC ?_) | (with_reducible refine o_niC ?_) | (with_reducible refine o_eqB ?_) | (with_reducible refine o_neB ?_)) | (refine is_a ?_; first | refine a_cons ?_ | refine a_nil ?_) | (refine is_b ?_; first | refine b_cons ?_ | refine b_nil ?_) | (refine is_p ?_; first | refine p_none ?_ | refine p_some ?_) | (refine is_s ?_; first | refine s_set ?_ | refine s_if ?_ | refine s_ret ?_ | refine s_expr ?_ | refine s_retN ?_ | refine s_brk ?_ | refine s_cont ?_ | refine s_pass ?_ | refine s_augA rfl ?_ | refine s_asgT ?_ | (refine is_raise ?_; top_raise)) | (refine is_t ?_; first | refine t_sg ?_ | refine t_sgE ?_ | refine t_isN ?_ | refine t_notN ?_ | refine t_cmp ?_ | refine t_chain ?_ | refine t_not ?_ | refine t_and ?_ | refine t_or ?_ | refine t_val ?_) | (refine is_c ?_; first | refine c_and1 ?_ | refine c_or1 ?_ | refine c_and ?_ | refine c_or ?_) | (refine is_g ?_; first | refine g_name ?_ | refine g_tup ⟨_, _, rfl, (by k_units), (by rfl), ?_⟩ | refine g_lst ⟨_, _, rfl, (by kl_some), (by rfl), ?_⟩) | (refine is_h ?_; first | refine h_cons ?_ | refine h_nil ?_) | (refine is_k ?_; first | refine k_min ?_ | refine k_max ?_ | refine k_ordC ?_ | refine k_lenL (by kl_some) ?_ | refine k_lenT (by k_units) ?_ | refine k_lenS (by kpc_check) ?_) | ((first | (with_reducible refine xA ?_) | (with_reducible refine xB ?_) | (with_reducible refine xC ?_)); refine ⟨rfl, ?_⟩) | (refine xV1 ?_; refine ⟨_, rfl, ?_⟩) | (refine xL1 ?_; refine ⟨_, rfl, ?_⟩) | (refine xL2 ?_; refine ⟨_, _, rfl, ?_⟩) | (refine xL3 ?_; refine ⟨_, _, _, rfl, ?_⟩) | (refine xL4 ?_; refine ⟨_, _, _, _, rfl, ?_⟩) | (refine xL5 ?_; refine ⟨_, _, _, _, _, rfl, ?_⟩) | (refine xL6 ?_; refine ⟨_, _, _, _, _, _, rfl, ?_⟩) | (refine xL7 ?_; refine ⟨_, _, _, _, _, _, _, rfl, ?_⟩) | ((first | (with_reducible refine is_ixP ?_) | (with_reducible refine is_ixN ?_)); first | refine i_tup (by k_units) rfl ?_ | refine i_lst (by kl_some) rfl ?_ | refine i_tup (by k_units) (atI_nat (by decide) rfl) ?_ | refine i_lst (by kl_some) (atI_nat (by decide) rfl) ?_) | (refine is_i ?_; first | refine i_lst (by kl_some) (atI_nat (by decide) (by assumption)) ?_ | refine i_tup (by k_units) (atI_nat (by decide) (by assumption)) ?_ | refine i_lst (by kl_some) (by assumption) ?_ | refine i_tup (by k_units) (by assumption) ?_) | intro (_ : Addr) _ _ _ _ _))
local macro_rules | `(tactic| tm_run) => `(tactic| repeat first | ((with_reducible refine is_ite ?_); first | (with_reducible refine iteT ?_) | (with_reducible refine iteF ?_) | ((with_reducible refine is_iteD ?_); first | refine iteDT (by first | with_reducible rfl | decide +kernel) ?_ | refine iteDF (by first | exact ref_ne_non | exact int_ne_non | exact str_ne_non | exact bl_ne_non | decide +kernel) ?_) | ((with_reducible refine is_iteND ?_); first | refine iteNDF (by first | with_reducible rfl | decide +kernel) ?_ | refine iteNDT (by first | exact ref_ne_non | exact int_ne_non | exact str_ne_non | exact bl_ne_non | decide +kernel) ?_) | ((fail_if_success (with_reducible refine is_iteD ?_)); (fail_if_success (with_reducible refine is_iteND ?_)); first | refine iteT ?_ | refine iteF ?_)) | ((fail_if_success (with_reducible refine is_ite ?_)); first | (refine is_e ?_; first | refine e_var rfl ?_ | refine e_int ?_ | refine e_str ?_ | refine e_bl ?_ | refine e_non ?_ | refine e_bin ?_ | refine e_slice ?_ | refine e_ix ?_ | refine e_isN ?_ | refine e_notN ?_ | refine e_cmp ?_ | refine e_callB ?_ | refine e_listRev ?_ | refine e_callTy ?_ | refine e_globR ?_ | refine e_globI ?_ | refine e_globS ?_ | refine e_ty ?_ | refine e_neg ?_ | refine e_not ?_ | refine e_one ?_ | refine e_ifE ?_ | refine e_tupN ?_ | refine e_lstN ?_ | refine e_dct0 ?_ | (refine is_call ?_; top_name) | (refine is_meth ?_; kpc_turns) | refine e_append ?_ | refine e_and ?_ | refine e_or ?_ | (refine is_attr ?_; refine e_fldV rfl (by ki_room) rfl ?_)) | (refine is_o ?_; first | (with_reducible refine o_add ?_) | (with_reducible refine o_sub ?_) | ((with_reducible refine is_bo (op := .Mod) ?_); refine o_mod (by decide) ?_) | ((with_reducible refine is_bo (op := .FloorDiv) ?_); refine o_div ⟨by decide, by decide⟩ ?_) | (with_reducible refine o_eqI ?_) | (with_reducible refine o_neI ?_) | (with_reducible refine o_eqS ?_) | (with_reducible refine o_neS ?_) | (with_reducible refine o_lt ?_) | (with_reducible refine o_le ?_) | (with_reducible refine o_gt ?_) | (with_reducible refine o_ge ?_) | (with_reducible refine o_p60 ?_) | (with_reducible refine o_p30 ?_) | ((with_reducible refine is_bo (op := .Pow) ?_); refine o_pow ⟨by decide, by decide, by decide⟩ ?_) | (with_reducible refine o_leS ?_) | (with_reducible refine o_ltS ?_) | (with_reducible refine o_inC ?_) | (with_reducible refine o_niC ?_) | (with_reducible refine o_eqB ?_) | (with_reducible refine o_neB ?_)) | (refine is_a ?_; first | refine a_cons ?_ | refine a_nil ?_) | (refine is_b ?_; first | refine b_cons ?_ | refine b_nil ?_) | (refine is_p ?_; first | refine p_none ?_ | refine p_some ?_) | (refine is_s ?_; first | refine s_set ?_ | refine s_if ?_ | refine s_ret ?_ | refine s_expr ?_ | refine s_retN ?_ | refine s_brk ?_ | refine s_cont ?_ | refine s_pass ?_ | refine s_augA rfl ?_ | refine s_asgT ?_ | (refine is_raise ?_; top_raise)) | (refine is_t ?_; first | refine t_isN ?_ | refine t_notN ?_ | refine t_cmp ?_ | refine t_chain ?_ | refine t_not ?_ | refine t_and ?_ | refine t_or ?_ | refine t_val ?_) | (refine is_c ?_; first | refine c_and1 ?_ | refine c_or1 ?_ | refine c_and ?_ | refine c_or ?_) | (refine is_g ?_; first | refine g_name ?_ | refine g_tup ⟨_, _, rfl, (by k_units), (by rfl), ?_⟩ | refine g_lst ⟨_, _, rfl, (by kl_some), (by rfl), ?_⟩) | (refine is_h ?_; first | refine h_cons ?_ | refine h_nil ?_) | (refine is_k ?_; first | refine k_min ?_ | refine k_max ?_ | refine k_ordC ?_ | refine k_lenL (by kl_some) ?_ | refine k_lenT (by k_units) ?_ | refine k_lenS (by kpc_check) ?_) | (refine is_and ?_; refine ⟨rfl, ?_⟩) | (refine is_ex ?_; first | refine ⟨_, rfl, ?_⟩ | refine ⟨_, _, rfl, ?_⟩ | refine ⟨_, _, _, rfl, ?_⟩ | refine ⟨_, _, rfl, rfl, ?_⟩ | refine ⟨_, _, _, rfl, rfl, rfl, ?_⟩ | refine ⟨_, _, _, _, rfl, ?_⟩ | refine ⟨_, _, _, _, _, rfl, ?_⟩ | refine ⟨_, _, _, _, _, _, rfl, ?_⟩) | ((first | (with_reducible refine is_ixP ?_) | (with_reducible refine is_ixN ?_)); first | refine i_tup (by k_units) rfl ?_ | refine i_lst (by kl_some) rfl ?_ | refine i_tup (by k_units) (atI_nat (by decide) rfl) ?_ | refine i_lst (by kl_some) (atI_nat (by decide) rfl) ?_)))
def top (i : Nat) : Stmt := PySem.Challenge.pw_forestread_k76_mend_refused.main.body.getD i (.Pass ⟨0, 0, 0, 0⟩)
abbrev s_is_whole : Stmt := top 15
theorem sc_is_whole : FnScope ["thing"] ["thing"] (defScope s_is_whole) := ⟨rfl, rfl, rfl, by decide +kernel, rfl, by decide +kernel, by decide +kernel⟩
instance : NdN ["thing"] := ⟨sc_is_whole.nd⟩
abbrev X_is_whole (P : Program) (w : World) (K : PySem.W.Frag) (mg : Str → Option Value) (base : Heap) (f : Addr) (cdv : Value) (A : Around) (outer : List Env) (s : Shared) (H : Hp) (E : XK) : Cx := cxr P w K mg base ["thing"] "is_whole" s_is_whole f cdv A outer s H E
abbrev s_may_stand : Stmt := top 16
theorem sc_may_stand : FnScope ["sign"] ["sign"] (defScope s_may_stand) := ⟨rfl, rfl, rfl, by decide +kernel, rfl, by decide +kernel, by decide +kernel⟩
instance : NdN ["sign"] := ⟨sc_may_stand.nd⟩
abbrev X_may_stand (P : Program) (w : World) (K : PySem.W.Frag) (mg : Str → Option Value) (base : Heap) (f : Addr) (cdv : Value) (A : Around) (outer : List Env) (s : Shared) (H : Hp) (E : XK) : Cx := cxr P w K mg base ["sign"] "may_stand" s_may_stand f cdv A outer s H E
abbrev s_is_sign : Stmt := top 17
theorem sc_is_sign : FnScope ["thing"] ["thing"] (defScope s_is_sign) := ⟨rfl, rfl, rfl, by decide +kernel, rfl, by decide +kernel, by decide +kernel⟩
instance : NdN ["thing"] := ⟨sc_is_sign.nd⟩
abbrev X_is_sign (P : Program) (w : World) (K : PySem.W.Frag) (mg : Str → Option Value) (base : Heap) (f : Addr) (cdv : Value) (A : Around) (outer : List Env) (s : Shared) (H : Hp) (E : XK) : Cx := cxr P w K mg base ["thing"] "is_sign" s_is_sign f cdv A outer s H E
abbrev s_is_name : Stmt := top 18
theorem sc_is_name : FnScope ["thing", "sign"] ["thing"] (defScope s_is_name) := ⟨rfl, rfl, rfl, by decide +kernel, rfl, by decide +kernel, by decide +kernel⟩
instance : NdN ["thing", "sign"] := ⟨sc_is_name.nd⟩
abbrev X_is_name (P : Program) (w : World) (K : PySem.W.Frag) (mg : Str → Option Value) (base : Heap) (f : Addr) (cdv : Value) (A : Around) (outer : List Env) (s : Shared) (H : Hp) (E : XK) : Cx := cxr P w K mg base ["thing", "sign"] "is_name" s_is_name f cdv A outer s H E
abbrev s_checked_text : Stmt := top 19
theorem sc_checked_text : FnScope ["thing", "sign"] ["thing"] (defScope s_checked_text) := ⟨rfl, rfl, rfl, by decide +kernel, rfl, by decide +kernel, by decide +kernel⟩
instance : NdN ["thing", "sign"] := ⟨sc_checked_text.nd⟩
abbrev X_checked_text (P : Program) (w : World) (K : PySem.W.Frag) (mg : Str → Option Value) (base : Heap) (f : Addr) (cdv : Value) (A : Around) (outer : List Env) (s : Shared) (H : Hp) (E : XK) : Cx := cxr P w K mg base ["thing", "sign"] "checked_text" s_checked_text f cdv A outer s H E
abbrev s_are_parts : Stmt := top 24
theorem sc_are_parts : FnScope ["thing", "part"] ["thing"] (defScope s_are_parts) := ⟨rfl, rfl, rfl, by decide +kernel, rfl, by decide +kernel, by decide +kernel⟩
instance : NdN ["thing", "part"] := ⟨sc_are_parts.nd⟩
abbrev X_are_parts (P : Program) (w : World) (K : PySem.W.Frag) (mg : Str → Option Value) (base : Heap) (f : Addr) (cdv : Value) (A : Around) (outer : List Env) (s : Shared) (H : Hp) (E : XK) : Cx := cxr P w K mg base ["thing", "part"] "are_parts" s_are_parts f cdv A outer s H E
abbrev s_is_rule : Stmt := top 25
theorem sc_is_rule : FnScope ["thing"] ["thing"] (defScope s_is_rule) := ⟨rfl, rfl, rfl, by decide +kernel, rfl, by decide +kernel, by decide +kernel⟩
instance : NdN ["thing"] := ⟨sc_is_rule.nd⟩
abbrev X_is_rule (P : Program) (w : World) (K : PySem.W.Frag) (mg : Str → Option Value) (base : Heap) (f : Addr) (cdv : Value) (A : Around) (outer : List Env) (s : Shared) (H : Hp) (E : XK) : Cx := cxr P w K mg base ["thing"] "is_rule" s_is_rule f cdv A outer s H E
abbrev s_checked : Stmt := top 26
theorem sc_checked : FnScope ["thing", "rules", "rule"] ["thing"] (defScope s_checked) := ⟨rfl, rfl, rfl, by decide +kernel, rfl, by decide +kernel, by decide +kernel⟩
instance : NdN ["thing", "rules", "rule"] := ⟨sc_checked.nd⟩
abbrev X_checked (P : Program) (w : World) (K : PySem.W.Frag) (mg : Str → Option Value) (base : Heap) (f : Addr) (cdv : Value) (A : Around) (outer : List Env) (s : Shared) (H : Hp) (E : XK) : Cx := cxr P w K mg base ["thing", "rules", "rule"] "checked" s_checked f cdv A outer s H E
abbrev s_start_of : Stmt := top 27
theorem sc_start_of : FnScope ["grammar", "rules"] ["grammar"] (defScope s_start_of) := ⟨rfl, rfl, rfl, by decide +kernel, rfl, by decide +kernel, by decide +kernel⟩
instance : NdN ["grammar", "rules"] := ⟨sc_start_of.nd⟩
abbrev X_start_of (P : Program) (w : World) (K : PySem.W.Frag) (mg : Str → Option Value) (base : Heap) (f : Addr) (cdv : Value) (A : Around) (outer : List Env) (s : Shared) (H : Hp) (E : XK) : Cx := cxr P w K mg base ["grammar", "rules"] "start_of" s_start_of f cdv A outer s H E
abbrev s_checked_costs : Stmt := top 30
theorem sc_checked_costs : FnScope ["thing", "cost"] ["thing"] (defScope s_checked_costs) := ⟨rfl, rfl, rfl, by decide +kernel, rfl, by decide +kernel, by decide +kernel⟩
instance : NdN ["thing", "cost"] := ⟨sc_checked_costs.nd⟩
abbrev X_checked_costs (P : Program) (w : World) (K : PySem.W.Frag) (mg : Str → Option Value) (base : Heap) (f : Addr) (cdv : Value) (A : Around) (outer : List Env) (s : Shared) (H : Hp) (E : XK) : Cx := cxr P w K mg base ["thing", "cost"] "checked_costs" s_checked_costs f cdv A outer s H E
abbrev s_sign_toll : Stmt := top 32
theorem sc_sign_toll : FnScope ["sign", "there", "costs", "put", "cut", "swap", "many"] ["sign", "there", "costs"] (defScope s_sign_toll) := ⟨rfl, rfl, rfl, by decide +kernel, rfl, by decide +kernel, by decide +kernel⟩
instance : NdN ["sign", "there", "costs", "put", "cut", "swap", "many"] := ⟨sc_sign_toll.nd⟩
abbrev X_sign_toll (P : Program) (w : World) (K : PySem.W.Frag) (mg : Str → Option Value) (base : Heap) (f : Addr) (cdv : Value) (A : Around) (outer : List Env) (s : Shared) (H : Hp) (E : XK) : Cx := cxr P w K mg base ["sign", "there", "costs", "put", "cut", "swap", "many"] "sign_toll" s_sign_toll f cdv A outer s H E
abbrev s_lay_leaves : Stmt := top 33
theorem sc_lay_leaves : FnScope ["known", "rules", "text", "costs", "i", "j", "at", "part"] ["known", "rules", "text", "costs", "i", "j"] (defScope s_lay_leaves) := ⟨rfl, rfl, rfl, by decide +kernel, rfl, by decide +kernel, by decide +kernel⟩
instance : NdN ["known", "rules", "text", "costs", "i", "j", "at", "part"] := ⟨sc_lay_leaves.nd⟩
abbrev X_lay_leaves (P : Program) (w : World) (K : PySem.W.Frag) (mg : Str → Option Value) (base : Heap) (f : Addr) (cdv : Value) (A : Around) (outer : List Env) (s : Shared) (H : Hp) (E : XK) : Cx := cxr P w K mg base ["known", "rules", "text", "costs", "i", "j", "at", "part"] "lay_leaves" s_lay_leaves f cdv A outer s H E
abbrev s_least_sum : Stmt := top 34
theorem sc_least_sum : FnScope ["known", "part", "at", "d", "i", "j", "least", "k", "left", "right", "both"] ["known", "part", "at", "d", "i", "j"] (defScope s_least_sum) := ⟨rfl, rfl, rfl, by decide +kernel, rfl, by decide +kernel, by decide +kernel⟩
instance : NdN ["known", "part", "at", "d", "i", "j", "least", "k", "left", "right", "both"] := ⟨sc_least_sum.nd⟩
abbrev X_least_sum (P : Program) (w : World) (K : PySem.W.Frag) (mg : Str → Option Value) (base : Heap) (f : Addr) (cdv : Value) (A : Around) (outer : List Env) (s : Shared) (H : Hp) (E : XK) : Cx := cxr P w K mg base ["known", "part", "at", "d", "i", "j", "least", "k", "left", "right", "both"] "least_sum" s_least_sum f cdv A outer s H E
abbrev s_laid : Stmt := top 35
theorem sc_laid : FnScope ["known", "node", "toll"] ["known", "node", "toll"] (defScope s_laid) := ⟨rfl, rfl, rfl, by decide +kernel, rfl, by decide +kernel, by decide +kernel⟩
instance : NdN ["known", "node", "toll"] := ⟨sc_laid.nd⟩
abbrev X_laid (P : Program) (w : World) (K : PySem.W.Frag) (mg : Str → Option Value) (base : Heap) (f : Addr) (cdv : Value) (A : Around) (outer : List Env) (s : Shared) (H : Hp) (E : XK) : Cx := cxr P w K mg base ["known", "node", "toll"] "laid" s_laid f cdv A outer s H E
abbrev s_lay_span : Stmt := top 36
theorem sc_lay_span : FnScope ["known", "rules", "i", "j", "more", "at", "head", "parts", "worth", "d"] ["known", "rules", "i", "j"] (defScope s_lay_span) := ⟨rfl, rfl, rfl, by decide +kernel, rfl, by decide +kernel, by decide +kernel⟩
instance : NdN ["known", "rules", "i", "j", "more", "at", "head", "parts", "worth", "d"] := ⟨sc_lay_span.nd⟩
abbrev X_lay_span (P : Program) (w : World) (K : PySem.W.Frag) (mg : Str → Option Value) (base : Heap) (f : Addr) (cdv : Value) (A : Around) (outer : List Env) (s : Shared) (H : Hp) (E : XK) : Cx := cxr P w K mg base ["known", "rules", "i", "j", "more", "at", "head", "parts", "worth", "d"] "lay_span" s_lay_span f cdv A outer s H E
abbrev s_tolls : Stmt := top 37
theorem sc_tolls : FnScope ["grammar", "text", "costs", "rules", "known", "size", "i"] ["grammar", "text", "costs"] (defScope s_tolls) := ⟨rfl, rfl, rfl, by decide +kernel, rfl, by decide +kernel, by decide +kernel⟩
instance : NdN ["grammar", "text", "costs", "rules", "known", "size", "i"] := ⟨sc_tolls.nd⟩
abbrev X_tolls (P : Program) (w : World) (K : PySem.W.Frag) (mg : Str → Option Value) (base : Heap) (f : Addr) (cdv : Value) (A : Around) (outer : List Env) (s : Shared) (H : Hp) (E : XK) : Cx := cxr P w K mg base ["grammar", "text", "costs", "rules", "known", "size", "i"] "tolls" s_tolls f cdv A outer s H E
abbrev s_cuts_of : Stmt := top 40
theorem sc_cuts_of : FnScope ["signs", "sign"] ["signs"] (defScope s_cuts_of) := ⟨rfl, rfl, rfl, by decide +kernel, rfl, by decide +kernel, by decide +kernel⟩
instance : NdN ["signs", "sign"] := ⟨sc_cuts_of.nd⟩
abbrev X_cuts_of (P : Program) (w : World) (K : PySem.W.Frag) (mg : Str → Option Value) (base : Heap) (f : Addr) (cdv : Value) (A : Around) (outer : List Env) (s : Shared) (H : Hp) (E : XK) : Cx := cxr P w K mg base ["signs", "sign"] "cuts_of" s_cuts_of f cdv A outer s H E
abbrev s_sign_deeds : Stmt := top 41
theorem sc_sign_deeds : FnScope ["sign", "signs", "costs", "put", "cut", "swap", "at"] ["sign", "signs", "costs"] (defScope s_sign_deeds) := ⟨rfl, rfl, rfl, by decide +kernel, rfl, by decide +kernel, by decide +kernel⟩
instance : NdN ["sign", "signs", "costs", "put", "cut", "swap", "at"] := ⟨sc_sign_deeds.nd⟩
abbrev X_sign_deeds (P : Program) (w : World) (K : PySem.W.Frag) (mg : Str → Option Value) (base : Heap) (f : Addr) (cdv : Value) (A : Around) (outer : List Env) (s : Shared) (H : Hp) (E : XK) : Cx := cxr P w K mg base ["sign", "signs", "costs", "put", "cut", "swap", "at"] "sign_deeds" s_sign_deeds f cdv A outer s H E
abbrev s_least_way : Stmt := top 42
theorem sc_least_way : FnScope ["known", "rules", "node", "at", "full", "d", "i", "j", "part", "k", "left", "right"] ["known", "rules", "node"] (defScope s_least_way) := ⟨rfl, rfl, rfl, by decide +kernel, rfl, by decide +kernel, by decide +kernel⟩
instance : NdN ["known", "rules", "node", "at", "full", "d", "i", "j", "part", "k", "left", "right"] := ⟨sc_least_way.nd⟩
abbrev X_least_way (P : Program) (w : World) (K : PySem.W.Frag) (mg : Str → Option Value) (base : Heap) (f : Addr) (cdv : Value) (A : Around) (outer : List Env) (s : Shared) (H : Hp) (E : XK) : Cx := cxr P w K mg base ["known", "rules", "node", "at", "full", "d", "i", "j", "part", "k", "left", "right"] "least_way" s_least_way f cdv A outer s H E
abbrev s_mended : Stmt := top 43
theorem sc_mended : FnScope ["grammar", "text", "costs", "rules", "known", "top", "deeds", "row", "waiting", "node"] ["grammar", "text", "costs"] (defScope s_mended) := ⟨rfl, rfl, rfl, by decide +kernel, rfl, by decide +kernel, by decide +kernel⟩
instance : NdN ["grammar", "text", "costs", "rules", "known", "top", "deeds", "row", "waiting", "node"] := ⟨sc_mended.nd⟩
abbrev X_mended (P : Program) (w : World) (K : PySem.W.Frag) (mg : Str → Option Value) (base : Heap) (f : Addr) (cdv : Value) (A : Around) (outer : List Env) (s : Shared) (H : Hp) (E : XK) : Cx := cxr P w K mg base ["grammar", "text", "costs", "rules", "known", "top", "deeds", "row", "waiting", "node"] "mended" s_mended f cdv A outer s H E
abbrev s_law_cell_at : Stmt := top 45
theorem sc_law_cell_at : FnScope ["_law_script", "_law_k"] ["_law_script", "_law_k"] (defScope s_law_cell_at) := ⟨rfl, rfl, rfl, by decide +kernel, rfl, by decide +kernel, by decide +kernel⟩
instance : NdN ["_law_script", "_law_k"] := ⟨sc_law_cell_at.nd⟩
abbrev X_law_cell_at (P : Program) (w : World) (K : PySem.W.Frag) (mg : Str → Option Value) (base : Heap) (f : Addr) (cdv : Value) (A : Around) (outer : List Env) (s : Shared) (H : Hp) (E : XK) : Cx := cxr P w K mg base ["_law_script", "_law_k"] "_law_cell_at" s_law_cell_at f cdv A outer s H E
abbrev s_law_mixed : Stmt := top 46
theorem sc_law_mixed : FnScope ["_law_script", "_law_k", "_law_cell"] ["_law_script", "_law_k"] (defScope s_law_mixed) := ⟨rfl, rfl, rfl, by decide +kernel, rfl, by decide +kernel, by decide +kernel⟩
instance : NdN ["_law_script", "_law_k", "_law_cell"] := ⟨sc_law_mixed.nd⟩
abbrev X_law_mixed (P : Program) (w : World) (K : PySem.W.Frag) (mg : Str → Option Value) (base : Heap) (f : Addr) (cdv : Value) (A : Around) (outer : List Env) (s : Shared) (H : Hp) (E : XK) : Cx := cxr P w K mg base ["_law_script", "_law_k", "_law_cell"] "_law_mixed" s_law_mixed f cdv A outer s H E
abbrev s_law_worth : Stmt := top 47
theorem sc_law_worth : FnScope ["_law_cell"] ["_law_cell"] (defScope s_law_worth) := ⟨rfl, rfl, rfl, by decide +kernel, rfl, by decide +kernel, by decide +kernel⟩
instance : NdN ["_law_cell"] := ⟨sc_law_worth.nd⟩
abbrev X_law_worth (P : Program) (w : World) (K : PySem.W.Frag) (mg : Str → Option Value) (base : Heap) (f : Addr) (cdv : Value) (A : Around) (outer : List Env) (s : Shared) (H : Hp) (E : XK) : Cx := cxr P w K mg base ["_law_cell"] "_law_worth" s_law_worth f cdv A outer s H E
abbrev s_law_mended : Stmt := top 48
theorem sc_law_mended : FnScope ["_law_grammar", "_law_signs", "_law_costs", "_law_word", "_law_found"] ["_law_grammar", "_law_signs", "_law_costs"] (defScope s_law_mended) := ⟨rfl, rfl, rfl, by decide +kernel, rfl, by decide +kernel, by decide +kernel⟩
instance : NdN ["_law_grammar", "_law_signs", "_law_costs", "_law_word", "_law_found"] := ⟨sc_law_mended.nd⟩
abbrev X_law_mended (P : Program) (w : World) (K : PySem.W.Frag) (mg : Str → Option Value) (base : Heap) (f : Addr) (cdv : Value) (A : Around) (outer : List Env) (s : Shared) (H : Hp) (E : XK) : Cx := cxr P w K mg base ["_law_grammar", "_law_signs", "_law_costs", "_law_word", "_law_found"] "_law_mended" s_law_mended f cdv A outer s H E
abbrev s_law_tolls : Stmt := top 49
theorem sc_law_tolls : FnScope ["_law_grammar", "_law_signs", "_law_costs", "_law_word"] ["_law_grammar", "_law_signs", "_law_costs"] (defScope s_law_tolls) := ⟨rfl, rfl, rfl, by decide +kernel, rfl, by decide +kernel, by decide +kernel⟩
instance : NdN ["_law_grammar", "_law_signs", "_law_costs", "_law_word"] := ⟨sc_law_tolls.nd⟩
abbrev X_law_tolls (P : Program) (w : World) (K : PySem.W.Frag) (mg : Str → Option Value) (base : Heap) (f : Addr) (cdv : Value) (A : Around) (outer : List Env) (s : Shared) (H : Hp) (E : XK) : Cx := cxr P w K mg base ["_law_grammar", "_law_signs", "_law_costs", "_law_word"] "_law_tolls" s_law_tolls f cdv A outer s H E
abbrev s_law_any : Stmt := top 50
theorem sc_law_any : FnScope ["_law_grammar", "_law_signs", "_law_costs", "_law_good", "e"] ["_law_grammar", "_law_signs", "_law_costs"] (defScope s_law_any) := ⟨rfl, rfl, rfl, by decide +kernel, rfl, by decide +kernel, by decide +kernel⟩
instance : NdN ["_law_grammar", "_law_signs", "_law_costs", "_law_good", "e"] := ⟨sc_law_any.nd⟩
abbrev X_law_any (P : Program) (w : World) (K : PySem.W.Frag) (mg : Str → Option Value) (base : Heap) (f : Addr) (cdv : Value) (A : Around) (outer : List Env) (s : Shared) (H : Hp) (E : XK) : Cx := cxr P w K mg base ["_law_grammar", "_law_signs", "_law_costs", "_law_good", "e"] "_law_any" s_law_any f cdv A outer s H E
abbrev s_law_great : Stmt := top 51
theorem sc_law_great : FnScope ["_law_way", "_law_letters", "_law_first", "_law_names", "_law_k", "_law_great_here", "_law_rules", "_law_several", "_law_rest"] ["_law_way"] (defScope s_law_great) := ⟨rfl, rfl, rfl, by decide +kernel, rfl, by decide +kernel, by decide +kernel⟩
instance : NdN ["_law_way", "_law_letters", "_law_first", "_law_names", "_law_k", "_law_great_here", "_law_rules", "_law_several", "_law_rest"] := ⟨sc_law_great.nd⟩
abbrev X_law_great (P : Program) (w : World) (K : PySem.W.Frag) (mg : Str → Option Value) (base : Heap) (f : Addr) (cdv : Value) (A : Around) (outer : List Env) (s : Shared) (H : Hp) (E : XK) : Cx := cxr P w K mg base ["_law_way", "_law_letters", "_law_first", "_law_names", "_law_k", "_law_great_here", "_law_rules", "_law_several", "_law_rest"] "_law_great" s_law_great f cdv A outer s H E
abbrev s_law_barren : Stmt := top 52
theorem sc_law_barren : FnScope ["_law_way", "_law_one", "_law_other"] ["_law_way"] (defScope s_law_barren) := ⟨rfl, rfl, rfl, by decide +kernel, rfl, by decide +kernel, by decide +kernel⟩
instance : NdN ["_law_way", "_law_one", "_law_other"] := ⟨sc_law_barren.nd⟩
abbrev X_law_barren (P : Program) (w : World) (K : PySem.W.Frag) (mg : Str → Option Value) (base : Heap) (f : Addr) (cdv : Value) (A : Around) (outer : List Env) (s : Shared) (H : Hp) (E : XK) : Cx := cxr P w K mg base ["_law_way", "_law_one", "_law_other"] "_law_barren" s_law_barren f cdv A outer s H E
abbrev s_law_odd_grammar : Stmt := top 53
theorem sc_law_odd_grammar : FnScope ["_law_rules", "_law_way", "_law_odd", "_law_at"] ["_law_rules", "_law_way"] (defScope s_law_odd_grammar) := ⟨rfl, rfl, rfl, by decide +kernel, rfl, by decide +kernel, by decide +kernel⟩
instance : NdN ["_law_rules", "_law_way", "_law_odd", "_law_at"] := ⟨sc_law_odd_grammar.nd⟩
abbrev X_law_odd_grammar (P : Program) (w : World) (K : PySem.W.Frag) (mg : Str → Option Value) (base : Heap) (f : Addr) (cdv : Value) (A : Around) (outer : List Env) (s : Shared) (H : Hp) (E : XK) : Cx := cxr P w K mg base ["_law_rules", "_law_way", "_law_odd", "_law_at"] "_law_odd_grammar" s_law_odd_grammar f cdv A outer s H E
abbrev s_law_odd_text : Stmt := top 54
theorem sc_law_odd_text : FnScope ["_law_way"] ["_law_way"] (defScope s_law_odd_text) := ⟨rfl, rfl, rfl, by decide +kernel, rfl, by decide +kernel, by decide +kernel⟩
instance : NdN ["_law_way"] := ⟨sc_law_odd_text.nd⟩
abbrev X_law_odd_text (P : Program) (w : World) (K : PySem.W.Frag) (mg : Str → Option Value) (base : Heap) (f : Addr) (cdv : Value) (A : Around) (outer : List Env) (s : Shared) (H : Hp) (E : XK) : Cx := cxr P w K mg base ["_law_way"] "_law_odd_text" s_law_odd_text f cdv A outer s H E
abbrev s_law_odd_costs : Stmt := top 55
theorem sc_law_odd_costs : FnScope ["_law_way", "_law_some"] ["_law_way"] (defScope s_law_odd_costs) := ⟨rfl, rfl, rfl, by decide +kernel, rfl, by decide +kernel, by decide +kernel⟩
instance : NdN ["_law_way", "_law_some"] := ⟨sc_law_odd_costs.nd⟩
abbrev X_law_odd_costs (P : Program) (w : World) (K : PySem.W.Frag) (mg : Str → Option Value) (base : Heap) (f : Addr) (cdv : Value) (A : Around) (outer : List Env) (s : Shared) (H : Hp) (E : XK) : Cx := cxr P w K mg base ["_law_way", "_law_some"] "_law_odd_costs" s_law_odd_costs f cdv A outer s H E
abbrev s_law_pair : Stmt := top 56
theorem sc_law_pair : FnScope ["_law_signs", "_law_costs", "_law_size", "_law_two", "_law_cuts", "_law_pair_here"] ["_law_signs", "_law_costs", "_law_size", "_law_two"] (defScope s_law_pair) := ⟨rfl, rfl, rfl, by decide +kernel, rfl, by decide +kernel, by decide +kernel⟩
instance : NdN ["_law_signs", "_law_costs", "_law_size", "_law_two", "_law_cuts", "_law_pair_here"] := ⟨sc_law_pair.nd⟩
abbrev X_law_pair (P : Program) (w : World) (K : PySem.W.Frag) (mg : Str → Option Value) (base : Heap) (f : Addr) (cdv : Value) (A : Around) (outer : List Env) (s : Shared) (H : Hp) (E : XK) : Cx := cxr P w K mg base ["_law_signs", "_law_costs", "_law_size", "_law_two", "_law_cuts", "_law_pair_here"] "_law_pair" s_law_pair f cdv A outer s H E
abbrev s_law_due : Stmt := top 57
theorem sc_law_due : FnScope ["_law_signs", "_law_costs", "_law_size", "_law_two", "_law_pair_here"] ["_law_signs", "_law_costs", "_law_size", "_law_two"] (defScope s_law_due) := ⟨rfl, rfl, rfl, by decide +kernel, rfl, by decide +kernel, by decide +kernel⟩
instance : NdN ["_law_signs", "_law_costs", "_law_size", "_law_two", "_law_pair_here"] := ⟨sc_law_due.nd⟩
abbrev X_law_due (P : Program) (w : World) (K : PySem.W.Frag) (mg : Str → Option Value) (base : Heap) (f : Addr) (cdv : Value) (A : Around) (outer : List Env) (s : Shared) (H : Hp) (E : XK) : Cx := cxr P w K mg base ["_law_signs", "_law_costs", "_law_size", "_law_two", "_law_pair_here"] "_law_due" s_law_due f cdv A outer s H E
abbrev s_law : Stmt := top 58
theorem sc_law : FnScope ["_law_script", "_law_way", "_law_odd", "_law_size", "_law_rules", "_law_signs", "_law_costs", "_law_k", "_law_due_here", "_law_first", "_law_word", "_law_found"] ["_law_script"] (defScope s_law) := ⟨rfl, rfl, rfl, by decide +kernel, rfl, by decide +kernel, by decide +kernel⟩
instance : NdN ["_law_script", "_law_way", "_law_odd", "_law_size", "_law_rules", "_law_signs", "_law_costs", "_law_k", "_law_due_here", "_law_first", "_law_word", "_law_found"] := ⟨sc_law.nd⟩
abbrev X_law (P : Program) (w : World) (K : PySem.W.Frag) (mg : Str → Option Value) (base : Heap) (f : Addr) (cdv : Value) (A : Around) (outer : List Env) (s : Shared) (H : Hp) (E : XK) : Cx := cxr P w K mg base ["_law_script", "_law_way", "_law_odd", "_law_size", "_law_rules", "_law_signs", "_law_costs", "_law_k", "_law_due_here", "_law_first", "_law_word", "_law_found"] "law" s_law f cdv A outer s H E
structure Cs where
  z : Addr := 0
  ForestError : Addr
  NoGrammar : Addr
  NoText : Addr
  NoRow : Addr
  NoRule : Addr
  NoNumber : Addr
  NoCosts : Addr
  NoChange : Addr
  NoWords : Addr
  Endless : Addr
  TooGreat : Addr
  Barren : Addr
structure Txt (K : PySem.W.Frag) (mg : Str → Option Value) (cs : Cs) : Prop where
  b_ValueError : Gn mg "ValueError" none
  b_bool : Gn mg "bool" none
  b_int : Gn mg "int" none
  b_isinstance : Gn mg "isinstance" none
  b_len : Gn mg "len" none
  b_list : Gn mg "list" none
  b_min : Gn mg "min" none
  b_ord : Gn mg "ord" none
  b_range : Gn mg "range" none
  b_reversed : Gn mg "reversed" none
  b_str : Gn mg "str" none
  b_tuple : Gn mg "tuple" none
  k_MOST_SIGNS : ∃ t, mg "MOST_SIGNS" = some (.int (60) t)
  k_MOST_RULES : ∃ t, mg "MOST_RULES" = some (.int (60) t)
  k_MOST_PARTS : ∃ t, mg "MOST_PARTS" = some (.int (6) t)
  k_MOST_WORTH : ∃ t, mg "MOST_WORTH" = some (.int (1000000000000000000000000000000000000000000000000000000000000) t)
  k_DEAREST : ∃ t, mg "DEAREST" = some (.int (1000000000000000000000000000000000000000000000000000000000000) t)
  k_LONGEST : ∃ t, mg "LONGEST" = some (.int (1000) t)
  x_ForestError : ExcF K mg "ForestError" cs.ForestError
  x_NoGrammar : ExcF K mg "NoGrammar" cs.NoGrammar
  x_NoText : ExcF K mg "NoText" cs.NoText
  x_NoRow : ExcF K mg "NoRow" cs.NoRow
  x_NoRule : ExcF K mg "NoRule" cs.NoRule
  x_NoNumber : ExcF K mg "NoNumber" cs.NoNumber
  x_NoCosts : ExcF K mg "NoCosts" cs.NoCosts
  x_NoChange : ExcF K mg "NoChange" cs.NoChange
  x_NoWords : ExcF K mg "NoWords" cs.NoWords
  x_Endless : ExcF K mg "Endless" cs.Endless
  x_TooGreat : ExcF K mg "TooGreat" cs.TooGreat
  x_Barren : ExcF K mg "Barren" cs.Barren
  s_NoGrammar_ForestError : PySem.W.subIn K (.ref cs.NoGrammar) (.ref cs.ForestError) = some true
  s_NoGrammar_NoGrammar : PySem.W.subIn K (.ref cs.NoGrammar) (.ref cs.NoGrammar) = some true
  s_NoGrammar_NoText : PySem.W.subIn K (.ref cs.NoGrammar) (.ref cs.NoText) = some false
  s_NoGrammar_NoRow : PySem.W.subIn K (.ref cs.NoGrammar) (.ref cs.NoRow) = some false
  s_NoGrammar_NoRule : PySem.W.subIn K (.ref cs.NoGrammar) (.ref cs.NoRule) = some false
  s_NoGrammar_NoNumber : PySem.W.subIn K (.ref cs.NoGrammar) (.ref cs.NoNumber) = some false
  s_NoGrammar_NoCosts : PySem.W.subIn K (.ref cs.NoGrammar) (.ref cs.NoCosts) = some false
  s_NoGrammar_NoChange : PySem.W.subIn K (.ref cs.NoGrammar) (.ref cs.NoChange) = some false
  s_NoGrammar_NoWords : PySem.W.subIn K (.ref cs.NoGrammar) (.ref cs.NoWords) = some false
  s_NoGrammar_Endless : PySem.W.subIn K (.ref cs.NoGrammar) (.ref cs.Endless) = some false
  s_NoGrammar_TooGreat : PySem.W.subIn K (.ref cs.NoGrammar) (.ref cs.TooGreat) = some false
  s_NoGrammar_Barren : PySem.W.subIn K (.ref cs.NoGrammar) (.ref cs.Barren) = some false
  s_NoText_ForestError : PySem.W.subIn K (.ref cs.NoText) (.ref cs.ForestError) = some true
  s_NoText_NoGrammar : PySem.W.subIn K (.ref cs.NoText) (.ref cs.NoGrammar) = some false
  s_NoText_NoText : PySem.W.subIn K (.ref cs.NoText) (.ref cs.NoText) = some true
  s_NoText_NoRow : PySem.W.subIn K (.ref cs.NoText) (.ref cs.NoRow) = some false
  s_NoText_NoRule : PySem.W.subIn K (.ref cs.NoText) (.ref cs.NoRule) = some false
  s_NoText_NoNumber : PySem.W.subIn K (.ref cs.NoText) (.ref cs.NoNumber) = some false
  s_NoText_NoCosts : PySem.W.subIn K (.ref cs.NoText) (.ref cs.NoCosts) = some false
  s_NoText_NoChange : PySem.W.subIn K (.ref cs.NoText) (.ref cs.NoChange) = some false
  s_NoText_NoWords : PySem.W.subIn K (.ref cs.NoText) (.ref cs.NoWords) = some false
  s_NoText_Endless : PySem.W.subIn K (.ref cs.NoText) (.ref cs.Endless) = some false
  s_NoText_TooGreat : PySem.W.subIn K (.ref cs.NoText) (.ref cs.TooGreat) = some false
  s_NoText_Barren : PySem.W.subIn K (.ref cs.NoText) (.ref cs.Barren) = some false
  s_NoCosts_ForestError : PySem.W.subIn K (.ref cs.NoCosts) (.ref cs.ForestError) = some true
  s_NoCosts_NoGrammar : PySem.W.subIn K (.ref cs.NoCosts) (.ref cs.NoGrammar) = some false
  s_NoCosts_NoText : PySem.W.subIn K (.ref cs.NoCosts) (.ref cs.NoText) = some false
  s_NoCosts_NoRow : PySem.W.subIn K (.ref cs.NoCosts) (.ref cs.NoRow) = some false
  s_NoCosts_NoRule : PySem.W.subIn K (.ref cs.NoCosts) (.ref cs.NoRule) = some false
  s_NoCosts_NoNumber : PySem.W.subIn K (.ref cs.NoCosts) (.ref cs.NoNumber) = some false
  s_NoCosts_NoCosts : PySem.W.subIn K (.ref cs.NoCosts) (.ref cs.NoCosts) = some true
  s_NoCosts_NoChange : PySem.W.subIn K (.ref cs.NoCosts) (.ref cs.NoChange) = some false
  s_NoCosts_NoWords : PySem.W.subIn K (.ref cs.NoCosts) (.ref cs.NoWords) = some false
  s_NoCosts_Endless : PySem.W.subIn K (.ref cs.NoCosts) (.ref cs.Endless) = some false
  s_NoCosts_TooGreat : PySem.W.subIn K (.ref cs.NoCosts) (.ref cs.TooGreat) = some false
  s_NoCosts_Barren : PySem.W.subIn K (.ref cs.NoCosts) (.ref cs.Barren) = some false
  s_TooGreat_ForestError : PySem.W.subIn K (.ref cs.TooGreat) (.ref cs.ForestError) = some true
  s_TooGreat_NoGrammar : PySem.W.subIn K (.ref cs.TooGreat) (.ref cs.NoGrammar) = some false
  s_TooGreat_NoText : PySem.W.subIn K (.ref cs.TooGreat) (.ref cs.NoText) = some false
  s_TooGreat_NoRow : PySem.W.subIn K (.ref cs.TooGreat) (.ref cs.NoRow) = some false
  s_TooGreat_NoRule : PySem.W.subIn K (.ref cs.TooGreat) (.ref cs.NoRule) = some false
  s_TooGreat_NoNumber : PySem.W.subIn K (.ref cs.TooGreat) (.ref cs.NoNumber) = some false
  s_TooGreat_NoCosts : PySem.W.subIn K (.ref cs.TooGreat) (.ref cs.NoCosts) = some false
  s_TooGreat_NoChange : PySem.W.subIn K (.ref cs.TooGreat) (.ref cs.NoChange) = some false
  s_TooGreat_NoWords : PySem.W.subIn K (.ref cs.TooGreat) (.ref cs.NoWords) = some false
  s_TooGreat_Endless : PySem.W.subIn K (.ref cs.TooGreat) (.ref cs.Endless) = some false
  s_TooGreat_TooGreat : PySem.W.subIn K (.ref cs.TooGreat) (.ref cs.TooGreat) = some true
  s_TooGreat_Barren : PySem.W.subIn K (.ref cs.TooGreat) (.ref cs.Barren) = some false
  s_Barren_ForestError : PySem.W.subIn K (.ref cs.Barren) (.ref cs.ForestError) = some true
  s_Barren_NoGrammar : PySem.W.subIn K (.ref cs.Barren) (.ref cs.NoGrammar) = some false
  s_Barren_NoText : PySem.W.subIn K (.ref cs.Barren) (.ref cs.NoText) = some false
  s_Barren_NoRow : PySem.W.subIn K (.ref cs.Barren) (.ref cs.NoRow) = some false
  s_Barren_NoRule : PySem.W.subIn K (.ref cs.Barren) (.ref cs.NoRule) = some false
  s_Barren_NoNumber : PySem.W.subIn K (.ref cs.Barren) (.ref cs.NoNumber) = some false
  s_Barren_NoCosts : PySem.W.subIn K (.ref cs.Barren) (.ref cs.NoCosts) = some false
  s_Barren_NoChange : PySem.W.subIn K (.ref cs.Barren) (.ref cs.NoChange) = some false
  s_Barren_NoWords : PySem.W.subIn K (.ref cs.Barren) (.ref cs.NoWords) = some false
  s_Barren_Endless : PySem.W.subIn K (.ref cs.Barren) (.ref cs.Endless) = some false
  s_Barren_TooGreat : PySem.W.subIn K (.ref cs.Barren) (.ref cs.TooGreat) = some false
  s_Barren_Barren : PySem.W.subIn K (.ref cs.Barren) (.ref cs.Barren) = some true
  f_is_whole : At K mg "is_whole" "is_whole" s_is_whole ["thing"]
  f_may_stand : At K mg "may_stand" "may_stand" s_may_stand ["sign"]
  f_is_sign : At K mg "is_sign" "is_sign" s_is_sign ["thing"]
  f_is_name : At K mg "is_name" "is_name" s_is_name ["thing"]
  f_checked_text : At K mg "checked_text" "checked_text" s_checked_text ["thing"]
  f_are_parts : At K mg "are_parts" "are_parts" s_are_parts ["thing"]
  f_is_rule : At K mg "is_rule" "is_rule" s_is_rule ["thing"]
  f_checked : At K mg "checked" "checked" s_checked ["thing"]
  f_start_of : At K mg "start_of" "start_of" s_start_of ["grammar"]
  f_checked_costs : At K mg "checked_costs" "checked_costs" s_checked_costs ["thing"]
  f_sign_toll : At K mg "sign_toll" "sign_toll" s_sign_toll ["sign", "there", "costs"]
  f_lay_leaves : At K mg "lay_leaves" "lay_leaves" s_lay_leaves ["known", "rules", "text", "costs", "i", "j"]
  f_least_sum : At K mg "least_sum" "least_sum" s_least_sum ["known", "part", "at", "d", "i", "j"]
  f_laid : At K mg "laid" "laid" s_laid ["known", "node", "toll"]
  f_lay_span : At K mg "lay_span" "lay_span" s_lay_span ["known", "rules", "i", "j"]
  f_tolls : At K mg "tolls" "tolls" s_tolls ["grammar", "text", "costs"]
  f_cuts_of : At K mg "cuts_of" "cuts_of" s_cuts_of ["signs"]
  f_sign_deeds : At K mg "sign_deeds" "sign_deeds" s_sign_deeds ["sign", "signs", "costs"]
  f_least_way : At K mg "least_way" "least_way" s_least_way ["known", "rules", "node"]
  f_mended : At K mg "mended" "mended" s_mended ["grammar", "text", "costs"]
  f_law_cell_at : At K mg "_law_cell_at" "_law_cell_at" s_law_cell_at ["_law_script", "_law_k"]
  f_law_mixed : At K mg "_law_mixed" "_law_mixed" s_law_mixed ["_law_script", "_law_k"]
  f_law_worth : At K mg "_law_worth" "_law_worth" s_law_worth ["_law_cell"]
  f_law_mended : At K mg "_law_mended" "_law_mended" s_law_mended ["_law_grammar", "_law_signs", "_law_costs"]
  f_law_tolls : At K mg "_law_tolls" "_law_tolls" s_law_tolls ["_law_grammar", "_law_signs", "_law_costs"]
  f_law_any : At K mg "_law_any" "_law_any" s_law_any ["_law_grammar", "_law_signs", "_law_costs"]
  f_law_great : At K mg "_law_great" "_law_great" s_law_great ["_law_way"]
  f_law_barren : At K mg "_law_barren" "_law_barren" s_law_barren ["_law_way"]
  f_law_odd_grammar : At K mg "_law_odd_grammar" "_law_odd_grammar" s_law_odd_grammar ["_law_rules", "_law_way"]
  f_law_odd_text : At K mg "_law_odd_text" "_law_odd_text" s_law_odd_text ["_law_way"]
  f_law_odd_costs : At K mg "_law_odd_costs" "_law_odd_costs" s_law_odd_costs ["_law_way"]
  f_law_pair : At K mg "_law_pair" "_law_pair" s_law_pair ["_law_signs", "_law_costs", "_law_size", "_law_two"]
  f_law_due : At K mg "_law_due" "_law_due" s_law_due ["_law_signs", "_law_costs", "_law_size", "_law_two"]
section
variable {P : Program} {w : World} {K : PySem.W.Frag} {mg : Str → Option Value} {base : Heap} {cs : Cs}
def okc (c : Nat) : Bool := decide (32 ≤ c) && (decide (c ≤ 126) && !decide (c = 37))
def isNameS (z : Str) : Bool := (decide (1 ≤ z.length) && decide (z.length ≤ 8)) && (tl z).all fun c => decide (65 ≤ c) && decide (c ≤ 90)
def isSignL : List Nat → Bool
  | [a, c] => decide (a = 39) && okc c
  | _ => false
def isSignS (z : Str) : Bool := isSignL (tl z)
def isNameD : PyData → Bool
  | .str z => isNameS z
  | _ => false
def isSignD : PyData → Bool
  | .str z => isSignS z
  | _ => false
def isWholeD (d : PyData) : Bool := isK d "int" && !isK d "bool"
theorem no_str {d : PyData} : (∃ z, d = .str z) ∨ (isK d "str" = false ∧ isNameD d = false ∧ isSignD d = false) := by
  cases d <;> first | exact .inl ⟨_, rfl⟩ | exact .inr ⟨rfl, rfl, rfl⟩
theorem tl_str (l : List Nat) : tl (⟨l.toArray⟩ : Str) = l := rfl
theorem str_tl (z : Str) : z = ⟨(tl z).toArray⟩ := (mk_tl z).symm
theorem lo_sp (c : Nat) : (!decide (tl (⟨#[c]⟩ : Str) < tl (Str.ofString " "))) = decide (32 ≤ c) := by
  have e : tl (Str.ofString " ") = [32] := by decide +kernel
  rw [e]
  by_cases h : 32 ≤ c
  · rw [decide_eq_true h, decide_eq_false (show ¬ ([c] < [32]) from fun q => by have := (lt1 c 32).mp q; omega)]; rfl
  · rw [decide_eq_false h, decide_eq_true (show ([c] < [32]) from (lt1 c 32).mpr (by omega))]; rfl
theorem hi_ti (c : Nat) : (!decide (tl (Str.ofString "~") < tl (⟨#[c]⟩ : Str))) = decide (c ≤ 126) := by
  have e : tl (Str.ofString "~") = [126] := by decide +kernel
  rw [e]
  by_cases h : c ≤ 126
  · rw [decide_eq_true h, decide_eq_false (show ¬ ([126] < [c]) from fun q => by have := (lt1 126 c).mp q; omega)]; rfl
  · rw [decide_eq_false h, decide_eq_true (show ([126] < [c]) from (lt1 126 c).mpr (by omega))]; rfl
theorem lo_A (c : Nat) : (!decide (tl (⟨#[c]⟩ : Str) < tl (Str.ofString "A"))) = decide (65 ≤ c) := by
  have e : tl (Str.ofString "A") = [65] := by decide +kernel
  rw [e]
  by_cases h : 65 ≤ c
  · rw [decide_eq_true h, decide_eq_false (show ¬ ([c] < [65]) from fun q => by have := (lt1 c 65).mp q; omega)]; rfl
  · rw [decide_eq_false h, decide_eq_true (show ([c] < [65]) from (lt1 c 65).mpr (by omega))]; rfl
theorem hi_Z (c : Nat) : (!decide (tl (Str.ofString "Z") < tl (⟨#[c]⟩ : Str))) = decide (c ≤ 90) := by
  have e : tl (Str.ofString "Z") = [90] := by decide +kernel
  rw [e]
  by_cases h : c ≤ 90
  · rw [decide_eq_true h, decide_eq_false (show ¬ ([90] < [c]) from fun q => by have := (lt1 90 c).mp q; omega)]; rfl
  · rw [decide_eq_false h, decide_eq_true (show ([90] < [c]) from (lt1 90 c).mpr (by omega))]; rfl
theorem one_eq (a : Nat) (l : List Nat) (t : String) (h : tl (Str.ofString t) = l) : ((⟨#[a]⟩ : Str) = Str.ofString t) ↔ [a] = l := by
  constructor
  · intro e
    rw [← h, ← e]
  · intro e
    exact ext_tl (by rw [h, ← e])
theorem is_quote (a : Nat) : decide ((⟨#[a]⟩ : Str) = Str.ofString "'") = decide (a = 39) := decide_eq_decide.mpr (by rw [one_eq a [39] "'" (by decide +kernel)]; simp)
def R_is_whole (K : PySem.W.Frag) : V → Hp → VK → XK → Prop := fun x H Q _ => ∃ d, Th K H x d ∧ Q (.bl (isWholeD d)) H
section
theorem ok_is_whole {f : Addr} {fd : FuncData} (F : Fun K "is_whole" "is_whole" s_is_whole f fd) (T : Txt K mg cs) : FnOk P w K mg base (L2.CX P w) 1 f fd ["thing"] (sp1 (R_is_whole K)) := by
  refine F.okX sc_is_whole (fun vs H Q E h => sp1_len h) (fun cdv A outer s H vs Q E hr h => ⟨_, PBw (X := X_is_whole P w K mg base f cdv A outer s H E), ?_⟩)
  obtain ⟨a0, rfl, h⟩ := h
  have ib_isinstance := T.b_isinstance
  have ib_int := T.b_int
  have ib_bool := T.b_bool
  have hr' : Room 0 (X_is_whole P w K mg base f cdv A outer s H E).A := hr
  replace hr := hr'
  clear hr'
  obtain ⟨d, hd, h⟩ := h
  wp_step
  refine e_andJ (d := !isK d "bool") ?_
  wp_step
  refine k_isInt hd ⟨_, rfl, fun _ Q' q => ?_, h⟩
  wp_step
  refine k_isBool hd ?_
  wp_step
  exact q
end
theorem df_is_whole (T : Txt K mg cs) : Df P w K mg base "is_whole" 1 ["thing"] (sp1 (R_is_whole K)) := by
  obtain ⟨f, fd, hm, F, hb⟩ := T.f_is_whole.ex
  exact ⟨f, fd, hm, F.kp, hb, ok_is_whole F T⟩
def R_may_stand : V → Hp → VK → XK → Prop := fun x H Q _ => ∃ c, x = .str ⟨#[c]⟩ ∧ Q (.bl (okc c)) H
section
theorem ok_may_stand {f : Addr} {fd : FuncData} (F : Fun K "may_stand" "may_stand" s_may_stand f fd) (T : Txt K mg cs) : FnOk P w K mg base (L2.CX P w) 1 f fd ["sign"] (sp1 (R_may_stand)) := by
  refine F.okX sc_may_stand (fun vs H Q E h => sp1_len h) (fun cdv A outer s H vs Q E hr h => ⟨_, PBw (X := X_may_stand P w K mg base f cdv A outer s H E), ?_⟩)
  obtain ⟨a0, rfl, h⟩ := h
  have ib_ord := T.b_ord
  have hr' : Room 0 (X_may_stand P w K mg base f cdv A outer s H E).A := hr
  replace hr := hr'
  clear hr'
  obtain ⟨c, rfl, h⟩ := h
  wp_step
  refine e_and ?_
  refine e_chain ?_
  wp_step
  rw [lo_sp]
  refine iteD (fun c1 => ?_) fun c1 => ?_
  · wp_step
    rw [hi_ti]
    refine iteD (fun c2 => ?_) fun c2 => ?_
    · wp_step
      have e : okc c = !decide ((c : Int) = 37) := by
        simp only [okc, decide_eq_true c1, decide_eq_true c2, Bool.true_and]
        congr 1
        exact decide_eq_decide.mpr (by omega)
      rw [e] at h
      exact h
    · have e : okc c = false := by simp only [okc, decide_eq_false c2, Bool.false_and, Bool.and_false]
      rw [e] at h
      exact h
  · wp_step
    have e : okc c = false := by simp only [okc, decide_eq_false c1, Bool.false_and]
    rw [e] at h
    exact h
end
theorem df_may_stand (T : Txt K mg cs) : Df P w K mg base "may_stand" 1 ["sign"] (sp1 (R_may_stand)) := by
  obtain ⟨f, fd, hm, F, hb⟩ := T.f_may_stand.ex
  exact ⟨f, fd, hm, F.kp, hb, ok_may_stand F T⟩
def R_is_sign (K : PySem.W.Frag) : V → Hp → VK → XK → Prop := fun x H Q _ => ∃ d, Th K H x d ∧ Q (.bl (isSignD d)) H
section
set_option hygiene false in
local macro_rules | `(tactic| top_name) => `(tactic| first | refine e_call (df_may_stand T) (hr.mono (by decide)) ?_)
theorem ok_is_sign {f : Addr} {fd : FuncData} (F : Fun K "is_sign" "is_sign" s_is_sign f fd) (T : Txt K mg cs) : FnOk P w K mg base (L2.CX P w) 2 f fd ["thing"] (sp1 (R_is_sign K)) := by
  refine F.okX sc_is_sign (fun vs H Q E h => sp1_len h) (fun cdv A outer s H vs Q E hr h => ⟨_, PBw (X := X_is_sign P w K mg base f cdv A outer s H E), ?_⟩)
  obtain ⟨a0, rfl, h⟩ := h
  have ib_isinstance := T.b_isinstance
  have ib_str := T.b_str
  have ib_len := T.b_len
  have hr' : Room 1 (X_is_sign P w K mg base f cdv A outer s H E).A := hr
  replace hr := hr'
  clear hr'
  obtain ⟨d, hd, h⟩ := h
  wp_step
  refine e_and ?_
  wp_step
  refine k_isStr hd ⟨_, rfl, ?_⟩
  rcases no_str (d := d) with ⟨z, rfl⟩ | ⟨e1, _, e2⟩
  · cases hd with
    | str _ hz =>
    wp_step
    refine e_and ?_
    wp_step
    refine k_lenS (sz1m hz) ?_
    wp_step
    generalize hl : tl z = l at *
    have hlen : z.length = l.length := by rw [len_tl, hl]
    have hs : isSignD (.str z) = isSignL l := by show isSignL (tl z) = _; rw [hl]
    rw [hs] at h
    refine iteD (fun c => ?_) fun c => ?_
    · match l, hl, hlen, h, hs with
      | [a, c'], hl, hlen, h, _ =>
        refine e_and ?_
        wp_step
        refine i_str (sz1m hz) (c := a) ?_ ?_
        · rw [show z.cps.toList = [a, c'] from hl]
          rfl
        wp_step
        rw [is_quote]
        refine iteD (fun c2 => ?_) fun c2 => ?_
        · wp_step
          refine e_call (df_may_stand T) (hr.mono (by decide)) ?_
          wp_step
          refine i_str (sz1m hz) (c := c') ?_ ?_
          · rw [show z.cps.toList = [a, c'] from hl]
            rfl
          wp_step
          have e : isSignL [a, c'] = okc c' := by simp only [isSignL, decide_eq_true c2, Bool.true_and]
          rw [e] at h
          exact h
        · have e : isSignL [a, c'] = false := by simp only [isSignL, decide_eq_false c2, Bool.false_and]
          rw [e] at h
          exact h
      | [], _, hlen, _, _ => simp at hlen; omega
      | [_], _, hlen, _, _ => simp at hlen; omega
      | _ :: _ :: _ :: _, _, hlen, _, _ => simp at hlen; omega
    · have e : isSignL l = false := by
        match l, hlen with
        | [], _ => rfl
        | [_], _ => rfl
        | [_, _], hlen => simp at hlen; omega
        | _ :: _ :: _ :: _, _ => rfl
      rw [e] at h
      exact h
  · rw [e1]
    rw [e2] at h
    exact iteF h
end
theorem df_is_sign (T : Txt K mg cs) : Df P w K mg base "is_sign" 2 ["thing"] (sp1 (R_is_sign K)) := by
  obtain ⟨f, fd, hm, F, hb⟩ := T.f_is_sign.ex
  exact ⟨f, fd, hm, F.kp, hb, ok_is_sign F T⟩
def R_is_name (K : PySem.W.Frag) : V → Hp → VK → XK → Prop := fun x H Q _ => ∃ d, Th K H x d ∧ Q (.bl (isNameD d)) H
section
theorem ok_is_name {f : Addr} {fd : FuncData} (F : Fun K "is_name" "is_name" s_is_name f fd) (T : Txt K mg cs) : FnOk P w K mg base (L2.CX P w) 1 f fd ["thing"] (sp1 (R_is_name K)) := by
  refine F.okX sc_is_name (fun vs H Q E h => sp1_len h) (fun cdv A outer s H vs Q E hr h => ⟨_, PBw (X := X_is_name P w K mg base f cdv A outer s H E), ?_⟩)
  obtain ⟨a0, rfl, h⟩ := h
  have ib_isinstance := T.b_isinstance
  have ib_str := T.b_str
  have ib_len := T.b_len
  have hr' : Room 0 (X_is_name P w K mg base f cdv A outer s H E).A := hr
  replace hr := hr'
  clear hr'
  obtain ⟨d, hd, h⟩ := h
  wp_step
  refine k_isStr hd ⟨_, rfl, ?_⟩
  rcases no_str (d := d) with ⟨z, rfl⟩ | ⟨e1, e2, _⟩
  · cases hd with
    | str _ hz =>
    wp_step
    refine k_lenS (sz1m hz) ?_
    wp_step
    have hlen : (tl z).length = z.length := (len_tl z).symm
    have hbad : ¬ (1 ≤ z.length ∧ z.length ≤ 8) → isNameD (.str z) = false := fun c => by
      show ((decide (1 ≤ z.length) && decide (z.length ≤ 8)) && _) = false
      by_cases c1 : 1 ≤ z.length <;> by_cases c2 : z.length ≤ 8 <;> simp [c1, c2]
      exact absurd ⟨c1, c2⟩ c
    refine iteD (fun c1 => ?_) fun c1 => ?_
    · wp_step
      refine iteND (fun c2 => ?_) fun c2 => ?_
      · wp_step
        rw [hbad (by omega)] at h
        exact h
      · have hgood : isNameD (.str z) = (tl z).all fun c => decide (65 ≤ c) && decide (c ≤ 90) := by
          show ((decide (1 ≤ z.length) && decide (z.length ≤ 8)) && _) = _
          rw [decide_eq_true (show 1 ≤ z.length by omega), decide_eq_true (show z.length ≤ 8 by omega)]
          rfl
        rw [hgood] at h
        wp_step
        refine s_for (j_str ?_)
        wp_step
        refine ⟨_, _, _, walk_str, fun i σ' H' => (∃ v, σ' = [some (.str z), v]) ∧ H' = H ∧ ((tl z).take i).all (fun c => decide (65 ≤ c) && decide (c ≤ 90)) = true, ⟨⟨_, rfl⟩, rfl, rfl⟩, fun _ _ _ _ _ => trivial, ?_, ?_⟩
        · rintro i x σ' H' H2 hi ⟨⟨v, rfl⟩, rfl, hall⟩ ⟨rfl, c, hc, rfl⟩
          have hc' : (tl z)[i]? = some c := by simpa [tl] using hc
          wp_step
          rw [lo_A]
          refine iteD (fun d1 => ?_) fun d1 => ?_
          · wp_step
            rw [hi_Z]
            refine iteND (fun d2 => ?_) fun d2 => ?_
            · wp_step
              rw [all_cut hc' (by simp [d2])] at h
              exact h
            · wp_step
              exact ⟨⟨_, rfl⟩, rfl, by rw [all_snoc hc', hall]; simp [d1, d2]⟩
          · wp_step
            rw [all_cut hc' (by simp [d1])] at h
            exact h
        · rintro σ' H' ⟨⟨v, rfl⟩, rfl, hall⟩
          wp_step
          rw [show z.cps.size = (tl z).length by simp [tl], List.take_length] at hall
          rw [hall] at h
          exact h
    · wp_step
      rw [hbad (by omega)] at h
      exact h
  · rw [e1]
    rw [e2] at h
    wp_step
    exact h

end
theorem df_is_name (T : Txt K mg cs) : Df P w K mg base "is_name" 1 ["thing"] (sp1 (R_is_name K)) := by
  obtain ⟨f, fd, hm, F, hb⟩ := T.f_is_name.ex
  exact ⟨f, fd, hm, F.kp, hb, ok_is_name F T⟩
abbrev top60 : Int := 1000000000000000000000000000000000000000000000000000000000000
def isPartD (d : PyData) : Bool := isSignD d || isNameD d
def arePartsD : PyData → Bool
  | .tuple ds => decide (ds.length ≤ 6) && ds.all isPartD
  | _ => false
def isWorthD : PyData → Bool
  | .int i => decide (0 ≤ i) && decide (i ≤ top60)
  | _ => false
def isRuleL : List PyData → Bool
  | [h, p, w] => (isNameD h && arePartsD p) && isWorthD w
  | _ => false
def isRuleD : PyData → Bool
  | .tuple ds => isRuleL ds
  | _ => false
theorem no_tup {d : PyData} : (∃ ds, d = .tuple ds) ∨ (isK d "tuple" = false ∧ arePartsD d = false ∧ isRuleD d = false) := by
  cases d <;> first | exact .inl ⟨_, rfl⟩ | exact .inr ⟨rfl, rfl, rfl⟩
theorem len3 {α : Type} {l : List α} (h : l.length = 3) : ∃ a b c, l = [a, b, c] := by
  match l, h with
  | [a, b, c], _ => exact ⟨a, b, c, rfl⟩
theorem rule_len {ds : List PyData} (h : ¬ ds.length = 3) : isRuleL ds = false := by
  match ds, h with
  | [], _ => rfl
  | [_], _ => rfl
  | [_, _], _ => rfl
  | [_, _, _], h => exact absurd rfl h
  | _ :: _ :: _ :: _ :: _, _ => rfl
theorem th3 {K : PySem.W.Frag} {H : Hp} {vs : List V} {a b c : PyData} (h : ThAll K H vs [a, b, c]) : ∃ x y z, vs = [x, y, z] ∧ Th K H x a ∧ Th K H y b ∧ Th K H z c := by
  cases h with
  | cons h0 h => cases h with
    | cons h1 h => cases h with
      | cons h2 h => cases h; exact ⟨_, _, _, rfl, h0, h1, h2⟩
theorem th_whole {K : PySem.W.Frag} {H : Hp} {v : V} {d : PyData} (h : Th K H v d) : (∃ n, d = .int n ∧ v = .int n) ∨ (isWholeD d = false ∧ isWorthD d = false) := by
  cases h <;> first | exact .inl ⟨_, rfl, rfl⟩ | exact .inr ⟨rfl, rfl⟩
def R_are_parts (K : PySem.W.Frag) : V → Hp → VK → XK → Prop := fun x H Q _ => ∃ d, Th K H x d ∧ Q (.bl (arePartsD d)) H
section
set_option hygiene false in
local macro_rules | `(tactic| top_name) => `(tactic| first | refine e_call (df_is_sign T) (hr.mono (by decide)) ?_ | refine e_call (df_is_name T) (hr.mono (by decide)) ?_)
theorem ok_are_parts {f : Addr} {fd : FuncData} (F : Fun K "are_parts" "are_parts" s_are_parts f fd) (T : Txt K mg cs) : FnOk P w K mg base (L2.CX P w) 3 f fd ["thing"] (sp1 (R_are_parts K)) := by
  refine F.okX sc_are_parts (fun vs H Q E h => sp1_len h) (fun cdv A outer s H vs Q E hr h => ⟨_, PBw (X := X_are_parts P w K mg base f cdv A outer s H E), ?_⟩)
  obtain ⟨a0, rfl, h⟩ := h
  obtain ⟨t_MOST_PARTS, h_MOST_PARTS⟩ := T.k_MOST_PARTS
  have ib_MOST_PARTS : Gn mg "MOST_PARTS" (some _) := ⟨h_MOST_PARTS⟩
  have ib_isinstance := T.b_isinstance
  have ib_tuple := T.b_tuple
  have ib_len := T.b_len
  have hr' : Room 2 (X_are_parts P w K mg base f cdv A outer s H E).A := hr
  replace hr := hr'
  clear hr'
  obtain ⟨d, hd, h⟩ := h
  wp_step
  refine k_isTuple hd ⟨_, rfl, ?_⟩
  rcases no_tup (d := d) with ⟨ds, rfl⟩ | ⟨e1, e2, _⟩
  · cases hd with
    | tup hs ha =>
    rename_i a vs
    wp_step
    refine k_lenT hs ?_
    wp_step
    have hlen := ha.len
    refine iteD (fun c => ?_) fun c => ?_
    · wp_step
      have e : arePartsD (.tuple ds) = false := by
        show (decide (ds.length ≤ 6) && _) = false
        rw [decide_eq_false (by omega), Bool.false_and]
      rw [e] at h
      exact h
    · wp_step
      have e : arePartsD (.tuple ds) = ds.all isPartD := by
        show (decide (ds.length ≤ 6) && _) = _
        rw [decide_eq_true (by omega), Bool.true_and]
      rw [e] at h
      refine s_for (j_tup ?_)
      wp_step
      refine ⟨⟨_, hs⟩, _, _, _, walk_tup (xs := vs), fun i σ' H' => (∃ v, σ' = [some (.ref a), v]) ∧ H' = H ∧ (ds.take i).all isPartD = true, ⟨⟨_, rfl⟩, rfl, rfl⟩, fun _ _ _ _ ⟨_, e, _⟩ => by rw [e]; exact hs, ?_, ?_⟩
      · rintro i x σ' H' H2 hi ⟨⟨v, rfl⟩, rfl, hall⟩ ⟨rfl, hx⟩
        obtain ⟨d, hd1, hd2⟩ := ha.get hx
        wp_step
        refine e_call (df_is_sign T) (hr.mono (by decide)) ?_
        wp_step
        refine ⟨d, hd2, ?_⟩
        wp_step
        cases c1 : isSignD d with
        | true =>
          wp_step
          exact ⟨⟨_, rfl⟩, rfl, by rw [all_snoc hd1, hall]; simp [isPartD, c1]⟩
        | false =>
          wp_step
          refine e_call (df_is_name T) (hr.mono (by decide)) ?_
          wp_step
          refine ⟨d, hd2, ?_⟩
          wp_step
          cases c2 : isNameD d with
          | true =>
            wp_step
            exact ⟨⟨_, rfl⟩, rfl, by rw [all_snoc hd1, hall]; simp [isPartD, c2]⟩
          | false =>
            wp_step
            rw [all_cut hd1 (by simp [isPartD, c1, c2])] at h
            exact h
      · rintro σ' H' ⟨⟨v, rfl⟩, rfl, hall⟩
        wp_step
        rw [hlen, List.take_length] at hall
        rw [hall] at h
        exact h
  · rw [e1]
    rw [e2] at h
    wp_step
    exact h
end
theorem df_are_parts (T : Txt K mg cs) : Df P w K mg base "are_parts" 3 ["thing"] (sp1 (R_are_parts K)) := by
  obtain ⟨f, fd, hm, F, hb⟩ := T.f_are_parts.ex
  exact ⟨f, fd, hm, F.kp, hb, ok_are_parts F T⟩
def R_is_rule (K : PySem.W.Frag) : V → Hp → VK → XK → Prop := fun x H Q _ => ∃ d, Th K H x d ∧ Q (.bl (isRuleD d)) H
section
set_option hygiene false in
local macro_rules | `(tactic| top_name) => `(tactic| first | refine e_call (df_is_whole T) (hr.mono (by decide)) ?_ | refine e_call (df_is_name T) (hr.mono (by decide)) ?_ | refine e_call (df_are_parts T) (hr.mono (by decide)) ?_)
theorem ok_is_rule {f : Addr} {fd : FuncData} (F : Fun K "is_rule" "is_rule" s_is_rule f fd) (T : Txt K mg cs) : FnOk P w K mg base (L2.CX P w) 4 f fd ["thing"] (sp1 (R_is_rule K)) := by
  refine F.okX sc_is_rule (fun vs H Q E h => sp1_len h) (fun cdv A outer s H vs Q E hr h => ⟨_, PBw (X := X_is_rule P w K mg base f cdv A outer s H E), ?_⟩)
  obtain ⟨a0, rfl, h⟩ := h
  obtain ⟨t_MOST_WORTH, h_MOST_WORTH⟩ := T.k_MOST_WORTH
  have ib_MOST_WORTH : Gn mg "MOST_WORTH" (some _) := ⟨h_MOST_WORTH⟩
  have ib_isinstance := T.b_isinstance
  have ib_tuple := T.b_tuple
  have ib_len := T.b_len
  have hr' : Room 3 (X_is_rule P w K mg base f cdv A outer s H E).A := hr
  replace hr := hr'
  clear hr'
  obtain ⟨d, hd, h⟩ := h
  wp_step
  refine k_isTuple hd ⟨_, rfl, ?_⟩
  rcases no_tup (d := d) with ⟨ds, rfl⟩ | ⟨e1, _, e2⟩
  · cases hd with
    | tup hs ha =>
    rename_i a vs
    wp_step
    refine k_lenT hs ?_
    wp_step
    have hlen := ha.len
    refine iteND (fun c => ?_) fun c => ?_
    · wp_step
      have e : isRuleD (.tuple ds) = false := rule_len (by omega)
      rw [e] at h
      exact h
    · obtain ⟨d0, d1, d2, rfl⟩ := len3 (l := ds) (by omega)
      obtain ⟨v0, v1, v2, rfl, h0, h1, h2⟩ := th3 ha
      wp_step
      refine e_call (df_is_name T) (hr.mono (by decide)) ?_
      wp_step
      refine i_tup hs (v := v0) rfl ?_
      wp_step
      refine ⟨d0, h0, ?_⟩
      wp_step
      cases c0 : isNameD d0 with
      | false =>
        wp_step
        have e : isRuleD (.tuple [d0, d1, d2]) = false := by simp [isRuleD, isRuleL, c0]
        rw [e] at h
        exact h
      | true =>
        wp_step
        refine e_call (df_are_parts T) (hr.mono (by decide)) ?_
        wp_step
        refine i_tup hs (v := v1) rfl ?_
        wp_step
        refine ⟨d1, h1, ?_⟩
        wp_step
        cases c1 : arePartsD d1 with
        | false =>
          wp_step
          have e : isRuleD (.tuple [d0, d1, d2]) = false := by simp [isRuleD, isRuleL, c1]
          rw [e] at h
          exact h
        | true =>
          wp_step
          have e : isRuleD (.tuple [d0, d1, d2]) = isWorthD d2 := by simp [isRuleD, isRuleL, c0, c1]
          rw [e] at h
          refine e_and ?_
          refine e_call (df_is_whole T) (hr.mono (by decide)) ?_
          wp_step
          refine i_tup hs (v := v2) rfl ?_
          wp_step
          refine ⟨d2, h2, ?_⟩
          wp_step
          rcases th_whole h2 with ⟨n, rfl, rfl⟩ | ⟨f1, f2⟩
          · wp_step
            refine e_chain ?_
            wp_step
            refine i_tup hs (v := .int n) rfl ?_
            wp_step
            refine iteD (fun c3 => ?_) fun c3 => ?_
            · wp_step
              have e : isWorthD (.int n) = decide (n ≤ top60) := by
                show (decide (0 ≤ n) && _) = _
                rw [decide_eq_true c3, Bool.true_and]
              rw [e] at h
              exact h
            · have e : isWorthD (.int n) = false := by
                show (decide (0 ≤ n) && _) = _
                rw [decide_eq_false c3, Bool.false_and]
              rw [e] at h
              exact h
          · rw [f1]
            rw [f2] at h
            exact iteF h
  · rw [e1]
    rw [e2] at h
    wp_step
    exact h

end
theorem df_is_rule (T : Txt K mg cs) : Df P w K mg base "is_rule" 4 ["thing"] (sp1 (R_is_rule K)) := by
  obtain ⟨f, fd, hm, F, hb⟩ := T.f_is_rule.ex
  exact ⟨f, fd, hm, F.kp, hb, ok_is_rule F T⟩
/-! ### rules as data; rules as texts -/
structure Rl where
  head : Str
  parts : List Str
  worth : Int
def isPartS (p : Str) : Bool := isSignS p || isNameS p
def goodR (r : Rl) : Bool := (isNameS r.head && (decide (r.parts.length ≤ 6) && r.parts.all isPartS)) && (decide (0 ≤ r.worth) && decide (r.worth ≤ top60))
def ruleD (r : Rl) : PyData := .tuple [.str r.head, .tuple (r.parts.map .str), .int r.worth]
theorem goodR_D (r : Rl) : isRuleD (ruleD r) = goodR r := by
  show ((isNameS r.head && (decide ((r.parts.map PyData.str).length ≤ 6) && (r.parts.map PyData.str).all isPartD)) && _) = _
  rw [List.length_map, List.all_map]
  rfl
/-- a rule stands at v -/
def RuleAt (H : Hp) (v : V) (r : Rl) : Prop := ∃ a b, v = .ref a ∧ H a = some (.tup [.str r.head, .ref b, .int r.worth]) ∧ H b = some (.tup (r.parts.map V.str))
theorem RuleAt.more {H H' : Hp} {v : V} {r : Rl} (s : Same H H') (h : RuleAt H v r) : RuleAt H' v r := by
  obtain ⟨a, b, e, h1, h2⟩ := h
  exact ⟨a, b, e, s _ _ h1, s _ _ h2⟩
theorem th_strs {K : PySem.W.Frag} {H : Hp} : ∀ {l : List Str}, (∀ z ∈ l, z.length ≤ 1000000) → ThAll K H (l.map V.str) (l.map PyData.str)
  | [], _ => .nil
  | z :: l, h => .cons (.str z (h z (List.mem_cons_self ..))) (th_strs fun y hy => h y (List.mem_cons_of_mem _ hy))
theorem RuleAt.th {K : PySem.W.Frag} {H : Hp} {v : V} {r : Rl} (h : RuleAt H v r) (h1 : r.head.length ≤ 1000000) (h2 : ∀ z ∈ r.parts, z.length ≤ 1000000) : Th K H v (ruleD r) := by
  obtain ⟨a, b, rfl, e1, e2⟩ := h
  exact .tup (SqT.of e1) (.cons (.str _ h1) (.cons (.tup (SqT.of e2) (th_strs h2)) (.cons (.int _) .nil)))
theorem name_len {z : Str} (h : isNameS z = true) : z.length ≤ 8 := by
  unfold isNameS at h
  simp only [Bool.and_eq_true, decide_eq_true_eq] at h
  exact h.1.2
theorem sign_len {z : Str} (h : isSignS z = true) : z.length = 2 := by
  unfold isSignS at h
  rw [len_tl]
  match tl z, h with
  | [_, _], _ => rfl
theorem part_len {z : Str} (h : isPartS z = true) : z.length ≤ 8 := by
  unfold isPartS at h
  rcases Bool.or_eq_true_iff.mp h with h | h
  · have := sign_len h
    omega
  · exact name_len h
structure GoodR (r : Rl) : Prop where
  head : isNameS r.head = true
  few : r.parts.length ≤ 6
  parts : ∀ p ∈ r.parts, isPartS p = true
  lo : 0 ≤ r.worth
  hi : r.worth ≤ top60
theorem goodR_iff {r : Rl} : goodR r = true ↔ GoodR r := by
  unfold goodR
  simp only [Bool.and_eq_true, decide_eq_true_eq, List.all_eq_true]
  exact ⟨fun ⟨⟨a, b, c⟩, d, e⟩ => ⟨a, b, c, d, e⟩, fun h => ⟨⟨h.head, h.few, h.parts⟩, h.lo, h.hi⟩⟩
theorem GoodR.th {K : PySem.W.Frag} {H : Hp} {v : V} {r : Rl} (g : GoodR r) (h : RuleAt H v r) : Th K H v (ruleD r) :=
  h.th (Nat.le_trans (name_len g.head) (by decide)) fun z hz => Nat.le_trans (part_len (g.parts z hz)) (by decide)
theorem name_free {z : Str} (h : isNameS z = true) {s : Nat} (hs : s < 65) : s ∉ tl z := fun hm => by
  unfold isNameS at h
  simp only [Bool.and_eq_true, List.all_eq_true, decide_eq_true_eq] at h
  have := h.2 s hm
  omega
theorem sign_is {z : Str} (h : isSignS z = true) : ∃ c, tl z = [39, c] ∧ okc c = true := by
  unfold isSignS at h
  match e : tl z, h with
  | [a, c], h =>
    simp only [isSignL, Bool.and_eq_true, decide_eq_true_eq] at h
    exact ⟨c, by rw [h.1], h.2⟩
theorem tl_qs : tl (Str.ofString "' ") = [39, 32] := by decide +kernel
theorem tl_q : tl (Str.ofString "'") = [39] := by decide +kernel
theorem RuleAt.dp {K : PySem.W.Frag} {H : Hp} {v : V} {r : Rl} (h : RuleAt H v r) : Dp K H v (ruleD r) := by
  obtain ⟨a, b, rfl, e1, e2⟩ := h
  exact .tup (SqT.of e1) (.cons (.str _) (.cons (.tup (SqT.of e2) (dp_strs r.parts)) (.cons (.int _) .nil)))
theorem name_codes {z : Str} (h : isNameS z = true) : ∀ c ∈ tl z, c < 1114112 := fun c hc => by
  unfold isNameS at h
  simp only [Bool.and_eq_true, List.all_eq_true, decide_eq_true_eq] at h
  have := h.2 c hc
  omega
theorem part_codes {z : Str} (h : isPartS z = true) : ∀ c ∈ tl z, c < 1114112 := by
  rcases Bool.or_eq_true_iff.mp h with h | h
  · obtain ⟨c, e, hc⟩ := sign_is h
    rw [e]
    intro d hd
    simp only [okc, Bool.and_eq_true, decide_eq_true_eq] at hc
    simp only [List.mem_cons, List.not_mem_nil, or_false] at hd
    omega
  · exact name_codes h
theorem GoodR.sh {r : Rl} (g : GoodR r) : Sh 2 (ruleD r) := .tup fun d hd => by
  simp only [List.mem_cons, List.not_mem_nil, or_false] at hd
  rcases hd with rfl | rfl | rfl
  · exact .str (name_codes g.head)
  · refine .tup fun d hd => ?_
    obtain ⟨p, hp, rfl⟩ := List.mem_map.mp hd
    exact .str (part_codes (g.parts p hp))
  · exact .int _

/-! ### grammars as data -/
structure RulesAt (H : Hp) (vs : List V) (rs : List Rl) : Prop where
  len : vs.length = rs.length
  get : ∀ (i : Nat) (v : V), vs[i]? = some v → ∃ r, rs[i]? = some r ∧ RuleAt H v r
structure GoodG (rs : List Rl) : Prop where
  few : rs.length ≤ 60
  good : ∀ r ∈ rs, GoodR r
def isGramD : PyData → Bool
  | .list ds => decide (ds.length ≤ 60) && ds.all isRuleD
  | _ => false
theorem RuleAt.ts {H H' : Hp} {v : V} {r : Rl} (s : TS H H') (h : RuleAt H v r) : RuleAt H' v r := by
  obtain ⟨a, b, e, h1, h2⟩ := h
  exact ⟨a, b, e, s _ _ h1, s _ _ h2⟩
theorem RulesAt.ts {H H' : Hp} {vs : List V} {rs : List Rl} (s : TS H H') (h : RulesAt H vs rs) : RulesAt H' vs rs := ⟨h.len, fun i v e => by
  obtain ⟨r, h1, h2⟩ := h.get i v e
  exact ⟨r, h1, h2.ts s⟩⟩
theorem RulesAt.nil {H : Hp} : RulesAt H [] [] := ⟨rfl, fun i v e => by simp at e⟩
theorem RulesAt.cons {H : Hp} {v : V} {r : Rl} {vs : List V} {rs : List Rl} (h : RuleAt H v r) (t : RulesAt H vs rs) : RulesAt H (v :: vs) (r :: rs) := ⟨by simp [t.len], fun i w e => by
  cases i with
  | zero => simp at e; subst e; exact ⟨r, rfl, h⟩
  | succ i => exact t.get i w (by simpa using e)⟩
theorem RulesAt.tail {H : Hp} {v : V} {r : Rl} {vs : List V} {rs : List Rl} (h : RulesAt H (v :: vs) (r :: rs)) : RuleAt H v r ∧ RulesAt H vs rs := by
  obtain ⟨q, h1, h2⟩ := h.get 0 v rfl
  refine ⟨?_, ⟨by have := h.len; simpa using this, fun i w e => h.get (i + 1) w (by simpa using e)⟩⟩
  have : r = q := by simpa using h1
  rw [this]
  exact h2
theorem RulesAt.app {H : Hp} : ∀ {vs ws : List V} {rs qs : List Rl}, RulesAt H vs rs → RulesAt H ws qs → RulesAt H (vs ++ ws) (rs ++ qs)
  | [], ws, rs, qs, h, t => by
    have : rs = [] := List.eq_nil_of_length_eq_zero h.len.symm
    rw [this]
    exact t
  | v :: vs, ws, [], qs, h, t => by have := h.len; simp at this
  | v :: vs, ws, r :: rs, qs, h, t => .cons h.tail.1 (RulesAt.app h.tail.2 t)
theorem RulesAt.take {H : Hp} {vs : List V} {rs : List Rl} (h : RulesAt H vs rs) (n : Nat) : RulesAt H (vs.take n) (rs.take n) := ⟨by simp [h.len], fun i v e => by
  have hi : i < n := by
    have := (List.getElem?_eq_some_iff.mp e).1
    simp at this
    omega
  rw [List.getElem?_take_of_lt hi] at e
  rw [List.getElem?_take_of_lt hi]
  exact h.get i v e⟩
theorem RulesAt.drop {H : Hp} {vs : List V} {rs : List Rl} (h : RulesAt H vs rs) (n : Nat) : RulesAt H (vs.drop n) (rs.drop n) := ⟨by simp [h.len], fun i v e => by
  rw [List.getElem?_drop] at e
  rw [List.getElem?_drop]
  exact h.get _ v e⟩
theorem RulesAt.rev {H : Hp} : ∀ {vs : List V} {rs : List Rl}, RulesAt H vs rs → RulesAt H vs.reverse rs.reverse
  | [], rs, h => by
    have : rs = [] := List.eq_nil_of_length_eq_zero h.len.symm
    rw [this]
    exact .nil
  | v :: vs, [], h => by have := h.len; simp at this
  | v :: vs, r :: rs, h => by
    rw [List.reverse_cons, List.reverse_cons]
    exact (RulesAt.rev h.tail.2).app (.cons h.tail.1 .nil)
theorem RulesAt.th {K : PySem.W.Frag} {H : Hp} : ∀ {vs : List V} {rs : List Rl}, RulesAt H vs rs → (∀ r ∈ rs, GoodR r) → ThAll K H vs (rs.map ruleD)
  | [], rs, h, _ => by
    have : rs = [] := List.eq_nil_of_length_eq_zero h.len.symm
    rw [this]
    exact .nil
  | v :: vs, [], h, _ => by have := h.len; simp at this
  | v :: vs, r :: rs, h, g => .cons ((g r (List.mem_cons_self ..)).th h.tail.1) (RulesAt.th h.tail.2 fun q hq => g q (List.mem_cons_of_mem _ hq))
theorem RulesAt.dp {K : PySem.W.Frag} {H : Hp} : ∀ {vs : List V} {rs : List Rl}, RulesAt H vs rs → DpAll K H vs (rs.map ruleD)
  | [], rs, h => by
    have : rs = [] := List.eq_nil_of_length_eq_zero h.len.symm
    rw [this]
    exact .nil
  | v :: vs, [], h => by have := h.len; simp at this
  | v :: vs, r :: rs, h => .cons h.tail.1.dp (RulesAt.dp h.tail.2)
theorem RulesAt.at' {H : Hp} {vs : List V} {rs : List Rl} {k : Nat} {r : Rl} (h : RulesAt H vs rs) (hk : rs[k]? = some r) : ∃ ra rb, vs[k]? = some (.ref ra) ∧ atI vs (k : Int) = some (.ref ra) ∧ H ra = some (.tup [.str r.head, .ref rb, .int r.worth]) ∧ H rb = some (.tup (r.parts.map V.str)) := by
  obtain ⟨v, hv⟩ : ∃ v, vs[k]? = some v := ⟨_, List.getElem?_eq_getElem (by have := (List.getElem?_eq_some_iff.mp hk).1; have := h.len; omega)⟩
  obtain ⟨r', q1, q2⟩ := h.get k v hv
  obtain rfl : r' = r := Option.some.inj (q1.symm.trans hk)
  obtain ⟨ra, rb, rfl, e1, e2⟩ := q2
  exact ⟨ra, rb, hv, atI_nat (by omega) (by rw [show ((k : Nat) : Int).toNat = k by omega]; exact hv), e1, e2⟩
def gramD (rs : List Rl) : PyData := .list (rs.map ruleD)
theorem gram_good {rs : List Rl} (g : GoodG rs) : isGramD (gramD rs) = true := by
  show (decide ((rs.map ruleD).length ≤ 60) && (rs.map ruleD).all isRuleD) = true
  rw [decide_eq_true (by rw [List.length_map]; exact g.few), Bool.true_and, List.all_map, List.all_eq_true]
  intro r hr
  show isRuleD (ruleD r) = true
  rw [goodR_D]
  exact goodR_iff.mpr (g.good r hr)
theorem gram_sh {rs : List Rl} (g : ∀ r ∈ rs, GoodR r) : Sh 3 (gramD rs) := .lst fun d hd => by
  obtain ⟨r, hr, rfl⟩ := List.mem_map.mp hd
  exact (g r hr).sh
/-- a grammar at v -/
structure GramAt (K : PySem.W.Frag) (H : Hp) (v : V) (a : Addr) (vs : List V) (rs : List Rl) : Prop where
  ref : v = .ref a
  sq : SqL K H a vs
  at_ : RulesAt H vs rs
  ok : GoodG rs
theorem GramAt.more {K : PySem.W.Frag} {H H' : Hp} {v : V} {a : Addr} {vs : List V} {rs : List Rl} (s : Same H H') (h : GramAt K H v a vs rs) : GramAt K H' v a vs rs := ⟨h.ref, s.seq h.sq, h.at_.ts (Same.ts s), h.ok⟩
theorem GramAt.dp {K : PySem.W.Frag} {H : Hp} {v : V} {a : Addr} {vs : List V} {rs : List Rl} (h : GramAt K H v a vs rs) : Dp K H v (gramD rs) := by
  rw [h.ref]
  exact .lst h.sq h.at_.dp
theorem GramAt.th {K : PySem.W.Frag} {H : Hp} {v : V} {a : Addr} {vs : List V} {rs : List Rl} (h : GramAt K H v a vs rs) : Th K H v (gramD rs) := by
  rw [h.ref]
  exact .lst h.sq (h.at_.th h.ok.good)
theorem gram_no {d : PyData} (h : isK d "list" = false) : isGramD d = false := by
  cases d <;> first | rfl | (exact Bool.noConfusion h)
theorem no_lst {K : PySem.W.Frag} {H : Hp} {v : V} {d : PyData} (h : Th K H v d) : (∃ a vs ds, v = .ref a ∧ d = .list ds ∧ SqL K H a vs ∧ ThAll K H vs ds) ∨ isK d "list" = false := by
  cases h <;> first | exact .inl ⟨_, _, _, rfl, rfl, ‹_›, ‹_›⟩ | exact .inr rfl
def R_checked (K : PySem.W.Frag) (cs : Cs) : V → Hp → VK → XK → Prop := fun x H Q E =>
  (∃ a vs rs, GramAt K H x a vs rs ∧ ∀ l H', Same H H' → H l = none → H' l = some (.lst vs) → Q (.ref l) H') ∨ (∃ d, Th K H x d ∧ isGramD d = false ∧ ∀ H', Same H H' → E (.ref cs.NoGrammar) none H')
section
set_option hygiene false in
local macro_rules | `(tactic| top_name) => `(tactic| first | refine e_call (df_is_rule T) (hr.mono (by decide)) ?_)
set_option hygiene false in
local macro_rules | `(tactic| top_raise) => `(tactic| first | refine s_raise T.x_NoGrammar ?_)
theorem ok_checked {f : Addr} {fd : FuncData} (F : Fun K "checked" "checked" s_checked f fd) (T : Txt K mg cs) : FnOk P w K mg base (L2.CX P w) 5 f fd ["thing"] (sp1 (R_checked K cs)) := by
  refine F.okX sc_checked (fun vs H Q E h => sp1_len h) (fun cdv A outer s H vs Q E hr h => ⟨_, PBw (X := X_checked P w K mg base f cdv A outer s H E), ?_⟩)
  obtain ⟨a0, rfl, h⟩ := h
  obtain ⟨t_MOST_RULES, h_MOST_RULES⟩ := T.k_MOST_RULES
  have ib_MOST_RULES : Gn mg "MOST_RULES" (some _) := ⟨h_MOST_RULES⟩
  have ib_NoGrammar : Gn mg "NoGrammar" (some _) := ⟨T.x_NoGrammar.mg⟩
  have ib_isinstance := T.b_isinstance
  have ib_list := T.b_list
  have ib_len := T.b_len
  have hr' : Room 4 (X_checked P w K mg base f cdv A outer s H E).A := hr
  replace hr := hr'
  clear hr'
  have key : (∃ a vs ds, a0 = .ref a ∧ SqL K H a vs ∧ ThAll K H vs ds ∧ (isGramD (.list ds) = true → ∀ l H', Same H H' → H l = none → H' l = some (.lst vs) → Q (.ref l) H') ∧ (isGramD (.list ds) = false → ∀ H', Same H H' → E (.ref cs.NoGrammar) none H')) ∨
      (∃ d, Th K H a0 d ∧ isK d "list" = false ∧ ∀ H', Same H H' → E (.ref cs.NoGrammar) none H') := by
    rcases h with ⟨a, vs, rs, g, q⟩ | ⟨d, hd, hb, q⟩
    · refine .inl ⟨a, vs, rs.map ruleD, g.ref, g.sq, g.at_.th g.ok.good, fun _ => q, fun z => ?_⟩
      exact absurd ((gram_good g.ok).symm.trans z) (by simp)
    · rcases no_lst hd with ⟨a, vs, ds, e1, e2, h1, h2⟩ | e
      · exact .inl ⟨a, vs, ds, e1, h1, h2, fun z => absurd (z.symm.trans (e2 ▸ hb)) (by simp), fun _ => q⟩
      · exact .inr ⟨d, hd, e, q⟩
  clear h
  wp_step
  rcases key with ⟨a, vs, ds, rfl, hs, ha, h1, h2⟩ | ⟨d, hd, hb, q⟩
  · refine k_isList (Th.lst hs ha) ⟨_, rfl, ?_⟩
    wp_step
    refine k_lenL hs ?_
    wp_step
    have hlen := ha.len
    refine iteD (fun c => ?_) fun c => ?_
    · wp_step
      refine s_raise T.x_NoGrammar ?_
      refine h2 ?_ _ (Same.refl _)
      show (decide (ds.length ≤ 60) && _) = false
      rw [decide_eq_false (by omega), Bool.false_and]
    · wp_step
      have hgood : isGramD (.list ds) = ds.all isRuleD := by
        show (decide (ds.length ≤ 60) && _) = _
        rw [decide_eq_true (by omega), Bool.true_and]
      rw [hgood] at h1 h2
      intro l H1 s1 n1 k1 e1
      wp_step
      have sam : ∀ {H' : Hp}, (∀ b, b ≠ l → H' b = H1 b) → Same H H' := fun k b o e => by
        rw [k b (ne_of_none e n1)]
        exact s1 _ _ e
      refine s_for (j_list ?_)
      wp_step
      refine ⟨⟨_, s1.seq hs⟩, _, _, _, walk_list (xs := vs), fun i σ' H' => (∃ v, σ' = [some (.ref a), some (.ref l), v]) ∧ H' l = some (.lst (vs.take i)) ∧ (∀ b, b ≠ l → H' b = H1 b) ∧ (ds.take i).all isRuleD = true, ⟨⟨_, rfl⟩, k1, fun _ _ => rfl, rfl⟩, fun _ _ _ _ ⟨_, _, e, _⟩ => (sam e).seq hs, ?_, ?_⟩
      · rintro i x σ' H' H2 hi ⟨⟨v, rfl⟩, k2, e2, hall⟩ ⟨rfl, hx⟩
        obtain ⟨d, hd1, hd2⟩ := ha.get hx
        wp_step
        refine e_call (df_is_rule T) (hr.mono (by decide)) ?_
        wp_step
        refine ⟨d, hd2.more (sam e2), ?_⟩
        wp_step
        cases c1 : isRuleD d with
        | true =>
          wp_step
          refine e_append ?_
          wp_step
          refine ⟨ty_l k2, ?_⟩
          wp_step
          refine m_append k2 (by rw [List.length_take]; omega) fun H3 k3 e3 => ?_
          wp_step
          refine ⟨⟨_, rfl⟩, ?_, fun b hb => (e3 b hb).trans (e2 b hb), by rw [all_snoc hd1, hall, c1]; rfl⟩
          rw [k3, List.take_add_one, hx]
          rfl
        | false =>
          wp_step
          refine s_raise T.x_NoGrammar ?_
          exact h2 (all_cut hd1 c1) _ (sam e2)
      · rintro σ' H' ⟨⟨v, rfl⟩, k2, e2, hall⟩
        wp_step
        rw [List.take_length] at k2
        rw [hlen, List.take_length] at hall
        exact h1 hall l _ (sam e2) n1 k2
  · refine k_isList hd ⟨_, rfl, ?_⟩
    rw [hb]
    wp_step
    refine s_raise T.x_NoGrammar ?_
    exact q _ (Same.refl _)

end
theorem df_checked (T : Txt K mg cs) : Df P w K mg base "checked" 5 ["thing"] (sp1 (R_checked K cs)) := by
  obtain ⟨f, fd, hm, F, hb⟩ := T.f_checked.ex
  exact ⟨f, fd, hm, F.kp, hb, ok_checked F T⟩
def startV : List Rl → V
  | [] => .non
  | r :: _ => .str r.head
theorem gram_nil : ∀ rs : List Rl, PyData.eqv (gramD rs) (.list []) = decide (rs = [])
  | [] => rfl
  | _ :: _ => rfl
/-- what a def of a grammar promises: the good way, or the refusal -/
def RG (K : PySem.W.Frag) (cs : Cs) (x : V) (H : Hp) (E : XK) (good : Addr → List V → List Rl → Prop) : Prop :=
  (∃ a vs rs, GramAt K H x a vs rs ∧ good a vs rs) ∨ (∃ d, Th K H x d ∧ isGramD d = false ∧ ∀ H', Same H H' → E (.ref cs.NoGrammar) none H')
def addHead (hs : List Str) (h : Str) : List Str := if h ∈ hs then hs else hs ++ [h]
def headsTo (rs : List Rl) (i : Nat) : List Str := (rs.take i).foldl (fun hs r => addHead hs r.head) []
def heads (rs : List Rl) : List Str := headsTo rs rs.length
theorem heads_step {rs : List Rl} {i : Nat} {r : Rl} (h : rs[i]? = some r) : headsTo rs (i + 1) = addHead (headsTo rs i) r.head := by
  unfold headsTo
  rw [List.take_add_one, h, Option.toList_some, List.foldl_append]
  rfl
theorem heads_le (rs : List Rl) : ∀ i, (headsTo rs i).length ≤ i
  | 0 => by simp [headsTo]
  | i + 1 => by
    cases h : rs[i]? with
    | none =>
      have e : headsTo rs (i + 1) = headsTo rs i := by
        unfold headsTo
        rw [List.take_add_one, h, Option.toList_none, List.append_nil]
      rw [e]
      exact Nat.le_succ_of_le (heads_le rs i)
    | some r =>
      rw [heads_step h]
      unfold addHead
      have := heads_le rs i
      split
      · omega
      · simp; omega
def flags (hs : List Str) : List (Key × V) := hs.map fun h => (.inr h, .bl true)
theorem flags_put (hs : List Str) (h : Str) : putK (flags hs) (.inr h) (.bl true) = flags (addHead hs h) := by
  have e : ((flags hs).any fun kv => decide (kv.1 = .inr h)) = decide (h ∈ hs) := by
    unfold flags
    rw [List.any_map, Bool.eq_iff_iff, List.any_eq_true, decide_eq_true_eq]
    constructor
    · rintro ⟨x, hx, q⟩
      have q2 : (Sum.inr x : Key) = .inr h := of_decide_eq_true q
      cases q2
      exact hx
    · intro hm
      exact ⟨h, hm, decide_eq_true rfl⟩
  unfold putK addHead
  rw [e]
  by_cases hm : h ∈ hs
  · rw [decide_eq_true hm, if_pos rfl, if_pos hm]
    unfold flags
    rw [List.map_map]
    apply List.map_congr_left
    intro x hx
    show (if (Sum.inr x : Key) = .inr h then ((Sum.inr x : Key), V.bl true) else ((Sum.inr x : Key), V.bl true)) = _
    rw [ite_self]
  · rw [decide_eq_false hm, if_neg Bool.false_ne_true, if_neg hm]
    unfold flags
    rw [List.map_append]
    rfl
theorem flags_keys (hs : List Str) : (flags hs).map (fun kv => kV kv.1) = hs.map V.str := by
  unfold flags
  rw [List.map_map]
  rfl
theorem flags_len (hs : List Str) : (flags hs).length = hs.length := List.length_map ..
/-- the numbers of a head's rules, below i -/
def numsTo (rs : List Rl) (h : Str) (i : Nat) : List Nat := (List.range i).filter fun k => decide (rs[k]?.map Rl.head = some h)
def nums (rs : List Rl) (h : Str) : List Nat := numsTo rs h rs.length
def numV (l : List Nat) : List V := l.map fun k => V.int (k : Nat)
theorem nums_step (rs : List Rl) (h : Str) (i : Nat) : numsTo rs h (i + 1) = numsTo rs h i ++ (if rs[i]?.map Rl.head = some h then [i] else []) := by
  unfold numsTo
  rw [List.range_succ, List.filter_append]
  congr 1
  by_cases q : rs[i]?.map Rl.head = some h
  · rw [if_pos q, List.filter_cons_of_pos (by rw [q]; simp), List.filter_nil]
  · rw [if_neg q, List.filter_cons_of_neg (by simpa using q), List.filter_nil]
theorem nums_le (rs : List Rl) (h : Str) (i : Nat) : (numsTo rs h i).length ≤ i := by
  have := List.length_filter_le (fun k => decide (rs[k]?.map Rl.head = some h)) (List.range i)
  rwa [List.length_range] at this
def R_start_of (K : PySem.W.Frag) (cs : Cs) : V → Hp → VK → XK → Prop := fun x H Q E => RG K cs x H E fun a vs rs => ∀ H', Same H H' → Q (startV rs) H'
section
set_option hygiene false in
local macro_rules | `(tactic| top_name) => `(tactic| first | refine e_call (df_checked T) (hr.mono (by decide)) ?_)
theorem ok_start_of {f : Addr} {fd : FuncData} (F : Fun K "start_of" "start_of" s_start_of f fd) (T : Txt K mg cs) : FnOk P w K mg base (L2.CX P w) 6 f fd ["grammar"] (sp1 (R_start_of K cs)) := by
  refine F.okX sc_start_of (fun vs H Q E h => sp1_len h) (fun cdv A outer s H vs Q E hr h => ⟨_, PBw (X := X_start_of P w K mg base f cdv A outer s H E), ?_⟩)
  obtain ⟨a0, rfl, h⟩ := h
  have hr' : Room 5 (X_start_of P w K mg base f cdv A outer s H E).A := hr
  replace hr := hr'
  clear hr'
  wp_step
  refine e_call (df_checked T) (hr.mono (by decide)) ?_
  wp_step
  rcases h with ⟨a, vs, rs, g, q⟩ | ⟨d, hd, hb, q⟩
  · refine .inl ⟨a, vs, rs, g, fun l H1 s1 n1 k1 => ?_⟩
    wp_step
    intro l2 H2 s2 n2 k2 _
    have g2 : GramAt K H2 (.ref l) l vs rs := ⟨rfl, SqL.of (s2 _ _ k1), g.at_.ts (Same.ts (s1.trans s2)), g.ok⟩
    refine o_eqD hr.units g2.dp (.lst (SqL.of k2) .nil) (gram_sh g.ok.good).ok rfl ?_
    rw [gram_nil]
    wp_step
    refine iteD (fun c => ?_) fun c => ?_
    · wp_step
      subst c
      exact q _ (s1.trans s2)
    · wp_step
      have hl := g.at_.len
      match rs, vs, c, hl, g, g2, q, k1 with
      | r :: rs, v :: vs, _, _, g, g2, q, k1 =>
        obtain ⟨a', b', rfl, e1, _⟩ := g2.at_.tail.1
        refine i_lst g2.sq (v := .ref a') (atI_nat (by decide) rfl) ?_
        wp_step
        refine i_tup (SqT.of e1) (v := .str r.head) rfl ?_
        exact q _ (s1.trans s2)
      | [], _, c, _, _, _, _, _ => exact absurd rfl c
      | _ :: _, [], _, hl, _, _, _, _ => simp at hl
  · exact .inr ⟨d, hd, hb, q⟩
end
theorem df_start_of (T : Txt K mg cs) : Df P w K mg base "start_of" 6 ["grammar"] (sp1 (R_start_of K cs)) := by
  obtain ⟨f, fd, hm, F, hb⟩ := T.f_start_of.ex
  exact ⟨f, fd, hm, F.kp, hb, ok_start_of F T⟩
/-! ### least sizes: the plain law -/
abbrev Szs : Type := List (Str × Nat)
def szK (S : Szs) : List (Key × V) := S.map fun p => (.inr p.1, .int (p.2 : Nat))
def look : Szs → Str → Option Nat
  | [], _ => none
  | p :: S, h => if p.1 = h then some p.2 else look S h
def putS : Szs → Str → Nat → Szs
  | [], h, n => [(h, n)]
  | p :: S, h, n => if p.1 = h then (p.1, n) :: S.map (fun q => if q.1 = h then (q.1, n) else q) else p :: putS S h n
theorem valV_sz : ∀ (S : Szs) (h : Str), valV (szK S) (.inr h) = (look S h).map fun n => V.int (n : Nat)
  | [], _ => rfl
  | p :: S, h => by
    show valV ((Sum.inr p.1, V.int (p.2 : Nat)) :: szK S) (.inr h) = _
    unfold look
    by_cases e : p.1 = h
    · rw [if_pos e, valV_pos (by show (Sum.inr p.1 : Key) = .inr h; rw [e])]
      rfl
    · rw [if_neg e, valV_neg (fun q => e (Sum.inr.inj q)), valV_sz S h]
theorem any_sz (S : Szs) (h : Str) : ((szK S).any fun kv => decide (kv.1 = .inr h)) = (look S h).isSome := by
  rw [valV_any, valV_sz]
  cases look S h <;> rfl
theorem map_sz (S : Szs) (h : Str) (n : Nat) : (szK S).map (fun kv => if kv.1 = .inr h then (kv.1, V.int (n : Nat)) else kv) = szK (S.map fun q => if q.1 = h then (q.1, n) else q) := by
  unfold szK
  rw [List.map_map, List.map_map]
  apply List.map_congr_left
  intro p _
  show (if (Sum.inr p.1 : Key) = .inr h then ((Sum.inr p.1 : Key), V.int (n : Nat)) else ((Sum.inr p.1 : Key), V.int (p.2 : Nat))) = ((Sum.inr (if p.1 = h then (p.1, n) else p).1 : Key), V.int ((if p.1 = h then (p.1, n) else p).2 : Nat))
  by_cases e : p.1 = h
  · rw [if_pos e, if_pos (by rw [e])]
  · rw [if_neg e, if_neg (fun q => e (Sum.inr.inj q))]
theorem putS_some : ∀ {S : Szs} {h : Str} {n : Nat}, (look S h).isSome = true → putS S h n = S.map fun q => if q.1 = h then (q.1, n) else q
  | [], _, _, q => by cases q
  | p :: S, h, n, q => by
    unfold look at q
    unfold putS
    by_cases e : p.1 = h
    · rw [if_pos e, List.map_cons, if_pos e]
    · rw [if_neg e] at q
      rw [if_neg e, List.map_cons, if_neg e, putS_some q]
theorem putS_none : ∀ {S : Szs} {h : Str} {n : Nat}, look S h = none → putS S h n = S ++ [(h, n)]
  | [], _, _, _ => rfl
  | p :: S, h, n, q => by
    unfold look at q
    unfold putS
    by_cases e : p.1 = h
    · rw [if_pos e] at q; cases q
    · rw [if_neg e] at q
      rw [if_neg e, putS_none q]
      rfl
theorem putK_sz (S : Szs) (h : Str) (n : Nat) : putK (szK S) (.inr h) (.int (n : Nat)) = szK (putS S h n) := by
  unfold putK
  rw [any_sz]
  cases e : look S h with
  | none =>
    rw [putS_none e, if_neg (by simp)]
    unfold szK
    rw [List.map_append]
    rfl
  | some m => rw [putS_some (by rw [e]; rfl), if_pos (by simp), map_sz]
theorem look_map : ∀ (S : Szs) (h : Str) (n : Nat) (k : Str), look (S.map fun q => if q.1 = h then (q.1, n) else q) k = if k = h then (look S k).map (fun _ => n) else look S k
  | [], h, n, k => by simp [look]
  | p :: S, h, n, k => by
    rw [List.map_cons]
    by_cases e : p.1 = h
    · rw [if_pos e]
      unfold look
      by_cases e2 : p.1 = k
      · rw [if_pos e2, if_pos e2, if_pos (by rw [← e2, e])]; rfl
      · rw [if_neg e2, if_neg e2, look_map S h n k]
    · rw [if_neg e]
      unfold look
      by_cases e2 : p.1 = k
      · rw [if_pos e2, if_pos e2, if_neg (by rw [← e2]; exact e)]
      · rw [if_neg e2, if_neg e2, look_map S h n k]
theorem look_app : ∀ (S : Szs) (h : Str) (n : Nat) (k : Str), look S h = none → look (S ++ [(h, n)]) k = if k = h then some n else look S k
  | [], h, n, k, _ => by
    show (if h = k then some n else none) = _
    by_cases e : h = k
    · rw [if_pos e, if_pos e.symm]
    · rw [if_neg e, if_neg fun q => e q.symm]; rfl
  | p :: S, h, n, k, q => by
    unfold look at q
    by_cases e : p.1 = h
    · rw [if_pos e] at q; cases q
    · rw [if_neg e] at q
      rw [List.cons_append]
      unfold look
      by_cases e2 : p.1 = k
      · rw [if_pos e2, if_pos e2, if_neg (by rw [← e2]; exact e)]
      · rw [if_neg e2, if_neg e2, look_app S h n k q]
theorem look_put (S : Szs) (h : Str) (n : Nat) (k : Str) : look (putS S h n) k = if k = h then some n else look S k := by
  cases e : look S h with
  | none => rw [putS_none e, look_app S h n k e]
  | some m =>
    rw [putS_some (by rw [e]; rfl), look_map]
    by_cases e2 : k = h
    · rw [if_pos e2, if_pos e2, e2, e]; rfl
    · rw [if_neg e2, if_neg e2]
theorem look_mem : ∀ {S : Szs} {h : Str} {n : Nat}, look S h = some n → (h, n) ∈ S
  | [], _, _, q => by cases q
  | p :: S, h, n, q => by
    unfold look at q
    by_cases e : p.1 = h
    · rw [if_pos e] at q
      cases q
      rw [← e]
      exact List.mem_cons_self ..
    · rw [if_neg e] at q
      exact List.mem_cons_of_mem _ (look_mem q)
/-- the size beneath parts -/
def sizeP (S : Szs) : List Str → Option Nat
  | [] => some 0
  | p :: r => if isSg p = true then sizeP S r else (look S p).bind fun n => (sizeP S r).map (n + ·)
theorem sizeP_app (S : Szs) : ∀ (a b : List Str), sizeP S (a ++ b) = (sizeP S a).bind fun n => (sizeP S b).map (n + ·)
  | [], b => by
    show sizeP S b = _
    cases sizeP S b <;> simp [sizeP]
  | p :: a, b => by
    show (if isSg p = true then sizeP S (a ++ b) else (look S p).bind fun n => (sizeP S (a ++ b)).map (n + ·)) = (if isSg p = true then sizeP S a else (look S p).bind fun n => (sizeP S a).map (n + ·)).bind _
    rw [sizeP_app S a b]
    by_cases e : isSg p = true
    · rw [if_pos e, if_pos e]
    · rw [if_neg e, if_neg e]
      cases look S p <;> simp
      cases sizeP S a <;> simp
      cases sizeP S b <;> simp
      omega
theorem sizeP_bad {S : Szs} {ps : List Str} {p : Str} (hm : p ∈ ps) (hs : isSg p = false) (hl : look S p = none) : sizeP S ps = none := by
  obtain ⟨a, b, rfl⟩ := List.append_of_mem hm
  rw [sizeP_app]
  cases sizeP S a with
  | none => rfl
  | some n =>
    show (sizeP S (p :: b)).map _ = none
    have : sizeP S (p :: b) = none := by
      show (if isSg p = true then _ else (look S p).bind _) = none
      rw [hs, hl]
      rfl
    rw [this]
    rfl
/-- S is no worse than S' -/
def Le (S' S : Szs) : Prop := ∀ h n, look S h = some n → ∃ m, look S' h = some m ∧ m ≤ n
theorem Le.refl (S : Szs) : Le S S := fun _ n e => ⟨n, e, Nat.le_refl _⟩
theorem sizeP_le {S S' : Szs} (l : Le S' S) : ∀ {ps : List Str} {n : Nat}, sizeP S ps = some n → ∃ m, sizeP S' ps = some m ∧ m ≤ n
  | [], n, e => ⟨0, rfl, Nat.zero_le _⟩
  | p :: r, n, e => by
    have e : (if isSg p = true then sizeP S r else (look S p).bind fun n => (sizeP S r).map (n + ·)) = some n := e
    show ∃ m, (if isSg p = true then sizeP S' r else (look S' p).bind fun n => (sizeP S' r).map (n + ·)) = some m ∧ m ≤ n
    by_cases c : isSg p = true
    · rw [if_pos c] at e ⊢
      exact sizeP_le l e
    · rw [if_neg c] at e ⊢
      cases h1 : look S p with
      | none => rw [h1] at e; cases e
      | some a =>
        cases h2 : sizeP S r with
        | none => rw [h1, h2] at e; cases e
        | some b =>
          rw [h1, h2] at e
          have e : a + b = n := Option.some.inj e
          obtain ⟨a', q1, q2⟩ := l p a h1
          obtain ⟨b', q3, q4⟩ := sizeP_le l h2
          exact ⟨a' + b', by rw [q1, q3]; rfl, by omega⟩
/-- whether a rule betters a size -/
def betters (S : Szs) (r : Rl) : Option Nat :=
  match sizeP S r.parts with
  | none => none
  | some m => match look S r.head with
    | none => some (m + 1)
    | some n => if m + 1 < n then some (m + 1) else none
def stepS (S : Szs) (r : Rl) : Szs := match betters S r with
  | none => S
  | some n => putS S r.head n
def passS (rs : List Rl) (S : Szs) : Szs := rs.foldl stepS S
def iterS (rs : List Rl) : Nat → Szs
  | 0 => []
  | k + 1 => passS rs (iterS rs k)
theorem stepS_le (S : Szs) (r : Rl) : Le (stepS S r) S := by
  unfold stepS betters
  cases sizeP S r.parts with
  | none => exact Le.refl _
  | some m =>
    cases hl : look S r.head with
    | none =>
      intro h n e
      refine ⟨n, ?_, Nat.le_refl _⟩
      rw [look_put, if_neg (fun q => by rw [q, hl] at e; cases e)]
      exact e
    | some k =>
      show Le (match if m + 1 < k then some (m + 1) else none with | none => S | some n => putS S r.head n) S
      by_cases c : m + 1 < k
      · rw [if_pos c]
        intro h n e
        show ∃ x, look (putS S r.head (m + 1)) h = some x ∧ x ≤ n
        rw [look_put]
        by_cases q : h = r.head
        · rw [if_pos q]
          rw [q, hl] at e
          cases e
          exact ⟨_, rfl, by omega⟩
        · rw [if_neg q]
          exact ⟨n, e, Nat.le_refl _⟩
      · rw [if_neg c]
        exact Le.refl _
/-- what holds all along -/
structure Grow (rs : List Rl) (S : Szs) : Prop where
  nd : (S.map (·.1)).Nodup
  why : ∀ h n, look S h = some n → ∃ r ∈ rs, r.head = h ∧ ∃ m, sizeP S r.parts = some m ∧ m + 1 ≤ n
  cap : ∀ h n, look S h = some n → n ≤ 7 ^ S.length
theorem Grow.nil (rs : List Rl) : Grow rs [] := ⟨List.nodup_nil, (by intro h n e; cases e), (by intro h n e; cases e)⟩
theorem keys_put (S : Szs) (h : Str) (n : Nat) : (putS S h n).map (·.1) = if (look S h).isSome = true then S.map (·.1) else S.map (·.1) ++ [h] := by
  cases e : look S h with
  | none => rw [putS_none e, List.map_append, if_neg (by simp)]; rfl
  | some m =>
    rw [putS_some (by rw [e]; rfl), if_pos (by simp), List.map_map]
    apply List.map_congr_left
    intro p _
    show (if p.1 = h then (p.1, n) else p).1 = p.1
    split <;> rfl
theorem look_none {S : Szs} {h : Str} (e : look S h = none) : h ∉ S.map (·.1) := by
  induction S with
  | nil => simp
  | cons p S ih =>
    unfold look at e
    by_cases c : p.1 = h
    · rw [if_pos c] at e; cases e
    · rw [if_neg c] at e
      rw [List.map_cons, List.mem_cons]
      rintro (q | q)
      · exact c q.symm
      · exact ih e q
theorem mem_look {S : Szs} {h : Str} (e : h ∈ S.map (·.1)) : ∃ n, look S h = some n := by
  cases q : look S h with
  | none => exact absurd e (look_none q)
  | some n => exact ⟨n, rfl⟩
theorem sizeP_cap {S : Szs} {B : Nat} (c : ∀ h n, look S h = some n → n ≤ B) : ∀ {ps : List Str} {m : Nat}, sizeP S ps = some m → m ≤ ps.length * B
  | [], m, e => by cases e; exact Nat.zero_le _
  | p :: r, m, e => by
    have e : (if isSg p = true then sizeP S r else (look S p).bind fun n => (sizeP S r).map (n + ·)) = some m := e
    rw [List.length_cons, Nat.succ_mul]
    by_cases q : isSg p = true
    · rw [if_pos q] at e
      have := sizeP_cap c e
      omega
    · rw [if_neg q] at e
      cases h1 : look S p with
      | none => rw [h1] at e; cases e
      | some a =>
        cases h2 : sizeP S r with
        | none => rw [h1, h2] at e; cases e
        | some b =>
          rw [h1, h2] at e
          have e : a + b = m := Option.some.inj e
          have := sizeP_cap c h2
          have := c p a h1
          omega
theorem Grow.step {rs : List Rl} {S : Szs} {r : Rl} (g : Grow rs S) (hr : r ∈ rs) (h6 : r.parts.length ≤ 6) : Grow rs (stepS S r) := by
  have le := stepS_le S r
  cases hb : betters S r with
  | none =>
    have e : stepS S r = S := by unfold stepS; rw [hb]
    rw [e]
    exact g
  | some k =>
    have e : stepS S r = putS S r.head k := by unfold stepS; rw [hb]
    rw [e] at le ⊢
    obtain ⟨m, hm, hk, hlow⟩ : ∃ m, sizeP S r.parts = some m ∧ k = m + 1 ∧ ∀ n, look S r.head = some n → m + 1 < n := by
      unfold betters at hb
      cases hm : sizeP S r.parts with
      | none => rw [hm] at hb; cases hb
      | some m =>
        rw [hm] at hb
        cases hl : look S r.head with
        | none =>
          rw [hl] at hb
          cases hb
          exact ⟨m, rfl, rfl, fun n q => by cases q⟩
        | some n =>
          rw [hl] at hb
          have hb : (if m + 1 < n then some (m + 1) else none) = some k := hb
          by_cases c : m + 1 < n
          · rw [if_pos c] at hb
            cases hb
            exact ⟨m, rfl, rfl, fun n' q => by cases q; exact c⟩
          · rw [if_neg c] at hb; cases hb
    have hk7 : k ≤ 7 ^ (S.length + 1) ∧ (∀ n, look S r.head = some n → k ≤ 7 ^ S.length) := by
      refine ⟨?_, fun n q => ?_⟩
      · have h1 := sizeP_cap g.cap hm
        have h2 : r.parts.length * 7 ^ S.length ≤ 6 * 7 ^ S.length := Nat.mul_le_mul_right _ h6
        have h3 : 0 < 7 ^ S.length := Nat.pow_pos (by decide)
        rw [Nat.pow_succ]
        omega
      · have := g.cap _ _ q
        have := hlow n q
        omega
    have hlen : S.length ≤ (putS S r.head k).length ∧ (look S r.head = none → (putS S r.head k).length = S.length + 1) ∧ ((look S r.head).isSome = true → (putS S r.head k).length = S.length) := by
      have e := keys_put S r.head k
      have l1 : (putS S r.head k).length = ((putS S r.head k).map (·.1)).length := (List.length_map ..).symm
      rw [l1, e]
      cases look S r.head with
      | none => simp
      | some n => simp
    refine ⟨?_, fun h n q => ?_, fun h n q => ?_⟩
    · rw [keys_put]
      cases hl : look S r.head with
      | some n => rw [if_pos (by simp)]; exact g.nd
      | none =>
        rw [if_neg (by simp)]
        exact List.nodup_append.mpr ⟨g.nd, by simp, fun a ha b hb => by
          rw [List.mem_singleton.mp hb]
          exact fun z => look_none hl (by rw [← z]; exact ha)⟩
    · rw [look_put] at q
      by_cases c : h = r.head
      · rw [if_pos c] at q
        cases q
        obtain ⟨m', q1, q2⟩ := sizeP_le le hm
        exact ⟨r, hr, c.symm, m', q1, by omega⟩
      · rw [if_neg c] at q
        obtain ⟨r', h1, h2, m', h3, h4⟩ := g.why h n q
        obtain ⟨m'', q1, q2⟩ := sizeP_le le h3
        exact ⟨r', h1, h2, m'', q1, by omega⟩
    · rw [look_put] at q
      by_cases c : h = r.head
      · rw [if_pos c] at q
        cases q
        cases hl : look S r.head with
        | none => rw [hlen.2.1 hl]; exact hk7.1
        | some n' => rw [hlen.2.2 (by rw [hl]; rfl)]; exact hk7.2 n' hl
      · rw [if_neg c] at q
        exact Nat.le_trans (g.cap h n q) (Nat.pow_le_pow_right (by decide) hlen.1)
theorem nodup_len {α : Type} [DecidableEq α] : ∀ {l m : List α}, l.Nodup → (∀ x ∈ l, x ∈ m) → l.length ≤ m.length
  | [], _, _, _ => Nat.zero_le _
  | a :: l, m, nd, h => by
    have ha := h a (List.mem_cons_self ..)
    have nd' := List.nodup_cons.mp nd
    have := nodup_len (l := l) (m := m.erase a) nd'.2 fun x hx => (List.mem_erase_of_ne (fun z => nd'.1 (by rw [← z]; exact hx))).mpr (h x (List.mem_cons_of_mem _ hx))
    rw [List.length_erase_of_mem ha] at this
    have : 0 < m.length := List.length_pos_of_mem ha
    rw [List.length_cons]
    omega
theorem Grow.few {rs : List Rl} {S : Szs} (g : Grow rs S) : S.length ≤ rs.length := by
  have := nodup_len (m := rs.map Rl.head) g.nd fun x hx => by
    obtain ⟨n, hn⟩ := mem_look hx
    obtain ⟨r, h1, h2, _⟩ := g.why x n hn
    exact List.mem_map.mpr ⟨r, h1, h2⟩
  simpa using this
/-- what is left to better -/
def left (S : Szs) : Nat := (60 - S.length) * (7 ^ 60 + 1) + (S.map (·.2)).sum
theorem sum_put : ∀ {S : Szs} {h : Str} {n k : Nat}, (S.map (·.1)).Nodup → look S h = some n → k < n → ((putS S h k).map (·.2)).sum < (S.map (·.2)).sum
  | [], _, _, _, _, e, _ => by cases e
  | p :: S, h, n, k, nd, e, lt => by
    have nd' := List.nodup_cons.mp nd
    unfold look at e
    unfold putS
    by_cases c : p.1 = h
    · rw [if_pos c] at e ⊢
      cases e
      have same : (S.map fun q => if q.1 = h then (q.1, k) else q) = S := by
        have e2 : ∀ q ∈ S, (if q.1 = h then (q.1, k) else q) = id q := fun q hq => if_neg fun z => nd'.1 (by show p.1 ∈ _; rw [c, ← z]; exact List.mem_map.mpr ⟨q, hq, rfl⟩)
        rw [List.map_congr_left e2, List.map_id]
      rw [same]
      simp only [List.map_cons, List.sum_cons]
      omega
    · rw [if_neg c] at e ⊢
      have := sum_put nd'.2 e lt
      simp only [List.map_cons, List.sum_cons]
      omega
theorem left_step {rs : List Rl} {S : Szs} {r : Rl} {k : Nat} (g : Grow rs S) (hr : r ∈ rs) (h6 : r.parts.length ≤ 6) (h60 : rs.length ≤ 60) (hb : betters S r = some k) : left (stepS S r) < left S := by
  have g2 := g.step hr h6
  have e : stepS S r = putS S r.head k := by unfold stepS; rw [hb]
  have f2 := g2.few
  rw [e] at f2 g2 ⊢
  cases hl : look S r.head with
  | none =>
    have hp := putS_none (n := k) hl
    rw [hp] at f2 g2 ⊢
    have hk : k ≤ 7 ^ 60 := by
      have := g2.cap r.head k (by rw [← hp, look_put, if_pos rfl])
      exact Nat.le_trans this (Nat.pow_le_pow_right (by decide) (by omega))
    unfold left
    rw [List.map_append, List.sum_append, List.length_append]
    rw [List.length_append] at f2
    simp only [List.length_cons, List.length_nil, List.map_cons, List.map_nil, List.sum_cons, List.sum_nil] at f2 ⊢
    have : 60 - S.length = (60 - (S.length + 1)) + 1 := by omega
    rw [this, Nat.succ_mul]
    omega
  | some n =>
    have lt : k < n := by
      unfold betters at hb
      cases hm : sizeP S r.parts with
      | none => rw [hm] at hb; cases hb
      | some m =>
        rw [hm, hl] at hb
        have hb : (if m + 1 < n then some (m + 1) else none) = some k := hb
        by_cases c : m + 1 < n
        · rw [if_pos c] at hb; cases hb; exact c
        · rw [if_neg c] at hb; cases hb
    have s := sum_put g.nd hl lt
    have l1 : (putS S r.head k).length = S.length := by
      have e := keys_put S r.head k
      rw [hl, if_pos (by rfl)] at e
      have := congrArg List.length e
      simpa using this
    unfold left
    rw [l1]
    omega
/-- where no rule betters any more -/
structure Done (rs : List Rl) (S : Szs) : Prop where
  g : Grow rs S
  it : ∃ k, S = iterS rs k
  no : ∀ r ∈ rs, betters S r = none
theorem Done.low {rs : List Rl} {S : Szs} (d : Done rs S) {r : Rl} {m : Nat} (hr : r ∈ rs) (hm : sizeP S r.parts = some m) : ∃ n, look S r.head = some n ∧ n ≤ m + 1 := by
  have := d.no r hr
  unfold betters at this
  rw [hm] at this
  cases hl : look S r.head with
  | none => rw [hl] at this; cases this
  | some n =>
    rw [hl] at this
    have this : (if m + 1 < n then some (m + 1) else none) = none := this
    by_cases c : m + 1 < n
    · rw [if_pos c] at this; cases this
    · exact ⟨n, rfl, by omega⟩
theorem Done.pass {rs : List Rl} {S : Szs} (d : Done rs S) : passS rs S = S := by
  have : ∀ l : List Rl, (∀ r ∈ l, r ∈ rs) → l.foldl stepS S = S := by
    intro l
    induction l with
    | nil => intro _; rfl
    | cons r l ih =>
      intro h
      have e : stepS S r = S := by unfold stepS; rw [d.no r (h r (List.mem_cons_self ..))]
      rw [List.foldl_cons, e]
      exact ih fun x hx => h x (List.mem_cons_of_mem _ hx)
  exact this rs fun _ h => h
theorem Done.one {rs : List Rl} {S S' : Szs} (d : Done rs S) (d' : Done rs S') : S = S' := by
  obtain ⟨k, hk⟩ := d.it
  obtain ⟨k', hk'⟩ := d'.it
  have stay : ∀ {k : Nat} {S : Szs}, S = iterS rs k → passS rs S = S → ∀ j, iterS rs (k + j) = S := by
    intro k S e p j
    induction j with
    | zero => exact e.symm
    | succ j ih =>
      show passS rs (iterS rs (k + j)) = S
      rw [ih, p]
  have a := stay hk d.pass k'
  have b := stay hk' d'.pass k
  rw [Nat.add_comm] at b
  exact a.symm.trans b
/-- a size is the least one over the rules -/
theorem Done.why {rs : List Rl} {S : Szs} (d : Done rs S) {h : Str} {n : Nat} (e : look S h = some n) : ∃ r ∈ rs, r.head = h ∧ sizeP S r.parts = some (n - 1) ∧ 1 ≤ n := by
  obtain ⟨r, h1, h2, m, h3, h4⟩ := d.g.why h n e
  obtain ⟨n', q1, q2⟩ := d.low h1 h3
  rw [h2, e] at q1
  cases q1
  exact ⟨r, h1, h2, by rw [h3]; congr 1; omega, by omega⟩
def natV : Option Nat → V
  | none => .non
  | some n => .int (n : Nat)
theorem dget_sz {H : Hp} {d : Addr} {S : Szs} {h : Str} (e : H d = some (.dK (szK S))) : DGet H d (.str h) ((look S h).map fun n => V.int (n : Nat)) := by
  have := DGet.k (k := .inr h) e
  rw [valV_sz] at this
  exact this
theorem part_first {q : Str} (h : isPartS q = true) : ∃ c l, tl q = c :: l ∧ isSg q = decide (c = 39) := by
  rcases Bool.or_eq_true_iff.mp h with h | h
  · obtain ⟨c, e, _⟩ := sign_is h
    exact ⟨39, [c], e, by unfold isSg; rw [e]; rfl⟩
  · have hf := name_free h (s := 39) (by decide)
    cases e : tl q with
    | nil =>
      unfold isNameS at h
      simp only [Bool.and_eq_true, decide_eq_true_eq] at h
      have := h.1.1
      rw [len_tl, e] at this
      simp at this
    | cons c l =>
      refine ⟨c, l, rfl, ?_⟩
      unfold isSg
      rw [e]
      rw [e] at hf
      have : c ≠ 39 := fun z => hf (by rw [z]; exact List.mem_cons_self ..)
      rw [decide_eq_false this]
      simp [this]
theorem part_sg {p : Str} (h : isPartS p = true) : (∃ c l, tl p = c :: l) ∧ p.length ≤ 1000000 := by
  obtain ⟨c, l, e, _⟩ := part_first h
  exact ⟨⟨c, l, e⟩, Nat.le_trans (part_len h) (by decide)⟩
theorem take_snoc {α : Type} {l : List α} {i : Nat} {x : α} (h : l[i]? = some x) : l.take (i + 1) = l.take i ++ [x] := by
  have hl := (List.getElem?_eq_some_iff.mp h).1
  rw [← List.take_append_getElem hl, (List.getElem?_eq_some_iff.mp h).2]
theorem map_get {α : Type} {f : α → V} {l : List α} {i : Nat} {x : V} (h : (l.map f)[i]? = some x) : ∃ y, l[i]? = some y ∧ x = f y := by
  rw [List.getElem?_map] at h
  cases e : l[i]? with
  | none => rw [e] at h; cases h
  | some y => rw [e] at h; exact ⟨y, rfl, (Option.some.inj h).symm⟩
def abcL : List Nat := [65, 66, 67, 68, 69, 70, 71, 72, 73, 74, 75, 76, 77, 78, 79, 80, 81, 82, 83, 84, 85, 86, 87, 88, 89, 90]
theorem abc_at {i : Int} (h0 : 0 ≤ i) (h1 : i < 26) {L : List Nat} (hL : L = abcL) : ∃ c, atI L i = some c ∧ 65 ≤ c ∧ c ≤ 90 := by
  subst hL
  exact atI_all (P := fun c => 65 ≤ c ∧ c ≤ 90) h0 (by simpa [abcL] using h1) (by decide)
theorem abc_tl : tl (Str.ofString "ABCDEFGHIJKLMNOPQRSTUVWXYZ") = abcL := by decide +kernel
/-- n letters -/
structure Letters (n : Nat) (z : Str) : Prop where
  len : z.length = n
  all : ∀ c ∈ tl z, 65 ≤ c ∧ c ≤ 90
theorem Letters.name {n : Nat} {z : Str} (h : Letters n z) (h1 : 1 ≤ n) (h2 : n ≤ 8) : isNameS z = true := by
  unfold isNameS
  rw [h.len, decide_eq_true h1, decide_eq_true h2]
  simp only [Bool.and_self, Bool.true_and, List.all_eq_true, Bool.and_eq_true, decide_eq_true_eq]
  exact h.all
theorem Letters.snoc {n : Nat} {z : Str} {c : Nat} (h : Letters n z) (h1 : 65 ≤ c) (h2 : c ≤ 90) : Letters (n + 1) (z ++ ⟨#[c]⟩) := by
  refine ⟨?_, fun d hd => ?_⟩
  · rw [len_tl, tl_append, List.length_append, ← len_tl, h.len]
    rfl
  · rw [tl_append] at hd
    rcases List.mem_append.mp hd with q | q
    · exact h.all d q
    · have : d = c := by simpa [tl] using q
      rw [this]
      exact ⟨h1, h2⟩
theorem lenA (x y : Str) : (x ++ y).length = x.length + y.length := by rw [len_tl, tl_append, List.length_append, ← len_tl, ← len_tl]
theorem Letters.zero : Letters 0 (Str.ofString "") := ⟨by decide +kernel, by
  have e : tl (Str.ofString "") = [] := by decide +kernel
  rw [e]
  simp⟩
theorem Letters.one {c : Nat} (h1 : 65 ≤ c) (h2 : c ≤ 90) : Letters 1 ⟨#[c]⟩ := ⟨rfl, fun d hd => by
  have : d = c := by simpa [tl] using hd
  rw [this]
  exact ⟨h1, h2⟩⟩
theorem Letters.app {n m : Nat} {a b : Str} (h : Letters n a) (k : Letters m b) : Letters (n + m) (a ++ b) := ⟨by rw [lenA, h.len, k.len], fun c hc => by
  rw [tl_append] at hc
  rcases List.mem_append.mp hc with q | q
  · exact h.all c q
  · exact k.all c q⟩
theorem Letters.to {n : Nat} {z : Str} {i : Int} (h : Letters n z) (h0 : 0 ≤ i) (h1 : i ≤ n) : Letters i.toNat (cutS z none (some i)) := ⟨by
  rw [len_tl, cutS_to z h0, List.length_take, ← len_tl, h.len]
  omega, fun c hc => by
  rw [cutS_to z h0] at hc
  exact h.all c (List.mem_of_mem_take hc)⟩
theorem Letters.from {n : Nat} {z : Str} {i : Int} (h : Letters n z) (h0 : 0 ≤ i) (h1 : i ≤ n) : Letters (n - i.toNat) (cutS z (some i) none) := ⟨by
  rw [len_tl, cutS_from z h0, List.length_drop, ← len_tl, h.len], fun c hc => by
  rw [cutS_from z h0] at hc
  exact h.all c (List.mem_of_mem_drop hc)⟩
theorem Letters.rep {n k : Nat} {z y : Str} (h : Letters n z) (e : tl y = (List.replicate k (tl z)).flatten) : Letters (k * n) y := ⟨by
  rw [len_tl, e, List.length_flatten, List.map_replicate, List.sum_replicate_nat, ← len_tl, h.len], fun c hc => by
  rw [e] at hc
  obtain ⟨l, hl, hc2⟩ := List.mem_flatten.mp hc
  rw [List.eq_of_mem_replicate hl] at hc2
  exact h.all c hc2⟩
theorem strs_of {ys : List V} {P : Str → Prop} (h : ∀ y ∈ ys, ∃ p, y = .str p ∧ P p) : ∃ ps : List Str, ys = ps.map V.str ∧ ∀ p ∈ ps, P p := by
  induction ys with
  | nil => exact ⟨[], rfl, by simp⟩
  | cons y ys ih =>
    obtain ⟨p, rfl, hp⟩ := h y (List.mem_cons_self ..)
    obtain ⟨ps, rfl, hps⟩ := ih fun z hz => h z (List.mem_cons_of_mem _ hz)
    exact ⟨p :: ps, rfl, fun q hq => by
      rcases List.mem_cons.mp hq with rfl | hq
      · exact hp
      · exact hps q hq⟩
theorem ix_any {H : Hp} {p : Addr} {xs : List V} {i : Int} (k : H p = some (.lst xs)) (P : V → Prop) (hP : ∀ x ∈ xs, P x) (h0 : 0 ≤ i) (h1 : i < xs.length) : ∃ v, atI xs i = some v ∧ P v := atI_all (P := P) h0 h1 hP

def isTextD : PyData → Bool
  | .str z => decide (z.length ≤ 60) && (tl z).all okc
  | _ => false
theorem textD_no {d : PyData} (h : isK d "str" = false) : isTextD d = false := by
  cases d <;> first | rfl | (exact Bool.noConfusion h)
def R_checked_text (K : PySem.W.Frag) (cs : Cs) : V → Hp → VK → XK → Prop := fun x H Q E => ∃ d, Th K H x d ∧ (isTextD d = true → Q x H) ∧ (isTextD d = false → E (.ref cs.NoText) none H)
section
set_option hygiene false in
local macro_rules | `(tactic| top_name) => `(tactic| first | refine e_call (df_may_stand T) (hr.mono (by decide)) ?_)
set_option hygiene false in
local macro_rules | `(tactic| top_raise) => `(tactic| first | refine s_raise T.x_NoText ?_)
theorem ok_checked_text {f : Addr} {fd : FuncData} (F : Fun K "checked_text" "checked_text" s_checked_text f fd) (T : Txt K mg cs) : FnOk P w K mg base (L2.CX P w) 2 f fd ["thing"] (sp1 (R_checked_text K cs)) := by
  refine F.okX sc_checked_text (fun vs H Q E h => sp1_len h) (fun cdv A outer s H vs Q E hr h => ⟨_, PBw (X := X_checked_text P w K mg base f cdv A outer s H E), ?_⟩)
  obtain ⟨a0, rfl, h⟩ := h
  obtain ⟨t_MOST_SIGNS, h_MOST_SIGNS⟩ := T.k_MOST_SIGNS
  have ib_MOST_SIGNS : Gn mg "MOST_SIGNS" (some _) := ⟨h_MOST_SIGNS⟩
  have ib_NoText : Gn mg "NoText" (some _) := ⟨T.x_NoText.mg⟩
  have ib_isinstance := T.b_isinstance
  have ib_str := T.b_str
  have ib_len := T.b_len
  have hr' : Room 1 (X_checked_text P w K mg base f cdv A outer s H E).A := hr
  replace hr := hr'
  clear hr'
  obtain ⟨d, hd, h1, h2⟩ := h
  wp_step
  refine k_isStr hd ⟨_, rfl, ?_⟩
  rcases no_str (d := d) with ⟨z, rfl⟩ | ⟨e1, _, _⟩
  · cases hd with
    | str _ hz =>
    wp_step
    refine k_lenS (sz1m hz) ?_
    wp_step
    refine iteD (fun c => ?_) fun c => ?_
    · wp_step
      refine s_raise T.x_NoText ?_
      refine h2 ?_
      show (decide (z.length ≤ 60) && _) = false
      rw [decide_eq_false (by omega), Bool.false_and]
    · wp_step
      have hgood : isTextD (.str z) = (tl z).all okc := by
        show (decide (z.length ≤ 60) && _) = _
        rw [decide_eq_true (by omega), Bool.true_and]
      rw [hgood] at h1 h2
      refine s_for (j_str ?_)
      wp_step
      refine ⟨_, _, _, walk_str, fun i σ' H' => (∃ v, σ' = [some (.str z), v]) ∧ H' = H ∧ ((tl z).take i).all okc = true, ⟨⟨_, rfl⟩, rfl, rfl⟩, fun _ _ _ _ _ => trivial, ?_, ?_⟩
      · rintro i x σ' H' H2 hi ⟨⟨v, rfl⟩, rfl, hall⟩ ⟨rfl, c, hc, rfl⟩
        have hc' : (tl z)[i]? = some c := by simpa [tl] using hc
        wp_step
        refine e_call (df_may_stand T) (hr.mono (by decide)) ?_
        wp_step
        cases ho : okc c with
        | true =>
          wp_step
          exact ⟨⟨_, rfl⟩, rfl, by rw [all_snoc hc', hall, ho]; rfl⟩
        | false =>
          wp_step
          refine s_raise T.x_NoText ?_
          exact h2 (all_cut hc' ho)
      · rintro σ' H' ⟨⟨v, rfl⟩, rfl, hall⟩
        wp_step
        rw [show z.cps.size = (tl z).length by simp [tl], List.take_length] at hall
        exact h1 hall
  · rw [e1]
    wp_step
    refine s_raise T.x_NoText ?_
    exact h2 (textD_no e1)

end
theorem df_checked_text (T : Txt K mg cs) : Df P w K mg base "checked_text" 2 ["thing"] (sp1 (R_checked_text K cs)) := by
  obtain ⟨f, fd, hm, F, hb⟩ := T.f_checked_text.ex
  exact ⟨f, fd, hm, F.kp, hb, ok_checked_text F T⟩
inductive Deed where
  | keep (c : Nat) | cut (c : Nat) | put (c : Nat) | swap (c d : Nat)
  deriving DecidableEq
def oneL : List Nat → Option Nat
  | [c] => if okc c = true then some c else none
  | _ => none
def oneD : PyData → Option Nat
  | .str z => oneL (tl z)
  | _ => none
def deedL (w : Str) : List PyData → Option Deed
  | [a] => (oneD a).bind fun c => if w = Str.ofString "keep" then some (.keep c) else if w = Str.ofString "cut" then some (.cut c) else if w = Str.ofString "put" then some (.put c) else none
  | [a, b] => (oneD a).bind fun c => (oneD b).bind fun d => if w = Str.ofString "swap" ∧ ¬ c = d then some (.swap c d) else none
  | _ => none
def deedD : PyData → Option Deed
  | .tuple (.str w :: r) => deedL w r
  | _ => none
/-- what a change makes of signs -/
def changeL : List Nat → List Deed → Option (List Nat)
  | l, [] => if l = [] then some [] else none
  | l, .put c :: r => (changeL l r).map (c :: ·)
  | x :: l, .keep c :: r => if x = c then (changeL l r).map (c :: ·) else none
  | x :: l, .cut c :: r => if x = c then changeL l r else none
  | x :: l, .swap c d :: r => if x = c then (changeL l r).map (d :: ·) else none
  | [], _ :: _ => none
theorem one_of {z : Str} : isSignS (Str.ofString "'" ++ z) = (oneL (tl z)).isSome := by
  have e : tl (Str.ofString "'" ++ z) = 39 :: tl z := by rw [tl_append, show tl (Str.ofString "'") = [39] from by decide +kernel]; rfl
  unfold isSignS
  rw [e]
  match tl z with
  | [] => rfl
  | [c] =>
    show (decide (39 = 39) && okc c) = (oneL [c]).isSome
    cases h : okc c <;> simp [oneL, h]
  | _ :: _ :: _ => rfl
/-- texts in a thing are short -/
def shortD : PyData → Prop
  | .str z => z.length ≤ 1000
  | _ => True
theorem one_no {d : PyData} (h : isK d "str" = false) : oneD d = none := by
  cases d <;> first | rfl | (exact Bool.noConfusion h)
def shortAll (ds : List PyData) : Prop := ∀ d ∈ ds, shortD d
theorem deed_len {w : Str} {r : List PyData} (h : ¬ (r.length = 1 ∨ r.length = 2)) : deedL w r = none := by
  match r, h with
  | [], _ => rfl
  | [_], h => exact absurd (.inl rfl) h
  | [_, _], h => exact absurd (.inr rfl) h
  | _ :: _ :: _ :: _, _ => rfl
theorem deed_bad {w : Str} {r : List PyData} {d : PyData} (hm : d ∈ r) (h : oneD d = none) : deedL w r = none := by
  match r, hm with
  | [a], hm =>
    rw [List.mem_singleton] at hm
    subst hm
    simp [deedL, h]
  | [a, b], hm =>
    simp only [List.mem_cons, List.not_mem_nil, or_false] at hm
    rcases hm with rfl | rfl
    · simp [deedL, h]
    · cases e : oneD a <;> simp [deedL, h, e]
  | _ :: _ :: _ :: _, _ => rfl
theorem th_tup {K : PySem.W.Frag} {H : Hp} {v : V} {d : PyData} (h : Th K H v d) : (∃ a vs ds, v = .ref a ∧ d = .tuple ds ∧ SqT K H a vs ∧ ThAll K H vs ds) ∨ isK d "tuple" = false := by
  cases h <;> first | exact .inl ⟨_, _, _, rfl, rfl, ‹_›, ‹_›⟩ | exact .inr rfl
theorem two_of {K : PySem.W.Frag} {H : Hp} {vs : List V} {ds : List PyData} (h : ThAll K H vs ds) (hl : vs.length = 2) : ∃ a b x y, ds = [a, b] ∧ vs = [x, y] ∧ Th K H x a ∧ Th K H y b := by
  cases h with
  | nil => simp at hl
  | cons h0 h => cases h with
    | nil => simp at hl
    | cons h1 h => cases h with
      | nil => exact ⟨_, _, _, _, rfl, rfl, h0, h1⟩
      | cons h2 h => simp at hl
theorem one_of2 {K : PySem.W.Frag} {H : Hp} {vs : List V} {ds : List PyData} (h : ThAll K H vs ds) (hl : vs.length = 1) : ∃ a x, ds = [a] ∧ vs = [x] ∧ Th K H x a := by
  cases h with
  | nil => simp at hl
  | cons h0 h => cases h with
    | nil => exact ⟨_, _, rfl, rfl, h0⟩
    | cons h1 h => simp at hl
theorem one_is {K : PySem.W.Frag} {H : Hp} {v : V} {d : PyData} (h : Th K H v d) (ho : (oneD d).isSome = true) : ∃ z c, d = .str z ∧ v = .str z ∧ oneD (.str z) = some c := by
  cases h <;> first | (obtain ⟨c, hc⟩ := Option.isSome_iff_exists.mp ho; exact ⟨_, c, rfl, rfl, hc⟩) | (exact Bool.noConfusion ho)
theorem one_tl {z : Str} {c : Nat} (h : oneD (.str z) = some c) : tl z = [c] := by
  have h : oneL (tl z) = some c := h
  match e : tl z, h with
  | [x], h =>
    have h : (if okc x = true then some x else none) = some c := h
    by_cases q : okc x = true
    · rw [if_pos q] at h
      rw [Option.some.inj h]
    · rw [if_neg q] at h
      cases h
  | [], h => cases h
  | _ :: _ :: _, h => cases h
theorem swap_is {za zb : Str} {ca cb : Nat} (ea : oneD (.str za) = some ca) (eb : oneD (.str zb) = some cb) : (deedL (Str.ofString "swap") [.str za, .str zb]).isSome = !decide (za = zb) := by
  have e : (za = zb) ↔ ca = cb := ⟨fun q => by
    have := one_tl ea
    rw [q, one_tl eb] at this
    simpa using this.symm, fun q => ext_tl (by rw [one_tl ea, one_tl eb, q])⟩
  simp only [deedL, ea, eb, Option.bind_some]
  by_cases q : ca = cb
  · rw [if_neg (by simp [q]), decide_eq_true (e.mpr q)]; rfl
  · rw [if_pos (by simp [q]), decide_eq_false (fun z => q (e.mp z))]; rfl
theorem ne_w {a b : String} (h : ¬ Str.ofString a = Str.ofString b) : ¬ Str.ofString a = Str.ofString b := h
theorem swap_no {dr : List PyData} (h : ¬ dr.length = 2) : deedL (Str.ofString "swap") dr = none := by
  match dr, h with
  | [], _ => rfl
  | [a], _ =>
    have n1 : ¬ Str.ofString "swap" = Str.ofString "keep" := by decide +kernel
    have n2 : ¬ Str.ofString "swap" = Str.ofString "cut" := by decide +kernel
    have n3 : ¬ Str.ofString "swap" = Str.ofString "put" := by decide +kernel
    simp only [deedL, if_neg n1, if_neg n2, if_neg n3]
    cases oneD a <;> rfl
  | [_, _], h => exact absurd rfl h
  | _ :: _ :: _ :: _, _ => rfl
theorem word_no {w : Str} {dr : List PyData} (hw : ¬ w = Str.ofString "swap") (h : ¬ dr.length = 1) : deedL w dr = none := by
  match dr, h with
  | [], _ => rfl
  | [_], h => exact absurd rfl h
  | [a, b], _ =>
    simp only [deedL, hw, false_and, if_false]
    cases oneD a <;> cases oneD b <;> rfl
  | _ :: _ :: _ :: _, _ => rfl
theorem eqV_str (a b : Str) : eqV (.str a) (.str b) = decide (a = b) := by
  by_cases q : a = b
  · subst q; simp [eqV]
  · rw [decide_eq_false q]; simp [eqV, q]
theorem word_is {w za : Str} {ca : Nat} (ea : oneD (.str za) = some ca) : (deedL w [.str za]).isSome = inV (.str w) [.str (Str.ofString "keep"), .str (Str.ofString "cut"), .str (Str.ofString "put")] := by
  unfold inV
  simp only [List.any_cons, List.any_nil, Bool.or_false, eqV_str, deedL, ea, Option.bind_some]
  by_cases q1 : w = Str.ofString "keep"
  · rw [if_pos q1, decide_eq_true q1.symm]; rfl
  · rw [if_neg q1, decide_eq_false (fun z => q1 z.symm)]
    by_cases q2 : w = Str.ofString "cut"
    · rw [if_pos q2, decide_eq_true q2.symm]; rfl
    · rw [if_neg q2, decide_eq_false (fun z => q2 z.symm)]
      by_cases q3 : w = Str.ofString "put"
      · rw [if_pos q3, decide_eq_true q3.symm]; rfl
      · rw [if_neg q3, decide_eq_false (fun z => q3 z.symm)]; rfl
def deedsD : List PyData → Option (List Deed)
  | [] => some []
  | d :: r => (deedD d).bind fun e => (deedsD r).map (e :: ·)
def changedD (T : List Nat) : PyData → Option (List Nat)
  | .list ds => (deedsD ds).bind (changeL T)
  | _ => none
theorem deeds_cut : ∀ {ds : List PyData} {i : Nat} {d : PyData}, ds[i]? = some d → deedD d = none → deedsD ds = none
  | [], _, _, h, _ => by simp at h
  | a :: ds, 0, d, h, k => by
    have : a = d := by simpa using h
    subst this
    simp [deedsD, k]
  | a :: ds, i + 1, d, h, k => by
    have := deeds_cut (ds := ds) (i := i) (by simpa using h) k
    cases e : deedD a <;> simp [deedsD, e, this]
theorem deeds_app : ∀ (xs ys : List PyData), deedsD (xs ++ ys) = (deedsD xs).bind fun a => (deedsD ys).map (a ++ ·)
  | [], ys => by cases e : deedsD ys <;> simp [deedsD, e]
  | x :: xs, ys => by
    show ((deedD x).bind fun e => (deedsD (xs ++ ys)).map (e :: ·)) = ((deedD x).bind fun e => (deedsD xs).map (e :: ·)).bind fun a => (deedsD ys).map (a ++ ·)
    rw [deeds_app xs ys]
    cases deedD x <;> simp
    cases deedsD xs <;> simp
    cases deedsD ys <;> simp
/-- as far as the first deeds l: place and what is made -/
structure Way (T : List Nat) (l : List Deed) (place : Nat) (made : List Nat) : Prop where
  le : place ≤ T.length
  eq : ∀ r, changeL T (l ++ r) = (changeL (T.drop place) r).map (made ++ ·)
theorem Way.start (T : List Nat) : Way T [] 0 [] := ⟨Nat.zero_le _, fun r => by simp⟩
theorem Way.put {T : List Nat} {l : List Deed} {p : Nat} {m : List Nat} (w : Way T l p m) (c : Nat) : Way T (l ++ [.put c]) p (m ++ [c]) := ⟨w.le, fun r => by
  rw [List.append_assoc, w.eq]
  show ((changeL (T.drop p) (.put c :: r)).map _) = _
  have e : changeL (T.drop p) (.put c :: r) = (changeL (T.drop p) r).map (c :: ·) := by cases T.drop p <;> rfl
  rw [e]
  cases changeL (T.drop p) r <;> simp⟩
theorem drop_at {T : List Nat} {p c : Nat} (h : T[p]? = some c) : T.drop p = c :: T.drop (p + 1) := by
  have hl := (List.getElem?_eq_some_iff.mp h).1
  rw [List.drop_eq_getElem_cons hl, (List.getElem?_eq_some_iff.mp h).2]
theorem Way.keep {T : List Nat} {l : List Deed} {p c : Nat} {m : List Nat} (w : Way T l p m) (h : T[p]? = some c) : Way T (l ++ [.keep c]) (p + 1) (m ++ [c]) := ⟨(List.getElem?_eq_some_iff.mp h).1, fun r => by
  rw [List.append_assoc, w.eq, drop_at h]
  show ((if c = c then (changeL (T.drop (p + 1)) r).map (c :: ·) else none).map _) = _
  rw [if_pos rfl]
  cases changeL (T.drop (p + 1)) r <;> simp⟩
theorem Way.cut {T : List Nat} {l : List Deed} {p c : Nat} {m : List Nat} (w : Way T l p m) (h : T[p]? = some c) : Way T (l ++ [.cut c]) (p + 1) m := ⟨(List.getElem?_eq_some_iff.mp h).1, fun r => by
  rw [List.append_assoc, w.eq, drop_at h]
  show ((if c = c then changeL (T.drop (p + 1)) r else none).map _) = _
  rw [if_pos rfl]⟩
theorem Way.swap {T : List Nat} {l : List Deed} {p c d : Nat} {m : List Nat} (w : Way T l p m) (h : T[p]? = some c) : Way T (l ++ [.swap c d]) (p + 1) (m ++ [d]) := ⟨(List.getElem?_eq_some_iff.mp h).1, fun r => by
  rw [List.append_assoc, w.eq, drop_at h]
  show ((if c = c then (changeL (T.drop (p + 1)) r).map (d :: ·) else none).map _) = _
  rw [if_pos rfl]
  cases changeL (T.drop (p + 1)) r <;> simp⟩
def takes : Deed → Option Nat
  | .keep c => some c
  | .cut c => some c
  | .swap c _ => some c
  | .put _ => none
theorem Way.stop {T : List Nat} {l : List Deed} {p c : Nat} {m : List Nat} {e : Deed} (w : Way T l p m) (he : takes e = some c) (h : ¬ T[p]? = some c) (r : List Deed) : changeL T (l ++ e :: r) = none := by
  rw [w.eq]
  have q : changeL (T.drop p) (e :: r) = none := by
    cases hd : T.drop p with
    | nil => cases e <;> first | rfl | cases he
    | cons x t =>
      have hx : T[p]? = some x := by
        have : (T.drop p)[0]? = some x := by rw [hd]; rfl
        rw [List.getElem?_drop] at this
        simpa using this
      have n : ¬ x = c := fun z => h (by rw [hx, z])
      cases e with
      | put c => cases he
      | keep c' => cases he; exact if_neg n
      | cut c' => cases he; exact if_neg n
      | swap c' d => cases he; exact if_neg n
  rw [q]
  rfl
theorem Way.last {T : List Nat} {l : List Deed} {p : Nat} {m : List Nat} (w : Way T l p m) : changeL T l = if p < T.length then none else some m := by
  have q := w.eq []
  rw [List.append_nil] at q
  rw [q]
  have := w.le
  by_cases h : p < T.length
  · rw [if_pos h]
    cases hd : T.drop p with
    | nil => have := List.drop_eq_nil_iff.mp hd; omega
    | cons x t => rfl
  · rw [if_neg h, List.drop_eq_nil_of_le (by omega)]
    simp [changeL]
/-- deeds whose texts are short -/
def shortDs (ds : List PyData) : Prop := ds.length ≤ 1000 ∧ ∀ d ∈ ds, ∀ es, d = .tuple es → shortAll es ∧ es.length ≤ 1000
theorem text_of {d : PyData} (h : isTextD d = true) : ∃ z, d = .str z ∧ z.length ≤ 60 := by
  cases d with
  | str z =>
    have h : (decide (z.length ≤ 60) && (tl z).all okc) = true := h
    rw [Bool.and_eq_true, decide_eq_true_eq] at h
    exact ⟨z, rfl, h.1⟩
  | _ => exact Bool.noConfusion h
theorem chg_no {T : List Nat} {d : PyData} (h : isK d "list" = false) : changedD T d = none := by
  cases d <;> first | rfl | (exact Bool.noConfusion h)
theorem no_lst2 {K : PySem.W.Frag} {H : Hp} {v : V} {d : PyData} (h : Th K H v d) : (∃ a vs ds, v = .ref a ∧ d = .list ds ∧ SqL K H a vs ∧ ThAll K H vs ds) ∨ isK d "list" = false := by
  cases h <;> first | exact .inl ⟨_, _, _, rfl, rfl, ‹_›, ‹_›⟩ | exact .inr rfl
/-- a deed as it stands -/
inductive DeedAt (K : PySem.W.Frag) (H : Hp) (a : Addr) : Deed → Prop
  | keep {z : Str} {c : Nat} : SqT K H a [.str (Str.ofString "keep"), .str z] → tl z = [c] → DeedAt K H a (.keep c)
  | cut {z : Str} {c : Nat} : SqT K H a [.str (Str.ofString "cut"), .str z] → tl z = [c] → DeedAt K H a (.cut c)
  | put {z : Str} {c : Nat} : SqT K H a [.str (Str.ofString "put"), .str z] → tl z = [c] → DeedAt K H a (.put c)
  | swap {z y : Str} {c d : Nat} : SqT K H a [.str (Str.ofString "swap"), .str z, .str y] → tl z = [c] → tl y = [d] → DeedAt K H a (.swap c d)
theorem deed_at {K : PySem.W.Frag} {H : Hp} {v : V} {d : PyData} {e : Deed} (h : Th K H v d) (q : deedD d = some e) : ∃ a, v = .ref a ∧ DeedAt K H a e := by
  rcases th_tup h with ⟨a, vs, ds, rfl, rfl, hs, ha⟩ | n
  · refine ⟨a, rfl, ?_⟩
    cases ha with
    | nil => cases q
    | @cons v0 vr d0 dr h0 hr =>
      cases h0 with
      | str w _ =>
        have q : deedL w dr = some e := q
        cases hr with
        | nil => cases q
        | @cons v1 vr2 d1 dr2 h1 hr2 =>
          cases ho : oneD d1 with
          | none => rw [deed_bad (List.mem_cons_self ..) ho] at q; cases q
          | some c1 =>
            obtain ⟨z1, _, rfl, rfl, _⟩ := one_is h1 (by rw [ho]; rfl)
            have t1 := one_tl ho
            cases hr2 with
            | nil =>
              simp only [deedL, ho, Option.bind_some] at q
              by_cases k1 : w = Str.ofString "keep"
              · rw [if_pos k1] at q; cases q; subst k1; exact .keep hs t1
              · rw [if_neg k1] at q
                by_cases k2 : w = Str.ofString "cut"
                · rw [if_pos k2] at q; cases q; subst k2; exact .cut hs t1
                · rw [if_neg k2] at q
                  by_cases k3 : w = Str.ofString "put"
                  · rw [if_pos k3] at q; cases q; subst k3; exact .put hs t1
                  · rw [if_neg k3] at q; cases q
            | @cons v2 vr3 d2 dr3 h2 hr3 =>
              cases hr3 with
              | cons _ _ => cases q
              | nil =>
                cases ho2 : oneD d2 with
                | none => rw [deed_bad (d := d2) (by simp) ho2] at q; cases q
                | some c2 =>
                  obtain ⟨z2, _, rfl, rfl, _⟩ := one_is h2 (by rw [ho2]; rfl)
                  have t2 := one_tl ho2
                  simp only [deedL, ho, ho2, Option.bind_some] at q
                  by_cases k : w = Str.ofString "swap" ∧ ¬ c1 = c2
                  · rw [if_pos k] at q; cases q; obtain ⟨k, _⟩ := k; subst k; exact .swap hs t1 t2
                  · rw [if_neg k] at q; cases q
      | _ => cases q
  · have : deedD d = none := by cases d <;> first | rfl | (exact Bool.noConfusion n)
    rw [this] at q
    cases q
theorem tl_join0 (ms : List Str) : tl (Txt.join (Str.ofString "") ms) = ms.flatMap tl := by
  have e : tl (Str.ofString "") = [] := by decide +kernel
  have q : ∀ l : List (List Nat), joinL [] l = l.flatten := by
    intro l
    induction l with
    | nil => rfl
    | cons a l ih =>
      cases l with
      | nil => simp [joinL]
      | cons b l =>
        show a ++ ([] ++ joinL [] (b :: l)) = _
        rw [ih]
        simp
  rw [join_eq, tl_join, e, q, List.flatMap_def]
theorem sum_ones : ∀ {l : List Str}, (∀ x ∈ l, x.length = 1) → (l.map Str.length).sum = l.length
  | [], _ => rfl
  | a :: l, h => by
    have := h a (List.mem_cons_self ..)
    have := sum_ones (l := l) fun x hx => h x (List.mem_cons_of_mem _ hx)
    simp only [List.map_cons, List.sum_cons, List.length_cons]
    omega
def cellAt (ns : List Int) (i : Int) : Int := ns.getD i.toNat 0
theorem get_ints {ns : List Int} {i : Int} (h0 : 0 ≤ i) (h1 : i < ns.length) : atI (ns.map V.int) i = some (.int (cellAt ns i)) := by
  refine atI_nat h0 ?_
  rw [List.getElem?_map, List.getElem?_eq_getElem (by omega)]
  show some (V.int _) = _
  rw [show cellAt ns i = ns[i.toNat] from by unfold cellAt; rw [List.getD_eq_getElem?_getD, List.getElem?_eq_getElem (by omega)]; rfl]
def R_law_cell_at (K : PySem.W.Frag) : V → V → Hp → VK → XK → Prop := fun x y H Q _ => ∃ (a : Addr) (ns : List Int) (i : Int), x = .ref a ∧ SqL K H a (ns.map V.int) ∧ y = .int i ∧ 0 ≤ i ∧ Q (.int (cellAt ns i)) H
section
theorem ok_law_cell_at {f : Addr} {fd : FuncData} (F : Fun K "_law_cell_at" "_law_cell_at" s_law_cell_at f fd) (T : Txt K mg cs) : FnOk P w K mg base (L2.CX P w) 1 f fd ["_law_script", "_law_k"] (sp2 (R_law_cell_at K)) := by
  refine F.okX sc_law_cell_at (fun vs H Q E h => sp2_len h) (fun cdv A outer s H vs Q E hr h => ⟨_, PBw (X := X_law_cell_at P w K mg base f cdv A outer s H E), ?_⟩)
  obtain ⟨a0, a1, rfl, h⟩ := h
  have ib_len := T.b_len
  have hr' : Room 0 (X_law_cell_at P w K mg base f cdv A outer s H E).A := hr
  replace hr := hr'
  clear hr'
  obtain ⟨a, ns, i, rfl, hS, rfl, h0, h⟩ := h
  wp_step
  refine k_lenL hS ?_
  wp_step
  rw [List.length_map]
  refine iteD (fun c => ?_) fun c => ?_
  · wp_step
    refine i_lst hS (get_ints h0 c) ?_
    exact h
  · wp_step
    have e : cellAt ns i = 0 := by
      unfold cellAt
      rw [List.getD_eq_getElem?_getD, List.getElem?_eq_none (by omega)]
      rfl
    rw [e] at h
    exact h
end
theorem df_law_cell_at (T : Txt K mg cs) : Df P w K mg base "_law_cell_at" 1 ["_law_script", "_law_k"] (sp2 (R_law_cell_at K)) := by
  obtain ⟨f, fd, hm, F, hb⟩ := T.f_law_cell_at.ex
  exact ⟨f, fd, hm, F.kp, hb, ok_law_cell_at F T⟩
def someS : Str := (Str.ofString " !\"#$&'()*+,-./0123456789:;<=>?@ABCDEFGHIJKLMNOPQRSTUVWXYZ[\\]^_`") ++ (Str.ofString "abcdefghijklmnopqrstuvwxyz{|}~")
theorem some_len : someS.length = 94 := by decide +kernel
theorem some_ok : (tl someS).all okc = true := by decide +kernel
theorem some_at {i : Int} (h0 : 0 ≤ i) (h1 : i < 94) : ∃ c, atI (tl someS) i = some c ∧ okc c = true :=
  atI_all (P := fun c => okc c = true) h0 (by rw [← len_tl, some_len]; exact h1) fun c hc => List.all_eq_true.mp some_ok c hc
theorem mem_some (c : Nat) : decide (c ∈ tl someS) = okc c := by
  by_cases h : c < 127
  · exact (by decide +kernel : ∀ m : Fin 127, decide ((m : Nat) ∈ tl someS) = okc m) ⟨c, h⟩
  · have e1 : okc c = false := by
      show (decide (32 ≤ c) && (decide (c ≤ 126) && _)) = false
      rw [decide_eq_false (show ¬ c ≤ 126 by omega), Bool.false_and, Bool.and_false]
    rw [e1]
    exact decide_eq_false fun q => h ((by decide +kernel : ∀ x ∈ tl someS, x < 127) c q)
theorem one_len (c : Nat) : (⟨#[c]⟩ : Str).length = 1 := rfl
theorem cutS_to_len (z : Str) {i : Int} (h : 0 ≤ i) : (cutS z none (some i)).length ≤ z.length := by
  rw [len_tl, cutS_to z h, len_tl]
  exact List.length_take_le' ..
theorem cutS_from_len (z : Str) {i : Int} (h : 0 ≤ i) : (cutS z (some i) none).length ≤ z.length := by
  rw [len_tl, cutS_from z h, len_tl, List.length_drop]
  omega
def R_law_mixed (K : PySem.W.Frag) : V → V → Hp → VK → XK → Prop := fun x y H Q _ => ∃ (a : Addr) (ns : List Int) (i : Int), x = .ref a ∧ SqL K H a (ns.map V.int) ∧ y = .int i ∧ 0 ≤ i ∧ i ≤ 1000 ∧ ∀ j, 0 ≤ j → j < 2147483647 → Q (.int j) H
section
set_option hygiene false in
local macro_rules | `(tactic| top_name) => `(tactic| first | refine e_call (df_law_cell_at T) (hr.mono (by decide)) ?_)
theorem ok_law_mixed {f : Addr} {fd : FuncData} (F : Fun K "_law_mixed" "_law_mixed" s_law_mixed f fd) (T : Txt K mg cs) : FnOk P w K mg base (L2.CX P w) 2 f fd ["_law_script", "_law_k"] (sp2 (R_law_mixed K)) := by
  refine F.okX sc_law_mixed (fun vs H Q E h => sp2_len h) (fun cdv A outer s H vs Q E hr h => ⟨_, PBw (X := X_law_mixed P w K mg base f cdv A outer s H E), ?_⟩)
  obtain ⟨a0, a1, rfl, h⟩ := h
  have hr' : Room 1 (X_law_mixed P w K mg base f cdv A outer s H E).A := hr
  replace hr := hr'
  clear hr'
  obtain ⟨a, ns, i, rfl, hS, rfl, h0, h1, h⟩ := h
  tm_run
  refine ⟨_, _, _, rfl, hS, rfl, h0, ?_⟩
  generalize hj : cellAt ns i = j
  have m0 : 0 ≤ j % 2147483629 := Int.emod_nonneg _ (by decide)
  have m1 : j % 2147483629 < 2147483629 := Int.emod_lt_of_pos _ (by decide)
  tm_run
  refine o_mulS (.inl ⟨by omega, by omega⟩) ?_
  tm_run
  refine o_mulS (.inl ⟨by omega, by omega⟩) ?_
  tm_run
  refine o_mulS (.inl ⟨by omega, by omega⟩) ?_
  tm_run
  refine o_mulS (.inr ⟨by omega, by omega⟩) ?_
  tm_run
  exact h _ (Int.emod_nonneg _ (by decide)) (Int.emod_lt_of_pos _ (by decide))
end
theorem df_law_mixed (T : Txt K mg cs) : Df P w K mg base "_law_mixed" 2 ["_law_script", "_law_k"] (sp2 (R_law_mixed K)) := by
  obtain ⟨f, fd, hm, F, hb⟩ := T.f_law_mixed.ex
  exact ⟨f, fd, hm, F.kp, hb, ok_law_mixed F T⟩
theorem len_to (z : Str) {i : Int} (h : 0 ≤ i) : (cutS z none (some i)).length = min i.toNat z.length := by rw [len_tl, cutS_to z h, List.length_take, ← len_tl]
theorem len_from (z : Str) {i : Int} (h : 0 ≤ i) : (cutS z (some i) none).length = z.length - i.toNat := by rw [len_tl, cutS_from z h, List.length_drop, ← len_tl]

theorem inV_str (h : Str) : ∀ hs : List Str, inV (.str h) (hs.map V.str) = decide (h ∈ hs)
  | [] => rfl
  | a :: hs => by
    have ih := inV_str h hs
    unfold inV at ih ⊢
    rw [List.map_cons, List.any_cons, ih]
    have e : eqV (.str a) (.str h) = decide (a = h) := by
      by_cases q : a = h
      · subst q
        rw [decide_eq_true rfl]
        simp [eqV]
      · rw [decide_eq_false q]
        simp [eqV, q]
    rw [e]
    by_cases q : a = h
    · subst q; simp
    · have q2 : ¬ h = a := fun z => q z.symm
      simp [q, q2]
theorem o_niL {X : Cx} {H : Hp} {Q : VK} {p : Addr} {h : Str} {hs : List Str} (k : SqL X.K H p (hs.map V.str)) (q : Q (.bl (!decide (h ∈ hs))) H) : oW X (compareOp .NotIn) (.str h) (.ref p) H Q :=
  oI op_notIn_seq ⟨p, _, rfl, .inl k, rfl, by
    rw [List.all_map]
    exact List.all_eq_true.mpr fun _ _ => rfl, by
    rw [if_pos rfl, inV_str]
    exact q⟩

def R_law_worth : V → Hp → VK → XK → Prop := fun x H Q _ => ∃ i, x = .int i ∧ ∀ n, 0 ≤ n → n ≤ top60 → Q (.int n) H
section
theorem ok_law_worth {f : Addr} {fd : FuncData} (F : Fun K "_law_worth" "_law_worth" s_law_worth f fd) (T : Txt K mg cs) : FnOk P w K mg base (L2.CX P w) 1 f fd ["_law_cell"] (sp1 (R_law_worth)) := by
  refine F.okX sc_law_worth (fun vs H Q E h => sp1_len h) (fun cdv A outer s H vs Q E hr h => ⟨_, PBw (X := X_law_worth P w K mg base f cdv A outer s H E), ?_⟩)
  obtain ⟨a0, rfl, h⟩ := h
  have hr' : Room 0 (X_law_worth P w K mg base f cdv A outer s H E).A := hr
  replace hr := hr'
  clear hr'
  obtain ⟨i, rfl, h⟩ := h
  have z : ∀ n, 0 ≤ n → n ≤ (1000000000000000000000000000000000000000000000000000000000000 : Int) → Q (.int n) H := h
  tm_run
  refine iteD (fun c => ?_) fun c => ?_
  · tm_run
    exact z _ (by omega) (by omega)
  · tm_run
    exact z _ (by omega) (by omega)
end
theorem df_law_worth (T : Txt K mg cs) : Df P w K mg base "_law_worth" 1 ["_law_cell"] (sp1 (R_law_worth)) := by
  obtain ⟨f, fd, hm, F, hb⟩ := T.f_law_worth.ex
  exact ⟨f, fd, hm, F.kp, hb, ok_law_worth F T⟩
theorem rule_part {c : Nat} (h : okc c = true) : isPartS (Str.ofString "'" ++ ⟨#[c]⟩) = true := by
  have e : tl (Str.ofString "'" ++ ⟨#[c]⟩) = [39, c] := by rw [tl_append, tl_q]; rfl
  show (isSignL (tl _) || _) = true
  rw [e]
  simp [isSignL, h]
theorem q1len : (Str.ofString "'").length = 1 := by decide +kernel
def barren (S : Szs) (ps : List Str) : List Str := ps.filter fun p => !isSg p && (look S p).isNone
theorem barren_iff (S : Szs) : ∀ ps : List Str, barren S ps = [] ↔ (sizeP S ps).isSome = true
  | [] => by simp [barren, sizeP]
  | p :: r => by
    have ih := barren_iff S r
    unfold barren at ih ⊢
    show _ ↔ (if isSg p = true then sizeP S r else (look S p).bind fun n => (sizeP S r).map (n + ·)).isSome = true
    rw [List.filter_cons]
    by_cases c : isSg p = true
    · rw [if_pos c, c]
      simpa using ih
    · have c' : isSg p = false := by simpa using c
      rw [if_neg c, c']
      cases hl : look S p with
      | none => simp
      | some n =>
        simp only [Bool.not_false, Option.isNone_some, Bool.and_false, Bool.false_eq_true, if_false, Option.bind_some]
        rw [ih]
        cases sizeP S r <;> simp
theorem strs_nil : ∀ l : List Str, PyData.eqv (.list (l.map .str)) (.list []) = decide (l = [])
  | [] => rfl
  | _ :: _ => rfl
theorem strs_sh {l : List Str} (h : ∀ p ∈ l, ∀ c ∈ tl p, c < 1114112) : Sh 1 (.list (l.map .str)) := .lst fun d hd => by
  obtain ⟨p, hp, rfl⟩ := List.mem_map.mp hd
  exact .str (h p hp)
theorem size_sum {S : Szs} : ∀ {ps : List Str} {m : Nat}, sizeP S ps = some m → ((ps.filter fun p => !isSg p).map fun p => (((look S p).getD 0 : Nat) : Int)).sum = (m : Int)
  | [], m, e => by cases e; rfl
  | p :: r, m, e => by
    have e : (if isSg p = true then sizeP S r else (look S p).bind fun n => (sizeP S r).map (n + ·)) = some m := e
    by_cases c : isSg p = true
    · rw [if_pos c] at e
      rw [List.filter_cons_of_neg (by rw [c]; simp)]
      exact size_sum e
    · rw [if_neg c] at e
      have c' : isSg p = false := by simpa using c
      rw [List.filter_cons_of_pos (by rw [c']; rfl), List.map_cons, List.sum_cons]
      cases hl : look S p with
      | none => rw [hl] at e; cases e
      | some n =>
        cases hr : sizeP S r with
        | none => rw [hl, hr] at e; cases e
        | some k =>
          rw [hl, hr] at e
          have e : n + k = m := Option.some.inj e
          rw [size_sum hr]
          simp only [Option.getD_some]
          omega
theorem look_of : ∀ {S : Szs} {h : Str} {n : Nat}, (S.map (·.1)).Nodup → (h, n) ∈ S → look S h = some n
  | [], _, _, _, q => by cases q
  | p :: S, h, n, nd, q => by
    have nd' := List.nodup_cons.mp nd
    unfold look
    rcases List.mem_cons.mp q with q | q
    · rw [← q, if_pos rfl]
    · rw [if_neg fun z => nd'.1 (by show p.1 ∈ _; rw [z]; exact List.mem_map.mpr ⟨_, q, rfl⟩)]
      exact look_of nd'.2 q

/-! ### rows and the texts that they give: the plain side -/
theorem atI_last {α : Type} {xs : List α} {y : α} : atI (xs ++ [y]) (-1) = some y := by
  unfold atI ixN
  rw [if_neg (by decide), List.length_append]
  have e : (-1 + ((xs.length + [y].length : Nat) : Int)).toNat = xs.length := by simp only [List.length_cons, List.length_nil]; omega
  rw [if_pos (by simp only [List.length_cons, List.length_nil]; omega)]
  simp only [e]
  show (xs ++ [y])[xs.length]? = some y
  rw [List.getElem?_append_right (Nat.le_refl _), Nat.sub_self]
  rfl
theorem takeWhile_ok {α : Type} {p : α → Bool} : ∀ {l : List α} {x : α}, x ∈ l.takeWhile p → p x = true
  | a :: l, x, h => by
    by_cases c : p a = true
    · rw [List.takeWhile_cons_of_pos c] at h
      rcases List.mem_cons.mp h with h | h
      · rw [h]; exact c
      · exact takeWhile_ok h
    · rw [List.takeWhile_cons_of_neg c] at h
      cases h
  | [], x, h => by cases h
def codeOf (p : Str) : Nat := (tl p).getD 1 0
def sgV (c : Nat) : V := .str ⟨#[c]⟩
theorem sign_tl {p : Str} (h : isPartS p = true) (hs : isSg p = true) : tl p = [39, codeOf p] ∧ okc (codeOf p) = true := by
  rcases Bool.or_eq_true_iff.mp h with h | h
  · obtain ⟨c, e, hc⟩ := sign_is h
    unfold codeOf
    rw [e]
    exact ⟨rfl, hc⟩
  · have := name_free h (s := 39) (by decide)
    unfold isSg at hs
    cases q : tl p with
    | nil => rw [q] at hs; cases hs
    | cons x t =>
      rw [q] at hs this
      have hs : (some x == some 39) = true := hs
      have : x ≠ 39 := fun z => this (by rw [z]; exact List.mem_cons_self ..)
      simp [this] at hs
/-- a number takes the place of the name that waits first -/
def stp (rs : List Rl) (d : PyData) (ps : List Str) : Option (List Str) := match d, ps with
  | .int i, p :: ps => if 0 ≤ i then (rs[i.toNat]?).bind fun r => if r.head = p then some (r.parts ++ ps) else none else none
  | _, _ => none
structure Rst where
  ps : List Str
  cs : List Nat
  bg : List Nat
def rowStep (rs : List Rl) (s : Rst) (d : PyData) : Option Rst := (stp rs d s.ps).map fun q => ⟨q.dropWhile isSg, s.cs ++ (q.takeWhile isSg).map codeOf, s.bg ++ [s.cs.length]⟩
def rowGo (rs : List Rl) : List PyData → Rst → Option Rst
  | [], s => some s
  | d :: ds, s => (rowStep rs s d).bind (rowGo rs ds)
def rowEnd : Option Rst → Option (List Nat × List Nat)
  | some ⟨[], cs, bg⟩ => some (cs, bg)
  | _ => none
def rowRead (rs : List Rl) (ds : List PyData) : Option (List Nat × List Nat) := match rs[0]? with
  | none => none
  | some r => rowEnd (rowGo rs ds ⟨[r.head], [], []⟩)
theorem rowGo_app (rs : List Rl) : ∀ (a b : List PyData) (s : Rst), rowGo rs (a ++ b) s = (rowGo rs a s).bind (rowGo rs b)
  | [], b, s => rfl
  | d :: a, b, s => by
    show (rowStep rs s d).bind (rowGo rs (a ++ b)) = ((rowStep rs s d).bind (rowGo rs a)).bind (rowGo rs b)
    cases rowStep rs s d with
    | none => rfl
    | some s' => exact rowGo_app rs a b s'
/-- what holds of a state -/
structure RstOk (rs : List Rl) (n : Nat) (s : Rst) : Prop where
  parts : ∀ p ∈ s.ps, isPartS p = true
  room : s.ps.length + s.cs.length ≤ 1 + 6 * n
  bl : s.bg.length = n
  oks : ∀ c ∈ s.cs, okc c = true
theorem stp_parts {rs : List Rl} (g : GoodG rs) {d : PyData} {ps q : List Str} (h : stp rs d ps = some q) (hp : ∀ p ∈ ps, isPartS p = true) : (∀ p ∈ q, isPartS p = true) ∧ q.length + 1 ≤ ps.length + 6 := by
  unfold stp at h
  split at h
  · rename_i i p ps'
    by_cases c : 0 ≤ i
    · rw [if_pos c] at h
      cases e : rs[i.toNat]? with
      | none => rw [e] at h; cases h
      | some r =>
        rw [e] at h
        have h : (if r.head = p then some (r.parts ++ ps') else none) = some q := h
        by_cases c2 : r.head = p
        · rw [if_pos c2] at h
          cases h
          have hg := g.good r (List.mem_of_getElem? e)
          have := hg.few
          refine ⟨fun x hx => ?_, by rw [List.length_append, List.length_cons]; omega⟩
          rcases List.mem_append.mp hx with hx | hx
          · exact hg.parts x hx
          · exact hp x (List.mem_cons_of_mem _ hx)
        · rw [if_neg c2] at h; cases h
    · rw [if_neg c] at h; cases h
  · cases h
theorem RstOk.step {rs : List Rl} (g : GoodG rs) {n : Nat} {s s' : Rst} {d : PyData} (h : RstOk rs n s) (e : rowStep rs s d = some s') : RstOk rs (n + 1) s' := by
  unfold rowStep at e
  cases q : stp rs d s.ps with
  | none => rw [q] at e; cases e
  | some ps =>
    rw [q] at e
    have e : (⟨ps.dropWhile isSg, s.cs ++ (ps.takeWhile isSg).map codeOf, s.bg ++ [s.cs.length]⟩ : Rst) = s' := Option.some.inj e
    subst e
    obtain ⟨h1, h2⟩ := stp_parts g q h.parts
    have h3 : (ps.takeWhile isSg).length + (ps.dropWhile isSg).length = ps.length := by rw [← List.length_append, List.takeWhile_append_dropWhile]
    have := h.room
    refine ⟨fun p hp => h1 p ((List.dropWhile_suffix isSg).subset hp), ?_, by simp [h.bl], fun c hc => ?_⟩
    · show (ps.dropWhile isSg).length + (s.cs ++ (ps.takeWhile isSg).map codeOf).length ≤ _
      rw [List.length_append, List.length_map]
      omega
    · rcases List.mem_append.mp hc with hc | hc
      · exact h.oks c hc
      · obtain ⟨p, hp, rfl⟩ := List.mem_map.mp hc
        exact (sign_tl (h1 p ((List.takeWhile_prefix isSg).subset hp)) (takeWhile_ok hp)).2
def namesOf (r : Rl) : List Str := r.parts.filter fun p => !isSg p
theorem barren_names {S : Szs} {r : Rl} : barren S r.parts = [] ↔ ∀ p ∈ namesOf r, (look S p).isSome = true := by
  unfold barren namesOf
  rw [List.filter_eq_nil_iff]
  constructor
  · intro h p hp
    obtain ⟨h1, h2⟩ := List.mem_filter.mp hp
    have := h p h1
    cases e : look S p with
    | some n => rfl
    | none => exact absurd (by rw [e, h2]; rfl) this
  · intro h p hp q
    simp only [Bool.and_eq_true] at q
    have := h p (List.mem_filter.mpr ⟨hp, q.1⟩)
    cases e : look S p with
    | none => rw [e] at this; cases this
    | some n => rw [e] at q; cases q.2

/-! ### maps as lists; dicts whose values stand for data -/
section
variable {κ α : Type} [DecidableEq κ]
def lk : List (κ × α) → κ → Option α
  | [], _ => none
  | p :: F, k => if p.1 = k then some p.2 else lk F k
def pt (F : List (κ × α)) (k : κ) (a : α) : List (κ × α) := if (lk F k).isSome = true then F.map (fun q => if q.1 = k then (q.1, a) else q) else F ++ [(k, a)]
theorem lk_map : ∀ (F : List (κ × α)) (h : κ) (a : α) (k : κ), lk (F.map fun q => if q.1 = h then (q.1, a) else q) k = if k = h then (lk F k).map (fun _ => a) else lk F k
  | [], h, a, k => by simp [lk]
  | p :: F, h, a, k => by
    rw [List.map_cons]
    by_cases e : p.1 = h
    · rw [if_pos e]
      unfold lk
      by_cases e2 : p.1 = k
      · rw [if_pos e2, if_pos e2, if_pos (by rw [← e2, e])]; rfl
      · rw [if_neg e2, if_neg e2, lk_map F h a k]
    · rw [if_neg e]
      unfold lk
      by_cases e2 : p.1 = k
      · rw [if_pos e2, if_pos e2, if_neg (by rw [← e2]; exact e)]
      · rw [if_neg e2, if_neg e2, lk_map F h a k]
theorem lk_app : ∀ (F : List (κ × α)) (h : κ) (a : α) (k : κ), lk F h = none → lk (F ++ [(h, a)]) k = if k = h then some a else lk F k
  | [], h, a, k, _ => by
    show (if h = k then some a else none) = _
    by_cases e : h = k
    · rw [if_pos e, if_pos e.symm]
    · rw [if_neg e, if_neg fun q => e q.symm]; rfl
  | p :: F, h, a, k, q => by
    unfold lk at q
    by_cases e : p.1 = h
    · rw [if_pos e] at q; cases q
    · rw [if_neg e] at q
      rw [List.cons_append]
      unfold lk
      by_cases e2 : p.1 = k
      · rw [if_pos e2, if_pos e2, if_neg (by rw [← e2]; exact e)]
      · rw [if_neg e2, if_neg e2, lk_app F h a k q]
theorem lk_pt (F : List (κ × α)) (h : κ) (a : α) (k : κ) : lk (pt F h a) k = if k = h then some a else lk F k := by
  unfold pt
  cases e : lk F h with
  | none => rw [if_neg (by simp), lk_app F h a k e]
  | some m =>
    rw [if_pos (by rfl), lk_map]
    by_cases e2 : k = h
    · rw [if_pos e2, if_pos e2, e2, e]; rfl
    · rw [if_neg e2, if_neg e2]
theorem lk_mem : ∀ {F : List (κ × α)} {k : κ} {a : α}, lk F k = some a → (k, a) ∈ F
  | [], _, _, q => by cases q
  | p :: F, k, a, q => by
    unfold lk at q
    by_cases e : p.1 = k
    · rw [if_pos e] at q
      cases q
      rw [← e]
      exact List.mem_cons_self ..
    · rw [if_neg e] at q
      exact List.mem_cons_of_mem _ (lk_mem q)
theorem lk_none : ∀ {F : List (κ × α)} {k : κ}, lk F k = none ↔ k ∉ F.map (·.1)
  | [], k => by simp [lk]
  | p :: F, k => by
    unfold lk
    rw [List.map_cons, List.mem_cons]
    by_cases e : p.1 = k
    · rw [if_pos e]
      simp [e.symm]
    · rw [if_neg e, lk_none (F := F)]
      constructor
      · rintro h (q | q)
        · exact e q.symm
        · exact h q
      · intro h q
        exact h (.inr q)
theorem lk_some {F : List (κ × α)} {k : κ} (h : k ∈ F.map (·.1)) : ∃ a, lk F k = some a := by
  cases q : lk F k with
  | none => exact absurd h (lk_none.mp q)
  | some a => exact ⟨a, rfl⟩
theorem lk_isSome {F : List (κ × α)} {k : κ} : (lk F k).isSome = true ↔ k ∈ F.map (·.1) := by
  cases q : lk F k with
  | none => simp [lk_none.mp q]
  | some a => simp only [Option.isSome_some, true_iff]; exact List.mem_map.mpr ⟨_, lk_mem q, rfl⟩
theorem lk_of : ∀ {F : List (κ × α)} {p : κ × α}, (F.map (·.1)).Nodup → p ∈ F → lk F p.1 = some p.2
  | [], _, _, h => by cases h
  | q :: F, p, nd, h => by
    have nd' := List.nodup_cons.mp nd
    unfold lk
    rcases List.mem_cons.mp h with h | h
    · rw [← h, if_pos rfl]
    · rw [if_neg fun e => nd'.1 (by show q.1 ∈ _; rw [e]; exact List.mem_map.mpr ⟨p, h, rfl⟩)]
      exact lk_of nd'.2 h
theorem pt_keys (F : List (κ × α)) (k : κ) (a : α) : (pt F k a).map (·.1) = if (lk F k).isSome = true then F.map (·.1) else F.map (·.1) ++ [k] := by
  unfold pt
  cases e : lk F k with
  | none => rw [if_neg (by simp), if_neg (by simp), List.map_append]; rfl
  | some m =>
    rw [if_pos (by rfl), if_pos (by rfl), List.map_map]
    apply List.map_congr_left
    intro p _
    show (if p.1 = k then (p.1, a) else p).1 = p.1
    split <;> rfl
theorem pt_nd {F : List (κ × α)} {k : κ} {a : α} (nd : (F.map (·.1)).Nodup) : ((pt F k a).map (·.1)).Nodup := by
  rw [pt_keys]
  cases e : lk F k with
  | some m => rw [if_pos (by rfl)]; exact nd
  | none =>
    rw [if_neg (by simp)]
    exact List.nodup_append.mpr ⟨nd, by simp, fun x hx b hb => by
      rw [List.mem_singleton.mp hb]
      exact fun z => lk_none.mp e (by rw [← z]; exact hx)⟩
theorem pt_len (F : List (κ × α)) (k : κ) (a : α) : (pt F k a).length = if (lk F k).isSome = true then F.length else F.length + 1 := by
  have e := congrArg List.length (pt_keys F k a)
  rw [List.length_map] at e
  rw [e]
  split <;> simp
theorem pt_sum {f : α → Nat} {k : κ} {a b : α} : ∀ {F : List (κ × α)}, (F.map (·.1)).Nodup → lk F k = some b → f a < f b → ((F.map fun q => if q.1 = k then (q.1, a) else q).map fun q => f q.2).sum < (F.map fun q => f q.2).sum
  | [], _, e, _ => by cases e
  | p :: F, nd, e, lt => by
    have nd' := List.nodup_cons.mp nd
    unfold lk at e
    rw [List.map_cons]
    by_cases c : p.1 = k
    · rw [if_pos c] at e ⊢
      cases e
      have same : (F.map fun q => if q.1 = k then (q.1, a) else q) = F := by
        have e2 : ∀ q ∈ F, (if q.1 = k then (q.1, a) else q) = id q := fun q hq => if_neg fun z => nd'.1 (by show p.1 ∈ _; rw [c, ← z]; exact List.mem_map.mpr ⟨q, hq, rfl⟩)
        rw [List.map_congr_left e2, List.map_id]
      rw [same]
      simp only [List.map_cons, List.sum_cons]
      omega
    · rw [if_neg c] at e ⊢
      have := pt_sum nd'.2 e lt
      simp only [List.map_cons, List.sum_cons]
      omega
/-- a dict's rows stand for a map -/
def DAt (R : V → α → Prop) (kvs : List (κ × V)) (F : List (κ × α)) : Prop := All2 (fun kv f => kv.1 = f.1 ∧ R kv.2 f.2) kvs F
theorem DAt.mono {R R' : V → α → Prop} (i : ∀ v a, R v a → R' v a) {kvs : List (κ × V)} {F : List (κ × α)} (h : DAt R kvs F) : DAt R' kvs F := All2.mono (fun _ _ q => ⟨q.1, i _ _ q.2⟩) h
theorem DAt.val {R : V → α → Prop} : ∀ {kvs : List (κ × V)} {F : List (κ × α)} (k : κ), DAt R kvs F → (lk F k = none → valV kvs k = none) ∧ ∀ a, lk F k = some a → ∃ v, valV kvs k = some v ∧ R v a
  | _, _, k, .nil => ⟨fun _ => rfl, fun _ e => nomatch e⟩
  | kv :: kvs, f :: F, k, .cons h t => by
    have ih := DAt.val (R := R) k t
    unfold lk
    by_cases e : f.1 = k
    · rw [if_pos e, valV_pos (by rw [h.1]; exact e)]
      exact ⟨fun q => (nomatch q), fun a q => ⟨_, rfl, by cases q; exact h.2⟩⟩
    · rw [if_neg e, valV_neg (by rw [h.1]; exact e)]
      exact ih
theorem DAt.any {R : V → α → Prop} {kvs : List (κ × V)} {F : List (κ × α)} (k : κ) (h : DAt R kvs F) : (kvs.any fun kv => decide (kv.1 = k)) = (lk F k).isSome := by
  rw [valV_any]
  obtain ⟨h1, h2⟩ := h.val k
  cases e : lk F k with
  | none => rw [h1 e]; rfl
  | some a => obtain ⟨v, q, _⟩ := h2 a e; rw [q]; rfl
theorem DAt.put {R : V → α → Prop} {kvs : List (κ × V)} {F : List (κ × α)} {k : κ} {v : V} {a : α} (h : DAt R kvs F) (hv : R v a) : DAt R (putK kvs k v) (pt F k a) := by
  unfold putK pt
  rw [h.any k]
  split
  · have go : ∀ {kvs : List (κ × V)} {F : List (κ × α)}, DAt R kvs F → DAt R (kvs.map fun kv => if kv.1 = k then (kv.1, v) else kv) (F.map fun q => if q.1 = k then (q.1, a) else q) := by
      intro kvs F h
      induction h with
      | nil => exact .nil
      | @cons kv f kvs F q t ih =>
        rw [List.map_cons, List.map_cons]
        refine .cons ?_ ih
        by_cases e : f.1 = k
        · rw [if_pos e, if_pos (by rw [q.1]; exact e)]; exact ⟨q.1, hv⟩
        · rw [if_neg e, if_neg (by rw [q.1]; exact e)]; exact q
    exact go h
  · exact All2.snoc h ⟨rfl, hv⟩
theorem DAt.len {R : V → α → Prop} {kvs : List (κ × V)} {F : List (κ × α)} (h : DAt R kvs F) : kvs.length = F.length := All2.len h
end
theorem DAt.dget {α : Type} {R : V → α → Prop} {kvs : List (Key × V)} {F : List (Key × α)} {H : Hp} {d : Addr} (k : Key) (h : DAt R kvs F) (e : H d = some (.dK kvs)) : (lk F k = none → DGet H d (kV k) none) ∧ ∀ a, lk F k = some a → ∃ v, DGet H d (kV k) (some v) ∧ R v a := by
  have g := DGet.k (k := k) e
  obtain ⟨h1, h2⟩ := h.val k
  refine ⟨fun q => by rw [h1 q] at g; exact g, fun a q => ?_⟩
  obtain ⟨v, e1, e2⟩ := h2 a q
  rw [e1] at g
  exact ⟨v, g, e2⟩

/-! ### nodes, and what stands -/
inductive Nd where
  | pt (p : Str) (i j : Nat)
  | ru (r d i j : Nat)
deriving DecidableEq
def ndK : Nd → List Key
  | .pt p i j => [.inr p, .inl (i : Nat), .inl (j : Nat)]
  | .ru r d i j => [.inl (r : Nat), .inl (d : Nat), .inl (i : Nat), .inl (j : Nat)]
theorem inlN {a b : Nat} (h : (Sum.inl ((a : Nat) : Int) : Key) = .inl ((b : Nat) : Int)) : a = b := by
  have := Sum.inl.inj h
  omega
theorem ndK_inj : ∀ {a b : Nd}, ndK a = ndK b → a = b
  | .pt p i j, .pt p' i' j', h => by
    obtain ⟨h1, h⟩ := List.cons.inj h
    obtain ⟨h2, h⟩ := List.cons.inj h
    obtain ⟨h3, _⟩ := List.cons.inj h
    rw [Sum.inr.inj h1, inlN h2, inlN h3]
  | .ru r d i j, .ru r' d' i' j', h => by
    obtain ⟨h1, h⟩ := List.cons.inj h
    obtain ⟨h2, h⟩ := List.cons.inj h
    obtain ⟨h3, h⟩ := List.cons.inj h
    obtain ⟨h4, _⟩ := List.cons.inj h
    rw [inlN h1, inlN h2, inlN h3, inlN h4]
  | .pt p i j, .ru r d i' j', h => by cases (List.cons.inj h).1
  | .ru r d i' j', .pt p i j, h => by cases (List.cons.inj h).1
section
variable {κ μ α : Type} [DecidableEq κ] [DecidableEq μ] {f : κ → μ} {g : α → V}
theorem valV_inj (fi : ∀ a b, f a = f b → a = b) : ∀ (F : List (κ × α)) (k : κ), valV (F.map fun q => (f q.1, g q.2)) (f k) = (lk F k).map g
  | [], _ => rfl
  | p :: F, k => by
    rw [List.map_cons]
    show _ = (if p.1 = k then some p.2 else lk F k).map g
    by_cases e : p.1 = k
    · rw [if_pos e, valV_pos (by rw [e])]
      rfl
    · rw [if_neg e, valV_neg (fun q => e (fi _ _ q)), valV_inj fi F k]
theorem putK_new (fi : ∀ a b, f a = f b → a = b) {F : List (κ × α)} {k : κ} {v : α} (h : lk F k = none) : putK (F.map fun q => (f q.1, g q.2)) (f k) (g v) = (F ++ [(k, v)]).map fun q => (f q.1, g q.2) := by
  unfold putK
  rw [valV_any, valV_inj fi, h, List.map_append]
  rfl
end
/-- a node's tuple -/
def NdAt (H : Hp) (v : V) (n : Nd) : Prop := ∃ a, v = .ref a ∧ H a = some (.tup ((ndK n).map kV))
theorem NdAt.ts {H H' : Hp} (s : TS H H') {v : V} {n : Nd} (h : NdAt H v n) : NdAt H' v n := by
  obtain ⟨a, e, q⟩ := h
  exact ⟨a, e, s _ _ q⟩
theorem NdAt.one {H : Hp} {v : V} {n m : Nd} (h : NdAt H v n) (k : NdAt H v m) : n = m := by
  obtain ⟨a, rfl, e⟩ := h
  obtain ⟨b, e2, k⟩ := k
  cases e2
  rw [e] at k
  have := HO.tup.inj (Option.some.inj k)
  refine ndK_inj ?_
  have inj : ∀ (x y : List Key), x.map kV = y.map kV → x = y := by
    intro x
    induction x with
    | nil => intro y h; cases y with
      | nil => rfl
      | cons _ _ => cases h
    | cons a x ih =>
      intro y h
      cases y with
      | nil => cases h
      | cons b y =>
        obtain ⟨h1, h2⟩ := List.cons.inj h
        rw [ih y h2]
        congr 1
        cases a <;> cases b <;> first | (cases h1; rfl) | cases h1
  exact inj _ _ this
/-- the text of a sign as rules write it -/
def sgn (c : Nat) : Str := Str.ofString "'" ++ ⟨#[c]⟩
theorem tl_sgn (c : Nat) : tl (sgn c) = [39, c] := by
  unfold sgn
  rw [tl_append, tl_q]
  rfl
theorem sgn_inj {c d : Nat} (h : sgn c = sgn d) : c = d := by
  have := congrArg tl h
  rw [tl_sgn, tl_sgn] at this
  exact (List.cons.inj (List.cons.inj this).2).1
theorem isSg_sgn (c : Nat) : isSg (sgn c) = true := by
  unfold isSg
  rw [tl_sgn]
  rfl

/-! ### a grammar whose heads have a short rule each -/
structure Gr4 (rs : List Rl) : Prop where
  nms : ∃ nms : List Str, nms.length = 4 ∧ (∀ n ∈ nms, isNameS n = true) ∧ ∀ r ∈ rs, r.head ∈ nms ∧ ∀ p ∈ r.parts, isSg p = false → p ∈ nms
  short : ∀ r ∈ rs, ∃ r' ∈ rs, r'.head = r.head ∧ r'.parts.length < 3 ∧ ∀ p ∈ r'.parts, isSg p = true
  pos : 0 < rs.length
  few : rs.length ≤ 9
  hds : ∃ hs : List Str, hs.length ≤ 3 ∧ ∀ r ∈ rs, r.head ∈ hs
theorem quote_part {c : Nat} (h : okc c = true) : isPartS (Str.ofString "'" ++ ⟨#[c]⟩) = true ∧ isSg (Str.ofString "'" ++ ⟨#[c]⟩) = true := by
  refine ⟨rule_part h, ?_⟩
  have e : tl (Str.ofString "'" ++ ⟨#[c]⟩) = [39, c] := by rw [tl_append, tl_q]; rfl
  unfold isSg
  rw [e]
  rfl
theorem name_sg {n : Str} (h : isNameS n = true) : isSg n = false := by
  have := name_free h (s := 39) (by decide)
  unfold isSg
  cases q : tl n with
  | nil => rfl
  | cons x t =>
    rw [q] at this
    have : x ≠ 39 := fun z => this (by rw [z]; exact List.mem_cons_self ..)
    show (some x == some 39) = false
    simp [this]
/-! ### rows and signs: the plain law -/
/-- what a row reads from the parts that wait -/
def rg (rs : List Rl) : List PyData → List Str → Option (List Nat)
  | [], ps => if ps.all isSg = true then some (ps.map codeOf) else none
  | d :: ds, ps => (stp rs d (ps.dropWhile isSg)).bind fun q => (rg rs ds q).map ((ps.takeWhile isSg).map codeOf ++ ·)
theorem rg_sign {rs : List Rl} {p : Str} {ps : List Str} (h : isSg p = true) : ∀ (ds : List PyData), rg rs ds (p :: ps) = (rg rs ds ps).map (codeOf p :: ·)
  | [] => by
    show (if (isSg p && ps.all isSg) = true then some ((p :: ps).map codeOf) else none) = Option.map _ (if ps.all isSg = true then some (ps.map codeOf) else none)
    rw [h, Bool.true_and]
    by_cases c : ps.all isSg = true
    · rw [if_pos c, if_pos c]; rfl
    · rw [if_neg c, if_neg c]; rfl
  | d :: ds => by
    show (stp rs d ((p :: ps).dropWhile isSg)).bind _ = Option.map _ ((stp rs d (ps.dropWhile isSg)).bind _)
    rw [List.dropWhile_cons_of_pos h, List.takeWhile_cons_of_pos h]
    cases stp rs d (ps.dropWhile isSg) with
    | none => rfl
    | some q =>
      show Option.map _ (rg rs ds q) = Option.map _ (Option.map _ (rg rs ds q))
      cases rg rs ds q with
      | none => rfl
      | some z => rfl
theorem rg_name0 {rs : List Rl} {p : Str} {ps : List Str} (h : isSg p = false) : rg rs [] (p :: ps) = none := by
  show (if (isSg p && ps.all isSg) = true then _ else none) = none
  rw [h, Bool.false_and]
  rfl
theorem rg_name {rs : List Rl} {p : Str} {ps : List Str} (h : isSg p = false) (d : PyData) (ds : List PyData) : rg rs (d :: ds) (p :: ps) = (stp rs d (p :: ps)).bind (rg rs ds) := by
  show (stp rs d ((p :: ps).dropWhile isSg)).bind _ = _
  rw [List.dropWhile_cons_of_neg (by rw [h]; simp), List.takeWhile_cons_of_neg (by rw [h]; simp)]
  congr 1
  funext q
  cases rg rs ds q with
  | none => rfl
  | some z => rfl
theorem stp_nil (rs : List Rl) (d : PyData) : stp rs d [] = none := by
  unfold stp
  split <;> first | rfl | (rename_i e; cases e)
theorem rg_nil (rs : List Rl) : ∀ ds, rg rs ds [] = if ds = [] then some [] else none
  | [] => rfl
  | d :: ds => by
    show (stp rs d []).bind _ = _
    rw [stp_nil, if_neg (by simp)]
    rfl
theorem stp_int (rs : List Rl) (i : Int) (p : Str) (ps : List Str) : stp rs (.int i) (p :: ps) = if 0 ≤ i then (rs[i.toNat]?).bind fun r => if r.head = p then some (r.parts ++ ps) else none else none := rfl
theorem stp_nat {rs : List Rl} {k : Nat} {r : Rl} (h : rs[k]? = some r) (ps : List Str) : stp rs (.int (k : Nat)) (r.head :: ps) = some (r.parts ++ ps) := by
  rw [stp_int, if_pos (by omega), show ((k : Nat) : Int).toNat = k by omega, h]
  show (if r.head = r.head then _ else _) = _
  rw [if_pos rfl]
theorem rg_num {rs : List Rl} {k : Nat} {r : Rl} (h : rs[k]? = some r) (hs : isSg r.head = false) (ds : List PyData) (ps : List Str) : rg rs (.int (k : Nat) :: ds) (r.head :: ps) = rg rs ds (r.parts ++ ps) := by
  rw [rg_name hs, stp_nat h]
  rfl
theorem dropAll {α : Type} {f : α → Bool} : ∀ (l : List α), l.dropWhile f = [] ↔ l.all f = true
  | [] => by simp
  | a :: l => by
    by_cases c : f a = true
    · rw [List.dropWhile_cons_of_pos c, List.all_cons, c, Bool.true_and]; exact dropAll l
    · rw [List.dropWhile_cons_of_neg c, List.all_cons]
      simp [c]
theorem takeAll {α : Type} {f : α → Bool} : ∀ {l : List α}, l.all f = true → l.takeWhile f = l
  | [], _ => rfl
  | a :: l, h => by
    rw [List.all_cons, Bool.and_eq_true] at h
    rw [List.takeWhile_cons_of_pos h.1, takeAll h.2]
theorem rowGo_rg (rs : List Rl) : ∀ (ds : List PyData) (q : List Str) (c0 bg : List Nat), (rowEnd (rowGo rs ds ⟨q.dropWhile isSg, c0 ++ (q.takeWhile isSg).map codeOf, bg⟩)).map (·.1) = (rg rs ds q).map (c0 ++ ·)
  | [], q, c0, bg => by
    show (rowEnd (some _)).map _ = Option.map _ (if q.all isSg = true then some (q.map codeOf) else none)
    by_cases c : q.all isSg = true
    · rw [if_pos c, (dropAll q).mpr c, takeAll c]
      rfl
    · rw [if_neg c]
      cases e : q.dropWhile isSg with
      | nil => exact absurd ((dropAll q).mp e) c
      | cons x t => rfl
  | d :: ds, q, c0, bg => by
    show (rowEnd ((rowStep rs _ d).bind (rowGo rs ds))).map _ = Option.map _ ((stp rs d (q.dropWhile isSg)).bind _)
    unfold rowStep
    cases stp rs d (q.dropWhile isSg) with
    | none => rfl
    | some q' =>
      have ih := rowGo_rg rs ds q' (c0 ++ (q.takeWhile isSg).map codeOf) (bg ++ [(c0 ++ (q.takeWhile isSg).map codeOf).length])
      refine Eq.trans ih ?_
      show _ = Option.map _ (Option.map _ (rg rs ds q'))
      cases rg rs ds q' with
      | none => rfl
      | some z => simp
theorem rowRead_rg {rs : List Rl} {r0 : Rl} (h : rs[0]? = some r0) (hs : isSg r0.head = false) (ds : List PyData) : (rowRead rs ds).map (·.1) = rg rs ds [r0.head] := by
  have e := rowGo_rg rs ds [r0.head] [] []
  rw [List.dropWhile_cons_of_neg (by rw [hs]; simp), List.takeWhile_cons_of_neg (by rw [hs]; simp)] at e
  unfold rowRead
  rw [h]
  refine Eq.trans e ?_
  cases rg rs ds [r0.head] with
  | none => rfl
  | some z => rfl
theorem rowRead_none {rs : List Rl} (hg : ∀ r ∈ rs, isSg r.head = false) {ds : List PyData} : rowRead rs ds = none ↔ ∀ r0, rs[0]? = some r0 → rg rs ds [r0.head] = none := by
  constructor
  · intro h r0 h0
    rw [← rowRead_rg h0 (hg r0 (List.mem_of_getElem? h0)), h]
    rfl
  · intro h
    cases h0 : rs[0]? with
    | none => unfold rowRead; rw [h0]
    | some r0 =>
      have := rowRead_rg h0 (hg r0 (List.mem_of_getElem? h0)) ds
      rw [h r0 h0] at this
      cases e : rowRead rs ds with
      | none => rfl
      | some z => rw [e] at this; cases this
theorem stp_some {rs : List Rl} {d : PyData} {ps q : List Str} (h : stp rs d ps = some q) : ∃ (k : Nat) (r : Rl) (qs : List Str), d = .int (k : Nat) ∧ rs[k]? = some r ∧ ps = r.head :: qs ∧ q = r.parts ++ qs := by
  unfold stp at h
  split at h
  · rename_i i p ps'
    by_cases c : 0 ≤ i
    · rw [if_pos c] at h
      cases e : rs[i.toNat]? with
      | none => rw [e] at h; cases h
      | some r =>
        rw [e] at h
        have h : (if r.head = p then some (r.parts ++ ps') else none) = some q := h
        by_cases c2 : r.head = p
        · rw [if_pos c2] at h
          cases h
          exact ⟨i.toNat, r, ps', by rw [show ((i.toNat : Nat) : Int) = i by omega], e, by rw [c2], rfl⟩
        · rw [if_neg c2] at h; cases h
    · rw [if_neg c] at h; cases h
  · cases h
/-- a row that is read: each thing is the number of a rule -/
theorem rg_nums {rs : List Rl} : ∀ {ds : List PyData} {ps : List Str} {zs : List Nat}, rg rs ds ps = some zs → ∀ d ∈ ds, ∃ (k : Nat) (r : Rl), d = .int (k : Nat) ∧ rs[k]? = some r
  | [], _, _, _, d, hd => by cases hd
  | d :: ds, ps, zs, h, x, hx => by
    have h : (stp rs d (ps.dropWhile isSg)).bind (fun q => (rg rs ds q).map ((ps.takeWhile isSg).map codeOf ++ ·)) = some zs := h
    cases e : stp rs d (ps.dropWhile isSg) with
    | none => rw [e] at h; cases h
    | some q =>
      rw [e] at h
      obtain ⟨k, r, qs, e1, e2, _, _⟩ := stp_some e
      rcases List.mem_cons.mp hx with hx | hx
      · exact ⟨k, r, hx.trans e1, e2⟩
      · cases e3 : rg rs ds q with
        | none => rw [Option.bind_some, e3] at h; cases h
        | some z => exact rg_nums e3 x hx
theorem rg_ne {rs : List Rl} {p : Str} {zs : List Nat} {ds : List PyData} (hs : isSg p = false) (h : rg rs ds [p] = some zs) : ds ≠ [] := fun z => by
  rw [z, rg_name0 hs] at h
  cases h
def rowD (row : List Nat) : List PyData := row.map fun k => .int (k : Nat)
def strOf (zs : List Nat) : Str := ⟨zs.toArray⟩
theorem tl_strOf (zs : List Nat) : tl (strOf zs) = zs := by unfold tl strOf; simp
theorem strOf_app (a b : List Nat) : strOf a ++ strOf b = strOf (a ++ b) := by
  apply ext_tl
  rw [tl_append, tl_strOf, tl_strOf, tl_strOf]
theorem strOf_len (zs : List Nat) : (strOf zs).length = zs.length := by rw [len_tl, tl_strOf]
theorem strOf_nil : strOf [] = Str.ofString "" := by decide +kernel
/-! ### short rules -/
def isShort (r : Rl) : Prop := namesOf r = [] ∧ r.parts.length < 3
instance (r : Rl) : Decidable (isShort r) := inferInstanceAs (Decidable (_ ∧ _))
def shK (rs : List Rl) (E : Szs) (k : Nat) : Szs := match rs[k]? with
  | none => E
  | some r => if isShort r ∧ look E r.head = none then putS E r.head k else E
def shTo (rs : List Rl) (i : Nat) : Szs := (List.range i).foldl (shK rs) []
theorem shTo_step (rs : List Rl) (i : Nat) : shTo rs (i + 1) = shK rs (shTo rs i) i := by
  unfold shTo
  rw [List.range_succ, List.foldl_append]
  rfl
structure ShOk (rs : List Rl) (i : Nat) (E : Szs) : Prop where
  why : ∀ h k, look E h = some k → ∃ r, rs[k]? = some r ∧ r.head = h ∧ isShort r
  all : ∀ k r, k < i → rs[k]? = some r → isShort r → (look E r.head).isSome = true
  len : E.length ≤ i
theorem shTo_ok (rs : List Rl) : ∀ i, ShOk rs i (shTo rs i)
  | 0 => ⟨fun h k e => (nomatch e), fun k r h => absurd h (by omega), Nat.le_refl _⟩
  | i + 1 => by
    have ih := shTo_ok rs i
    rw [shTo_step]
    unfold shK
    cases hr : rs[i]? with
    | none =>
      refine ⟨ih.why, fun k r h1 h2 h3 => ?_, Nat.le_succ_of_le ih.len⟩
      by_cases c : k = i
      · rw [c, hr] at h2; cases h2
      · exact ih.all k r (by omega) h2 h3
    | some r =>
      show ShOk rs (i + 1) (if isShort r ∧ look (shTo rs i) r.head = none then putS (shTo rs i) r.head i else shTo rs i)
      by_cases c : isShort r ∧ look (shTo rs i) r.head = none
      · rw [if_pos c]
        refine ⟨fun h k e => ?_, fun k r' h1 h2 h3 => ?_, ?_⟩
        · rw [look_put] at e
          by_cases q : h = r.head
          · rw [if_pos q] at e
            cases e
            exact ⟨r, hr, q.symm, c.1⟩
          · rw [if_neg q] at e
            exact ih.why h k e
        · rw [look_put]
          by_cases q : r'.head = r.head
          · rw [if_pos q]; rfl
          · rw [if_neg q]
            by_cases c2 : k = i
            · rw [c2, hr] at h2; cases h2; exact absurd rfl q
            · exact ih.all k r' (by omega) h2 h3
        · rw [putS_none c.2, List.length_append]
          have := ih.len
          simp
          omega
      · rw [if_neg c]
        refine ⟨ih.why, fun k r' h1 h2 h3 => ?_, Nat.le_succ_of_le ih.len⟩
        by_cases c2 : k = i
        · rw [c2, hr] at h2
          cases h2
          cases e : look (shTo rs i) r.head with
          | some n => rfl
          | none => exact absurd ⟨h3, e⟩ c
        · exact ih.all k r' (by omega) h2 h3
/-- the short rules of all heads -/
def shorts (rs : List Rl) : Szs := shTo rs rs.length
theorem shorts_all {rs : List Rl} (g : Gr4 rs) : ∀ r ∈ rs, (look (shorts rs) r.head).isSome = true := fun r hr => by
  obtain ⟨r', h1, h2, h3, h4⟩ := g.short r hr
  obtain ⟨k, hk⟩ := List.mem_iff_getElem?.mp h1
  rw [← h2]
  refine (shTo_ok rs rs.length).all k r' (List.getElem?_eq_some_iff.mp hk).1 hk ⟨?_, h3⟩
  unfold namesOf
  rw [List.filter_eq_nil_iff]
  intro p hp
  rw [h4 p hp]
  simp
def needS (ps : List Str) : Nat := (ps.map fun p => if isSg p = true then 1 else 2).sum
theorem needS_app (a b : List Str) : needS (a ++ b) = needS a + needS b := by unfold needS; rw [List.map_append, List.sum_append]
theorem needS_cons (p : Str) (b : List Str) : needS (p :: b) = (if isSg p = true then 1 else 2) + needS b := by unfold needS; rw [List.map_cons, List.sum_cons]
theorem needS_len : ∀ (a : List Str), a.length ≤ needS a
  | [] => Nat.le_refl _
  | p :: a => by
    have := needS_len a
    rw [needS_cons, List.length_cons]
    split <;> omega
theorem needS_rev (a : List Str) : needS a.reverse = needS a := by unfold needS; rw [List.map_reverse, List.sum_reverse]
theorem needS_sg : ∀ {a : List Str}, (∀ p ∈ a, isSg p = true) → needS a = a.length
  | [], _ => rfl
  | p :: a, h => by
    rw [needS_cons, if_pos (h p (List.mem_cons_self ..)), needS_sg fun q hq => h q (List.mem_cons_of_mem _ hq), List.length_cons]
    omega
theorem isShort.sg {r : Rl} (h : isShort r) : ∀ p ∈ r.parts, isSg p = true := fun p hp => by
  have := List.filter_eq_nil_iff.mp h.1 p hp
  simpa using this
def wtS (ps : List Str) : Nat := (ps.map fun p => if isSg p = true then 1 else 3).sum
theorem wtS_app (a b : List Str) : wtS (a ++ b) = wtS a + wtS b := by unfold wtS; rw [List.map_append, List.sum_append]
theorem wtS_one (p : Str) : wtS [p] = if isSg p = true then 1 else 3 := by unfold wtS; simp
theorem wtS_rev (a : List Str) : wtS a.reverse = wtS a := by unfold wtS; rw [List.map_reverse, List.sum_reverse]
theorem wtS_le : ∀ (a : List Str), wtS a ≤ 3 * a.length
  | [] => Nat.le_refl _
  | p :: a => by
    have := wtS_le a
    have e : wtS (p :: a) = (if isSg p = true then 1 else 3) + wtS a := by unfold wtS; rw [List.map_cons, List.sum_cons]
    rw [e, List.length_cons]
    split <;> omega
theorem wtS_sg : ∀ {a : List Str}, (∀ p ∈ a, isSg p = true) → wtS a = a.length
  | [], _ => rfl
  | p :: a, h => by
    have e : wtS (p :: a) = (if isSg p = true then 1 else 3) + wtS a := by unfold wtS; rw [List.map_cons, List.sum_cons]
    rw [e, if_pos (h p (List.mem_cons_self ..)), wtS_sg fun q hq => h q (List.mem_cons_of_mem _ hq), List.length_cons]
    omega
theorem list_by {α : Type} {ys : List V} {xs : List α} {f : α → V} (hl : ys.length = xs.length) (h : ∀ (i : Nat) (y : V), ys[i]? = some y → ∃ x, xs[i]? = some x ∧ y = f x) : ys = xs.map f := by
  apply List.ext_getElem?
  intro i
  rw [List.getElem?_map]
  cases e : ys[i]? with
  | none =>
    rw [List.getElem?_eq_none (by have := List.getElem?_eq_none_iff.mp e; omega)]
    rfl
  | some y =>
    obtain ⟨x, h1, h2⟩ := h i y e
    rw [h1, h2]
    rfl
def wOf (rs : List Rl) : PyData → Int
  | .int i => ((rs[i.toNat]?).map Rl.worth).getD 0
  | _ => 0
def wsum (rs : List Rl) (ds : List PyData) : Int := (ds.map (wOf rs)).sum
theorem wsum_nat (rs : List Rl) (row : List Nat) : wsum rs (rowD row) = (row.map fun k => ((rs[k]?).map Rl.worth).getD 0).sum := by
  unfold wsum rowD
  rw [List.map_map]
  rfl
theorem join_ones (zs : List Nat) : Txt.join (Str.ofString "") (zs.map fun c => (⟨#[c]⟩ : Str)) = strOf zs := by
  apply ext_tl
  rw [tl_join0, tl_strOf, List.flatMap_map]
  induction zs with
  | nil => rfl
  | cons c zs ih => rw [List.flatMap_cons, ih]; rfl
theorem th_row {K : PySem.W.Frag} {H : Hp} {l : Addr} {row : List Nat} (h : SqL K H l (row.map fun k => V.int ((k : Nat) : Int))) : Th K H (.ref l) (.list (rowD row)) := .lst h (th_nats row)
theorem GoodG.hsg {rs : List Rl} (g : GoodG rs) : ∀ r ∈ rs, isSg r.head = false := fun r hr => name_sg (g.good r hr).head
theorem read_some {rs : List Rl} (g : GoodG rs) {ds : List PyData} {zs bg : List Nat} (h : rowRead rs ds = some (zs, bg)) : ∃ r0, rs[0]? = some r0 ∧ rg rs ds [r0.head] = some zs := by
  cases h0 : rs[0]? with
  | none => unfold rowRead at h; rw [h0] at h; cases h
  | some r0 =>
    refine ⟨r0, rfl, ?_⟩
    rw [← rowRead_rg h0 (g.hsg r0 (List.mem_of_getElem? h0)), h]
    rfl
theorem read_none {rs : List Rl} (g : GoodG rs) {d : PyData} (h : ∀ ds, d = .list ds → rowRead rs ds = none) : ∀ ds r0, d = .list ds → rs[0]? = some r0 → rg rs ds [r0.head] = none := fun ds r0 e h0 => (rowRead_none g.hsg).mp (h ds e) r0 h0
theorem row_get {rs : List Rl} {row : List Nat} {ps : List Str} {zs : List Nat} (h : rg rs (rowD row) ps = some zs) {k : Nat} (hk : k ∈ row) : ∃ r, rs[k]? = some r := by
  obtain ⟨k', r, e, hr⟩ := rg_nums h (.int (k : Nat)) (List.mem_map.mpr ⟨k, hk, rfl⟩)
  have : k = k' := by
    have := PyData.int.inj e
    omega
  subst this
  exact ⟨r, hr⟩
theorem rowD_ints (row : List Nat) : (row.map fun k => V.int ((k : Nat) : Int)) = (row.map fun k => ((k : Nat) : Int)).map V.int ∧ rowD row = (row.map fun k => ((k : Nat) : Int)).map PyData.int := by
  unfold rowD
  rw [List.map_map, List.map_map]
  exact ⟨rfl, rfl⟩

/-! ### rows of k60 to k77: the need of what waits, by the short rules -/
def nd1 (rs : List Rl) (p : Str) : Nat := match look (shorts rs) p with
  | some k => (((rs[k]?).map Rl.parts).getD []).length
  | none => 1
def needX (rs : List Rl) (ps : List Str) : Nat := (ps.map (nd1 rs)).sum
theorem needX_app (rs : List Rl) (a b : List Str) : needX rs (a ++ b) = needX rs a + needX rs b := by unfold needX; rw [List.map_append, List.sum_append]
theorem needX_cons (rs : List Rl) (p : Str) (b : List Str) : needX rs (p :: b) = nd1 rs p + needX rs b := by unfold needX; rw [List.map_cons, List.sum_cons]
theorem needX_rev (rs : List Rl) (a : List Str) : needX rs a.reverse = needX rs a := by unfold needX; rw [List.map_reverse, List.sum_reverse]
theorem nd1_of {rs : List Rl} {p : Str} {k : Nat} {r : Rl} (h : look (shorts rs) p = some k) (hr : rs[k]? = some r) : nd1 rs p = r.parts.length := by
  unfold nd1
  rw [h]
  show (((rs[k]?).map Rl.parts).getD []).length = _
  rw [hr]
  rfl
theorem nd1_none {rs : List Rl} {p : Str} (h : look (shorts rs) p = none) : nd1 rs p = 1 := by unfold nd1; rw [h]
theorem nd1_sg {rs : List Rl} (hsgh : ∀ r ∈ rs, isSg r.head = false) {p : Str} (h : isSg p = true) : nd1 rs p = 1 := by
  cases e : look (shorts rs) p with
  | none => exact nd1_none e
  | some k =>
    obtain ⟨r, hr, rfl, _⟩ := (shTo_ok rs rs.length).why p k e
    rw [hsgh r (List.mem_of_getElem? hr)] at h
    cases h
theorem needX_sg {rs : List Rl} (hsgh : ∀ r ∈ rs, isSg r.head = false) : ∀ {a : List Str}, (∀ p ∈ a, isSg p = true) → needX rs a = a.length
  | [], _ => rfl
  | p :: a, h => by
    rw [needX_cons, nd1_sg hsgh (h p (List.mem_cons_self ..)), needX_sg hsgh fun q hq => h q (List.mem_cons_of_mem _ hq), List.length_cons]
    omega
theorem wtS_len : ∀ (a : List Str), a.length ≤ wtS a
  | [] => Nat.le_refl _
  | p :: a => by
    have := wtS_len a
    have e : wtS (p :: a) = (if isSg p = true then 1 else 3) + wtS a := by unfold wtS; rw [List.map_cons, List.sum_cons]
    rw [e, List.length_cons]
    split <;> omega
/-! ### costs -/
def isCostsD : PyData → Bool
  | .tuple [a, b, c] => isWorthD a && (isWorthD b && isWorthD c)
  | _ => false
theorem costs_is {K : PySem.W.Frag} {H : Hp} {v : V} {d : PyData} (h : Th K H v d) (e : isCostsD d = true) : ∃ (a : Addr) (p c s : Int), v = .ref a ∧ d = .tuple [.int p, .int c, .int s] ∧ SqT K H a [.int p, .int c, .int s] ∧ (0 ≤ p ∧ p ≤ top60) ∧ (0 ≤ c ∧ c ≤ top60) ∧ (0 ≤ s ∧ s ≤ top60) := by
  rcases th_tup h with ⟨a, vs, ds, rfl, rfl, hs, ha⟩ | n
  · match ds, ha, e with
    | [x, y, z], ha, e =>
      obtain ⟨v1, v2, v3, rfl, h1, h2, h3⟩ := th3 ha
      have e : (isWorthD x && (isWorthD y && isWorthD z)) = true := e
      simp only [Bool.and_eq_true] at e
      have one : ∀ {v : V} {d : PyData}, Th K H v d → isWorthD d = true → ∃ n, d = .int n ∧ v = .int n ∧ 0 ≤ n ∧ n ≤ top60 := fun {v d} h e => by
        rcases th_whole h with ⟨n, rfl, rfl⟩ | ⟨_, f⟩
        · refine ⟨n, rfl, rfl, ?_⟩
          simp only [isWorthD, Bool.and_eq_true, decide_eq_true_eq] at e
          exact e
        · rw [f] at e; cases e
      obtain ⟨p, rfl, rfl, p1⟩ := one h1 e.1
      obtain ⟨c, rfl, rfl, c1⟩ := one h2 e.2.1
      obtain ⟨s, rfl, rfl, s1⟩ := one h3 e.2.2
      exact ⟨a, p, c, s, rfl, rfl, hs, p1, c1, s1⟩
  · cases d <;> first | (exact Bool.noConfusion n) | cases e
def R_checked_costs (K : PySem.W.Frag) (cs : Cs) : V → Hp → VK → XK → Prop := fun x H Q E => ∃ d, Th K H x d ∧ (isCostsD d = true → Q x H) ∧ (isCostsD d = false → E (.ref cs.NoCosts) none H)
section
set_option hygiene false in
local macro_rules | `(tactic| top_name) => `(tactic| first | refine e_call (df_is_whole T) (hr.mono (by decide)) ?_)
set_option hygiene false in
local macro_rules | `(tactic| top_raise) => `(tactic| first | refine s_raise T.x_NoCosts ?_)
theorem ok_checked_costs {f : Addr} {fd : FuncData} (F : Fun K "checked_costs" "checked_costs" s_checked_costs f fd) (T : Txt K mg cs) : FnOk P w K mg base (L2.CX P w) 2 f fd ["thing"] (sp1 (R_checked_costs K cs)) := by
  refine F.okX sc_checked_costs (fun vs H Q E h => sp1_len h) (fun cdv A outer s H vs Q E hr h => ⟨_, PBw (X := X_checked_costs P w K mg base f cdv A outer s H E), ?_⟩)
  obtain ⟨a0, rfl, h⟩ := h
  have ib_NoCosts : Gn mg "NoCosts" (some _) := ⟨T.x_NoCosts.mg⟩
  have ib_isinstance := T.b_isinstance
  have ib_tuple := T.b_tuple
  have ib_len := T.b_len
  obtain ⟨t_DEAREST, h_DEAREST⟩ := T.k_DEAREST
  have ib_DEAREST : Gn mg "DEAREST" (some _) := ⟨h_DEAREST⟩
  have hr' : Room 1 (X_checked_costs P w K mg base f cdv A outer s H E).A := hr
  replace hr := hr'
  clear hr'
  obtain ⟨d, hd, h1, h2⟩ := h
  kxs_still
  refine k_isTuple hd ?_
  rcases th_tup hd with ⟨a, vs, ds, rfl, rfl, hs, ha⟩ | n
  · rw [show isK (.tuple ds) "tuple" = true from rfl]
    have hal := ha.len
    kxs_still
    refine iteND (fun c3 => ?_) fun c3 => ?_
    · kxs_still
      refine h2 ?_
      match ds, hal with
      | [], _ => rfl
      | [_], _ => rfl
      | [_, _], _ => rfl
      | [_, _, _], e => exact absurd (by rw [e]; rfl) c3
      | _ :: _ :: _ :: _ :: _, _ => rfl
    · kxs_still
      have c3 : vs.length = 3 := by omega
      obtain ⟨x0, y0, z0, rfl⟩ := len3 (hal ▸ c3)
      have good : isCostsD (.tuple [x0, y0, z0]) = [x0, y0, z0].all isWorthD := by
        show (isWorthD x0 && (isWorthD y0 && isWorthD z0)) = (isWorthD x0 && (isWorthD y0 && (isWorthD z0 && true)))
        rw [Bool.and_true]
      rw [good] at h1 h2
      refine s_for (j_tup ?_)
      kxs_still
      refine ⟨⟨_, hs⟩, _, _, _, walk_tup (xs := vs), fun i σ' H' => ∃ v, σ' = [some (.ref a), v] ∧ H' = H ∧ ([x0, y0, z0].take i).all isWorthD = true, ⟨none, rfl, rfl, rfl⟩, fun _ _ _ _ ⟨_, _, e, _⟩ => by rw [e]; exact hs, ?_, ?_⟩
      · rintro i x σ' H' H2 hi ⟨v, rfl, rfl, hall⟩ ⟨rfl, hx⟩
        obtain ⟨d, hd1, hd2⟩ := ha.get hx
        have bad : isWorthD d = false → E (.ref cs.NoCosts) none H2 := fun e => h2 (all_cut hd1 e)
        kxs_still
        refine ⟨d, hd2, ?_⟩
        rcases th_whole hd2 with ⟨n, rfl, rfl⟩ | ⟨f1, f2⟩
        · rw [show isWholeD (.int n) = true from rfl]
          have ew : isWorthD (.int n) = (decide (0 ≤ n) && decide (n ≤ top60)) := rfl
          kxs_still
          refine iteD (fun c0 => ?_) fun c0 => ?_
          · kxs_still
            exact bad (by rw [ew, decide_eq_false (by omega), Bool.false_and])
          · kxs_still
            refine iteD (fun c1 => ?_) fun c1 => ?_
            · kxs_still
              exact bad (by rw [ew, decide_eq_false (show ¬ n ≤ top60 by have c1 : top60 < n := c1; omega), Bool.and_false])
            · kxs_still
              refine ⟨_, rfl, rfl, ?_⟩
              rw [all_snoc hd1, hall, ew, decide_eq_true (by omega), decide_eq_true (show n ≤ top60 by have c1 : ¬ top60 < n := c1; omega)]
              rfl
        · rw [f1]
          kxs_still
          exact bad f2
      · rintro σ' H' ⟨v, rfl, rfl, hall⟩
        kxs_still
        rw [c3, show ([x0, y0, z0].take 3) = [x0, y0, z0] from rfl] at hall
        exact h1 hall
  · rw [n]
    kxs_still
    refine h2 ?_
    cases d <;> first | rfl | (exact Bool.noConfusion n)

end
theorem df_checked_costs (T : Txt K mg cs) : Df P w K mg base "checked_costs" 2 ["thing"] (sp1 (R_checked_costs K cs)) := by
  obtain ⟨f, fd, hm, F, hb⟩ := T.f_checked_costs.ex
  exact ⟨f, fd, hm, F.kp, hb, ok_checked_costs F T⟩
/-! ### str.find of one sign -/
open PySem.StrLaws in
theorem occ_keep (s sub : Str) (hi : Nat) : ∀ (l : List Nat) (acc : Array Nat × Nat), 1 ≤ acc.fst.size → (forIn l acc (occBody s sub hi 1)).run.fst = acc.fst
  | [], acc, _ => by simp
  | a :: l, acc, h => by
    rw [List.forIn_cons]
    unfold occBody
    have c2 : ¬ (((acc.fst.size < 1 ∧ acc.snd ≤ a) ∧ a + sub.length ≤ hi) ∧ PySem.Builtin.Str.subAt s sub a = true) := fun z => by omega
    rw [if_neg c2]
    exact occ_keep s sub hi l acc h
open PySem.StrLaws in
theorem occ_first (s sub : Str) (hi : Nat) : ∀ (l : List Nat) (free : Nat), (∀ i ∈ l, free ≤ i) →
    (forIn l ((#[] : Array Nat), free) (occBody s sub hi 1)).run.fst.toList = (match l.find? (fun i => decide (i + sub.length ≤ hi ∧ PySem.Builtin.Str.subAt s sub i = true)) with
      | none => []
      | some i => [i])
  | [], free, _ => by simp
  | a :: l, free, hf => by
    rw [List.forIn_cons]
    unfold occBody
    have ha : free ≤ a := hf a (List.mem_cons_self ..)
    by_cases hc : a + sub.length ≤ hi ∧ PySem.Builtin.Str.subAt s sub a = true
    · have c1 : (((#[] : Array Nat), free).fst.size < 1 ∧ ((#[] : Array Nat), free).snd ≤ a) ∧ a + sub.length ≤ hi := ⟨⟨by simp, ha⟩, hc.1⟩
      rw [if_pos ⟨c1, hc.2⟩, List.find?_cons_of_pos (by exact decide_eq_true hc)]
      have := occ_keep s sub hi l ((#[] : Array Nat).push a, a + sub.length) (by simp)
      exact congrArg Array.toList this
    · have c2 : ¬ (((((#[] : Array Nat), free).fst.size < 1 ∧ ((#[] : Array Nat), free).snd ≤ a) ∧ a + sub.length ≤ hi) ∧ PySem.Builtin.Str.subAt s sub a = true) := fun h => hc ⟨h.1.2, h.2⟩
      rw [if_neg c2, List.find?_cons_of_neg (by simpa using hc)]
      exact occ_first s sub hi l free (fun i hi' => hf i (List.mem_cons_of_mem _ hi'))
theorem find_one (z : Str) (c : Nat) : (PySem.Txt.find z ⟨#[c]⟩ = -1 ∧ c ∉ tl z) ∨ ∃ i : Nat, PySem.Txt.find z ⟨#[c]⟩ = (i : Int) ∧ (tl z)[i]? = some c := by
  have hf := PySem.StrLaws.found_one z c
  have ho := PySem.StrLaws.occ_eq z ⟨#[c]⟩ 0 z.length 1
  rw [occ_first z ⟨#[c]⟩ z.length _ 0 (fun _ _ => Nat.zero_le _)] at ho
  unfold PySem.Txt.find
  cases e : PySem.Builtin.Str.occurrences z ⟨#[c]⟩ 0 z.length 1 with
  | nil =>
    rw [e] at hf
    refine .inl ⟨rfl, fun m => ?_⟩
    have : decide (c ∈ z.cps.toList) = true := decide_eq_true m
    rw [this] at hf
    cases hf
  | cons i r =>
    rw [e] at ho
    refine .inr ⟨i, rfl, ?_⟩
    cases q : (List.range' 0 (z.length + 1 - 0)).find? (fun i => decide (i + (⟨#[c]⟩ : Str).length ≤ z.length ∧ PySem.Builtin.Str.subAt z ⟨#[c]⟩ i = true)) with
    | none => rw [q] at ho; cases ho
    | some k =>
      rw [q] at ho
      cases ho
      have := List.find?_some q
      exact (PySem.StrLaws.subAt_one z c i).mp (of_decide_eq_true this)
theorem e_find {X : Cx} {σ : L2.St} {H : Hp} {Q : VK} {o e : Expr} {apos pos : Pos} (h : eW X o σ H fun x H1 => (∃ a, x = .str a) ∧ eW X e σ H1 fun y H2 => mW X "str.find" x [y] H2 Q) (hs : starEach [e] X.env = [(false, eval e X.env)] := by rfl) (hbase : attributeBase o "find" X.env (eval o X.env) = eval o X.env := by rfl) (hline : (apos.endLine == pos.line) = true := by rfl) : eW X (.Call (.Attribute o "find" apos) [e] [] pos) σ H Q :=
  eI (pe_m1 PySem.F.slot_str_find PySem.F.type_str_find MRw PEw PEw hs hbase hline) h
theorem m_find {X : Cx} {H : Hp} {Q : VK} {a b : Str} (q : Q (.int (PySem.Txt.find a b)) H) : mW X "str.find" (.str a) [.str b] H Q := mI mt_find ⟨_, _, rfl, rfl, q⟩

/-! ### tolls -/
abbrev Toll : Type := Nat × Nat
abbrev Tls : Type := List (Nd × Toll)
def LtT (a b : Toll) : Prop := a.1 < b.1 ∨ (a.1 = b.1 ∧ a.2 < b.2)
instance (a b : Toll) : Decidable (LtT a b) := by unfold LtT; infer_instance
def tlI (t : Toll) : List Int := [((t.1 : Nat) : Int), ((t.2 : Nat) : Int)]
def tlV (t : Toll) : List V := [.int ((t.1 : Nat) : Int), .int ((t.2 : Nat) : Int)]
def TlAt (H : Hp) (v : V) (t : Toll) : Prop := ∃ a, v = .ref a ∧ H a = some (.tup (tlV t))
theorem TlAt.ts {H H' : Hp} (s : TS H H') {v : V} {t : Toll} (h : TlAt H v t) : TlAt H' v t := by
  obtain ⟨a, e, q⟩ := h
  exact ⟨a, e, s _ _ q⟩
theorem lex_tl (s t : Toll) : HT.lexLt (tlI s) (tlI t) = decide (LtT s t) := by
  unfold tlI
  rw [HT.lexLt_cons]
  by_cases c : ((s.1 : Nat) : Int) = ((t.1 : Nat) : Int)
  · rw [if_pos c, HT.lexLt_cons]
    by_cases c2 : ((s.2 : Nat) : Int) = ((t.2 : Nat) : Int)
    · rw [if_pos c2, HT.lexLt_nil_nil]
      exact (decide_eq_false (by unfold LtT; omega)).symm
    · rw [if_neg c2]
      exact decide_eq_decide.mpr (by unfold LtT; omega)
  · rw [if_neg c]
    exact decide_eq_decide.mpr (by unfold LtT; omega)
theorem o_ltP {X : Cx} {H : Hp} {Q : VK} {a b : Addr} {s t : Toll} (hu : X.A.units < cLine) (ha : H a = some (.tup (tlV s))) (hb : H b = some (.tup (tlV t))) (q : Q (.bl (decide (LtT s t))) H) : oW X (compareOp .Lt) (.ref a) (.ref b) H Q :=
  oI (op_ltT hu) ⟨a, b, tlI s, tlI t, rfl, rfl, SqT.of ha, SqT.of hb, by rw [lex_tl]; exact q⟩
theorem o_leP {X : Cx} {H : Hp} {Q : VK} {a b : Addr} {s t : Toll} (hu : X.A.units < cLine) (ha : H a = some (.tup (tlV s))) (hb : H b = some (.tup (tlV t))) (q : Q (.bl (decide (¬ LtT t s))) H) : oW X (compareOp .LtE) (.ref a) (.ref b) H Q :=
  oI (op_leT hu) ⟨a, b, tlI s, tlI t, rfl, rfl, SqT.of ha, SqT.of hb, by
    have e : (Ob.lexAt (fun j => decide ((tlI s).getD j 0 = (tlI t).getD j 0)) (fun j => decide ((tlI s).getD j 0 ≤ (tlI t).getD j 0)) (decide ((tlI s).length ≤ (tlI t).length)) 0 (min (tlI s).length (tlI t).length)) = decide (¬ LtT t s) := by
      show (if decide (((s.1 : Nat) : Int) = ((t.1 : Nat) : Int)) = true then (if decide (((s.2 : Nat) : Int) = ((t.2 : Nat) : Int)) = true then decide (2 ≤ 2) else decide (((s.2 : Nat) : Int) ≤ ((t.2 : Nat) : Int))) else decide (((s.1 : Nat) : Int) ≤ ((t.1 : Nat) : Int))) = _
      by_cases c : ((s.1 : Nat) : Int) = ((t.1 : Nat) : Int)
      · rw [if_pos (decide_eq_true c)]
        by_cases c2 : ((s.2 : Nat) : Int) = ((t.2 : Nat) : Int)
        · rw [if_pos (decide_eq_true c2)]
          exact decide_eq_decide.mpr (by unfold LtT; omega)
        · rw [if_neg (by simpa using c2)]
          exact decide_eq_decide.mpr (by unfold LtT; omega)
      · rw [if_neg (by simpa using c)]
        exact decide_eq_decide.mpr (by unfold LtT; omega)
    rw [e]
    exact q⟩
def nkey (q : Nd × Toll) : List Key × Toll := (ndK q.1, q.2)
theorem lk_nkey : ∀ (F : Tls) (n : Nd), lk (F.map nkey) (ndK n) = lk F n
  | [], _ => rfl
  | p :: F, n => by
    rw [List.map_cons]
    show (if ndK p.1 = ndK n then some p.2 else lk (F.map nkey) (ndK n)) = if p.1 = n then some p.2 else lk F n
    by_cases c : p.1 = n
    · rw [if_pos c, if_pos (by rw [c])]
    · rw [if_neg c, if_neg fun z => c (ndK_inj z), lk_nkey F n]
theorem pt_nkey (F : Tls) (n : Nd) (t : Toll) : pt (F.map nkey) (ndK n) t = (pt F n t).map nkey := by
  unfold pt
  rw [lk_nkey]
  by_cases c : (lk F n).isSome = true
  · rw [if_pos c, if_pos c, List.map_map, List.map_map]
    refine List.map_congr_left fun q _ => ?_
    show (if ndK q.1 = ndK n then (ndK q.1, t) else nkey q) = nkey (if q.1 = n then (q.1, t) else q)
    by_cases c2 : q.1 = n
    · rw [if_pos c2, if_pos (by rw [c2])]; rfl
    · rw [if_neg c2, if_neg fun z => c2 (ndK_inj z)]
  · rw [if_neg c, if_neg c, List.map_append]; rfl
/-- the dict of tolls -/
def Kn (H : Hp) (d : Addr) (F : Tls) : Prop := ∃ kvs, H d = some (.dT kvs) ∧ DAt (TlAt H) kvs (F.map nkey)
theorem Kn.keep {H H' : Hp} {d : Addr} {F : Tls} (s : Same H H') (h : Kn H d F) : Kn H' d F := by
  obtain ⟨kvs, e, q⟩ := h
  exact ⟨kvs, s _ _ e, q.mono fun _ _ z => z.ts (Same.ts s)⟩
theorem Kn.isD {H : Hp} {d : Addr} {F : Tls} (h : Kn H d F) : IsD H d := by
  obtain ⟨kvs, e, q⟩ := h
  exact .inr ⟨kvs, .inl e⟩
theorem Kn.get {H : Hp} {d b : Addr} {F : Tls} {n : Nd} (h : Kn H d F) (hb : H b = some (.tup ((ndK n).map kV))) : (lk F n = none → DGet H d (.ref b) none) ∧ ∀ t, lk F n = some t → ∃ a, DGet H d (.ref b) (some (.ref a)) ∧ H a = some (.tup (tlV t)) := by
  obtain ⟨kvs, e, q⟩ := h
  have g := DGet.t (k := ndK n) e hb
  obtain ⟨h1, h2⟩ := q.val (ndK n)
  rw [lk_nkey] at h1 h2
  refine ⟨fun z => by rw [h1 z] at g; exact g, fun t z => ?_⟩
  obtain ⟨v, hv, a, rfl, ha⟩ := h2 t z
  rw [hv] at g
  exact ⟨a, g, ha⟩
/-- d.get(n), told for both ways -/
def OptAt (H : Hp) (v : V) (o : Option Toll) : Prop := (o = none ∧ v = .non) ∨ ∃ t, o = some t ∧ TlAt H v t
theorem Kn.get1 {H : Hp} {d b : Addr} {F : Tls} {n : Nd} (h : Kn H d F) (hb : H b = some (.tup ((ndK n).map kV))) : ∃ r, DGet H d (.ref b) r ∧ OptAt H (r.getD .non) (lk F n) := by
  obtain ⟨h1, h2⟩ := h.get hb
  cases e : lk F n with
  | none => exact ⟨none, h1 e, .inl ⟨rfl, rfl⟩⟩
  | some t =>
    obtain ⟨a, g, ha⟩ := h2 t e
    exact ⟨_, g, .inr ⟨t, rfl, a, rfl, ha⟩⟩
theorem OptAt.ts {H H' : Hp} (s : TS H H') {v : V} {o : Option Toll} (h : OptAt H v o) : OptAt H' v o := by
  rcases h with h | ⟨t, e, h⟩
  · exact .inl h
  · exact .inr ⟨t, e, h.ts s⟩
theorem ts_put {H H' : Hp} {d : Addr} {kvs : List (List Key × V)} (e : H d = some (.dT kvs)) (f : ∀ b, b ≠ d → H' b = H b) : TS H H' := fun b xs q => by
  have : b ≠ d := fun z => by rw [z, e] at q; cases q
  rw [f b this]
  exact q
theorem Kn.put {H H' : Hp} {d : Addr} {F : Tls} {n : Nd} {v : V} {t : Toll} {kvs : List (List Key × V)} (e : H d = some (.dT kvs)) (q : DAt (TlAt H) kvs (F.map nkey)) (hv : TlAt H v t) (k : H' d = some (.dT (putK kvs (ndK n) v))) (f : ∀ b, b ≠ d → H' b = H b) : Kn H' d (pt F n t) := by
  refine ⟨_, k, ?_⟩
  rw [← pt_nkey]
  exact (q.put hv).mono fun _ _ z => z.ts (ts_put e f)
theorem Kn.same {H0 H H' : Hp} {d : Addr} (n : H0 d = none) (s : Same H0 H) (f : ∀ b, b ≠ d → H' b = H b) : Same H0 H' := fun b o e => by
  have : b ≠ d := fun z => by rw [z, n] at e; cases e
  rw [f b this]
  exact s _ _ e
theorem Kn.len {H : Hp} {F : Tls} {kvs : List (List Key × V)} (q : DAt (TlAt H) kvs (F.map nkey)) : kvs.length = F.length := by
  have := q.len
  rw [List.length_map] at this
  exact this
structure Cst where
  put : Nat
  cut : Nat
  swap : Nat
def CsAt (H : Hp) (v : V) (c : Cst) : Prop := ∃ a, v = .ref a ∧ H a = some (.tup [.int ((c.put : Nat) : Int), .int ((c.cut : Nat) : Int), .int ((c.swap : Nat) : Int)])
def signToll (c : Cst) (s : Nat) (there : List Nat) : Toll :=
  if there = [] then (c.put, 0) else (min (there.length * c.cut + c.put) ((there.length - 1) * c.cut + (if s ∈ there then 0 else c.swap)), 0)
theorem mulw {n m : Nat} (h1 : n ≤ 1000000) (h2 : ((m : Nat) : Int) ≤ top60) : CMulW ((n : Nat) : Int) ((m : Nat) : Int) := by
  have a : ((n : Nat) : Int).natAbs.log2 < 20 := PySem.Flt.log2_lt_of (by decide) (by omega)
  have t60 : top60 < ((2 ^ 200 : Nat) : Int) := by decide +kernel
  have b : ((m : Nat) : Int).natAbs.log2 < 200 := PySem.Flt.log2_lt_of (by decide) (by omega)
  unfold CMulW
  omega
theorem sg_eq {n c p s : Nat} (h : 0 < n) : (if (((n : Nat) : Int) - 1) * ((c : Nat) : Int) + ((s : Nat) : Int) < ((n : Nat) : Int) * ((c : Nat) : Int) + ((p : Nat) : Int) then (((n : Nat) : Int) - 1) * ((c : Nat) : Int) + ((s : Nat) : Int) else ((n : Nat) : Int) * ((c : Nat) : Int) + ((p : Nat) : Int)) = ((min (n * c + p) ((n - 1) * c + s) : Nat) : Int) := by
  have e : ((n : Nat) : Int) - 1 = ((n - 1 : Nat) : Int) := by omega
  rw [e, ← Int.natCast_mul, ← Int.natCast_mul]
  generalize n * c = u
  generalize (n - 1) * c = w
  split <;> omega
def R_sign_toll : V → V → V → Hp → VK → XK → Prop := fun x y z H Q _ => ∃ (s : Nat) (there : Str) (c : Cst), x = .str ⟨#[s]⟩ ∧ y = .str there ∧ there.length ≤ 1000 ∧ CsAt H z c ∧ ((c.put : Nat) : Int) ≤ top60 ∧ ((c.cut : Nat) : Int) ≤ top60 ∧ ∀ v H', Same H H' → TlAt H' v (signToll c s (tl there)) → Q v H'
section
theorem ok_sign_toll {f : Addr} {fd : FuncData} (F : Fun K "sign_toll" "sign_toll" s_sign_toll f fd) (T : Txt K mg cs) : FnOk P w K mg base (L2.CX P w) 1 f fd ["sign", "there", "costs"] (sp3 (R_sign_toll)) := by
  refine F.okX sc_sign_toll (fun vs H Q E h => sp3_len h) (fun cdv A outer s H vs Q E hr h => ⟨_, PBw (X := X_sign_toll P w K mg base f cdv A outer s H E), ?_⟩)
  obtain ⟨a0, a1, a2, rfl, h⟩ := h
  have ib_len := T.b_len
  have ib_min := T.b_min
  have hr' : Room 0 (X_sign_toll P w K mg base f cdv A outer s H E).A := hr
  replace hr := hr'
  clear hr'
  obtain ⟨s, there, c, rfl, rfl, hl, ⟨a, rfl, ha⟩, hp, hc, h⟩ := h
  have hu := hr.units
  have hl2 : there.length = (tl there).length := len_tl there
  kxs_still
  refine iteD (fun c0 => ?_) fun c0 => ?_
  · have e0 : tl there = [] := List.eq_nil_of_length_eq_zero (by omega)
    kxs_still
    intro t1 H1 s1 n1 k1 f1
    refine h _ H1 s1 ⟨t1, rfl, ?_⟩
    rw [k1]
    unfold signToll
    rw [if_pos e0]
    rfl
  · have e0 : ¬ tl there = [] := fun e => c0 (by rw [hl2, e]; rfl)
    kxs_still
    have hm : (((there.length : Nat) : Int) - 1) = ((there.length - 1 : Nat) : Int) := by omega
    refine iteD (fun c1 => ?_) fun c1 => ?_
    · kxs_still
      refine o_mul (mulw (by omega) hc) ?_
      kxs_still
      refine o_mul (by rw [hm]; exact mulw (by omega) hc) ?_
      kxs_still
      intro t1 H1 s1 n1 k1 f1
      refine h _ H1 s1 ⟨t1, rfl, ?_⟩
      rw [k1]
      unfold signToll
      rw [if_neg e0, if_pos c1, ← hl2]
      exact congrArg (fun z => some (HO.tup [V.int z, .int 0])) (sg_eq (s := 0) (by omega))
    · kxs_still
      refine o_mul (mulw (by omega) hc) ?_
      kxs_still
      refine o_mul (by rw [hm]; exact mulw (by omega) hc) ?_
      kxs_still
      intro t1 H1 s1 n1 k1 f1
      refine h _ H1 s1 ⟨t1, rfl, ?_⟩
      rw [k1]
      unfold signToll
      rw [if_neg e0, if_neg c1, ← hl2]
      exact congrArg (fun z => some (HO.tup [V.int z, .int 0])) (sg_eq (by omega))
end
theorem df_sign_toll (T : Txt K mg cs) : Df P w K mg base "sign_toll" 1 ["sign", "there", "costs"] (sp3 (R_sign_toll)) := by
  obtain ⟨f, fd, hm, F, hb⟩ := T.f_sign_toll.ex
  exact ⟨f, fd, hm, F.kp, hb, ok_sign_toll F T⟩
def sgOf (p : Str) : Nat := (tl p).getD 1 0
theorem sg_tl {p : Str} (h : isPartS p = true) (hs : isSg p = true) : tl p = [39, sgOf p] := by
  rcases Bool.or_eq_true_iff.mp h with h | h
  · obtain ⟨c, e, hc⟩ := sign_is h
    unfold sgOf
    rw [e]
    rfl
  · have := name_free h (s := 39) (by decide)
    unfold isSg at hs
    cases q : tl p with
    | nil => rw [q] at hs; cases hs
    | cons x t =>
      rw [q] at hs this
      have e : x = 39 := by
        have hs : (some x == some 39) = true := hs
        simpa using hs
      exact absurd (by rw [e]; exact List.mem_cons_self ..) this
theorem part_ne {p : Str} (h : isPartS p = true) : ∃ c l, tl p = c :: l := by
  cases q : tl p with
  | cons c l => exact ⟨c, l, rfl⟩
  | nil =>
    rcases Bool.or_eq_true_iff.mp h with h | h
    · obtain ⟨c, e, hc⟩ := sign_is h
      rw [e] at q; cases q
    · unfold isNameS at h
      simp only [Bool.and_eq_true, decide_eq_true_eq] at h
      have := len_tl p
      rw [q] at this
      have := h.1.1
      simp at *
      omega
def cut2 (t : List Nat) (i j : Nat) : List Nat := (t.drop i).take (j - i)
def leafP (c : Cst) (t : List Nat) (i j : Nat) (F : Tls) (p : Str) : Tls := if isSg p = true then pt F (.pt p i j) (signToll c (sgOf p) (cut2 t i j)) else F
def leafR (rs : List Rl) (c : Cst) (t : List Nat) (i j : Nat) (F : Tls) (m : Nat) : Tls := match rs[m]? with
  | none => F
  | some r => r.parts.foldl (leafP c t i j) (pt F (.ru m 0 i j) ((j - i) * c.cut, 1))
def layN (rs : List Rl) (c : Cst) (t : List Nat) (i j : Nat) (F : Tls) : Nat → Tls
  | 0 => F
  | m + 1 => leafR rs c t i j (layN rs c t i j F m) m
theorem fold_take {α β : Type} (f : β → α → β) (b : β) {l : List α} {k : Nat} {x : α} (h : l[k]? = some x) : (l.take (k + 1)).foldl f b = f ((l.take k).foldl f b) x := by
  rw [List.take_add_one, h, Option.toList_some, List.foldl_append]
  rfl
theorem pt_le (F : Tls) (n : Nd) (t : Toll) : (pt F n t).length ≤ F.length + 1 := by
  rw [pt_len]
  split <;> omega
theorem leafP_le (c : Cst) (t : List Nat) (i j : Nat) (F : Tls) (p : Str) : (leafP c t i j F p).length ≤ F.length + 1 := by
  unfold leafP
  split
  · exact pt_le _ _ _
  · omega
theorem leafP_fold_le (c : Cst) (t : List Nat) (i j : Nat) : ∀ (l : List Str) (F : Tls), (l.foldl (leafP c t i j) F).length ≤ F.length + l.length
  | [], F => Nat.le_refl _
  | p :: l, F => by
    have a := leafP_fold_le c t i j l (leafP c t i j F p)
    have b := leafP_le c t i j F p
    rw [List.foldl_cons, List.length_cons]
    omega
theorem layN_le {rs : List Rl} (hG : GoodG rs) (c : Cst) (t : List Nat) (i j : Nat) (F : Tls) : ∀ m, (layN rs c t i j F m).length ≤ F.length + 7 * m
  | 0 => Nat.le_refl _
  | m + 1 => by
    have ih := layN_le hG c t i j F m
    show (leafR rs c t i j (layN rs c t i j F m) m).length ≤ _
    unfold leafR
    cases e : rs[m]? with
    | none => show (layN rs c t i j F m).length ≤ _; omega
    | some r =>
      have a := leafP_fold_le c t i j r.parts (pt (layN rs c t i j F m) (.ru m 0 i j) ((j - i) * c.cut, 1))
      have b := pt_le (layN rs c t i j F m) (.ru m 0 i j) ((j - i) * c.cut, 1)
      have d := (hG.good r (List.mem_of_getElem? e)).few
      show (r.parts.foldl (leafP c t i j) _).length ≤ _
      omega
def R_lay_leaves (K : PySem.W.Frag) : V → V → V → V → V → V → Hp → VK → XK → Prop := fun x y z u v w H Q _ => ∃ (H0 : Hp) (d a : Addr) (vs : List V) (rs : List Rl) (tx : Str) (c : Cst) (i j : Nat) (F : Tls), x = .ref d ∧ y = .ref a ∧ z = .str tx ∧ CsAt H0 u c ∧ v = .int (i : Nat) ∧ w = .int (j : Nat) ∧ i ≤ j ∧ j ≤ tx.length ∧ tx.length ≤ 60 ∧ H0 d = none ∧ Same H0 H ∧ H0 a = some (.lst vs) ∧ RulesAt H0 vs rs ∧ GoodG rs ∧ Kn H d F ∧ F.length ≤ 8000000 ∧ ((c.put : Nat) : Int) ≤ top60 ∧ ((c.cut : Nat) : Int) ≤ top60 ∧
  ∀ H', Same H0 H' → Kn H' d (layN rs c (tl tx) i j F rs.length) → Q .non H'
section
set_option hygiene false in
local macro_rules | `(tactic| top_name) => `(tactic| first | refine e_call (df_sign_toll T) (hr.mono (by decide)) ?_)
theorem ok_lay_leaves {f : Addr} {fd : FuncData} (F : Fun K "lay_leaves" "lay_leaves" s_lay_leaves f fd) (T : Txt K mg cs) : FnOk P w K mg base (L2.CX P w) 2 f fd ["known", "rules", "text", "costs", "i", "j"] (sp6 (R_lay_leaves K)) := by
  refine F.okX sc_lay_leaves (fun vs H Q E h => sp6_len h) (fun cdv A outer s H vs Q E hr h => ⟨_, PBw (X := X_lay_leaves P w K mg base f cdv A outer s H E), ?_⟩)
  obtain ⟨a0, a1, a2, a3, a4, a5, rfl, h⟩ := h
  have ib_range := T.b_range
  have ib_len := T.b_len
  have hr' : Room 1 (X_lay_leaves P w K mg base f cdv A outer s H E).A := hr
  replace hr := hr'
  clear hr'
  obtain ⟨H0, d, a, vs, rs, tx, c, i, j, F, rfl, rfl, rfl, ⟨e, rfl, he⟩, rfl, rfl, hij, hjt, ht, n0, s0, ha, hR, hG, hk, hF, hp, hc, h⟩ := h
  have hvl := hR.len
  have h60 := hG.few
  have ha1 := s0 _ _ ha
  kxs_still
  refine s_for (j_rng1 ?_)
  kxs_still
  refine ⟨by omega, by omega, _, _, _, walk_range0, fun m σ' H' => ∃ v6 v7, σ' = [some (.ref d), some (.ref a), some (.str tx), some (.ref e), some (.int ((i : Nat) : Int)), some (.int ((j : Nat) : Int)), v6, v7] ∧ Same H0 H' ∧ Kn H' d (layN rs c (tl tx) i j F m), ⟨none, none, rfl, s0, hk⟩, fun _ _ _ _ _ => trivial, ?_, ?_⟩
  · rintro m x σ' H1 H2 hm ⟨v6, v7, rfl, s1, k1⟩ ⟨rfl, rfl⟩
    obtain ⟨rl, hrl⟩ : ∃ rl, rs[m]? = some rl := ⟨_, List.getElem?_eq_getElem (by omega)⟩
    obtain ⟨ra, rb, hv, hvk, e1, e2⟩ := hR.at' hrl
    have he2 := s1 _ _ he
    have ha2 := s1 _ _ ha
    have e12 := s1 _ _ e1
    have e22 := s1 _ _ e2
    have hGr := hG.good rl (List.mem_of_getElem? hrl)
    have hle := layN_le hG c (tl tx) i j F m
    kxs_still
    refine s_asg ?_
    kxs_still
    refine o_mul (by rw [show ((j : Nat) : Int) - ((i : Nat) : Int) = ((j - i : Nat) : Int) by omega]; exact mulw (by omega) hc) ?_
    kxs_still
    intro t3 H3 s3 n3 k3 f3
    refine g_setT (rm1 hr) ?_
    kxs_still
    intro t4 H4 s4 n4 k4 f4
    have k14 := (k1.keep s3).keep s4
    obtain ⟨kvs, hd4, hq4⟩ := k14
    have hlk := Kn.len hq4
    refine ⟨d, kvs, ndK (.ru m 0 i j), t4, rfl, hd4, rfl, k4, by omega, fun H5 k5 f5 => ?_⟩
    have kn5 := Kn.put (n := .ru m 0 i j) (t := ((j - i) * c.cut, 1)) hd4 hq4 ⟨t3, rfl, by rw [s4 _ _ k3]; exact congrArg (fun z => some (HO.tup [V.int z, .int 1])) (by rw [Int.natCast_mul]; congr 1; omega)⟩ k5 f5
    have s05 : Same H0 H5 := Kn.same n0 (s1.trans (s3.trans s4)) f5
    have he5 := s05 _ _ he
    have ha5 := s05 _ _ ha
    have e15 := s05 _ _ e1
    have e25 := s05 _ _ e2
    kxs_still
    refine s_for (j_tup ?_)
    kxs_still
    refine ⟨⟨_, SqT.of e25⟩, _, _, _, walk_tup (xs := rl.parts.map V.str), fun q σ' H' => ∃ v7, σ' = [some (.ref d), some (.ref a), some (.str tx), some (.ref e), some (.int ((i : Nat) : Int)), some (.int ((j : Nat) : Int)), some (.int ((m : Nat) : Int)), v7] ∧ Same H0 H' ∧ Kn H' d ((rl.parts.take q).foldl (leafP c (tl tx) i j) (pt (layN rs c (tl tx) i j F m) (.ru m 0 i j) ((j - i) * c.cut, 1))), ⟨v7, rfl, s05, kn5⟩, fun _ _ _ _ ⟨_, _, s, _⟩ => SqT.of (s _ _ e2), ?_, ?_⟩
    · rintro q x σ' H6 H7 hq ⟨v7, rfl, s6, k6⟩ ⟨rfl, hx⟩
      rw [List.getElem?_map] at hx
      obtain ⟨p, hp1, rfl⟩ := Option.map_eq_some_iff.mp hx
      have hpp := hGr.parts p (List.mem_of_getElem? hp1)
      have hpl := part_len hpp
      have stp := fold_take (leafP c (tl tx) i j) (pt (layN rs c (tl tx) i j F m) (.ru m 0 i j) ((j - i) * c.cut, 1)) hp1
      have hle2 := leafP_fold_le c (tl tx) i j (rl.parts.take q) (pt (layN rs c (tl tx) i j F m) (.ru m 0 i j) ((j - i) * c.cut, 1))
      have hle3 := pt_le (layN rs c (tl tx) i j F m) (.ru m 0 i j) ((j - i) * c.cut, 1)
      have hle4 : (rl.parts.take q).length ≤ rl.parts.length := by rw [List.length_take]; omega
      have hle5 := hGr.few
      kxs_still
      refine ⟨⟨part_ne hpp, by omega⟩, ?_⟩
      cases cs : isSg p with
      | true =>
        have htl := sg_tl hpp cs
        have he7 := s6 _ _ he
        kxs_still
        refine s_asg ?_
        kxs_still
        refine i_str (sz1m (by omega)) (c := sgOf p) (by rw [show p.cps.toList = [39, sgOf p] from htl]; rfl) ?_
        kxs_still
        have hcut : tl (cutS tx (some ((i : Nat) : Int)) (some ((j : Nat) : Int))) = cut2 (tl tx) i j := by
          rw [cutS_mid tx (by omega) (by omega), Int.toNat_natCast, Int.toNat_natCast]
          rfl
        have hcl : (cut2 (tl tx) i j).length ≤ 60 := by
          unfold cut2
          rw [List.length_take]
          omega
        refine n_str (Nat.le_trans ht (by decide)) ?_
        kxs_still
        refine ⟨sgOf p, _, c, rfl, rfl, by rw [len_tl, hcut]; omega, ⟨e, rfl, he7⟩, hp, hc, fun v8 H8 s8 t8 => ?_⟩
        refine g_setT (rm1 hr) ?_
        kxs_still
        intro t9 H9 s9 n9 k9 f9
        obtain ⟨kvs2, hd9, hq9⟩ := (k6.keep s8).keep s9
        have hlk2 := Kn.len hq9
        refine ⟨d, kvs2, ndK (.pt p i j), t9, rfl, hd9, rfl, k9, by omega, fun H10 k10 f10 => ?_⟩
        have kn10 := Kn.put (n := .pt p i j) hd9 hq9 (t8.ts (Same.ts s9)) k10 f10
        have s010 : Same H0 H10 := Kn.same n0 (s6.trans (s8.trans s9)) f10
        kxs_still
        refine ⟨_, rfl, s010, ?_⟩
        rw [stp]
        rw [hcut] at kn10
        rw [show ∀ G : Tls, leafP c (tl tx) i j G p = pt G (.pt p i j) (signToll c (sgOf p) (cut2 (tl tx) i j)) from fun G => if_pos cs]
        exact kn10
      | false =>
        kxs_still
        refine ⟨_, rfl, s6, ?_⟩
        rw [stp]
        unfold leafP
        rw [if_neg (by rw [cs]; decide)]
        exact k6
    · rintro σ' H6 ⟨v7, rfl, s6, k6⟩
      kxs_still
      refine ⟨_, _, rfl, s6, ?_⟩
      rw [List.length_map, List.take_length] at k6
      show Kn H6 d (leafR rs c (tl tx) i j (layN rs c (tl tx) i j F m) m)
      unfold leafR
      rw [hrl]
      exact k6
  · rintro σ' H1 ⟨v6, v7, rfl, s1, k1⟩
    kxs_still
    rw [hvl, Int.toNat_natCast] at k1
    exact h _ s1 k1
end
theorem df_lay_leaves (T : Txt K mg cs) : Df P w K mg base "lay_leaves" 2 ["known", "rules", "text", "costs", "i", "j"] (sp6 (R_lay_leaves K)) := by
  obtain ⟨f, fd, hm, F, hb⟩ := T.f_lay_leaves.ex
  exact ⟨f, fd, hm, F.kp, hb, ok_lay_leaves F T⟩
def addT (a b : Toll) : Toll := (a.1 + b.1, a.2 + b.2)
def stepTl (l r acc : Option Toll) : Option Toll := match l, r with
  | some a, some b => match acc with
    | none => some (addT a b)
    | some m => if LtT (addT a b) m then some (addT a b) else some m
  | _, _ => acc
/-- the least sum over the first places -/
def lsum (F : Tls) (m e : Nat) (p : Str) (i j : Nat) : Nat → Option Toll
  | 0 => none
  | k + 1 => stepTl (lk F (.ru m e i (i + k))) (lk F (.pt p (i + k) j)) (lsum F m e p i j k)
def R_least_sum : V → V → V → V → V → V → Hp → VK → XK → Prop := fun x y z u v w H Q _ => ∃ (d : Addr) (F : Tls) (p : Str) (m e i j : Nat), x = .ref d ∧ Kn H d F ∧ y = .str p ∧ z = .int (m : Nat) ∧ u = .int ((e : Nat) + 1) ∧ v = .int (i : Nat) ∧ w = .int (j : Nat) ∧ i ≤ j ∧ j ≤ 60 ∧ ∀ v H', Same H H' → OptAt H' v (lsum F m e p i j (j + 1 - i)) → Q v H'
section
theorem ok_least_sum {f : Addr} {fd : FuncData} (F : Fun K "least_sum" "least_sum" s_least_sum f fd) (T : Txt K mg cs) : FnOk P w K mg base (L2.CX P w) 1 f fd ["known", "part", "at", "d", "i", "j"] (sp6 (R_least_sum)) := by
  refine F.okX sc_least_sum (fun vs H Q E h => sp6_len h) (fun cdv A outer s H vs Q E hr h => ⟨_, PBw (X := X_least_sum P w K mg base f cdv A outer s H E), ?_⟩)
  obtain ⟨a0, a1, a2, a3, a4, a5, rfl, h⟩ := h
  have ib_range := T.b_range
  have hr' : Room 0 (X_least_sum P w K mg base f cdv A outer s H E).A := hr
  replace hr := hr'
  clear hr'
  obtain ⟨d, F, p, m, e, i, j, rfl, hk, rfl, rfl, rfl, rfl, rfl, hij, hj, h⟩ := h
  have hu := hr.units
  kxs_still
  refine s_for (j_rng2 ?_)
  kxs_still
  refine ⟨by omega, _, _, _, walk_range, fun q σ' H' => ∃ v6 v7 v8 v9 v10, σ' = [some (.ref d), some (.str p), some (.int ((m : Nat) : Int)), some (.int (((e : Nat) : Int) + 1)), some (.int ((i : Nat) : Int)), some (.int ((j : Nat) : Int)), v6, v7, v8, v9, v10] ∧ Same H H' ∧ ∃ w, v6 = some w ∧ OptAt H' w (lsum F m e p i j q), ⟨_, _, _, _, _, rfl, Same.refl _, _, rfl, .inl ⟨rfl, rfl⟩⟩, fun _ _ _ _ _ => trivial, ?_, ?_⟩
  · rintro q x σ' H1 H2 hq ⟨v6, v7, v8, v9, v10, rfl, s1, w, rfl, ho⟩ ⟨rfl, hx⟩
    obtain rfl : x = .int ((i : Nat) + (q : Nat)) := hx
    kxs_still
    refine e_dget1 (rm1 hr) ?_
    kxs_still
    refine ⟨(hk.keep s1).isD, ?_⟩
    kxs_still
    intro t3 H3 s3 n3 k3 f3
    have kn3 := (hk.keep s1).keep s3
    obtain ⟨r1, g1, o1⟩ := kn3.get1 (n := .ru m e i (i + q)) (b := t3) (by rw [k3]; show _ = some (HO.tup [.int ((m : Nat) : Int), .int ((e : Nat) : Int), .int ((i : Nat) : Int), .int ((i + q : Nat) : Int)]); rw [Int.natCast_add, Int.add_sub_cancel])
    refine ⟨r1, g1, ?_⟩
    kxs_still
    refine e_dget1 (rm1 hr) ?_
    kxs_still
    refine ⟨kn3.isD, ?_⟩
    kxs_still
    intro t4 H4 s4 n4 k4 f4
    have kn4 := kn3.keep s4
    obtain ⟨r2, g2, o2⟩ := kn4.get1 (n := .pt p (i + q) j) (b := t4) (by rw [k4]; show _ = some (HO.tup [.str p, .int ((i + q : Nat) : Int), .int ((j : Nat) : Int)]); rw [Int.natCast_add])
    refine ⟨r2, g2, ?_⟩
    replace o1 := o1.ts (Same.ts s4)
    replace ho := ho.ts (Same.ts (s3.trans s4))
    generalize r1.getD .non = w1 at o1
    generalize r2.getD .non = w2 at o2
    have s14 := s1.trans (s3.trans s4)
    have stp : lsum F m e p i j (q + 1) = stepTl (lk F (.ru m e i (i + q))) (lk F (.pt p (i + q) j)) (lsum F m e p i j q) := rfl
    rcases o1 with ⟨e1, rfl⟩ | ⟨l, e1, a1, rfl, k1⟩
    · kxs_still
      refine ⟨_, _, _, _, _, rfl, s14, _, rfl, ?_⟩
      rw [stp, e1]
      exact ho
    rcases o2 with ⟨e2, rfl⟩ | ⟨r, e2, a2, rfl, k2⟩
    · kxs_still
      refine ⟨_, _, _, _, _, rfl, s14, _, rfl, ?_⟩
      rw [stp, e1, e2]
      exact ho
    unfold tlV at k1 k2
    kxs_still
    intro t5 H5 s5 n5 k5 f5
    have k5' : H5 t5 = some (.tup (tlV (addT l r))) := by
      rw [k5]
      show _ = some (HO.tup [.int ((l.1 + r.1 : Nat) : Int), .int ((l.2 + r.2 : Nat) : Int)])
      rw [Int.natCast_add, Int.natCast_add]
    replace ho := ho.ts (Same.ts s5)
    have s15 := s14.trans s5
    rcases ho with ⟨e3, rfl⟩ | ⟨u, e3, a3, rfl, k6⟩
    · kxs_still
      refine ⟨_, _, _, _, _, rfl, s15, _, rfl, ?_⟩
      rw [stp, e1, e2, e3]
      exact .inr ⟨_, rfl, t5, rfl, k5'⟩
    · kxs_still
      refine o_ltP (by omega) k5' k6 ?_
      kxs_still
      refine iteD (fun c => ?_) fun c => ?_
      · kxs_still
        refine ⟨_, _, _, _, _, rfl, s15, _, rfl, ?_⟩
        rw [stp, e1, e2, e3]
        show OptAt _ _ (if _ then _ else _)
        rw [if_pos c]
        exact .inr ⟨_, rfl, t5, rfl, k5'⟩
      · kxs_still
        refine ⟨_, _, _, _, _, rfl, s15, _, rfl, ?_⟩
        rw [stp, e1, e2, e3]
        show OptAt _ _ (if _ then _ else _)
        rw [if_neg c]
        exact .inr ⟨_, rfl, a3, rfl, k6⟩
  · rintro σ' H1 ⟨v6, v7, v8, v9, v10, rfl, s1, w, rfl, ho⟩
    kxs_still
    refine h _ _ s1 ?_
    rw [show (((j : Nat) : Int) + 1 - ((i : Nat) : Int)).toNat = j + 1 - i by omega] at ho
    exact ho
end
theorem df_least_sum (T : Txt K mg cs) : Df P w K mg base "least_sum" 1 ["known", "part", "at", "d", "i", "j"] (sp6 (R_least_sum)) := by
  obtain ⟨f, fd, hm, F, hb⟩ := T.f_least_sum.ex
  exact ⟨f, fd, hm, F.kp, hb, ok_least_sum F T⟩
def R_laid : V → V → V → Hp → VK → XK → Prop := fun x y z H Q _ => ∃ (H0 : Hp) (d : Addr) (F : Tls) (n : Nd) (o : Option Toll), x = .ref d ∧ H0 d = none ∧ Same H0 H ∧ Kn H d F ∧ F.length ≤ 9000000 ∧ NdAt H y n ∧ OptAt H z o ∧
  ((o = none ∨ ∃ t v, o = some t ∧ lk F n = some v ∧ ¬ LtT t v) → ∀ H', Same H0 H' → Kn H' d F → Q (.bl false) H') ∧ ∀ t, o = some t → (∀ v, lk F n = some v → LtT t v) → ∀ H', Same H0 H' → Kn H' d (pt F n t) → Q (.bl true) H'
section
theorem ok_laid {f : Addr} {fd : FuncData} (F : Fun K "laid" "laid" s_laid f fd) (T : Txt K mg cs) : FnOk P w K mg base (L2.CX P w) 1 f fd ["known", "node", "toll"] (sp3 (R_laid)) := by
  refine F.okX sc_laid (fun vs H Q E h => sp3_len h) (fun cdv A outer s H vs Q E hr h => ⟨_, PBw (X := X_laid P w K mg base f cdv A outer s H E), ?_⟩)
  obtain ⟨a0, a1, a2, rfl, h⟩ := h
  have hr' : Room 0 (X_laid P w K mg base f cdv A outer s H E).A := hr
  replace hr := hr'
  clear hr'
  obtain ⟨H0, d, F, n, o, rfl, n0, s0, hk, hF, ⟨b, rfl, hb⟩, ho, h1, h2⟩ := h
  have hu := hr.units
  rcases ho with ⟨rfl, rfl⟩ | ⟨t, rfl, a, rfl, ha⟩
  · kxs_still
    exact h1 (.inl rfl) H s0 hk
  cases e : lk F n with
  | none =>
    kxs_still
    refine o_din (rm1 hr) ((hk.get hb).1 e) ?_
    kxs_still
    refine s_asg ?_
    kxs_still
    refine g_setT (rm1 hr) ?_
    kxs_still
    obtain ⟨kvs, hd4, hq4⟩ := hk
    have hlk := Kn.len hq4
    refine ⟨d, kvs, ndK n, b, rfl, hd4, rfl, hb, by omega, fun H5 k5 f5 => ?_⟩
    have kn5 := Kn.put (n := n) hd4 hq4 ⟨a, rfl, ha⟩ k5 f5
    kxs_still
    exact h2 t rfl (fun v q => by rw [e] at q; cases q) H5 (Kn.same n0 s0 f5) kn5
  | some v =>
    obtain ⟨a2, g, k2⟩ := (hk.get hb).2 v e
    kxs_still
    refine o_din (rm1 hr) g ?_
    kxs_still
    refine i_dget (rm1 hr) g ?_
    kxs_still
    refine o_leP (by omega) k2 ha ?_
    kxs_still
    refine iteD (fun c => ?_) fun c => ?_
    · kxs_still
      exact h1 (.inr ⟨t, v, rfl, e, c⟩) H s0 hk
    · kxs_still
      refine s_asg ?_
      kxs_still
      refine g_setT (rm1 hr) ?_
      kxs_still
      obtain ⟨kvs, hd4, hq4⟩ := hk
      have hlk := Kn.len hq4
      refine ⟨d, kvs, ndK n, b, rfl, hd4, rfl, hb, by omega, fun H5 k5 f5 => ?_⟩
      have kn5 := Kn.put (n := n) hd4 hq4 ⟨a, rfl, ha⟩ k5 f5
      kxs_still
      exact h2 t rfl (fun v q => by rw [e] at q; cases q; exact Classical.not_not.mp c) H5 (Kn.same n0 s0 f5) kn5
end
theorem df_laid (T : Txt K mg cs) : Df P w K mg base "laid" 1 ["known", "node", "toll"] (sp3 (R_laid)) := by
  obtain ⟨f, fd, hm, F, hb⟩ := T.f_laid.ex
  exact ⟨f, fd, hm, F.kp, hb, ok_laid F T⟩
def laidF (F : Tls) (n : Nd) (o : Option Toll) : Tls × Bool := match o with
  | none => (F, false)
  | some t => match lk F n with
    | none => (pt F n t, true)
    | some v => if LtT t v then (pt F n t, true) else (F, false)
theorem laidF_le (F : Tls) (n : Nd) (o : Option Toll) : (laidF F n o).1.length ≤ F.length + 1 := by
  unfold laidF
  split
  · exact Nat.le_succ _
  · split
    · exact pt_le _ _ _
    · split
      · exact pt_le _ _ _
      · exact Nat.le_succ _
theorem laidF_no {F : Tls} {n : Nd} {o : Option Toll} (h : o = none ∨ ∃ t v, o = some t ∧ lk F n = some v ∧ ¬ LtT t v) : laidF F n o = (F, false) := by
  rcases h with rfl | ⟨t, v, rfl, e, c⟩
  · rfl
  · show (match lk F n with
      | none => (pt F n t, true)
      | some v => if LtT t v then (pt F n t, true) else (F, false)) = _
    rw [e]
    exact if_neg c
theorem laidF_yes {F : Tls} {n : Nd} {t : Toll} (h : ∀ v, lk F n = some v → LtT t v) : laidF F n (some t) = (pt F n t, true) := by
  show (match lk F n with
      | none => (pt F n t, true)
      | some v => if LtT t v then (pt F n t, true) else (F, false)) = _
  cases e : lk F n with
  | none => rfl
  | some v => exact if_pos (h v e)
/-- one laying, and whether anything was laid -/
def offT (s : Tls × Bool) (n : Nd) (o : Option Toll) : Tls × Bool := ((laidF s.1 n o).1, (laidF s.1 n o).2 || s.2)
/-- the first parts of a rule -/
def passD (m : Nat) (ps : List Str) (i j : Nat) (s : Tls × Bool) : Nat → Tls × Bool
  | 0 => s
  | e + 1 => match ps[e]? with
    | none => passD m ps i j s e
    | some p => offT (passD m ps i j s e) (.ru m (e + 1) i j) (lsum (passD m ps i j s e).1 m e p i j (j + 1 - i))
def passR (rs : List Rl) (i j : Nat) (s : Tls × Bool) (m : Nat) : Tls × Bool := match rs[m]? with
  | none => s
  | some r => offT (passD m r.parts i j s r.parts.length) (.pt r.head i j) (lk (passD m r.parts i j s r.parts.length).1 (.ru m r.parts.length i j))
def passN (rs : List Rl) (i j : Nat) (F : Tls) : Nat → Tls × Bool
  | 0 => (F, false)
  | m + 1 => passR rs i j (passN rs i j F m) m
/-- the passes end -/
inductive Stops (rs : List Rl) (i j : Nat) : Nat → Tls → Tls → Prop
  | stop {F : Tls} : (passN rs i j F rs.length).2 = false → Stops rs i j 0 F (passN rs i j F rs.length).1
  | more {k : Nat} {F G : Tls} : (passN rs i j F rs.length).2 = true → Stops rs i j k (passN rs i j F rs.length).1 G → Stops rs i j (k + 1) F G
theorem passD_le (m : Nat) (ps : List Str) (i j : Nat) (s : Tls × Bool) : ∀ e, (passD m ps i j s e).1.length ≤ s.1.length + e
  | 0 => Nat.le_refl _
  | e + 1 => by
    have ih := passD_le m ps i j s e
    show (match ps[e]? with
      | none => passD m ps i j s e
      | some p => offT (passD m ps i j s e) (.ru m (e + 1) i j) (lsum (passD m ps i j s e).1 m e p i j (j + 1 - i))).1.length ≤ _
    split
    · omega
    · have := laidF_le (passD m ps i j s e).1 (.ru m (e + 1) i j) (lsum (passD m ps i j s e).1 m e ‹_› i j (j + 1 - i))
      show (laidF _ _ _).1.length ≤ _
      omega
theorem passR_le {rs : List Rl} (hG : GoodG rs) (i j : Nat) (s : Tls × Bool) (m : Nat) : (passR rs i j s m).1.length ≤ s.1.length + 7 := by
  unfold passR
  split
  · omega
  · rename_i r e
    have h6 := (hG.good r (List.mem_of_getElem? e)).few
    have h1 := passD_le m r.parts i j s r.parts.length
    have := laidF_le (passD m r.parts i j s r.parts.length).1 (.pt r.head i j) (lk (passD m r.parts i j s r.parts.length).1 (.ru m r.parts.length i j))
    show (laidF _ _ _).1.length ≤ _
    omega
theorem passN_le {rs : List Rl} (hG : GoodG rs) (i j : Nat) (F : Tls) : ∀ m, (passN rs i j F m).1.length ≤ F.length + 7 * m
  | 0 => Nat.le_refl _
  | m + 1 => by
    have ih := passN_le hG i j F m
    have := passR_le hG i j (passN rs i j F m) m
    show (passR rs i j (passN rs i j F m) m).1.length ≤ _
    omega
def R_lay_span : V → V → V → V → Hp → VK → XK → Prop := fun x y z u H Q _ => ∃ (H0 : Hp) (d a : Addr) (vs : List V) (rs : List Rl) (i j k : Nat) (F G : Tls), x = .ref d ∧ y = .ref a ∧ z = .int (i : Nat) ∧ u = .int (j : Nat) ∧ i ≤ j ∧ j ≤ 60 ∧ H0 d = none ∧ Same H0 H ∧ H0 a = some (.lst vs) ∧ RulesAt H0 vs rs ∧ GoodG rs ∧ Kn H d F ∧ Stops rs i j k F G ∧ (∀ F', (∃ k', Stops rs i j k' F' G) → F'.length ≤ 8000000) ∧ ∀ H', Same H0 H' → Kn H' d G → Q .non H'
section
set_option hygiene false in
local macro_rules | `(tactic| top_name) => `(tactic| first | refine e_call (df_laid T) (hr.mono (by decide)) ?_ | refine e_call (df_least_sum T) (hr.mono (by decide)) ?_)
theorem ok_lay_span {f : Addr} {fd : FuncData} (F : Fun K "lay_span" "lay_span" s_lay_span f fd) (T : Txt K mg cs) : FnOk P w K mg base (L2.CX P w) 2 f fd ["known", "rules", "i", "j"] (sp4 (R_lay_span)) := by
  refine F.okX sc_lay_span (fun vs H Q E h => sp4_len h) (fun cdv A outer s H vs Q E hr h => ⟨_, PBw (X := X_lay_span P w K mg base f cdv A outer s H E), ?_⟩)
  obtain ⟨a0, a1, a2, a3, rfl, h⟩ := h
  have ib_range := T.b_range
  have ib_len := T.b_len
  have hr' : Room 1 (X_lay_span P w K mg base f cdv A outer s H E).A := hr
  replace hr := hr'
  clear hr'
  obtain ⟨H0, d, a, vs, rs, i, j, k, F, G, rfl, rfl, rfl, rfl, hij, hj, n0, s0, ha, hR, hG, hk, hst, hlen, h⟩ := h
  have hvl := hR.len
  have h60 := hG.few
  kxs_still
  refine s_while (fun n σ' H' => ∃ F' b v5 v6 v7 v8 v9, σ' = [some (.ref d), some (.ref a), some (.int ((i : Nat) : Int)), some (.int ((j : Nat) : Int)), some (.bl b), v5, v6, v7, v8, v9] ∧ Same H0 H' ∧ Kn H' d F' ∧ (b = true → ∃ k', n = k' + 1 ∧ Stops rs i j k' F' G) ∧ (b = false → F' = G)) (k + 1) ⟨F, true, none, none, none, none, none, rfl, s0, hk, fun _ => ⟨k, rfl, hst⟩, fun z => nomatch z⟩ ?_
  rintro n σ' H1 ⟨F1, b, v5, v6, v7, v8, v9, rfl, s1, k1, hb1, hb2⟩
  kxs_still
  cases b with
  | false =>
    kxs_still
    exact h _ s1 (hb2 rfl ▸ k1)
  | true =>
    obtain ⟨kk, rfl, st1⟩ := hb1 rfl
    have hF1 := hlen F1 ⟨_, st1⟩
    have ha1 := s1 _ _ ha
    kxs_still
    refine s_for (j_rng1 ?_)
    kxs_still
    refine ⟨by omega, by omega, _, _, _, walk_range0, fun m σ' H' => ∃ v5 v6 v7 v8 v9, σ' = [some (.ref d), some (.ref a), some (.int ((i : Nat) : Int)), some (.int ((j : Nat) : Int)), some (.bl (passN rs i j F1 m).2), v5, v6, v7, v8, v9] ∧ Same H0 H' ∧ Kn H' d (passN rs i j F1 m).1, ⟨_, _, _, _, _, rfl, s1, k1⟩, fun _ _ _ _ _ => trivial, ?_, ?_⟩
    · rintro m x σ' H2 H3 hm ⟨v5, v6, v7, v8, v9, rfl, s2, k2⟩ ⟨rfl, rfl⟩
      obtain ⟨rl, hrl⟩ : ∃ rl, rs[m]? = some rl := ⟨_, List.getElem?_eq_getElem (by omega)⟩
      obtain ⟨ra, rb, hv, hvk, e1, e2⟩ := hR.at' hrl
      have hGr := hG.good rl (List.mem_of_getElem? hrl)
      have h6 := hGr.few
      have hml : (rl.parts.map V.str).length = rl.parts.length := List.length_map _
      have hle := passN_le hG i j F1 m
      have ha2 := s2 _ _ ha
      have e12 := s2 _ _ e1
      have e22 := s2 _ _ e2
      kxs_still
      refine s_for (j_rng2 ?_)
      kxs_still
      refine ⟨by omega, _, _, _, walk_range, fun q σ' H' => ∃ v9, σ' = [some (.ref d), some (.ref a), some (.int ((i : Nat) : Int)), some (.int ((j : Nat) : Int)), some (.bl (passD m rl.parts i j (passN rs i j F1 m) q).2), some (.int ((m : Nat) : Int)), some (.str rl.head), some (.ref rb), some (.int rl.worth), v9] ∧ Same H0 H' ∧ Kn H' d (passD m rl.parts i j (passN rs i j F1 m) q).1, ⟨_, rfl, s2, k2⟩, fun _ _ _ _ _ => trivial, ?_, ?_⟩
      · rintro q x σ' H4 H5 hq ⟨v9, rfl, s4, k4⟩ ⟨rfl, hx⟩
        obtain rfl : x = .int (((q : Nat) : Int) + 1) := hx.trans (by show V.int (1 + ((q : Nat) : Int)) = _; rw [Int.add_comm])
        obtain ⟨p, hp⟩ : ∃ p, rl.parts[q]? = some p := ⟨_, List.getElem?_eq_getElem (by omega)⟩
        have hpp := hGr.parts p (List.mem_of_getElem? hp)
        have e25 := s4 _ _ e2
        have hix : atI (rl.parts.map V.str) (((q : Nat) : Int) + 1 - 1) = some (.str p) := by
          rw [Int.add_sub_cancel]
          exact atI_nat (by omega) (by rw [Int.toNat_natCast, List.getElem?_map, hp]; rfl)
        have hle2 := passD_le m rl.parts i j (passN rs i j F1 m) q
        have stp : passD m rl.parts i j (passN rs i j F1 m) (q + 1) = offT (passD m rl.parts i j (passN rs i j F1 m) q) (.ru m (q + 1) i j) (lsum (passD m rl.parts i j (passN rs i j F1 m) q).1 m q p i j (j + 1 - i)) := by
          show (match rl.parts[q]? with
            | none => passD m rl.parts i j (passN rs i j F1 m) q
            | some p => offT (passD m rl.parts i j (passN rs i j F1 m) q) (.ru m (q + 1) i j) (lsum (passD m rl.parts i j (passN rs i j F1 m) q).1 m q p i j (j + 1 - i))) = _
          rw [hp]
        kxs_still
        intro t6 H6 s6 n6 k6 f6
        have e26 := s6 _ _ e25
        kxs_still
        refine ⟨d, _, p, m, q, i, j, rfl, k4.keep s6, rfl, rfl, rfl, rfl, rfl, hij, hj, fun v7 H7 s7 o7 => ?_⟩
        kxs_still
        refine ⟨H0, d, _, .ru m (q + 1) i j, _, rfl, n0, s4.trans (s6.trans s7), (k4.keep s6).keep s7, by omega, ⟨t6, rfl, by rw [s7 _ _ k6]; rfl⟩, o7, fun c H8 s8 k8 => ?_, fun t ot c H8 s8 k8 => ?_⟩
        · kxs_still
          refine ⟨some (.int (((q : Nat) : Int) + 1)), ?_, s8, ?_⟩
          · rw [stp]
            show _ = [_, _, _, _, some (V.bl ((laidF _ _ _).2 || _)), _, _, _, _, _]
            rw [laidF_no c]
            rfl
          · rw [stp]
            show Kn H8 d (laidF _ _ _).1
            rw [laidF_no c]
            exact k8
        · kxs_still
          refine ⟨some (.int (((q : Nat) : Int) + 1)), ?_, s8, ?_⟩
          · rw [stp]
            show _ = [_, _, _, _, some (V.bl ((laidF _ _ _).2 || _)), _, _, _, _, _]
            rw [ot, laidF_yes c]
            rfl
          · rw [stp]
            show Kn H8 d (laidF _ _ _).1
            rw [ot, laidF_yes c]
            exact k8
      · rintro σ' H4 ⟨v9, rfl, s4, k4⟩
        rw [show ((((rl.parts.map V.str).length : Nat) : Int) + 1 - 1).toNat = rl.parts.length by omega] at k4 ⊢
        have e24 := s4 _ _ e2
        have hle2 := passD_le m rl.parts i j (passN rs i j F1 m) rl.parts.length
        have stp : passN rs i j F1 (m + 1) = offT (passD m rl.parts i j (passN rs i j F1 m) rl.parts.length) (.pt rl.head i j) (lk (passD m rl.parts i j (passN rs i j F1 m) rl.parts.length).1 (.ru m rl.parts.length i j)) := by
          show passR rs i j (passN rs i j F1 m) m = _
          unfold passR
          rw [hrl]
        kxs_still
        intro t6 H6 s6 n6 k6 f6
        refine a_cons (e_dget1 (rm1 hr) ?_)
        kxs_still
        refine ⟨(k4.keep s6).isD, ?_⟩
        kxs_still
        intro t7 H7 s7 n7 k7 f7
        have kn7 := (k4.keep s6).keep s7
        obtain ⟨r1, g1, o1⟩ := kn7.get1 (n := .ru m rl.parts.length i j) (b := t7) (by rw [k7, List.length_map]; rfl)
        refine ⟨r1, g1, ?_⟩
        kxs_still
        refine ⟨H0, d, _, .pt rl.head i j, _, rfl, n0, s4.trans (s6.trans s7), kn7, by omega, ⟨t6, rfl, by rw [s7 _ _ k6]; rfl⟩, o1, fun c H8 s8 k8 => ?_, fun t ot c H8 s8 k8 => ?_⟩
        · kxs_still
          refine ⟨some (.int ((m : Nat) : Int)), some (.str rl.head), some (.ref rb), some (.int rl.worth), v9, ?_, s8, ?_⟩
          · rw [stp]
            show _ = [_, _, _, _, some (V.bl ((laidF _ _ _).2 || _)), _, _, _, _, _]
            rw [laidF_no c]
            rfl
          · rw [stp]
            show Kn H8 d (laidF _ _ _).1
            rw [laidF_no c]
            exact k8
        · kxs_still
          refine ⟨some (.int ((m : Nat) : Int)), some (.str rl.head), some (.ref rb), some (.int rl.worth), v9, ?_, s8, ?_⟩
          · rw [stp]
            show _ = [_, _, _, _, some (V.bl ((laidF _ _ _).2 || _)), _, _, _, _, _]
            rw [ot, laidF_yes c]
            rfl
          · rw [stp]
            show Kn H8 d (laidF _ _ _).1
            rw [ot, laidF_yes c]
            exact k8
    · rintro σ' H2 ⟨v5, v6, v7, v8, v9, rfl, s2, k2⟩
      rw [hvl, Int.toNat_natCast] at k2 ⊢
      kxs_still
      cases st1 with
      | stop q => exact ⟨0, by omega, _, _, _, _, _, _, _, rfl, s2, k2, fun z => absurd (q.symm.trans z) (by decide), fun _ => rfl⟩
      | more q st2 => exact ⟨_, by omega, _, _, _, _, _, _, _, rfl, s2, k2, fun _ => ⟨_, rfl, st2⟩, fun z => absurd (q.symm.trans z) (by decide)⟩

end
theorem df_lay_span (T : Txt K mg cs) : Df P w K mg base "lay_span" 2 ["known", "rules", "i", "j"] (sp4 (R_lay_span)) := by
  obtain ⟨f, fd, hm, F, hb⟩ := T.f_lay_span.ex
  exact ⟨f, fd, hm, F.kp, hb, ok_lay_span F T⟩
/-! ### the tolls: what the laying comes to -/
theorem LtT.asym {a b : Toll} (h : LtT a b) : ¬ LtT b a := by unfold LtT at *; omega
theorem le_trans {a b c : Toll} (h : ¬ LtT b a) (k : ¬ LtT c b) : ¬ LtT c a := by unfold LtT at *; omega
theorem le_anti {a b : Toll} (h : ¬ LtT b a) (k : ¬ LtT a b) : a = b := by
  unfold LtT at *
  exact Prod.ext (by omega) (by omega)
theorem le_refl (a : Toll) : ¬ LtT a a := by unfold LtT; omega
theorem add_le {a b c d : Toll} (h : ¬ LtT b a) (k : ¬ LtT d c) : ¬ LtT (addT b d) (addT a c) := by unfold LtT addT at *; dsimp only; omega
/-- none stands above all -/
def OLe (a b : Option Toll) : Prop := ∀ v, b = some v → ∃ u, a = some u ∧ ¬ LtT v u
theorem OLe.refl (a : Option Toll) : OLe a a := fun v e => ⟨v, e, le_refl v⟩
theorem OLe.trans {a b c : Option Toll} (h : OLe a b) (k : OLe b c) : OLe a c := fun v e => by
  obtain ⟨u, e1, l1⟩ := k v e
  obtain ⟨w, e2, l2⟩ := h u e1
  exact ⟨w, e2, le_trans l2 l1⟩
theorem OLe.anti {a b : Option Toll} (h : OLe a b) (k : OLe b a) : a = b := by
  cases a with
  | none => cases b with
    | none => rfl
    | some v => obtain ⟨u, e, _⟩ := h v rfl; cases e
  | some u =>
    obtain ⟨v, rfl, l⟩ := k u rfl
    obtain ⟨w, e, l2⟩ := h v rfl
    cases e
    exact congrArg some (le_anti l2 l)
theorem stepTl_le {l r acc l' r' acc' : Option Toll} (h1 : OLe l' l) (h2 : OLe r' r) (h3 : OLe acc' acc) : OLe (stepTl l' r' acc') (stepTl l r acc) := by
  have low : ∀ (l r acc : Option Toll), OLe (stepTl l r acc) acc := fun l r acc => by
    intro v e
    subst e
    unfold stepTl
    cases l with
    | none => exact ⟨v, rfl, le_refl v⟩
    | some a => cases r with
      | none => exact ⟨v, rfl, le_refl v⟩
      | some b =>
        by_cases c : LtT (addT a b) v
        · exact ⟨_, if_pos c, c.asym⟩
        · exact ⟨_, if_neg c, le_refl v⟩
  have new : ∀ (a b : Toll) (acc : Option Toll), ∃ u, stepTl (some a) (some b) acc = some u ∧ ¬ LtT (addT a b) u := fun a b acc => by
    cases acc with
    | none => exact ⟨_, rfl, le_refl _⟩
    | some v =>
      by_cases c : LtT (addT a b) v
      · exact ⟨_, if_pos c, le_refl _⟩
      · exact ⟨_, if_neg c, c⟩
  intro v e
  have old : acc = some v → ∃ u, stepTl l' r' acc' = some u ∧ ¬ LtT v u := fun q => by
    obtain ⟨u, e1, l1⟩ := h3 v q
    obtain ⟨w, e2, l2⟩ := low l' r' acc' u e1
    exact ⟨w, e2, le_trans l2 l1⟩
  cases l with
  | none => exact old e
  | some a => cases r with
    | none => exact old e
    | some b =>
      obtain ⟨a', rfl, la⟩ := h1 a rfl
      obtain ⟨b', rfl, lb⟩ := h2 b rfl
      obtain ⟨u, e2, l2⟩ := new a' b' acc'
      have fresh : v = addT a b → ∃ u, stepTl (some a') (some b') acc' = some u ∧ ¬ LtT v u := fun q => ⟨u, e2, by rw [q]; exact le_trans l2 (add_le la lb)⟩
      cases acc with
      | none => exact fresh (Option.some.inj e).symm
      | some w =>
        by_cases c : LtT (addT a b) w
        · exact fresh (by
            have e : (if LtT (addT a b) w then some (addT a b) else some w) = some v := e
            rw [if_pos c] at e
            exact (Option.some.inj e).symm)
        · exact old (by
            have e : (if LtT (addT a b) w then some (addT a b) else some w) = some v := e
            rw [if_neg c] at e
            exact e)
theorem lsum_le {F G : Tls} (h : ∀ n, OLe (lk G n) (lk F n)) (m e : Nat) (p : Str) (i j : Nat) : ∀ k, OLe (lsum G m e p i j k) (lsum F m e p i j k)
  | 0 => OLe.refl _
  | k + 1 => stepTl_le (h _) (h _) (lsum_le h m e p i j k)
theorem lsum_congr {F G : Tls} {m e : Nat} {p : Str} {i j : Nat} : ∀ {k : Nat}, (∀ q, q < k → lk G (.ru m e i (i + q)) = lk F (.ru m e i (i + q)) ∧ lk G (.pt p (i + q) j) = lk F (.pt p (i + q) j)) → lsum G m e p i j k = lsum F m e p i j k
  | 0, _ => rfl
  | k + 1, h => by
    show stepTl _ _ _ = stepTl _ _ _
    rw [(h k (Nat.lt_succ_self k)).1, (h k (Nat.lt_succ_self k)).2, lsum_congr fun q hq => h q (Nat.lt_succ_of_lt hq)]
/-! the order in which layings go down -/
def s1 (F : Tls) : Nat := (F.map fun q => q.2.1).sum
def s2 (F : Tls) : Nat := (F.map fun q => q.2.2).sum
def Dn (F' F : Tls) : Prop := F.length < F'.length ∨ (F'.length = F.length ∧ (s1 F' < s1 F ∨ (s1 F' = s1 F ∧ s2 F' < s2 F)))
theorem Dn.trans {F G J : Tls} (h : Dn G F) (k : Dn J G) : Dn J F := by unfold Dn at *; omega
theorem dn_ind {N : Nat} {P : Tls → Prop} (h : ∀ F, F.length ≤ N → (∀ F', F'.length ≤ N → Dn F' F → P F') → P F) : ∀ F, F.length ≤ N → P F := by
  have go : ∀ a b c F, N - F.length = a → s1 F = b → s2 F = c → F.length ≤ N → P F := by
    intro a
    induction a using Nat.strongRecOn with
    | _ a iha =>
      intro b
      induction b using Nat.strongRecOn with
      | _ b ihb =>
        intro c
        induction c using Nat.strongRecOn with
        | _ c ihc =>
          intro F e1 e2 e3 hF
          refine h F hF fun F' hF' d => ?_
          rcases d with d | ⟨d1, d | ⟨d2, d⟩⟩
          · exact iha (N - F'.length) (by omega) _ _ F' rfl rfl rfl hF'
          · exact ihb (s1 F') (by omega) _ F' (by omega) rfl rfl hF'
          · exact ihc (s2 F') (by omega) F' (by omega) (by omega) rfl hF'
  exact fun F hF => go _ _ _ F rfl rfl rfl hF
theorem put_sum {f : Toll → Nat} {n : Nd} {t v : Toll} : ∀ {F : Tls}, (F.map (·.1)).Nodup → lk F n = some v → ((F.map fun q => if q.1 = n then (q.1, t) else q).map fun q => f q.2).sum + f v = (F.map fun q => f q.2).sum + f t
  | [], _, e => by cases e
  | p :: F, nd, e => by
    have nd' := List.nodup_cons.mp nd
    unfold lk at e
    rw [List.map_cons]
    by_cases c : p.1 = n
    · rw [if_pos c] at e ⊢
      cases e
      have same : (F.map fun q => if q.1 = n then (q.1, t) else q) = F := by
        have e2 : ∀ q ∈ F, (if q.1 = n then (q.1, t) else q) = id q := fun q hq => if_neg fun z => nd'.1 (by show p.1 ∈ _; rw [c, ← z]; exact List.mem_map.mpr ⟨q, hq, rfl⟩)
        rw [List.map_congr_left e2, List.map_id]
      rw [same]
      simp only [List.map_cons, List.sum_cons]
      omega
    · rw [if_neg c] at e ⊢
      have := put_sum (f := f) (t := t) nd'.2 e
      simp only [List.map_cons, List.sum_cons]
      omega
theorem pt_dn {F : Tls} {n : Nd} {t : Toll} (nd : (F.map (·.1)).Nodup) (h : ∀ v, lk F n = some v → LtT t v) : Dn (pt F n t) F := by
  cases e : lk F n with
  | none => exact .inl (by rw [pt_len, e]; exact Nat.lt_succ_self _)
  | some v =>
    refine .inr ⟨by rw [pt_len, e]; rfl, ?_⟩
    have p : pt F n t = F.map fun q => if q.1 = n then (q.1, t) else q := by unfold pt; rw [e]; rfl
    have a := put_sum (f := fun q => q.1) (t := t) nd e
    have b := put_sum (f := fun q => q.2) (t := t) nd e
    have l := h v e
    rw [← p] at a b
    unfold s1 s2
    unfold LtT at l
    omega
theorem pt_ole {F : Tls} {n : Nd} {t : Toll} (h : ∀ v, lk F n = some v → LtT t v) (k : Nd) : OLe (lk (pt F n t) k) (lk F k) := by
  intro v e
  rw [lk_pt]
  by_cases c : k = n
  · rw [if_pos c]
    exact ⟨t, rfl, (h v (c ▸ e)).asym⟩
  · rw [if_neg c]
    exact ⟨v, e, le_refl v⟩
/-! one span -/
def spn : Nd → Nat × Nat
  | .pt _ i j => (i, j)
  | .ru _ _ i j => (i, j)
/-- the nodes that the passes lay -/
def Free (rs : List Rl) (i j : Nat) (n : Nd) : Prop := (∃ m e r, n = .ru m (e + 1) i j ∧ rs[m]? = some r ∧ e < r.parts.length) ∨ ∃ r ∈ rs, n = .pt r.head i j
theorem Free.spn {rs : List Rl} {i j : Nat} {n : Nd} (h : Free rs i j n) : spn n = (i, j) := by
  rcases h with ⟨m, e, r, rfl, _⟩ | ⟨r, _, rfl⟩ <;> rfl
/-- what holds while a span is laid -/
structure LInv (rs : List Rl) (i j : Nat) (B F : Tls) : Prop where
  nd : (F.map (·.1)).Nodup
  fr : ∀ n, ¬ Free rs i j n → lk F n = lk B n
  ru : ∀ m e r p, rs[m]? = some r → r.parts[e]? = some p → OLe (lsum F m e p i j (j + 1 - i)) (lk F (.ru m (e + 1) i j))
  hd : ∀ X v, (∃ r ∈ rs, r.head = X) → lk F (.pt X i j) = some v → ∃ m r, rs[m]? = some r ∧ r.head = X ∧ OLe (lk F (.ru m r.parts.length i j)) (some v)
theorem LInv.start {rs : List Rl} {i j : Nat} {B : Tls} (nd : (B.map (·.1)).Nodup) (h : ∀ n, Free rs i j n → lk B n = none) : LInv rs i j B B where
  nd := nd
  fr _ _ := rfl
  ru m e r p h1 h2 v q := by
    rw [h _ (.inl ⟨m, e, r, rfl, h1, (List.getElem?_eq_some_iff.mp h2).1⟩)] at q
    cases q
  hd X v hX q := by
    obtain ⟨r, hr, rfl⟩ := hX
    rw [h _ (.inr ⟨r, hr, rfl⟩)] at q
    cases q
theorem LInv.put {rs : List Rl} {i j : Nat} {B F : Tls} {n : Nd} {t : Toll} (I : LInv rs i j B F) (fr : Free rs i j n) (h : ∀ v, lk F n = some v → LtT t v)
    (h1 : ∀ m e r p, n = .ru m (e + 1) i j → rs[m]? = some r → r.parts[e]? = some p → OLe (lsum F m e p i j (j + 1 - i)) (some t))
    (h2 : ∀ X, n = .pt X i j → ∃ m r, rs[m]? = some r ∧ r.head = X ∧ lk F (.ru m r.parts.length i j) = some t) : LInv rs i j B (pt F n t) where
  nd := pt_nd I.nd
  fr k hk := by
    rw [lk_pt]
    exact (if_neg fun (z : k = n) => hk (z ▸ fr)).trans (I.fr k hk)
  ru m e r p e1 e2 := by
    refine OLe.trans (lsum_le (pt_ole h) m e p i j _) ?_
    rw [lk_pt]
    by_cases c : (.ru m (e + 1) i j : Nd) = n
    · rw [if_pos c]
      exact h1 m e r p c.symm e1 e2
    · rw [if_neg c]
      exact I.ru m e r p e1 e2
  hd X v hX q := by
    rw [lk_pt] at q
    by_cases c : (.pt X i j : Nd) = n
    · rw [if_pos c] at q
      cases q
      obtain ⟨m, r, a, b, d⟩ := h2 X c.symm
      exact ⟨m, r, a, b, by rw [← d]; exact pt_ole h _⟩
    · rw [if_neg c] at q
      obtain ⟨m, r, a, b, d⟩ := I.hd X v hX q
      exact ⟨m, r, a, b, OLe.trans (pt_ole h _) d⟩
/-- what a pass keeps -/
structure PInv (rs : List Rl) (i j : Nat) (B F : Tls) (s : Tls × Bool) : Prop where
  inv : LInv rs i j B s.1
  no : s.2 = false → s.1 = F
  yes : s.2 = true → Dn s.1 F
theorem PInv.off {rs : List Rl} {i j : Nat} {B F : Tls} {s : Tls × Bool} {n : Nd} {o : Option Toll} (I : PInv rs i j B F s) (fr : Free rs i j n)
    (h1 : ∀ m e r p t, n = .ru m (e + 1) i j → rs[m]? = some r → r.parts[e]? = some p → o = some t → OLe (lsum s.1 m e p i j (j + 1 - i)) (some t))
    (h2 : ∀ X t, n = .pt X i j → o = some t → ∃ m r, rs[m]? = some r ∧ r.head = X ∧ lk s.1 (.ru m r.parts.length i j) = some t) : PInv rs i j B F (offT s n o) := by
  by_cases c : o = none ∨ ∃ t v, o = some t ∧ lk s.1 n = some v ∧ ¬ LtT t v
  · have e : offT s n o = s := by
      unfold offT
      rw [laidF_no c]
      show (s.1, false || s.2) = s
      rw [Bool.false_or]
    rw [e]
    exact I
  · cases o with
    | none => exact absurd (.inl rfl) c
    | some t =>
      have h : ∀ v, lk s.1 n = some v → LtT t v := fun v q => Classical.byContradiction fun z => c (.inr ⟨t, v, rfl, q, z⟩)
      have e : offT s n (some t) = (pt s.1 n t, true) := by
        unfold offT
        rw [laidF_yes h]
        rfl
      rw [e]
      refine ⟨I.inv.put fr h (fun m e r p a b d => h1 m e r p t a b d rfl) (fun X a => h2 X t a rfl), fun z => (nomatch z), fun _ => ?_⟩
      have d := pt_dn I.inv.nd h
      cases b : s.2 with
      | false => rw [← I.no b]; exact d
      | true => exact (I.yes b).trans d
theorem PInv.parts {rs : List Rl} {i j : Nat} {B F : Tls} {s : Tls × Bool} {m : Nat} {r : Rl} (hr : rs[m]? = some r) (I : PInv rs i j B F s) : ∀ e, e ≤ r.parts.length → PInv rs i j B F (passD m r.parts i j s e)
  | 0, _ => I
  | e + 1, he => by
    have ih := I.parts hr e (by omega)
    have hp : r.parts[e]? = some r.parts[e] := List.getElem?_eq_getElem (by omega)
    have stp : passD m r.parts i j s (e + 1) = offT (passD m r.parts i j s e) (.ru m (e + 1) i j) (lsum (passD m r.parts i j s e).1 m e r.parts[e] i j (j + 1 - i)) := by
      show (match r.parts[e]? with
        | none => passD m r.parts i j s e
        | some p => offT (passD m r.parts i j s e) (.ru m (e + 1) i j) (lsum (passD m r.parts i j s e).1 m e p i j (j + 1 - i))) = _
      rw [hp]
    rw [stp]
    refine ih.off (.inl ⟨m, e, r, rfl, hr, by omega⟩) (fun m' e' r' p' t a b d q => ?_) fun X t a _ => nomatch a
    cases a
    rw [hr] at b
    cases b
    rw [hp] at d
    cases d
    rw [q]
    exact OLe.refl _
theorem PInv.rule {rs : List Rl} {i j : Nat} {B F : Tls} {s : Tls × Bool} {m : Nat} (I : PInv rs i j B F s) : PInv rs i j B F (passR rs i j s m) := by
  unfold passR
  cases hr : rs[m]? with
  | none => exact I
  | some r =>
    refine (I.parts hr r.parts.length (Nat.le_refl _)).off (.inr ⟨r, List.mem_of_getElem? hr, rfl⟩) (fun m' e' r' p' t a => nomatch a) fun X t a q => ?_
    cases a
    exact ⟨m, r, hr, rfl, q⟩
theorem PInv.all {rs : List Rl} {i j : Nat} {B F : Tls} (I : LInv rs i j B F) : ∀ m, PInv rs i j B F (passN rs i j F m)
  | 0 => ⟨I, fun _ => rfl, fun z => nomatch z⟩
  | m + 1 => (PInv.all I m).rule
/-! at the end of the passes -/
theorem offT_no {s : Tls × Bool} {n : Nd} {o : Option Toll} (h : (offT s n o).2 = false) : s.2 = false ∧ (offT s n o).1 = s.1 ∧ OLe (lk s.1 n) o := by
  have h : ((laidF s.1 n o).2 || s.2) = false := h
  obtain ⟨a, b⟩ := Bool.or_eq_false_iff.mp h
  refine ⟨b, ?_, ?_⟩
  · show (laidF s.1 n o).1 = s.1
    cases o with
    | none => rfl
    | some t =>
      by_cases c : ∀ v, lk s.1 n = some v → LtT t v
      · rw [laidF_yes c] at a
        cases a
      · have c : ∃ v, lk s.1 n = some v ∧ ¬ LtT t v := Classical.byContradiction fun z => c fun v e => Classical.byContradiction fun w => z ⟨v, e, w⟩
        obtain ⟨v, e, l⟩ := c
        rw [laidF_no (.inr ⟨t, v, rfl, e, l⟩)]
  · intro t e
    subst e
    by_cases c : ∀ v, lk s.1 n = some v → LtT t v
    · rw [laidF_yes c] at a
      cases a
    · exact Classical.byContradiction fun z => c fun v e => Classical.byContradiction fun w => z ⟨v, e, w⟩
theorem passD_no {m : Nat} {ps : List Str} {i j : Nat} {s : Tls × Bool} : ∀ {e : Nat}, (passD m ps i j s e).2 = false → s.2 = false ∧ (passD m ps i j s e).1 = s.1 ∧ ∀ q p, q < e → ps[q]? = some p → OLe (lk s.1 (.ru m (q + 1) i j)) (lsum s.1 m q p i j (j + 1 - i))
  | 0, h => ⟨h, rfl, fun q p hq => by omega⟩
  | e + 1, h => by
    cases hp : ps[e]? with
    | none =>
      have stp : passD m ps i j s (e + 1) = passD m ps i j s e := by
        show (match ps[e]? with
          | none => passD m ps i j s e
          | some p => offT (passD m ps i j s e) (.ru m (e + 1) i j) (lsum (passD m ps i j s e).1 m e p i j (j + 1 - i))) = _
        rw [hp]
      rw [stp] at h ⊢
      obtain ⟨a, b, d⟩ := passD_no h
      refine ⟨a, b, fun q p hq hqp => d q p ?_ hqp⟩
      have : q ≠ e := fun z => by rw [z, hp] at hqp; cases hqp
      omega
    | some p0 =>
      have stp : passD m ps i j s (e + 1) = offT (passD m ps i j s e) (.ru m (e + 1) i j) (lsum (passD m ps i j s e).1 m e p0 i j (j + 1 - i)) := by
        show (match ps[e]? with
          | none => passD m ps i j s e
          | some p => offT (passD m ps i j s e) (.ru m (e + 1) i j) (lsum (passD m ps i j s e).1 m e p i j (j + 1 - i))) = _
        rw [hp]
      rw [stp] at h ⊢
      obtain ⟨a1, b1, d1⟩ := offT_no h
      obtain ⟨a, b, d⟩ := passD_no a1
      rw [b] at d1 b1
      refine ⟨a, by rw [b, b1], fun q p hq hqp => ?_⟩
      by_cases c : q = e
      · subst c
        rw [hp] at hqp
        cases hqp
        exact d1
      · exact d q p (by omega) hqp
theorem passN_no {rs : List Rl} {i j : Nat} {F : Tls} : ∀ {m : Nat}, (passN rs i j F m).2 = false → (passN rs i j F m).1 = F ∧ ∀ q r, q < m → rs[q]? = some r → (∀ e p, r.parts[e]? = some p → OLe (lk F (.ru q (e + 1) i j)) (lsum F q e p i j (j + 1 - i))) ∧ OLe (lk F (.pt r.head i j)) (lk F (.ru q r.parts.length i j))
  | 0, h => ⟨rfl, fun q r hq => by omega⟩
  | m + 1, h => by
    have h : (passR rs i j (passN rs i j F m) m).2 = false := h
    show (passR rs i j (passN rs i j F m) m).1 = F ∧ _
    unfold passR at h ⊢
    cases hr : rs[m]? with
    | none =>
      rw [hr] at h
      obtain ⟨a, b⟩ := passN_no h
      refine ⟨a, fun q r hq hqr => b q r ?_ hqr⟩
      have : q ≠ m := fun z => by rw [z, hr] at hqr; cases hqr
      omega
    | some r0 =>
      rw [hr] at h
      obtain ⟨a1, b1, d1⟩ := offT_no h
      obtain ⟨a2, b2, d2⟩ := passD_no a1
      obtain ⟨a, b⟩ := passN_no a2
      rw [b2, a] at d1
      rw [a] at d2
      refine ⟨b1.trans (b2.trans a), fun q r hq hqr => ?_⟩
      by_cases c : q = m
      · subst c
        rw [hr] at hqr
        cases hqr
        exact ⟨fun e p he => d2 e p (List.getElem?_eq_some_iff.mp he).1 he, d1⟩
      · exact b q r (by omega) hqr
/-! sizes only grow -/
theorem pt_ge (F : Tls) (n : Nd) (t : Toll) : F.length ≤ (pt F n t).length := by
  rw [pt_len]
  split <;> omega
theorem laidF_ge (F : Tls) (n : Nd) (o : Option Toll) : F.length ≤ (laidF F n o).1.length := by
  unfold laidF
  split
  · exact Nat.le_refl _
  · split
    · exact pt_ge _ _ _
    · split
      · exact pt_ge _ _ _
      · exact Nat.le_refl _
theorem passD_ge (m : Nat) (ps : List Str) (i j : Nat) (s : Tls × Bool) : ∀ e, s.1.length ≤ (passD m ps i j s e).1.length
  | 0 => Nat.le_refl _
  | e + 1 => by
    have ih := passD_ge m ps i j s e
    show _ ≤ (match ps[e]? with
      | none => passD m ps i j s e
      | some p => offT (passD m ps i j s e) (.ru m (e + 1) i j) (lsum (passD m ps i j s e).1 m e p i j (j + 1 - i))).1.length
    split
    · exact ih
    · exact Nat.le_trans ih (laidF_ge _ _ _)
theorem passN_ge (rs : List Rl) (i j : Nat) (F : Tls) : ∀ m, F.length ≤ (passN rs i j F m).1.length
  | 0 => Nat.le_refl _
  | m + 1 => by
    have ih := passN_ge rs i j F m
    show _ ≤ (passR rs i j (passN rs i j F m) m).1.length
    unfold passR
    split
    · exact ih
    · exact Nat.le_trans (Nat.le_trans ih (passD_ge _ _ _ _ _ _)) (laidF_ge _ _ _)
theorem Stops.len {rs : List Rl} {i j k : Nat} {F G : Tls} (h : Stops rs i j k F G) : F.length ≤ G.length := by
  induction h with
  | stop _ => exact passN_ge _ _ _ _ _
  | more _ _ ih => exact Nat.le_trans (passN_ge _ _ _ _ _) ih
/-! the leaves -/
theorem leafP_lk (c : Cst) (t : List Nat) (i j : Nat) (n : Nd) : ∀ (l : List Str) (F : Tls), (∀ p ∈ l, isSg p = true → n = .pt p i j → lk (l.foldl (leafP c t i j) F) n = some (signToll c (sgOf p) (cut2 t i j))) ∧ ((∀ p ∈ l, isSg p = true → n ≠ .pt p i j) → lk (l.foldl (leafP c t i j) F) n = lk F n)
  | [], F => ⟨fun p hp => (nomatch hp), fun _ => rfl⟩
  | q :: l, F => by
    obtain ⟨i1, i2⟩ := leafP_lk c t i j n l (leafP c t i j F q)
    rw [List.foldl_cons]
    constructor
    · intro p hp hs hn
      by_cases h : ∃ p' ∈ l, isSg p' = true ∧ n = .pt p' i j
      · obtain ⟨p', h1, h2, h3⟩ := h
        have : p' = p := by rw [hn] at h3; cases h3; rfl
        subst this
        exact i1 p' h1 h2 h3
      · rw [i2 fun p' h1 h2 h3 => h ⟨p', h1, h2, h3⟩]
        have : p = q := by
          rcases List.mem_cons.mp hp with e | hp
          · exact e
          · exact absurd ⟨p, hp, hs, hn⟩ h
        subst this
        unfold leafP
        rw [if_pos hs, lk_pt, if_pos hn]
    · intro h
      rw [i2 fun p hp => h p (List.mem_cons_of_mem _ hp)]
      unfold leafP
      split
      · rename_i hs
        rw [lk_pt, if_neg (h q (List.mem_cons_self ..) hs)]
      · rfl
structure Leaves (rs : List Rl) (c : Cst) (t : List Nat) (i j : Nat) (F B : Tls) (m : Nat) : Prop where
  zero : ∀ q, q < m → q < rs.length → lk B (.ru q 0 i j) = some ((j - i) * c.cut, 1)
  sign : ∀ q r, q < m → rs[q]? = some r → ∀ p ∈ r.parts, isSg p = true → lk B (.pt p i j) = some (signToll c (sgOf p) (cut2 t i j))
  other : ∀ n, (∀ q, q < rs.length → n ≠ .ru q 0 i j) → (∀ r ∈ rs, ∀ p ∈ r.parts, isSg p = true → n ≠ .pt p i j) → lk B n = lk F n
  nd : (B.map (·.1)).Nodup
theorem leafP_nd (c : Cst) (t : List Nat) (i j : Nat) : ∀ (l : List Str) (F : Tls), (F.map (·.1)).Nodup → ((l.foldl (leafP c t i j) F).map (·.1)).Nodup
  | [], _, h => h
  | q :: l, F, h => by
    rw [List.foldl_cons]
    refine leafP_nd c t i j l _ ?_
    unfold leafP
    split
    · exact pt_nd h
    · exact h
theorem layN_leaves (rs : List Rl) (c : Cst) (t : List Nat) (i j : Nat) {F : Tls} (nd : (F.map (·.1)).Nodup) : ∀ m, Leaves rs c t i j F (layN rs c t i j F m) m
  | 0 => ⟨fun q hq => by omega, fun q r hq => by omega, fun _ _ _ => rfl, nd⟩
  | m + 1 => by
    have ih := layN_leaves rs c t i j nd m
    show Leaves rs c t i j F (leafR rs c t i j (layN rs c t i j F m) m) (m + 1)
    unfold leafR
    cases hr : rs[m]? with
    | none =>
      have hm : rs.length ≤ m := List.getElem?_eq_none_iff.mp hr
      refine ⟨fun q hq hq2 => ih.zero q (by omega) hq2, fun q r hq hqr => ih.sign q r ?_ hqr, ih.other, ih.nd⟩
      have := (List.getElem?_eq_some_iff.mp hqr).1
      omega
    | some r0 =>
      have key := fun n => leafP_lk c t i j n r0.parts (pt (layN rs c t i j F m) (.ru m 0 i j) ((j - i) * c.cut, 1))
      refine ⟨fun q hq hq2 => ?_, fun q r hq hqr p hp hs => ?_, fun n h1 h2 => ?_, leafP_nd _ _ _ _ _ _ (pt_nd ih.nd)⟩
      · rw [(key (.ru q 0 i j)).2 (fun p _ _ z => by cases z), lk_pt]
        by_cases e : q = m
        · rw [e, if_pos rfl]
        · rw [if_neg fun z => e (by cases z; rfl)]
          exact ih.zero q (by omega) hq2
      · by_cases h : p ∈ r0.parts
        · exact (key _).1 p h hs rfl
        · have hne : q ≠ m := fun z => h (by rw [z, hr] at hqr; cases hqr; exact hp)
          rw [(key (.pt p i j)).2 (fun p' hp' _ z => h (by cases z; exact hp')), lk_pt, if_neg (fun z => by cases z)]
          exact ih.sign q r (by omega) hqr p hp hs
      · rw [(key _).2 fun p hp hs => h2 r0 (List.mem_of_getElem? hr) p hp hs, lk_pt, if_neg (h1 m (List.getElem?_eq_some_iff.mp hr).1)]
        exact ih.other n h1 h2
/-! what may stand in the dict, and how many -/
def Alw (rs : List Rl) (t : List Nat) : Nd → Prop
  | .ru m d i j => (∃ r, rs[m]? = some r ∧ d ≤ r.parts.length) ∧ i ≤ j ∧ j ≤ t.length
  | .pt p i j => ((∃ r ∈ rs, r.head = p) ∨ (isSg p = true ∧ ∃ r ∈ rs, p ∈ r.parts)) ∧ i ≤ j ∧ j ≤ t.length
def univT (rs : List Rl) (t : List Nat) : List Nd :=
  ((rs.map Rl.head ++ rs.flatMap Rl.parts).flatMap fun p => (List.range (t.length + 1)).flatMap fun i => (List.range (t.length + 1)).map fun j => Nd.pt p i j) ++
  ((List.range rs.length).flatMap fun r => (List.range 7).flatMap fun d => (List.range (t.length + 1)).flatMap fun i => (List.range (t.length + 1)).map fun j => Nd.ru r d i j)
theorem flat_le {α β : Type} {f : α → List β} {c : Nat} : ∀ {l : List α}, (∀ x ∈ l, (f x).length ≤ c) → (l.flatMap f).length ≤ l.length * c
  | [], _ => by simp
  | a :: l, h => by
    have h1 := h a (List.mem_cons_self ..)
    have h2 := flat_le fun x hx => h x (List.mem_cons_of_mem a hx)
    rw [List.flatMap_cons, List.length_append, List.length_cons, Nat.succ_mul]
    omega
theorem univT_len {rs : List Rl} {t : List Nat} (hG : GoodG rs) (h2 : t.length ≤ 60) : (univT rs t).length ≤ 4000000 := by
  unfold univT
  rw [List.length_append]
  have h1 := hG.few
  have h3 : (t.length + 1) * (t.length + 1) ≤ 61 * 61 := Nat.mul_le_mul (by omega) (by omega)
  have sq : ∀ (f : Nat → Nat → Nd), ((List.range (t.length + 1)).flatMap fun i => (List.range (t.length + 1)).map fun j => f i j).length ≤ 61 * 61 := fun f => by
    refine Nat.le_trans (flat_le (c := t.length + 1) fun i _ => by rw [List.length_map, List.length_range]; exact Nat.le_refl _) ?_
    rw [List.length_range]
    exact h3
  have a := flat_le (c := 61 * 61) (l := rs.map Rl.head ++ rs.flatMap Rl.parts) (f := fun p => (List.range (t.length + 1)).flatMap fun i => (List.range (t.length + 1)).map fun j => Nd.pt p i j) fun p _ => sq _
  have b := flat_le (c := 7 * (61 * 61)) (l := List.range rs.length) (f := fun r => (List.range 7).flatMap fun d => (List.range (t.length + 1)).flatMap fun i => (List.range (t.length + 1)).map fun j => Nd.ru r d i j) fun r _ => by
    refine Nat.le_trans (flat_le (c := 61 * 61) fun d _ => sq _) ?_
    rw [List.length_range]
    exact Nat.le_refl _
  have q : (rs.flatMap Rl.parts).length ≤ rs.length * 6 := flat_le fun r hr => (hG.good r hr).few
  rw [List.length_append, List.length_map] at a
  rw [List.length_range] at b
  have a2 : (rs.length + (rs.flatMap Rl.parts).length) * (61 * 61) ≤ 420 * (61 * 61) := Nat.mul_le_mul (by omega) (Nat.le_refl _)
  have b2 : rs.length * (7 * (61 * 61)) ≤ 60 * (7 * (61 * 61)) := Nat.mul_le_mul h1 (Nat.le_refl _)
  omega
theorem Alw.mem {rs : List Rl} {t : List Nat} {n : Nd} (hG : GoodG rs) (h : Alw rs t n) : n ∈ univT rs t := by
  unfold univT
  cases n with
  | pt p i j =>
    obtain ⟨h, a, b⟩ := h
    refine List.mem_append_left _ (List.mem_flatMap.mpr ⟨p, ?_, List.mem_flatMap.mpr ⟨i, List.mem_range.mpr (by omega), List.mem_map.mpr ⟨j, List.mem_range.mpr (by omega), rfl⟩⟩⟩)
    rcases h with ⟨r, hr, e⟩ | ⟨_, r, hr, e⟩
    · exact List.mem_append_left _ (List.mem_map.mpr ⟨r, hr, e⟩)
    · exact List.mem_append_right _ (List.mem_flatMap.mpr ⟨r, hr, e⟩)
  | ru m d i j =>
    obtain ⟨⟨r, hr, e⟩, a, b⟩ := h
    have := (hG.good r (List.mem_of_getElem? hr)).few
    exact List.mem_append_right _ (List.mem_flatMap.mpr ⟨m, List.mem_range.mpr (List.getElem?_eq_some_iff.mp hr).1, List.mem_flatMap.mpr ⟨d, List.mem_range.mpr (by omega), List.mem_flatMap.mpr ⟨i, List.mem_range.mpr (by omega), List.mem_map.mpr ⟨j, List.mem_range.mpr (by omega), rfl⟩⟩⟩⟩)
theorem nd_len {α : Type} [DecidableEq α] : ∀ {l m : List α}, l.Nodup → (∀ x ∈ l, x ∈ m) → l.length ≤ m.length
  | [], _, _, _ => Nat.zero_le _
  | a :: l, m, nd, h => by
    have ha := h a (List.mem_cons_self ..)
    have nd' := List.nodup_cons.mp nd
    have := nd_len (l := l) (m := m.erase a) nd'.2 fun x hx => (List.mem_erase_of_ne (fun z => nd'.1 (by rw [← z]; exact hx))).mpr (h x (List.mem_cons_of_mem _ hx))
    rw [List.length_erase_of_mem ha] at this
    have : 0 < m.length := List.length_pos_of_mem ha
    rw [List.length_cons]
    omega
theorem alw_len {rs : List Rl} {t : List Nat} {F : Tls} (hG : GoodG rs) (ht : t.length ≤ 60) (nd : (F.map (·.1)).Nodup) (h : ∀ n v, lk F n = some v → Alw rs t n) : F.length ≤ 4000000 := by
  have := nd_len nd fun n hn => by
    obtain ⟨v, e⟩ := lk_some hn
    exact (h n v e).mem hG
  rw [List.length_map] at this
  exact Nat.le_trans this (univT_len hG ht)
/-- all that the document tells of the nodes over a span -/
structure SpanOk (rs : List Rl) (c : Cst) (t : List Nat) (i j : Nat) (F : Tls) : Prop where
  zero : ∀ m, m < rs.length → lk F (.ru m 0 i j) = some ((j - i) * c.cut, 1)
  sign : ∀ r ∈ rs, ∀ p ∈ r.parts, isSg p = true → lk F (.pt p i j) = some (signToll c (sgOf p) (cut2 t i j))
  step : ∀ m e r p, rs[m]? = some r → r.parts[e]? = some p → lk F (.ru m (e + 1) i j) = lsum F m e p i j (j + 1 - i)
  hd1 : ∀ m r, rs[m]? = some r → OLe (lk F (.pt r.head i j)) (lk F (.ru m r.parts.length i j))
  hd2 : ∀ X v, (∃ r ∈ rs, r.head = X) → lk F (.pt X i j) = some v → ∃ m r, rs[m]? = some r ∧ r.head = X ∧ lk F (.ru m r.parts.length i j) = some v
theorem SpanOk.congr {rs : List Rl} {c : Cst} {t : List Nat} {i j : Nat} {F G : Tls} (h : SpanOk rs c t i j F) (hij : i ≤ j) (e : ∀ n, i ≤ (spn n).1 → (spn n).2 ≤ j → (spn n).1 ≤ (spn n).2 → lk G n = lk F n) : SpanOk rs c t i j G := by
  have e1 : ∀ p, lk G (.pt p i j) = lk F (.pt p i j) := fun p => e (.pt p i j) (Nat.le_refl i) (Nat.le_refl j) hij
  have e2 : ∀ m d, lk G (.ru m d i j) = lk F (.ru m d i j) := fun m d => e (.ru m d i j) (Nat.le_refl i) (Nat.le_refl j) hij
  refine ⟨fun m hm => ?_, fun r hr p hp hs => ?_, fun m d r p hr hp => ?_, fun m r hr => ?_, fun X v hX q => ?_⟩
  · rw [e2]; exact h.zero m hm
  · rw [e1]; exact h.sign r hr p hp hs
  · rw [e2, h.step m d r p hr hp]
    exact (lsum_congr fun q hq => ⟨e (.ru m d i (i + q)) (Nat.le_refl i) (by show i + q ≤ j; omega) (by show i ≤ i + q; omega), e (.pt p (i + q) j) (by show i ≤ i + q; omega) (Nat.le_refl j) (by show i + q ≤ j; omega)⟩).symm
  · rw [e1, e2]
    exact h.hd1 m r hr
  · rw [e1] at q
    obtain ⟨m, r, a, b, d⟩ := h.hd2 X v hX q
    exact ⟨m, r, a, b, by rw [e2]; exact d⟩
theorem stops_ex {rs : List Rl} {t : List Nat} {i j : Nat} {B : Tls} (hG : GoodG rs) (ht : t.length ≤ 60) (hB : ∀ n v, lk B n = some v → Alw rs t n) (hij : i ≤ j) (hj : j ≤ t.length) {F : Tls} (I : LInv rs i j B F) : ∃ k G, Stops rs i j k F G ∧ LInv rs i j B G ∧ (passN rs i j G rs.length).2 = false := by
  have alw : ∀ {F : Tls}, LInv rs i j B F → ∀ n v, lk F n = some v → Alw rs t n := fun {F} I n v e => by
    by_cases c : Free rs i j n
    · rcases c with ⟨m, d, r, rfl, a, b⟩ | ⟨r, a, rfl⟩
      · exact ⟨⟨r, a, b⟩, hij, hj⟩
      · exact ⟨.inl ⟨r, a, rfl⟩, hij, hj⟩
    · rw [I.fr n c] at e
      exact hB n v e
  have len : ∀ {F : Tls}, LInv rs i j B F → F.length ≤ 4000000 := fun I => alw_len hG ht I.nd (alw I)
  refine dn_ind (N := 4000000) (P := fun F => LInv rs i j B F → ∃ k G, Stops rs i j k F G ∧ LInv rs i j B G ∧ (passN rs i j G rs.length).2 = false) (fun F hF ih I => ?_) F (len I) I
  have Q := PInv.all I rs.length
  cases b : (passN rs i j F rs.length).2 with
  | false => exact ⟨0, _, .stop b, Q.inv, by rw [Q.no b]; exact b⟩
  | true =>
    obtain ⟨k, G, a, b2, d⟩ := ih _ (len Q.inv) (Q.yes b) Q.inv
    exact ⟨k + 1, G, .more b a, b2, d⟩
theorem span_done {rs : List Rl} {c : Cst} {t : List Nat} {i j : Nat} {F : Tls} (hG : GoodG rs) (ht : t.length ≤ 60) (hij : i ≤ j) (hj : j ≤ t.length) (nd : (F.map (·.1)).Nodup) (hF : ∀ n v, lk F n = some v → Alw rs t n) (new : ∀ n, spn n = (i, j) → lk F n = none) :
    ∃ k G, Stops rs i j k (layN rs c t i j F rs.length) G ∧ SpanOk rs c t i j G ∧ (G.map (·.1)).Nodup ∧ (∀ n v, lk G n = some v → Alw rs t n) ∧ (∀ n, spn n ≠ (i, j) → lk G n = lk F n) := by
  have L := layN_leaves rs c t i j nd rs.length
  have nsg : ∀ r ∈ rs, isSg r.head = false := fun r hr => by
    have := name_free (hG.good r hr).head (s := 39) (by decide)
    unfold isSg
    cases q : tl r.head with
    | nil => rfl
    | cons x l =>
      rw [q] at this
      have : x ≠ 39 := fun z => this (by rw [z]; exact List.mem_cons_self ..)
      show (some x == some 39) = false
      simp [this]
  have free : ∀ n, Free rs i j n → lk (layN rs c t i j F rs.length) n = none := fun n h => by
    rw [L.other n, new n h.spn]
    · intro q _ z
      rcases h with ⟨m, e, r, rfl, _⟩ | ⟨r, _, rfl⟩ <;> cases z
    · intro r hr p hp hs z
      rcases h with ⟨m, e, r', rfl, _⟩ | ⟨r', hr', rfl⟩
      · cases z
      · cases z
        rw [nsg r' hr'] at hs
        cases hs
  have hB : ∀ n v, lk (layN rs c t i j F rs.length) n = some v → Alw rs t n := fun n v e => by
    by_cases c1 : ∃ q, q < rs.length ∧ n = .ru q 0 i j
    · obtain ⟨q, hq, rfl⟩ := c1
      exact ⟨⟨_, List.getElem?_eq_getElem hq, Nat.zero_le _⟩, hij, hj⟩
    · by_cases c2 : ∃ r ∈ rs, ∃ p ∈ r.parts, isSg p = true ∧ n = .pt p i j
      · obtain ⟨r, hr, p, hp, hs, rfl⟩ := c2
        exact ⟨.inr ⟨hs, r, hr, hp⟩, hij, hj⟩
      · rw [L.other n (fun q hq z => c1 ⟨q, hq, z⟩) fun r hr p hp hs z => c2 ⟨r, hr, p, hp, hs, z⟩] at e
        exact hF n v e
  obtain ⟨k, G, st, I, fin⟩ := stops_ex hG ht hB hij hj (LInv.start L.nd free)
  have E := (passN_no fin).2
  refine ⟨k, G, st, ⟨fun m hm => ?_, fun r hr p hp hs => ?_, fun m e r p hr hp => ?_, fun m r hr => (E m r (List.getElem?_eq_some_iff.mp hr).1 hr).2, fun X v hX q => ?_⟩, I.nd, fun n v e => ?_, fun n hn => ?_⟩
  · rw [I.fr]
    · exact L.zero m hm hm
    · rintro (⟨_, _, _, z, _⟩ | ⟨_, _, z⟩) <;> cases z
  · obtain ⟨q, hq⟩ := List.getElem?_of_mem hr
    rw [I.fr]
    · exact L.sign q r (List.getElem?_eq_some_iff.mp hq).1 hq p hp hs
    · rintro (⟨_, _, _, z, _⟩ | ⟨r', hr', z⟩)
      · cases z
      · cases z
        rw [nsg r' hr'] at hs
        cases hs
  · exact OLe.anti ((E m r (List.getElem?_eq_some_iff.mp hr).1 hr).1 e p hp) (I.ru m e r p hr hp)
  · obtain ⟨m, r, a, b, d⟩ := I.hd X v hX q
    refine ⟨m, r, a, b, ?_⟩
    have h1 := (E m r (List.getElem?_eq_some_iff.mp a).1 a).2
    rw [b, q] at h1
    exact OLe.anti d h1
  · by_cases c : Free rs i j n
    · rcases c with ⟨m, d, r, rfl, a, b⟩ | ⟨r, a, rfl⟩
      · exact ⟨⟨r, a, b⟩, hij, hj⟩
      · exact ⟨.inl ⟨r, a, rfl⟩, hij, hj⟩
    · rw [I.fr n c] at e
      exact hB n v e
  · rw [I.fr n fun z => hn z.spn, L.other n (fun q _ z => hn (by rw [z]; rfl)) fun r _ p _ _ z => hn (by rw [z]; rfl)]

/-- the dict that tolls tells -/
structure Tolled (rs : List Rl) (c : Cst) (t : List Nat) (F : Tls) : Prop where
  nd : (F.map (·.1)).Nodup
  alw : ∀ n v, lk F n = some v → Alw rs t n
  ok : ∀ i j, i ≤ j → j ≤ t.length → SpanOk rs c t i j F
structure SInv (rs : List Rl) (c : Cst) (t : List Nat) (s q : Nat) (F : Tls) : Prop where
  nd : (F.map (·.1)).Nodup
  alw : ∀ n v, lk F n = some v → Alw rs t n
  only : ∀ n v, lk F n = some v → (spn n).2 - (spn n).1 < s ∨ ((spn n).2 - (spn n).1 = s ∧ (spn n).1 < q)
  ok : ∀ i j, i ≤ j → j ≤ t.length → (j - i < s ∨ (j - i = s ∧ i < q)) → SpanOk rs c t i j F
theorem SInv.start (rs : List Rl) (c : Cst) (t : List Nat) : SInv rs c t 0 0 [] where
  nd := .nil
  alw n v e := nomatch e
  only n v e := nomatch e
  ok i j _ _ h := by omega
theorem SInv.next {rs : List Rl} {c : Cst} {t : List Nat} {s q : Nat} {F : Tls} (h : SInv rs c t s q F) (hq : t.length < q + s) : SInv rs c t (s + 1) 0 F where
  nd := h.nd
  alw := h.alw
  only n v e := by
    have := h.only n v e
    omega
  ok i j hij hj p := h.ok i j hij hj (by omega)
theorem SInv.end {rs : List Rl} {c : Cst} {t : List Nat} {F : Tls} (h : SInv rs c t (t.length + 1) 0 F) : Tolled rs c t F where
  nd := h.nd
  alw := h.alw
  ok i j hij hj := h.ok i j hij hj (by omega)
theorem SInv.len {rs : List Rl} {c : Cst} {t : List Nat} {s q : Nat} {F : Tls} (h : SInv rs c t s q F) (hG : GoodG rs) (ht : t.length ≤ 60) : F.length ≤ 4000000 := alw_len hG ht h.nd h.alw
theorem SInv.step {rs : List Rl} {c : Cst} {t : List Nat} {s q : Nat} {F : Tls} (h : SInv rs c t s q F) (hG : GoodG rs) (ht : t.length ≤ 60) (hq : q + s ≤ t.length) :
    ∃ k G, Stops rs q (q + s) k (layN rs c t q (q + s) F rs.length) G ∧ SInv rs c t s (q + 1) G := by
  have new : ∀ n, spn n = (q, q + s) → lk F n = none := fun n e => by
    cases c : lk F n with
    | none => rfl
    | some v =>
      have := h.only n v c
      rw [e] at this
      omega
  obtain ⟨k, G, st, ok, nd, alw, fr⟩ := span_done hG ht (Nat.le_add_right q s) hq h.nd h.alw new
  refine ⟨k, G, st, nd, alw, fun n v e => ?_, fun i j hij hj p => ?_⟩
  · by_cases c : spn n = (q, q + s)
    · rw [c]
      exact .inr ⟨by show q + s - q = s; omega, Nat.lt_succ_self q⟩
    · rw [fr n c] at e
      have := h.only n v e
      omega
  · by_cases c2 : i = q ∧ j = q + s
    · obtain ⟨rfl, rfl⟩ := c2
      exact ok
    · refine (h.ok i j hij hj (by omega)).congr hij fun n h1 h2 h3 => fr n fun z => ?_
      rw [z] at h1 h2 h3
      have h1 : i ≤ q := h1
      have h2 : q + s ≤ j := h2
      omega
/-! ### min over pairs -/
def minT (a b : Toll) : Toll := if LtT b a then b else a
def pD (t : Toll) : PyData := .tuple [.int ((t.1 : Nat) : Int), .int ((t.2 : Nat) : Int)]
theorem pD_lt (a b : Toll) : PySem.W.dataLt (pD a) (pD b) = decide (LtT a b) := by
  unfold PySem.W.dataLt pD
  simp only [PySem.W.keyToks, PySem.W.keyToksAll, List.cons_append, List.nil_append]
  rw [PyProof.Rows.lex_self (O := PyProof.Rows.itemOrd)]
  by_cases c : a.1 = b.1
  · rw [c, PyProof.Rows.lex_self (O := PyProof.Rows.itemOrd), PyProof.Rows.lex_self (O := PyProof.Rows.itemOrd)]
    by_cases c2 : a.2 = b.2
    · rw [c2, PyProof.Rows.lex_self (O := PyProof.Rows.itemOrd), PyProof.Rows.lex_self (O := PyProof.Rows.itemOrd)]
      exact (decide_eq_false (by unfold LtT; omega)).symm
    · rw [PyProof.Rows.lex_diff (O := PyProof.Rows.itemOrd) (by intro z; exact c2 (by have := Sum.inl.inj z; omega))]
      show decide (((a.2 : Nat) : Int) < ((b.2 : Nat) : Int)) = _
      exact decide_eq_decide.mpr (by unfold LtT; omega)
  · rw [PyProof.Rows.lex_diff (O := PyProof.Rows.itemOrd) (by intro z; exact c (by have := Sum.inl.inj z; omega))]
    show decide (((a.1 : Nat) : Int) < ((b.1 : Nat) : Int)) = _
    exact decide_eq_decide.mpr (by unfold LtT; omega)
theorem minD_pD : ∀ (ts : List Toll) (t : Toll), PySem.W.minD (pD t) (ts.map pD) = pD (ts.foldl minT t)
  | [], t => rfl
  | u :: ts, t => by
    rw [List.map_cons, List.foldl_cons, ← minD_pD ts (minT t u)]
    unfold PySem.W.minD
    rw [List.foldl_cons, pD_lt]
    congr 1
    unfold minT
    by_cases c : LtT u t
    · rw [if_pos c, if_pos (decide_eq_true c)]
    · rw [if_neg c, if_neg (by simpa using c)]
theorem depthAll_pD : ∀ l : List Toll, PyData.depthAll (l.map pD) ≤ 1
  | [] => Nat.zero_le _
  | t :: l => by
    have := depthAll_pD l
    show max (PyData.depth (pD t)) (PyData.depthAll (l.map pD)) ≤ 1
    have : PyData.depth (pD t) = 1 := rfl
    omega
theorem alike_pD (l : List Toll) : PySem.W.AlikeAll (l.map pD) := ⟨fun x hx y hy => by
  obtain ⟨i, _, rfl⟩ := List.mem_map.mp hx
  obtain ⟨j, _, rfl⟩ := List.mem_map.mp hy
  rfl, fun x hx e => by
  obtain ⟨i, _, rfl⟩ := List.mem_map.mp hx
  cases e⟩
theorem TlAt.dp {K : PySem.W.Frag} {H : Hp} {v : V} {t : Toll} (h : TlAt H v t) : Dp K H v (pD t) := by
  obtain ⟨a, rfl, e⟩ := h
  exact .tup (SqT.of e) (.cons (.int _) (.cons (.int _) .nil))
theorem tls_dp {K : PySem.W.Frag} {H : Hp} : ∀ {xs : List V} {ts : List Toll}, All2 (TlAt H) xs ts → DpAll K H xs (ts.map pD)
  | _, _, .nil => .nil
  | _, _, .cons h t => .cons h.dp (tls_dp t)
theorem pD_inj {a b : Toll} (h : pD a = pD b) : a = b := by
  unfold pD at h
  have e1 := PyData.tuple.inj h
  obtain ⟨e2, e3⟩ := List.cons.inj e1
  obtain ⟨e4, _⟩ := List.cons.inj e3
  have a1 := PyData.int.inj e2
  have a2 := PyData.int.inj e4
  exact Prod.ext (by omega) (by omega)
theorem vals_at {xs : List V} {us : List Value} (h : Vals xs us) {i : Nat} {u : Value} (e : us[i]? = some u) : ∃ x, xs[i]? = some x ∧ RelV x u := by
  have hl : us.length = xs.length := by
    have := h.length
    omega
  obtain ⟨x, hx⟩ : ∃ x, xs[i]? = some x := ⟨_, List.getElem?_eq_getElem (by have := (List.getElem?_eq_some_iff.mp e).1; omega)⟩
  obtain ⟨u', h1, h2⟩ := h.get hx
  rw [e] at h1
  cases h1
  exact ⟨x, hx, h2⟩
def rMinPd (K : PySem.W.Frag) : List V → List V → Hp → VK → Prop := fun vs zs H Q => ∃ (p : Addr) (xs : List V) (ts : List Toll) (y : V), vs = [.ref p] ∧ zs = [y] ∧ SqL K H p xs ∧ All2 (TlAt H) xs ts ∧ (ts = [] → Q y H) ∧ ∀ t ts', ts = t :: ts' → ∀ v, TlAt H v (ts'.foldl minT t) → Q v H
theorem cr_minPd {X : Cx} (hc : X.calm = true) (hu : X.A.units + 64 < cLine) : CallRK X (.builtin "min") [Str.ofString "default"] (rMinPd X.K) := by
  intro pins s σ H vs zs us ws Q I r rz h
  obtain ⟨p, xs, ts, y, rfl, rfl, hs, ha, q0, q1⟩ := h
  obtain rfl := Vals.ref1 r
  obtain ⟨w1, rfl, e1⟩ := vals1 rz
  obtain ⟨its, rv, hl, hz⟩ := I.list hs
  obtain ⟨as, rs⟩ := Dp.readsAll I (ts.map pD) _ _ (tls_dp ha) rv
  have hd1 := depthAll_pD ts
  show wpAny _ _ (call (.builtin "min") [.ref p] [(Str.ofString "default", w1)]) _ _ _
  refine PySem.W.min_list_default (vs := its.toArray) (I.ok.hd hc) hl.isList rs (alike_pD ts) (by omega) (fun e h' tk hk => ⟨y, H, I.kept (t' := tk) hk, e1, q0 (by cases ts with | nil => rfl | cons a l => cases e)⟩) fun z zs' i v h' tk bs e hv rd hk => ?_
  cases ts with
  | nil => cases e
  | cons n ns' =>
    cases e
    rw [minD_pD] at rd
    have hv : its[i]? = some v := by simpa using hv
    obtain ⟨x, hx, rx⟩ := vals_at rv hv
    obtain ⟨t, ht, hxt⟩ := ha.get hx
    obtain ⟨as2, rd2⟩ := Dp.reads I _ _ _ (hxt.dp (K := X.K)) rx
    have e := (PyProof.Rows.reads_det (fun b o q _ => hk b o q) rd2 rd).1
    have e := pD_inj e
    exact ⟨x, H, I.kept (t' := tk) hk, rx, q1 n ns' rfl x (by rw [e]; exact hxt)⟩
theorem e_minPd {X : Cx} {σ : L2.St} {H : Hp} {Q : VK} {mg : Str → Option Value} {e d : Expr} {pos p2 kpos : Pos} [cc : CxC X] [cm : CxM X mg] [g : Gn mg "min" none] (hu : X.A.units + 64 < cLine) (h : eW X e σ H fun x H1 => eW X d σ H1 fun y H2 => ∃ p xs ts, x = .ref p ∧ SqL X.K H2 p xs ∧ All2 (TlAt H2) xs ts ∧ (ts = [] → Q y H2) ∧ ∀ t ts', ts = t :: ts' → ∀ v, TlAt H2 v (ts'.foldl minT t) → Q v H2) (hg : Gl X "min" := by rfl) (hs1 : starEach [e] X.env = (false, eval e X.env) :: starEach [] X.env := by rfl)
    (he : backTo pos (starEach [e] X.env) = (false, eval e X.env) :: backTo pos (starEach [] X.env) := by rfl) (hpl : (backTo pos (starEach [e] X.env)).any (·.1) = false := by rfl)
    (hall : (backToKw pos (keywordEach [⟨some (Str.ofString "default"), d, kpos⟩] X.env)).all (·.1.isSome) = true := by rfl) (hnone : (backToKw pos (keywordEach [⟨some (Str.ofString "default"), d, kpos⟩] X.env)).any (·.1.isNone) = false := by rfl) (hks : (backToKw pos (keywordEach [⟨some (Str.ofString "default"), d, kpos⟩] X.env)).filterMap (·.1) = [Str.ofString "default"] := by rfl) : eW X (.Call (.Name "min" p2) [e] [⟨some (Str.ofString "default"), d, kpos⟩] pos) σ H Q :=
  eI (pe_callBK (cr_minPd cc.h hu) hg (by rw [cm.h]; exact g.h) (by decide +kernel) (pa_cons PEw pa_nil hs1) (pk_cons PEw pk_nil) (he := he) (hpl := hpl) (hall := hall) (hnone := hnone) (hks := hks)) (eMono h fun x H1 q => eMono q fun y H2 ⟨p, xs, ts, e1, e2, e3, e4, e5⟩ => ⟨p, xs, ts, y, by rw [e1], rfl, e2, e3, e4, e5⟩)
theorem cr_minP {X : Cx} (hc : X.calm = true) (hu : X.A.units + 64 < cLine) : CallR X (.builtin "min") (fun vs H Q => ∃ (p : Addr) (xs : List V) (t : Toll) (ts : List Toll), vs = [.ref p] ∧ SqL X.K H p xs ∧ All2 (TlAt H) xs (t :: ts) ∧ ∀ v, TlAt H v (ts.foldl minT t) → Q v H) := by
  intro pins s σ H vs us Q I r h
  obtain ⟨p, xs, n, ns', rfl, hs, ha, q1⟩ := h
  obtain rfl := Vals.ref1 r
  obtain ⟨its, rv, hl, hz⟩ := I.list hs
  obtain ⟨as, rs⟩ := Dp.readsAll I ((n :: ns').map pD) _ _ (tls_dp ha) rv
  have hd1 := depthAll_pD (n :: ns')
  refine PySem.W.min_list_data (vs := its.toArray) (I.ok.hd hc) hl.isList rs (alike_pD (n :: ns')) (by show X.A.units + 1 + PyData.depthAll ((n :: ns').map pD) < cLine; omega) fun i v h' tk bs hv rd hk => ?_
  rw [minD_pD] at rd
  have hv : its[i]? = some v := by simpa using hv
  obtain ⟨x, hx, rx⟩ := vals_at rv hv
  obtain ⟨t, ht, hxt⟩ := ha.get hx
  obtain ⟨as2, rd2⟩ := Dp.reads I _ _ _ (hxt.dp (K := X.K)) rx
  have e := (PyProof.Rows.reads_det (fun b o q _ => hk b o q) rd2 rd).1
  have e := pD_inj e
  exact ⟨x, H, I.kept (t' := tk) hk, rx, q1 x (by rw [e]; exact hxt)⟩
theorem k_minP {X : Cx} {H : Hp} {Q : VK} {p : Addr} {xs : List V} {t : Toll} {ts : List Toll} [cc : CxC X] (hu : X.A.units + 64 < cLine) (hs : SqL X.K H p xs) (ha : All2 (TlAt H) xs (t :: ts)) (q : ∀ v, TlAt H v (ts.foldl minT t) → Q v H) : kW X (.builtin "min") [.ref p] H Q := kI (cr_minP cc.h hu) ⟨p, xs, t, ts, rfl, hs, ha, q⟩
theorem cr_minTu {X : Cx} (hc : X.calm = true) (hu : X.A.units + 64 < cLine) : CallR X (.builtin "min") (fun vs H Q => ∃ (p : Addr) (n : Int) (ns : List Int), vs = [.ref p] ∧ SqT X.K H p ((n :: ns).map V.int) ∧ Q (.int (ns.foldl min n)) H) := by
  intro pins s σ H vs us Q I r h
  obtain ⟨p, n, ns', rfl, hs, q1⟩ := h
  obtain rfl := Vals.ref1 r
  obtain ⟨its, rv, hl, hz⟩ := I.tuple hs
  obtain ⟨as, rs⟩ := Dp.readsAll I ((n :: ns').map .int) _ _ (dp_ints (n :: ns')) rv
  refine PySem.W.min_tuple_data (vs := its.toArray) (I.ok.hd hc) hl rs (alike_ints (n :: ns')) (by show X.A.units + 1 + PyData.depthAll ((n :: ns').map .int) < cLine; rw [PyProof.Rows.depthAll_ints]; omega) fun i v h' tk bs hv rd hk => ?_
  rw [PySem.W.minD_ints] at rd
  cases rd
  exact ⟨.int (ns'.foldl min n), H, I.kept (t' := tk) hk, ⟨_, rfl⟩, q1⟩
theorem k_minTu {X : Cx} {H : Hp} {Q : VK} {p : Addr} {n : Int} {ns : List Int} [cc : CxC X] (hu : X.A.units + 64 < cLine) (hs : SqT X.K H p ((n :: ns).map V.int)) (q : Q (.int (ns.foldl min n)) H) : kW X (.builtin "min") [.ref p] H Q := kI (cr_minTu cc.h hu) ⟨p, n, ns, rfl, hs, q⟩
theorem TlAt.min0 (t : Toll) : (0 : Int) ≤ ([((t.2 : Nat) : Int)].foldl min ((t.1 : Nat) : Int)) := by
  show 0 ≤ min ((t.1 : Nat) : Int) ((t.2 : Nat) : Int)
  omega

/-! ### mending -/
def ddV : Deed → List V
  | .keep c => [.str (Str.ofString "keep"), .str ⟨#[c]⟩]
  | .cut c => [.str (Str.ofString "cut"), .str ⟨#[c]⟩]
  | .put c => [.str (Str.ofString "put"), .str ⟨#[c]⟩]
  | .swap c d => [.str (Str.ofString "swap"), .str ⟨#[c]⟩, .str ⟨#[d]⟩]
def DdAt (H : Hp) (v : V) (d : Deed) : Prop := ∃ a, v = .ref a ∧ H a = some (.tup (ddV d))
theorem DdAt.ts {H H' : Hp} (s : TS H H') {v : V} {d : Deed} (h : DdAt H v d) : DdAt H' v d := by
  obtain ⟨a, e, q⟩ := h
  exact ⟨a, e, s _ _ q⟩
def dCost (c : Cst) : Deed → Nat
  | .keep _ => 0
  | .cut _ => c.cut
  | .put _ => c.put
  | .swap _ _ => c.swap
def dSum (c : Cst) (l : List Deed) : Nat := (l.map (dCost c)).sum
/-- what a change takes, and what it makes -/
def dTake : Deed → List Nat
  | .keep c => [c]
  | .cut c => [c]
  | .put _ => []
  | .swap c _ => [c]
def dMake : Deed → List Nat
  | .keep c => [c]
  | .cut _ => []
  | .put c => [c]
  | .swap _ d => [d]
def dOk : Deed → Prop
  | .swap c d => c ≠ d
  | _ => True
structure Chg (c : Cst) (l : List Deed) (t m : List Nat) (n : Nat) : Prop where
  take : l.flatMap dTake = t
  make : l.flatMap dMake = m
  cost : dSum c l = n
  ok : ∀ d ∈ l, dOk d
theorem Chg.nil (c : Cst) : Chg c [] [] [] 0 := ⟨rfl, rfl, rfl, fun _ h => nomatch h⟩
theorem Chg.app {c : Cst} {l l' : List Deed} {t t' m m' : List Nat} {n n' : Nat} (h : Chg c l t m n) (k : Chg c l' t' m' n') : Chg c (l ++ l') (t ++ t') (m ++ m') (n + n') := by
  refine ⟨?_, ?_, ?_, fun d hd => ?_⟩
  · rw [List.flatMap_append, h.take, k.take]
  · rw [List.flatMap_append, h.make, k.make]
  · show ((l ++ l').map (dCost c)).sum = _
    rw [List.map_append, List.sum_append]
    have a := h.cost
    have b := k.cost
    unfold dSum at a b
    omega
  · rcases List.mem_append.mp hd with q | q
    · exact h.ok d q
    · exact k.ok d q
theorem Chg.cuts (c : Cst) : ∀ z : List Nat, Chg c (z.map .cut) z [] (z.length * c.cut)
  | [] => by rw [List.length_nil, Nat.zero_mul]; exact Chg.nil c
  | x :: z => by
    have := (⟨rfl, rfl, by simp [dSum, dCost], fun d h => by rw [List.mem_singleton.mp h]; trivial⟩ : Chg c [.cut x] [x] [] c.cut).app (Chg.cuts c z)
    rw [List.length_cons, Nat.succ_mul, Nat.add_comm]
    exact this
theorem Chg.one {c : Cst} {d : Deed} (h : dOk d) : Chg c [d] (dTake d) (dMake d) (dCost c d) := ⟨by simp, by simp, by simp [dSum], fun e he => by rw [List.mem_singleton.mp he]; exact h⟩
theorem sd_put {c : Cst} {s : Nat} {t : List Nat} (h : t = [] ∨ c.cut + c.put < c.swap) (hs : s ∉ t) : c.put + t.length * c.cut = (signToll c s t).1 := by
  unfold signToll
  cases t with
  | nil => rw [if_pos rfl]; simp
  | cons x r =>
    rw [if_neg (by simp), if_neg hs]
    show c.put + (r.length + 1) * c.cut = min ((r.length + 1) * c.cut + c.put) ((r.length + 1 - 1) * c.cut + c.swap)
    rw [Nat.add_sub_cancel, Nat.succ_mul]
    rcases h with h | h
    · cases h
    · omega
theorem sd_swap {c : Cst} {s x : Nat} {r : List Nat} (h : ¬ c.cut + c.put < c.swap) (hs : s ∉ x :: r) : c.swap + r.length * c.cut = (signToll c s (x :: r)).1 := by
  unfold signToll
  rw [if_neg (by simp), if_neg hs]
  show c.swap + r.length * c.cut = min ((r.length + 1) * c.cut + c.put) ((r.length + 1 - 1) * c.cut + c.swap)
  rw [Nat.add_sub_cancel, Nat.succ_mul]
  omega
theorem sd_keep {c : Cst} {s : Nat} {t : List Nat} (hs : s ∈ t) : (t.length - 1) * c.cut = (signToll c s t).1 := by
  unfold signToll
  cases t with
  | nil => cases hs
  | cons x r =>
    rw [if_neg (by simp), if_pos hs]
    show (r.length + 1 - 1) * c.cut = min ((r.length + 1) * c.cut + c.put) ((r.length + 1 - 1) * c.cut + 0)
    rw [Nat.add_sub_cancel, Nat.succ_mul]
    omega
theorem cut_at {t : List Nat} {i s : Nat} (h : t[i]? = some s) : t.take i ++ ([s] ++ t.drop (i + 1)) = t := by
  have hl := (List.getElem?_eq_some_iff.mp h)
  obtain ⟨h1, h2⟩ := hl
  rw [List.singleton_append, ← h2, ← List.drop_eq_getElem_cons h1, List.take_append_drop]
theorem all2_ix {α β : Type} {R : α → β → Prop} : ∀ {ys : List α} {ns : List β}, ys.length = ns.length → (∀ (i : Nat) (y : α), ys[i]? = some y → ∃ n, ns[i]? = some n ∧ R y n) → All2 R ys ns
  | [], [], _, _ => .nil
  | [], _ :: _, e, _ => by cases e
  | _ :: _, [], e, _ => by cases e
  | y :: ys, n :: ns, e, h => by
    obtain ⟨m, q1, q2⟩ := h 0 y rfl
    cases q1
    exact .cons q2 (all2_ix (by simpa using e) fun i z hz => h (i + 1) z hz)
def R_cuts_of (K : PySem.W.Frag) : V → Hp → VK → XK → Prop := fun x H Q _ => ∃ z : Str, x = .str z ∧ z.length ≤ 1000 ∧ ∀ l H' vs, Same H H' → H l = none → H' l = some (.lst vs) → All2 (DdAt H') vs ((tl z).map .cut) → Q (.ref l) H'
section
theorem ok_cuts_of {f : Addr} {fd : FuncData} (F : Fun K "cuts_of" "cuts_of" s_cuts_of f fd) (T : Txt K mg cs) : FnOk P w K mg base (L2.CX P w) 1 f fd ["signs"] (sp1 (R_cuts_of K)) := by
  refine F.okX sc_cuts_of (fun vs H Q E h => sp1_len h) (fun cdv A outer s H vs Q E hr h => ⟨_, PBw (X := X_cuts_of P w K mg base f cdv A outer s H E), ?_⟩)
  obtain ⟨a0, rfl, h⟩ := h
  have hr' : Room 0 (X_cuts_of P w K mg base f cdv A outer s H E).A := hr
  replace hr := hr'
  clear hr'
  obtain ⟨z, rfl, hz, h⟩ := h
  have hlt : (tl z).length = z.length := (len_tl z).symm
  kxs_still
  refine e_lcH (blkOk_by (sc := defScope s_cuts_of) (own := [("sign", 1)]) (by decide +kernel)) (fun i y H' => ∃ c, (tl z)[i]? = some c ∧ DdAt H' y (.cut c)) (fun i y H' H'' s ⟨c, e, q⟩ => ⟨c, e, q.ts s⟩) (j_str ?_)
  kxs_still
  refine ⟨_, _, _, walk_str (z := z), by show z.length ≤ 100000; omega, fun _ _ => trivial, ?_, ?_⟩
  · rintro i x H' H2 hi s' ⟨rfl, c, hc, rfl⟩
    have hc2 : (tl z)[i]? = some c := by
      show z.cps.toList[i]? = some c
      rw [Array.getElem?_toList]
      exact hc
    refine ⟨Same.refl _, fun _ _ _ _ _ => ?_⟩
    kxs_still
    refine ⟨rfl, Same.refl _, fun _ _ _ _ _ => ?_⟩
    kxs_still
    intro t H3 s3 n3 k3 f3
    exact ⟨⟨c, hc2, t, rfl, k3⟩, s3⟩
  intro l H1 ys s1 n1 k1 hyl hy
  have hyl : ys.length = z.length := hyl
  refine h l H1 ys s1 n1 k1 (all2_ix (by rw [List.length_map]; omega) fun i y e => ?_)
  obtain ⟨c, e1, q⟩ := hy i y e
  exact ⟨.cut c, by rw [List.getElem?_map, e1]; rfl, q⟩
end
theorem df_cuts_of (T : Txt K mg cs) : Df P w K mg base "cuts_of" 1 ["signs"] (sp1 (R_cuts_of K)) := by
  obtain ⟨f, fd, hm, F, hb⟩ := T.f_cuts_of.ex
  exact ⟨f, fd, hm, F.kp, hb, ok_cuts_of F T⟩
def R_sign_deeds (K : PySem.W.Frag) : V → V → V → Hp → VK → XK → Prop := fun x y u H Q _ => ∃ (s : Nat) (z : Str) (c : Cst), x = .str ⟨#[s]⟩ ∧ y = .str z ∧ z.length ≤ 1000 ∧ CsAt H u c ∧ ∀ l H' vs dd, Same H H' → H l = none → H' l = some (.lst vs) → All2 (DdAt H') vs dd → Chg c dd (tl z) [s] (signToll c s (tl z)).1 → Q (.ref l) H'
section
set_option hygiene false in
local macro_rules | `(tactic| top_name) => `(tactic| first | refine e_call (df_cuts_of T) (hr.mono (by decide)) ?_)
theorem ok_sign_deeds {f : Addr} {fd : FuncData} (F : Fun K "sign_deeds" "sign_deeds" s_sign_deeds f fd) (T : Txt K mg cs) : FnOk P w K mg base (L2.CX P w) 2 f fd ["sign", "signs", "costs"] (sp3 (R_sign_deeds K)) := by
  refine F.okX sc_sign_deeds (fun vs H Q E h => sp3_len h) (fun cdv A outer s H vs Q E hr h => ⟨_, PBw (X := X_sign_deeds P w K mg base f cdv A outer s H E), ?_⟩)
  obtain ⟨a0, a1, a2, rfl, h⟩ := h
  have hr' : Room 1 (X_sign_deeds P w K mg base f cdv A outer s H E).A := hr
  replace hr := hr'
  clear hr'
  obtain ⟨s, z, c, rfl, rfl, hz, ⟨a, rfl, ha⟩, h⟩ := h
  have hlt : (tl z).length = z.length := (len_tl z).symm
  kxs_still
  refine e_find ?_
  kxs_still
  refine ⟨⟨_, rfl⟩, ?_⟩
  kxs_still
  refine m_find ?_
  rcases find_one z s with ⟨e, hn⟩ | ⟨i, e, hi⟩
  · rw [e]
    kxs_still
    refine iteD (fun c0 => ?_) fun c0 => ?_
    · have e0 : tl z = [] := by rw [c0]; decide +kernel
      kxs_still
      intro t1 H1 s1 n1 k1 f1
      kxs_still
      intro l2 H2 s2 n2 k2 f2
      kxs_still
      refine ⟨hz, fun l3 H3 vs s3 n3 k3 a3 => ?_⟩
      refine o_catL (s3 _ _ k2) k3 (by have := a3.len; rw [List.length_map] at this; show 1 + vs.length ≤ 100000; omega) fun l4 H4 s4 n4 k4 _ => ?_
      refine h l4 H4 _ (Deed.put s :: (tl z).map .cut) (s1.trans (s2.trans (s3.trans s4))) ?_ k4 (.cons ⟨t1, rfl, s4 _ _ (s3 _ _ (s2 _ _ k1))⟩ (a3.mono fun _ _ w => w.ts (Same.ts s4))) ?_
      · cases q : H l4 with
        | none => rfl
        | some o => rw [s3 _ _ (s2 _ _ (s1 _ _ q))] at n4; cases n4
      · have := (Chg.one (c := c) (d := .put s) trivial).app (Chg.cuts c (tl z))
        rw [show dCost c (.put s) + (tl z).length * c.cut = (signToll c s (tl z)).1 from sd_put (.inl e0) hn] at this
        exact this
    · have e0 : ¬ tl z = [] := fun q => c0 (ext_tl (by rw [q]; decide +kernel))
      kxs_still
      refine iteD (fun c1 => ?_) fun c1 => ?_
      · kxs_still
        intro t1 H1 s1 n1 k1 f1
        kxs_still
        intro l2 H2 s2 n2 k2 f2
        kxs_still
        refine ⟨hz, fun l3 H3 vs s3 n3 k3 a3 => ?_⟩
        refine o_catL (s3 _ _ k2) k3 (by have := a3.len; rw [List.length_map] at this; show 1 + vs.length ≤ 100000; omega) fun l4 H4 s4 n4 k4 _ => ?_
        refine h l4 H4 _ (Deed.put s :: (tl z).map .cut) (s1.trans (s2.trans (s3.trans s4))) ?_ k4 (.cons ⟨t1, rfl, s4 _ _ (s3 _ _ (s2 _ _ k1))⟩ (a3.mono fun _ _ w => w.ts (Same.ts s4))) ?_
        · cases q : H l4 with
          | none => rfl
          | some o => rw [s3 _ _ (s2 _ _ (s1 _ _ q))] at n4; cases n4
        · have := (Chg.one (c := c) (d := .put s) trivial).app (Chg.cuts c (tl z))
          rw [show dCost c (.put s) + (tl z).length * c.cut = (signToll c s (tl z)).1 from sd_put (.inr (by omega)) hn] at this
          exact this
      · obtain ⟨x, r, exr⟩ : ∃ x r, tl z = x :: r := by
          cases q : tl z with
          | nil => exact absurd q e0
          | cons x r => exact ⟨x, r, rfl⟩
        kxs_still
        refine i_str (sz1m (by omega)) (c := x) (by rw [show z.cps.toList = x :: r from exr]; exact atI_nat (by decide) rfl) ?_
        have ec : tl (cutS z (some 1) none) = r := by
          rw [cutS_from z (by decide), exr]
          rfl
        have hcl : (cutS z (some 1) none).length ≤ 1000 := by
          have hz2 := hlt
          rw [exr] at hz2
          rw [len_tl, ec]
          simp only [List.length_cons] at hz2
          omega
        kxs_still
        intro t1 H1 s1 n1 k1 f1
        kxs_still
        intro l2 H2 s2 n2 k2 f2
        kxs_still
        refine n_str (sz1m (by omega)) ?_
        kxs_still
        refine ⟨hcl, fun l3 H3 vs s3 n3 k3 a3 => ?_⟩
        rw [ec] at a3
        refine o_catL (s3 _ _ k2) k3 (by have := a3.len; rw [List.length_map] at this; rw [len_tl, ec] at hcl; show 1 + vs.length ≤ 100000; omega) fun l4 H4 s4 n4 k4 _ => ?_
        refine h l4 H4 _ (Deed.swap x s :: r.map .cut) (s1.trans (s2.trans (s3.trans s4))) ?_ k4 (.cons ⟨t1, rfl, s4 _ _ (s3 _ _ (s2 _ _ k1))⟩ (a3.mono fun _ _ w => w.ts (Same.ts s4))) ?_
        · cases q : H l4 with
          | none => rfl
          | some o => rw [s3 _ _ (s2 _ _ (s1 _ _ q))] at n4; cases n4
        · rw [exr] at hn ⊢
          have := (Chg.one (c := c) (d := .swap x s) (fun q => hn (by rw [← q]; exact List.mem_cons_self ..))).app (Chg.cuts c r)
          rw [show dCost c (.swap x s) + r.length * c.cut = (signToll c s (x :: r)).1 from sd_swap (by omega) hn] at this
          exact this
  · rw [e]
    have hil := (List.getElem?_eq_some_iff.mp hi).1
    have e1 : tl (cutS z none (some ((i : Nat) : Int))) = (tl z).take i := by rw [cutS_to z (by omega), Int.toNat_natCast]
    have e2 : tl (cutS z (some (((i : Nat) : Int) + 1)) none) = (tl z).drop (i + 1) := by rw [cutS_from z (by omega), show (((i : Nat) : Int) + 1).toNat = i + 1 by omega]
    have l1 : (cutS z none (some ((i : Nat) : Int))).length ≤ 1000 := by rw [len_tl, e1, List.length_take]; omega
    have l2 : (cutS z (some (((i : Nat) : Int) + 1)) none).length ≤ 1000 := by rw [len_tl, e2, List.length_drop]; omega
    kxs_still
    refine n_str (sz1m (by omega)) ?_
    kxs_still
    refine ⟨l1, fun la Ha va sa na ka aa => ?_⟩
    rw [e1] at aa
    kxs_still
    intro t1 H1 s1 n1 k1 f1
    kxs_still
    intro lb H2 s2 n2 k2 f2
    have hva := aa.len
    rw [List.length_map, List.length_take] at hva
    refine o_catL ((s1.trans s2) _ _ ka) k2 (by show va.length + 1 ≤ 100000; omega) fun lc H3 s3 n3 k3 _ => ?_
    kxs_still
    refine n_str (sz1m (by omega)) ?_
    kxs_still
    refine ⟨l2, fun ld H4 vd s4 n4 k4 ad => ?_⟩
    rw [e2] at ad
    have hvd := ad.len
    rw [List.length_map, List.length_drop] at hvd
    refine o_catL (s4 _ _ k3) k4 (by rw [List.length_append]; show va.length + 1 + vd.length ≤ 100000; omega) fun le H5 s5 n5 k5 _ => ?_
    have sA := s1.trans (s2.trans (s3.trans (s4.trans s5)))
    refine h le H5 _ ((((tl z).take i).map .cut ++ [Deed.keep s]) ++ ((tl z).drop (i + 1)).map .cut) (sa.trans sA) ?_ k5 (All2.app (All2.app (aa.mono fun _ _ w => w.ts (Same.ts sA)) (.cons ⟨t1, rfl, s5 _ _ (s4 _ _ (s3 _ _ (s2 _ _ k1)))⟩ .nil)) (ad.mono fun _ _ w => w.ts (Same.ts s5))) ?_
    · cases q : H le with
      | none => rfl
      | some o => rw [(s1.trans (s2.trans (s3.trans s4))) _ _ (sa _ _ q)] at n5; cases n5
    · have := ((Chg.cuts c ((tl z).take i)).app (Chg.one (c := c) (d := .keep s) trivial)).app (Chg.cuts c ((tl z).drop (i + 1)))
      have ht : (tl z).take i ++ dTake (.keep s) ++ (tl z).drop (i + 1) = tl z := by
        rw [List.append_assoc]
        exact cut_at hi
      rw [ht] at this
      have hc : ((tl z).take i).length * c.cut + dCost c (.keep s) + ((tl z).drop (i + 1)).length * c.cut = (signToll c s (tl z)).1 := by
        rw [← sd_keep (List.mem_of_getElem? hi), List.length_take, List.length_drop]
        show min i (tl z).length * c.cut + 0 + ((tl z).length - (i + 1)) * c.cut = _
        rw [Nat.add_zero, ← Nat.add_mul]
        congr 1
        omega
      rw [hc] at this
      exact this
end
theorem df_sign_deeds (T : Txt K mg cs) : Df P w K mg base "sign_deeds" 2 ["sign", "signs", "costs"] (sp3 (R_sign_deeds K)) := by
  obtain ⟨f, fd, hm, F, hb⟩ := T.f_sign_deeds.ex
  exact ⟨f, fd, hm, F.kp, hb, ok_sign_deeds F T⟩
def oD : Option Toll → PyData
  | none => .none
  | some t => pD t
theorem oD_sh (o : Option Toll) : SeqAt.shaped (oD o) = true := by
  cases o <;> rfl
theorem OptAt.dp {K : PySem.W.Frag} {H : Hp} {v : V} {o : Option Toll} (h : OptAt H v o) : Dp K H v (oD o) := by
  rcases h with ⟨rfl, rfl⟩ | ⟨t, rfl, h⟩
  · exact .non
  · exact h.dp
theorem pD_eqv (a b : Toll) : PyData.eqv (pD a) (pD b) = decide (a = b) := by
  show ((((a.1 : Nat) : Int) == ((b.1 : Nat) : Int)) && ((((a.2 : Nat) : Int) == ((b.2 : Nat) : Int)) && true)) = _
  by_cases c : a = b
  · subst c
    simp
  · rw [decide_eq_false c]
    by_cases c1 : a.1 = b.1
    · have c2 : ¬ a.2 = b.2 := fun z => c (Prod.ext c1 z)
      have : ((((a.2 : Nat) : Int) == ((b.2 : Nat) : Int))) = false := beq_eq_false_iff_ne.mpr (by omega)
      rw [this]
      simp
    · have : ((((a.1 : Nat) : Int) == ((b.1 : Nat) : Int))) = false := beq_eq_false_iff_ne.mpr (by omega)
      rw [this]
      rfl
theorem oD_eqv (o : Option Toll) (v : Toll) : PyData.eqv (oD o) (pD v) = decide (o = some v) := by
  cases o with
  | none => exact (decide_eq_false (by simp)).symm
  | some a =>
    show PyData.eqv (pD a) (pD v) = _
    rw [pD_eqv]
    exact decide_eq_decide.mpr ⟨fun h => congrArg some h, fun h => Option.some.inj h⟩
theorem lsum_hit {F : Tls} {m e : Nat} {p : Str} {i j : Nat} : ∀ {k : Nat} {v : Toll}, lsum F m e p i j k = some v → ∃ q a b, q < k ∧ lk F (.ru m e i (i + q)) = some a ∧ lk F (.pt p (i + q) j) = some b ∧ addT a b = v
  | 0, _, h => by cases h
  | k + 1, v, h => by
    have h : stepTl (lk F (.ru m e i (i + k))) (lk F (.pt p (i + k) j)) (lsum F m e p i j k) = some v := h
    have old : lsum F m e p i j k = some v → ∃ q a b, q < k + 1 ∧ lk F (.ru m e i (i + q)) = some a ∧ lk F (.pt p (i + q) j) = some b ∧ addT a b = v := fun z => by
      obtain ⟨q, a, b, h1, h2, h3, h4⟩ := lsum_hit z
      exact ⟨q, a, b, by omega, h2, h3, h4⟩
    cases e1 : lk F (.ru m e i (i + k)) with
    | none => rw [e1] at h; exact old h
    | some a => cases e2 : lk F (.pt p (i + k) j) with
      | none => rw [e1, e2] at h; exact old h
      | some b =>
        rw [e1, e2] at h
        cases e3 : lsum F m e p i j k with
        | none =>
          rw [e3] at h
          exact ⟨k, a, b, Nat.lt_succ_self k, e1, e2, Option.some.inj h⟩
        | some w =>
          rw [e3] at h old
          have h : (if LtT (addT a b) w then some (addT a b) else some w) = some v := h
          split at h
          · exact ⟨k, a, b, Nat.lt_succ_self k, e1, e2, Option.some.inj h⟩
          · exact old h
/-- what a node's toll is made of -/
inductive Wy (rs : List Rl) (F : Tls) : Nd → Toll → List Nd → Prop
  | head {m i j : Nat} {r : Rl} {v : Toll} : rs[m]? = some r → lk F (.ru m r.parts.length i j) = some v → Wy rs F (.pt r.head i j) v [.ru m r.parts.length i j]
  | step {m e i j k : Nat} {r : Rl} {p : Str} {a b : Toll} : rs[m]? = some r → r.parts[e]? = some p → i ≤ k → k ≤ j → lk F (.ru m e i k) = some a → lk F (.pt p k j) = some b → Wy rs F (.ru m (e + 1) i j) (addT a b) [.ru m e i k, .pt p k j]
/-- a node that hangs on others -/
def Inner (rs : List Rl) : Nd → Prop
  | .pt X _ _ => ∃ r ∈ rs, r.head = X
  | .ru m d _ _ => ∃ e r, d = e + 1 ∧ rs[m]? = some r ∧ e < r.parts.length
def R_least_way (K : PySem.W.Frag) : V → V → V → Hp → VK → XK → Prop := fun x y u H Q _ => ∃ (d : Addr) (F : Tls) (a : Addr) (vs : List V) (rs : List Rl) (c : Cst) (t : List Nat) (n : Nd) (v : Toll), x = .ref d ∧ Kn H d F ∧ y = .ref a ∧ SqL K H a vs ∧ RulesAt H vs rs ∧ GoodG rs ∧ NdAt H u n ∧ lk F n = some v ∧ (spn n).1 ≤ (spn n).2 ∧ (spn n).2 ≤ 60 ∧ SpanOk rs c t (spn n).1 (spn n).2 F ∧ Inner rs n ∧ ∀ l ws us H', Same H H' → H l = none → H' l = some (.lst us) → All2 (NdAt H') us ws → Wy rs F n v ws → Q (.ref l) H'
section
theorem ok_least_way {f : Addr} {fd : FuncData} (F : Fun K "least_way" "least_way" s_least_way f fd) (T : Txt K mg cs) : FnOk P w K mg base (L2.CX P w) 1 f fd ["known", "rules", "node"] (sp3 (R_least_way K)) := by
  refine F.okX sc_least_way (fun vs H Q E h => sp3_len h) (fun cdv A outer s H vs Q E hr h => ⟨_, PBw (X := X_least_way P w K mg base f cdv A outer s H E), ?_⟩)
  obtain ⟨a0, a1, a2, rfl, h⟩ := h
  have ib_range := T.b_range
  have ib_len := T.b_len
  have hr' : Room 0 (X_least_way P w K mg base f cdv A outer s H E).A := hr
  replace hr := hr'
  clear hr'
  obtain ⟨d, F, a, vs, rs, c, t, n, v, rfl, hk, rfl, hS, hR, hG, ⟨b, rfl, hb⟩, hv, hij, hj, ok, inn, h⟩ := h
  have hu := hr.units
  have hvl := hR.len
  have h60 := hG.few
  cases n with
  | pt X i j =>
    have hb' : H b = some (.tup [.str X, .int ((i : Nat) : Int), .int ((j : Nat) : Int)]) := hb
    obtain ⟨m1, r1, hm1, hX1, hv1⟩ := ok.hd2 X v inn hv
    have hl1 := (List.getElem?_eq_some_iff.mp hm1).1
    kxs_still
    refine iteDT rfl ?_
    kxs_still
    refine s_for (j_rng1 ?_)
    kxs_still
    refine ⟨by omega, by omega, _, _, _, walk_range0, fun q σ' H' => ∃ v3 v4, σ' = [some (.ref d), some (.ref a), some (.ref b), v3, v4, none, none, none, none, none, none, none] ∧ Same H H' ∧ q ≤ m1, ⟨_, _, rfl, Same.refl _, Nat.zero_le _⟩, fun _ _ _ _ _ => trivial, ?_, ?_⟩
    · rintro q x σ' H1 H2 hq ⟨v3, v4, rfl, s2, hqm⟩ ⟨rfl, rfl⟩
      obtain ⟨rl, hrl⟩ : ∃ rl, rs[q]? = some rl := ⟨_, List.getElem?_eq_getElem (by omega)⟩
      obtain ⟨ra, rb, hv', hvk, e1, e2⟩ := hR.at' hrl
      have hS2 := s2.seq hS
      have e12 := s2 _ _ e1
      have e22 := s2 _ _ e2
      have hb2 := s2 _ _ hb'
      have hnext : q ≠ m1 → q + 1 ≤ m1 := fun z => by omega
      kxs_still
      intro t3 H3 s3 n3 k3 f3
      have hb3 := s3 _ _ hb2
      have hS3 := s3.seq hS2
      have e13 := s3 _ _ e12
      have s03 := s2.trans s3
      have kn3 := hk.keep s03
      have hml : (rl.parts.map V.str).length = rl.parts.length := List.length_map _
      obtain ⟨r1', g1, o1⟩ := kn3.get1 (n := .ru q rl.parts.length i j) (b := t3) (by rw [k3, hml]; rfl)
      obtain ⟨a2, g2, h2⟩ := (kn3.get (n := .pt X i j) (b := b) hb3).2 v hv
      kxs_still
      by_cases c1 : rl.head = X
      · refine iteDT c1 ?_
        kxs_still
        refine e_dget1 (rm1 hr) ?_
        kxs_still
        refine ⟨kn3.isD, ?_⟩
        kxs_still
        refine ⟨r1', g1, ?_⟩
        kxs_still
        refine i_dget (rm1 hr) g2 ?_
        refine o_eqD (by omega) o1.dp (TlAt.dp ⟨a2, rfl, h2⟩) (oD_sh _) (oD_sh (some v)) ?_
        rw [oD_eqv]
        kxs_still
        refine iteD (fun c2 => ?_) fun c2 => ?_
        · kxs_still
          intro l4 H4 s4 n4 k4 f4
          refine h l4 [.ru q rl.parts.length i j] _ H4 (s03.trans s4) ?_ k4 (.cons ⟨t3, rfl, by rw [s4 _ _ k3, hml]; rfl⟩ .nil) ?_
          · cases w : H l4 with
            | none => rfl
            | some o => rw [s03 _ _ w] at n4; cases n4
          · rw [← c1]
            exact .head hrl c2
        · kxs_still
          refine ⟨_, _, rfl, s03, hnext fun z => ?_⟩
          subst z
          rw [hrl] at hm1
          cases hm1
          exact c2 hv1
      · refine iteDF c1 ?_
        kxs_still
        refine ⟨_, _, rfl, s03, hnext fun z => ?_⟩
        subst z
        rw [hrl] at hm1
        cases hm1
        exact c1 hX1
    · rintro σ' H1 ⟨v3, v4, rfl, s2, hqm⟩
      exact absurd hqm (by omega)
  | ru m d' i j =>
    obtain ⟨e, r, rfl, hrm, he⟩ := inn
    have hb' : H b = some (.tup [.int ((m : Nat) : Int), .int ((e + 1 : Nat) : Int), .int ((i : Nat) : Int), .int ((j : Nat) : Int)]) := hb
    obtain ⟨p, hp⟩ : ∃ p, r.parts[e]? = some p := ⟨_, List.getElem?_eq_getElem he⟩
    have hl : lsum F m e p i j (j + 1 - i) = some v := (ok.step m e r p hrm hp).symm.trans hv
    obtain ⟨q0, a0, b0, hq0, ha0, hb0, hab⟩ := lsum_hit hl
    obtain ⟨ra, rb, hv', hvk, e1, e2⟩ := hR.at' hrm
    have hij : i ≤ j := hij
    have hj : j ≤ 60 := hj
    have hix : atI (r.parts.map V.str) (((e + 1 : Nat) : Int) - 1) = some (.str p) := by
      rw [show ((e + 1 : Nat) : Int) - 1 = ((e : Nat) : Int) by omega]
      exact atI_nat (by omega) (by rw [Int.toNat_natCast, List.getElem?_map, hp]; rfl)
    kxs_still
    refine iteDF (show ¬ ((4 : Nat) : Int) = 3 by decide) ?_
    kxs_still
    refine s_for (j_rng2 ?_)
    kxs_still
    refine ⟨by omega, _, _, _, walk_range, fun q σ' H' => ∃ v9 v10 v11, σ' = [some (.ref d), some (.ref a), some (.ref b), some (.int ((m : Nat) : Int)), none, some (.int ((e + 1 : Nat) : Int)), some (.int ((i : Nat) : Int)), some (.int ((j : Nat) : Int)), some (.str p), v9, v10, v11] ∧ Same H H' ∧ q ≤ q0, ⟨_, _, _, rfl, Same.refl _, Nat.zero_le _⟩, fun _ _ _ _ _ => trivial, ?_, ?_⟩
    · rintro q x σ' H1 H2 hq ⟨v9, v10, v11, rfl, s2, hqm⟩ ⟨rfl, hx⟩
      obtain rfl : x = .int ((i : Nat) + (q : Nat)) := hx
      have hb2 := s2 _ _ hb'
      have kn2 := hk.keep s2
      have hnext : q ≠ q0 → q + 1 ≤ q0 := fun z => by omega
      kxs_still
      refine e_dget1 (rm1 hr) ?_
      kxs_still
      refine ⟨kn2.isD, ?_⟩
      kxs_still
      intro t3 H3 s3 n3 k3 f3
      have kn3 := kn2.keep s3
      have hb3 := s3 _ _ hb2
      have key1 : ∀ {Hx : Hp} {b : Addr}, Hx b = some (.tup [.int ((m : Nat) : Int), .int (((e + 1 : Nat) : Int) - 1), .int ((i : Nat) : Int), .int (((i : Nat) : Int) + ((q : Nat) : Int))]) → Hx b = some (.tup ((ndK (.ru m e i (i + q))).map kV)) := fun h => by
        rw [h, show ((e + 1 : Nat) : Int) - 1 = ((e : Nat) : Int) by omega]
        show _ = some (HO.tup [.int ((m : Nat) : Int), .int ((e : Nat) : Int), .int ((i : Nat) : Int), .int ((i + q : Nat) : Int)])
        rw [Int.natCast_add]
      have key2 : ∀ {Hx : Hp} {b : Addr}, Hx b = some (.tup [.str p, .int (((i : Nat) : Int) + ((q : Nat) : Int)), .int ((j : Nat) : Int)]) → Hx b = some (.tup ((ndK (.pt p (i + q) j)).map kV)) := fun h => by
        rw [h]
        show _ = some (HO.tup [.str p, .int ((i + q : Nat) : Int), .int ((j : Nat) : Int)])
        rw [Int.natCast_add]
      obtain ⟨r1', g1, o1⟩ := kn3.get1 (key1 k3)
      refine ⟨r1', g1, ?_⟩
      kxs_still
      refine e_dget1 (rm1 hr) ?_
      kxs_still
      refine ⟨kn3.isD, ?_⟩
      kxs_still
      intro t4 H4 s4 n4 k4 f4
      have kn4 := kn3.keep s4
      have hb4 := s4 _ _ hb3
      obtain ⟨r2', g2, o2⟩ := kn4.get1 (key2 k4)
      refine ⟨r2', g2, ?_⟩
      replace o1 := o1.ts (Same.ts s4)
      generalize r1'.getD .non = w1 at o1
      generalize r2'.getD .non = w2 at o2
      have s04 := s2.trans (s3.trans s4)
      rcases o1 with ⟨x1, rfl⟩ | ⟨l, x1, a1, rfl, k1⟩
      · kxs_still
        refine ⟨_, _, _, rfl, s04, hnext fun z => ?_⟩
        subst z
        rw [ha0] at x1
        cases x1
      rcases o2 with ⟨x2, rfl⟩ | ⟨r', x2, a2, rfl, k2⟩
      · kxs_still
        refine ⟨_, _, _, rfl, s04, hnext fun z => ?_⟩
        subst z
        rw [hb0] at x2
        cases x2
      unfold tlV at k1 k2
      kxs_still
      intro t5 H5 s5 n5 k5 f5
      have k5' : H5 t5 = some (.tup (tlV (addT l r'))) := by
        rw [k5]
        show _ = some (HO.tup [.int ((l.1 + r'.1 : Nat) : Int), .int ((l.2 + r'.2 : Nat) : Int)])
        rw [Int.natCast_add, Int.natCast_add]
      have kn5 := kn4.keep s5
      obtain ⟨a3, g3, h3⟩ := (kn5.get (n := .ru m (e + 1) i j) (b := b) (s5 _ _ hb4)).2 v hv
      kxs_still
      refine i_dget (rm1 hr) g3 ?_
      refine o_eqD (by omega) (TlAt.dp ⟨t5, rfl, k5'⟩) (TlAt.dp ⟨a3, rfl, h3⟩) (oD_sh (some _)) (oD_sh (some _)) ?_
      rw [pD_eqv]
      have s05 := s04.trans s5
      kxs_still
      refine iteD (fun c2 => ?_) fun c2 => ?_
      · kxs_still
        intro t6 H6 s6 n6 k6 f6
        kxs_still
        intro t7 H7 s7 n7 k7 f7
        kxs_still
        intro l8 H8 s8 n8 k8 f8
        have s58 := s6.trans (s7.trans s8)
        rw [← c2] at h
        refine h l8 [.ru m e i (i + q), .pt p (i + q) j] _ H8 (s05.trans s58) ?_ k8 (.cons ⟨t6, rfl, key1 ((s7.trans s8) _ _ k6)⟩ (.cons ⟨t7, rfl, key2 (s8 _ _ k7)⟩ .nil)) ?_
        · cases w : H l8 with
          | none => rfl
          | some o => rw [(s6.trans s7) _ _ (s05 _ _ w)] at n8; cases n8
        · exact .step hrm hp (by omega) (by omega) x1 x2
      · kxs_still
        refine ⟨_, _, _, rfl, s05, hnext fun z => ?_⟩
        subst z
        rw [ha0] at x1
        rw [hb0] at x2
        cases x1
        cases x2
        exact c2 hab
    · rintro σ' H1 ⟨v9, v10, v11, rfl, s2, hqm⟩
      exact absurd hqm (by omega)

end
theorem df_least_way (T : Txt K mg cs) : Df P w K mg base "least_way" 1 ["known", "rules", "node"] (sp3 (R_least_way K)) := by
  obtain ⟨f, fd, hm, F, hb⟩ := T.f_least_way.ex
  exact ⟨f, fd, hm, F.kp, hb, ok_least_way F T⟩
/-! ### what mending comes to -/
section
variable {rs : List Rl} {c : Cst} {t : List Nat} {F : Tls}
theorem ru_pos (T : Tolled rs c t F) : ∀ (d m i j : Nat) (v : Toll), lk F (.ru m d i j) = some v → 1 ≤ v.2
  | 0, m, i, j, v, h => by
    obtain ⟨⟨r, hr, _⟩, hij, hj⟩ := T.alw _ _ h
    have := (T.ok i j hij hj).zero m (List.getElem?_eq_some_iff.mp hr).1
    rw [h] at this
    cases this
    exact Nat.le_refl 1
  | d + 1, m, i, j, v, h => by
    obtain ⟨⟨r, hr, hd⟩, hij, hj⟩ := T.alw _ _ h
    have hp : r.parts[d]? = some r.parts[d] := List.getElem?_eq_getElem (by omega)
    have := (T.ok i j hij hj).step m d r _ hr hp
    obtain ⟨q, a, b, _, ha, _, hab⟩ := lsum_hit (this.symm.trans h)
    have := ru_pos T d m i (i + q) a ha
    rw [← hab]
    show 1 ≤ a.2 + b.2
    omega
theorem hd_name (hG : GoodG rs) {r : Rl} (hr : r ∈ rs) : isSg r.head = false := by
  have := name_free (hG.good r hr).head (s := 39) (by decide)
  unfold isSg
  cases q : tl r.head with
  | nil => rfl
  | cons x l =>
    rw [q] at this
    have : x ≠ 39 := fun z => this (by rw [z]; exact List.mem_cons_self ..)
    show (some x == some 39) = false
    simp [this]
theorem nm_head (T : Tolled rs c t F) {X : Str} {i j : Nat} {v : Toll} (hX : isSg X = false) (h : lk F (.pt X i j) = some v) : (∃ r ∈ rs, r.head = X) ∧ i ≤ j ∧ j ≤ t.length := by
  obtain ⟨a, b⟩ := T.alw _ _ h
  rcases a with a | ⟨a, _⟩
  · exact ⟨a, b⟩
  · rw [hX] at a; cases a
theorem nm_pos (T : Tolled rs c t F) {X : Str} {i j : Nat} {v : Toll} (hX : isSg X = false) (h : lk F (.pt X i j) = some v) : 1 ≤ v.2 := by
  obtain ⟨a, hij, hj⟩ := nm_head T hX h
  obtain ⟨m, r, _, _, hk⟩ := (T.ok i j hij hj).hd2 X v a h
  exact ru_pos T _ _ _ _ _ hk
theorem sg_val (T : Tolled rs c t F) (hG : GoodG rs) {X : Str} {i j : Nat} {v : Toll} (hX : isSg X = true) (h : lk F (.pt X i j) = some v) : v = signToll c (sgOf X) (cut2 t i j) ∧ i ≤ j ∧ j ≤ t.length ∧ ∃ r ∈ rs, X ∈ r.parts := by
  obtain ⟨a, hij, hj⟩ := T.alw _ _ h
  rcases a with ⟨r, hr, e⟩ | ⟨_, r, hr, hp⟩
  · have := hd_name hG hr
    rw [e, hX] at this
    cases this
  · have := (T.ok i j hij hj).sign r hr X hp hX
    rw [h] at this
    exact ⟨Option.some.inj this, hij, hj, r, hr, hp⟩
theorem sign_two (c : Cst) (s : Nat) (l : List Nat) : (signToll c s l).2 = 0 := by
  unfold signToll
  split <;> rfl
/-- how much is left to do for a node -/
def wt (F : Tls) : Nd → Nat
  | .pt p i j => if isSg p = true then 1 else 20 * ((lk F (.pt p i j)).getD (0, 0)).2 - 1
  | .ru m d i j => 20 * ((lk F (.ru m d i j)).getD (0, 0)).2 + 2 * d - 19
theorem wt_ru (F : Tls) (m d i j : Nat) : wt F (.ru m d i j) = 20 * ((lk F (.ru m d i j)).getD (0, 0)).2 + 2 * d - 19 := rfl
theorem wt_pt (F : Tls) (p : Str) (i j : Nat) : wt F (.pt p i j) = if isSg p = true then 1 else 20 * ((lk F (.pt p i j)).getD (0, 0)).2 - 1 := rfl
def wts (F : Tls) (ws : List Nd) : Nat := (ws.map (wt F)).sum
theorem wt_wy (T : Tolled rs c t F) (hG : GoodG rs) {n : Nd} {v : Toll} {ws : List Nd} (hv : lk F n = some v) (h : Wy rs F n v ws) : wts F ws < wt F n := by
  cases h with
  | @head m i j r _ hr hk =>
    have hs := hd_name hG (List.mem_of_getElem? hr)
    have h6 := (hG.good r (List.mem_of_getElem? hr)).few
    have hp := ru_pos T _ _ _ _ _ hk
    show wt F (.ru m r.parts.length i j) + 0 < wt F (.pt r.head i j)
    rw [wt_ru, wt_pt, hk, hv, hs, if_neg Bool.false_ne_true]
    show 20 * v.2 + 2 * r.parts.length - 19 + 0 < 20 * v.2 - 1
    omega
  | @step m e i j k r p a b hr hp h1 h2 ha hb =>
    have hpa := ru_pos T _ _ _ _ _ ha
    show wt F (.ru m e i k) + (wt F (.pt p k j) + 0) < wt F (.ru m (e + 1) i j)
    rw [wt_ru, wt_pt, wt_ru, ha, hb, hv]
    cases hs : isSg p with
    | true =>
      rw [if_pos rfl]
      show 20 * a.2 + 2 * e - 19 + (1 + 0) < 20 * (a.2 + b.2) + 2 * (e + 1) - 19
      omega
    | false =>
      have hpb := nm_pos T hs hb
      rw [if_neg Bool.false_ne_true]
      show 20 * a.2 + 2 * e - 19 + (20 * b.2 - 1 + 0) < 20 * (a.2 + b.2) + 2 * (e + 1) - 19
      omega
end

/-! ### mending, what is carried along -/
section
variable {rs : List Rl} {c : Cst} {t : List Nat} {F : Tls}
/-- what waits stands for these parts -/
inductive Pd (rs : List Rl) : List Nd → List Str → Prop
  | nil : Pd rs [] []
  | pt {p : Str} {i j : Nat} {ws : List Nd} {P : List Str} : Pd rs ws P → Pd rs (.pt p i j :: ws) (p :: P)
  | ru {m e i j : Nat} {r : Rl} {ws : List Nd} {P : List Str} : rs[m]? = some r → Pd rs ws (r.parts.drop e ++ P) → Pd rs (.ru m e i j :: ws) (r.head :: P)
theorem Pd.pt_inv {p : Str} {i j : Nat} {ws : List Nd} {P : List Str} (h : Pd rs (.pt p i j :: ws) P) : ∃ P', P = p :: P' ∧ Pd rs ws P' := by
  cases h with
  | pt h => exact ⟨_, rfl, h⟩
theorem Pd.ru_inv {m e i j : Nat} {ws : List Nd} {P : List Str} (h : Pd rs (.ru m e i j :: ws) P) : ∃ r P', P = r.head :: P' ∧ rs[m]? = some r ∧ Pd rs ws (r.parts.drop e ++ P') := by
  cases h with
  | ru hr h => exact ⟨_, _, rfl, hr, h⟩
theorem Pd.nil_inv {P : List Str} (h : Pd rs [] P) : P = [] := by
  cases h with
  | nil => rfl
def Sp : Nat → List Nd → Nat → Prop
  | p, [], n => p = n
  | p, w :: ws, n => (spn w).1 = p ∧ Sp (spn w).2 ws n
def tl1 (F : Tls) (n : Nd) : Nat := ((lk F n).getD (0, 0)).1
def tl2 (F : Tls) (n : Nd) : Nat := ((lk F n).getD (0, 0)).2
theorem tl1_of {n : Nd} {v : Toll} (h : lk F n = some v) : tl1 F n = v.1 := by unfold tl1; rw [h]; rfl
theorem tl2_of {n : Nd} {v : Toll} (h : lk F n = some v) : tl2 F n = v.2 := by unfold tl2; rw [h]; rfl
structure MInv (rs : List Rl) (c : Cst) (t : List Nat) (F : Tls) (v : Toll) (r0 : Rl) (ws : List Nd) (dd : List Deed) (row : List Nat) (p : Nat) (made : List Nat) (n : Nat) : Prop where
  has : ∀ w ∈ ws, ∃ u, lk F w = some u
  sp : Sp p ws t.length
  chg : Chg c dd (t.take p) made n
  cost : n + (ws.map (tl1 F)).sum = v.1
  size : row.length + (ws.map (tl2 F)).sum = v.2
  rd : ∃ P, Pd rs ws P ∧ ∀ rest, rg rs (rowD (row ++ rest)) [r0.head] = (rg rs (rowD rest) P).map (made ++ ·)
  few : dd.length + wts F ws + (t.length - p) ≤ 20 * v.2 + t.length
theorem wts_cons (w : Nd) (ws : List Nd) : wts F (w :: ws) = wt F w + wts F ws := by unfold wts; rw [List.map_cons, List.sum_cons]
theorem wts_app (a b : List Nd) : wts F (a ++ b) = wts F a + wts F b := by unfold wts; rw [List.map_append, List.sum_append]
theorem take_cut (t : List Nat) {p j : Nat} (h : p ≤ j) : t.take j = t.take p ++ cut2 t p j := by
  unfold cut2
  rw [← List.take_add, show p + (j - p) = j by omega]
theorem cut2_len (t : List Nat) {p j : Nat} (h : j ≤ t.length) : (cut2 t p j).length = j - p := by
  unfold cut2
  rw [List.length_take, List.length_drop]
  omega
theorem MInv.start (T : Tolled rs c t F) (hG : GoodG rs) {r0 : Rl} (h0 : rs[0]? = some r0) {v : Toll} (hv : lk F (.pt r0.head 0 t.length) = some v) : MInv rs c t F v r0 [.pt r0.head 0 t.length] [] [] 0 [] 0 where
  has w hw := by rw [List.mem_singleton.mp hw]; exact ⟨v, hv⟩
  sp := ⟨rfl, rfl⟩
  chg := by rw [List.take_zero]; exact Chg.nil c
  cost := by
    show 0 + (tl1 F _ + 0) = _
    rw [tl1_of hv]
    omega
  size := by
    show 0 + (tl2 F _ + 0) = _
    rw [tl2_of hv]
    omega
  rd := ⟨[r0.head], .pt .nil, fun rest => by
    show rg rs (rowD rest) [r0.head] = (rg rs (rowD rest) [r0.head]).map ([] ++ ·)
    cases rg rs (rowD rest) [r0.head] <;> rfl⟩
  few := by
    rw [wts_cons]
    have : wts F [] = 0 := rfl
    rw [this, wt_pt, hv, hd_name hG (List.mem_of_getElem? h0), if_neg Bool.false_ne_true]
    show 0 + (20 * v.2 - 1 + 0) + (t.length - 0) ≤ _
    omega
theorem MInv.done {v : Toll} {r0 : Rl} {dd : List Deed} {row made : List Nat} {p n : Nat} (I : MInv rs c t F v r0 [] dd row p made n) : Chg c dd t made v.1 ∧ row.length = v.2 ∧ rg rs (rowD row) [r0.head] = some made := by
  have hp : p = t.length := I.sp
  have hc : n + 0 = v.1 := I.cost
  have hs : row.length + 0 = v.2 := I.size
  have h := I.chg
  rw [hp, List.take_length, show n = v.1 by omega] at h
  refine ⟨h, by omega, ?_⟩
  obtain ⟨P, hP, q⟩ := I.rd
  have := q []
  rw [List.append_nil, hP.nil_inv] at this
  rw [this]
  show Option.map _ (rg rs [] []) = _
  rw [rg_nil, if_pos rfl, Option.map_some, List.append_nil]
theorem MInv.spn0 {v : Toll} {r0 : Rl} {w : Nd} {ws : List Nd} {dd : List Deed} {row made : List Nat} {p n : Nat} (T : Tolled rs c t F) (I : MInv rs c t F v r0 (w :: ws) dd row p made n) : (spn w).1 = p ∧ p ≤ (spn w).2 ∧ (spn w).2 ≤ t.length := by
  obtain ⟨u, hu⟩ := I.has w (List.mem_cons_self ..)
  have h1 : (spn w).1 = p := I.sp.1
  have := T.alw _ _ hu
  cases w with
  | ru m d i j => exact ⟨h1, by rw [← h1]; exact this.2.1, this.2.2⟩
  | pt X i j => exact ⟨h1, by rw [← h1]; exact this.2.1, this.2.2⟩
theorem MInv.ru0 {v : Toll} {r0 : Rl} {m i j : Nat} {ws : List Nd} {dd : List Deed} {row made : List Nat} {p n : Nat} (T : Tolled rs c t F) (hG : GoodG rs) (I : MInv rs c t F v r0 (.ru m 0 i j :: ws) dd row p made n) : MInv rs c t F v r0 ws (dd ++ (cut2 t i j).map .cut) (row ++ [m]) j made (n + (j - i) * c.cut) := by
  obtain ⟨h1, h2, h3⟩ := I.spn0 T
  have h1 : i = p := h1
  have h2 : p ≤ j := h2
  have h3 : j ≤ t.length := h3
  obtain ⟨u, hu⟩ := I.has _ (List.mem_cons_self ..)
  have hz : u = ((j - i) * c.cut, 1) := by
    obtain ⟨⟨r, hr, _⟩, hij, hj⟩ := T.alw _ _ hu
    have := (T.ok i j hij hj).zero m (List.getElem?_eq_some_iff.mp hr).1
    rw [hu] at this
    exact Option.some.inj this
  subst h1
  have hl := cut2_len t (p := i) h3
  refine ⟨fun w hw => I.has w (List.mem_cons_of_mem _ hw), I.sp.2, ?_, ?_, ?_, ?_, ?_⟩
  · have := I.chg.app (Chg.cuts c (cut2 t i j))
    rw [← take_cut t h2, List.append_nil, hl] at this
    exact this
  · have := I.cost
    rw [List.map_cons, List.sum_cons, tl1_of hu, hz] at this
    have this : n + ((j - i) * c.cut + (ws.map (tl1 F)).sum) = v.1 := this
    omega
  · have := I.size
    rw [List.map_cons, List.sum_cons, tl2_of hu, hz] at this
    have this : row.length + (1 + (ws.map (tl2 F)).sum) = v.2 := this
    rw [List.length_append, List.length_singleton]
    omega
  · obtain ⟨P, hP, q⟩ := I.rd
    obtain ⟨r, P', rfl, hr, hP'⟩ := hP.ru_inv
    refine ⟨r.parts ++ P', by rw [List.drop_zero] at hP'; exact hP', fun rest => ?_⟩
    rw [List.append_assoc, q]
    show (rg rs (.int (m : Nat) :: rowD rest) (r.head :: P')).map _ = _
    rw [rg_num hr (hd_name hG (List.mem_of_getElem? hr))]
  · have := I.few
    rw [wts_cons, wt_ru, hu, hz] at this
    have this : dd.length + (20 * 1 + 2 * 0 - 19 + wts F ws) + (t.length - i) ≤ 20 * v.2 + t.length := this
    rw [List.length_append, List.length_map, hl]
    omega
theorem MInv.sg {v : Toll} {r0 : Rl} {X : Str} {i j : Nat} {ws : List Nd} {dd d2 : List Deed} {row made : List Nat} {p n : Nat} (T : Tolled rs c t F) (hG : GoodG rs) (I : MInv rs c t F v r0 (.pt X i j :: ws) dd row p made n) (hX : isSg X = true) (h : Chg c d2 (cut2 t i j) [sgOf X] (signToll c (sgOf X) (cut2 t i j)).1) (hl2 : d2.length ≤ 1 + (j - i)) : MInv rs c t F v r0 ws (dd ++ d2) row j (made ++ [sgOf X]) (n + (signToll c (sgOf X) (cut2 t i j)).1) := by
  obtain ⟨h1, h2, h3⟩ := I.spn0 T
  have h1 : i = p := h1
  have h2 : p ≤ j := h2
  have h3 : j ≤ t.length := h3
  obtain ⟨u, hu⟩ := I.has _ (List.mem_cons_self ..)
  obtain ⟨hz, _⟩ := sg_val T hG hX hu
  subst h1
  refine ⟨fun w hw => I.has w (List.mem_cons_of_mem _ hw), I.sp.2, ?_, ?_, ?_, ?_, ?_⟩
  · have := I.chg.app h
    rw [← take_cut t h2] at this
    exact this
  · have := I.cost
    rw [List.map_cons, List.sum_cons, tl1_of hu, hz] at this
    omega
  · have := I.size
    rw [List.map_cons, List.sum_cons, tl2_of hu, hz, sign_two] at this
    omega
  · obtain ⟨P, hP, q⟩ := I.rd
    obtain ⟨P', rfl, hP'⟩ := hP.pt_inv
    refine ⟨P', hP', fun rest => ?_⟩
    rw [q, rg_sign hX]
    show Option.map _ (Option.map (sgOf X :: ·) _) = _
    cases rg rs (rowD rest) P' with
    | none => rfl
    | some z => simp
  · have := I.few
    rw [wts_cons, wt_pt, hX, if_pos rfl] at this
    rw [List.length_append]
    omega
theorem Wy.inv {n : Nd} {v : Toll} {ws : List Nd} (hv : lk F n = some v) (h : Wy rs F n v ws) : (∀ w ∈ ws, ∃ u, lk F w = some u) ∧ (ws.map (tl1 F)).sum = v.1 ∧ (ws.map (tl2 F)).sum = v.2 ∧ (∀ k z, Sp (spn n).2 z k → Sp (spn n).1 (ws ++ z) k) ∧ ∀ z P, Pd rs (n :: z) P → Pd rs (ws ++ z) P := by
  cases h with
  | @head m i j r _ hr hk =>
    refine ⟨fun w hw => by rw [List.mem_singleton.mp hw]; exact ⟨v, hk⟩, ?_, ?_, fun k z hz => ⟨rfl, hz⟩, fun z P hP => ?_⟩
    · show tl1 F _ + 0 = _
      rw [tl1_of hk, Nat.add_zero]
    · show tl2 F _ + 0 = _
      rw [tl2_of hk, Nat.add_zero]
    · obtain ⟨P', rfl, hP'⟩ := hP.pt_inv
      exact .ru hr (by rw [List.drop_length, List.nil_append]; exact hP')
  | @step m e i j k r p a b hr hp h1 h2 ha hb =>
    refine ⟨fun w hw => ?_, ?_, ?_, fun k z hz => ⟨rfl, rfl, hz⟩, fun z P hP => ?_⟩
    · rcases List.mem_cons.mp hw with rfl | hw
      · exact ⟨a, ha⟩
      · rw [List.mem_singleton.mp hw]; exact ⟨b, hb⟩
    · show tl1 F _ + (tl1 F _ + 0) = _
      rw [tl1_of ha, tl1_of hb, Nat.add_zero]
      rfl
    · show tl2 F _ + (tl2 F _ + 0) = _
      rw [tl2_of ha, tl2_of hb, Nat.add_zero]
      rfl
    · obtain ⟨r', P', rfl, hr', hP'⟩ := hP.ru_inv
      rw [hr] at hr'
      cases hr'
      refine .ru hr ?_
      obtain ⟨h6, h7⟩ := List.getElem?_eq_some_iff.mp hp
      rw [List.drop_eq_getElem_cons h6, h7]
      exact .pt hP'
theorem MInv.way {v : Toll} {r0 : Rl} {w : Nd} {u : Toll} {zs ws : List Nd} {dd : List Deed} {row made : List Nat} {p n : Nat} (T : Tolled rs c t F) (hG : GoodG rs) (I : MInv rs c t F v r0 (w :: ws) dd row p made n) (hu : lk F w = some u) (hy : Wy rs F w u zs) : MInv rs c t F v r0 (zs ++ ws) dd row p made n := by
  obtain ⟨h1, h2, h3, h4, h5⟩ := hy.inv hu
  have hw := wt_wy T hG hu hy
  have hs := I.sp.1
  refine ⟨fun w hw => ?_, ?_, I.chg, ?_, ?_, ?_, ?_⟩
  · rcases List.mem_append.mp hw with q | q
    · exact h1 w q
    · exact I.has w (List.mem_cons_of_mem _ q)
  · have := h4 _ _ I.sp.2
    rwa [hs] at this
  · have := I.cost
    rw [List.map_cons, List.sum_cons, tl1_of hu] at this
    rw [List.map_append, List.sum_append, h2]
    exact this
  · have := I.size
    rw [List.map_cons, List.sum_cons, tl2_of hu] at this
    rw [List.map_append, List.sum_append, h3]
    exact this
  · obtain ⟨P, hP, q⟩ := I.rd
    exact ⟨P, h5 _ _ hP, q⟩
  · have := I.few
    rw [wts_cons] at this
    rw [wts_app]
    omega
theorem wt_pos (T : Tolled rs c t F) (hG : GoodG rs) {w : Nd} {u : Toll} (h : lk F w = some u) : 1 ≤ wt F w := by
  cases w with
  | ru m d i j =>
    have := ru_pos T _ _ _ _ _ h
    rw [wt_ru, h]
    show 1 ≤ 20 * u.2 + 2 * d - 19
    omega
  | pt X i j =>
    rw [wt_pt, h]
    cases hX : isSg X with
    | true => rw [if_pos rfl]; exact Nat.le_refl 1
    | false =>
      have := nm_pos T hX h
      rw [if_neg Bool.false_ne_true]
      show 1 ≤ 20 * u.2 - 1
      omega
theorem wts_len (T : Tolled rs c t F) (hG : GoodG rs) : ∀ {ws : List Nd}, (∀ w ∈ ws, ∃ u, lk F w = some u) → ws.length ≤ wts F ws
  | [], _ => Nat.zero_le _
  | w :: ws, h => by
    obtain ⟨u, hu⟩ := h w (List.mem_cons_self ..)
    have := wt_pos T hG hu
    have := wts_len T hG fun x hx => h x (List.mem_cons_of_mem w hx)
    rw [wts_cons, List.length_cons]
    omega
/-- a node that is neither done nor a sign hangs on others -/
theorem inner_of (T : Tolled rs c t F) {w : Nd} {u : Toll} (h : lk F w = some u) (h1 : ∀ m i j, w ≠ .ru m 0 i j) (h2 : ∀ X i j, w = .pt X i j → isSg X = false) : Inner rs w := by
  have := T.alw _ _ h
  cases w with
  | ru m d i j =>
    obtain ⟨⟨r, hr, hd⟩, _⟩ := this
    cases d with
    | zero => exact absurd rfl (h1 m i j)
    | succ e => exact ⟨e, r, rfl, hr, hd⟩
  | pt X i j =>
    obtain ⟨hX, _⟩ := this
    rcases hX with hX | ⟨hX, _⟩
    · exact hX
    · rw [h2 X i j rfl] at hX; cases hX
end

/-! ### tolls: one dict alone; how great the numbers are -/
section
variable {rs : List Rl} {c : Cst} {t : List Nat} {F : Tls}
theorem lsum_at {m e : Nat} {p : Str} {i j : Nat} {a b : Toll} : ∀ {k q : Nat}, q < k → lk F (.ru m e i (i + q)) = some a → lk F (.pt p (i + q) j) = some b → ∃ u, lsum F m e p i j k = some u ∧ ¬ LtT (addT a b) u
  | 0, q, h, _, _ => absurd h (Nat.not_lt_zero q)
  | k + 1, q, h, ha, hb => by
    show ∃ u, stepTl (lk F (.ru m e i (i + k))) (lk F (.pt p (i + k) j)) (lsum F m e p i j k) = some u ∧ _
    by_cases c0 : q = k
    · subst c0
      rw [ha, hb]
      cases lsum F m e p i j q with
      | none => exact ⟨_, rfl, le_refl _⟩
      | some w =>
        by_cases c : LtT (addT a b) w
        · exact ⟨_, if_pos c, le_refl _⟩
        · exact ⟨_, if_neg c, c⟩
    · obtain ⟨u, e1, l1⟩ := lsum_at (k := k) (by omega) ha hb
      rw [e1]
      cases lk F (.ru m e i (i + k)) with
      | none => exact ⟨u, rfl, l1⟩
      | some x => cases lk F (.pt p (i + k) j) with
        | none => exact ⟨u, rfl, l1⟩
        | some y =>
          by_cases c : LtT (addT x y) u
          · exact ⟨_, if_pos c, le_trans c.asym l1⟩
          · exact ⟨_, if_neg c, l1⟩
theorem Tolled.le (hG : GoodG rs) {G : Tls} (T : Tolled rs c t F) (U : Tolled rs c t G) : ∀ (N : Nat) (n : Nd) (v : Toll), wt F n < N → lk F n = some v → ∃ u, lk G n = some u ∧ ¬ LtT v u
  | 0, _, _, h, _ => absurd h (Nat.not_lt_zero _)
  | N + 1, n, v, h, hv => by
    have ih := Tolled.le hG T U N
    cases n with
    | pt X i j =>
      cases hX : isSg X with
      | true =>
        obtain ⟨e, hij, hj, r, hr, hp⟩ := sg_val T hG hX hv
        exact ⟨v, by rw [e]; exact (U.ok i j hij hj).sign r hr X hp hX, le_refl v⟩
      | false =>
        obtain ⟨hh, hij, hj⟩ := nm_head T hX hv
        obtain ⟨m, r, hr, rfl, hk⟩ := (T.ok i j hij hj).hd2 X v hh hv
        have hw := wt_wy T hG hv (.head hr hk)
        obtain ⟨u, hu, lu⟩ := ih (.ru m r.parts.length i j) v (by have : wt F (.ru m r.parts.length i j) + 0 < wt F (.pt r.head i j) := hw; omega) hk
        obtain ⟨w, hw', lw⟩ := (U.ok i j hij hj).hd1 m r hr u hu
        exact ⟨w, hw', le_trans lw lu⟩
    | ru m d i j =>
      obtain ⟨⟨r, hr, hd⟩, hij, hj⟩ := T.alw _ _ hv
      cases d with
      | zero =>
        have e1 := (T.ok i j hij hj).zero m (List.getElem?_eq_some_iff.mp hr).1
        rw [hv] at e1
        cases e1
        exact ⟨_, (U.ok i j hij hj).zero m (List.getElem?_eq_some_iff.mp hr).1, le_refl _⟩
      | succ e =>
        have hp : r.parts[e]? = some r.parts[e] := List.getElem?_eq_getElem (by omega)
        have := (T.ok i j hij hj).step m e r _ hr hp
        obtain ⟨q, a, b, hq, ha, hb, hab⟩ := lsum_hit (this.symm.trans hv)
        subst hab
        have hw := wt_wy T hG hv (.step hr hp (by omega) (by omega) ha hb)
        have hw : wt F (.ru m e i (i + q)) + (wt F (.pt r.parts[e] (i + q) j) + 0) < wt F (.ru m (e + 1) i j) := hw
        obtain ⟨a', ha', la⟩ := ih _ a (by omega) ha
        obtain ⟨b', hb', lb⟩ := ih _ b (by omega) hb
        obtain ⟨u, hu, lu⟩ := lsum_at (j := j) hq ha' hb'
        exact ⟨u, by rw [(U.ok i j hij hj).step m e r _ hr hp]; exact hu, le_trans lu (add_le la lb)⟩
theorem Tolled.uniq (hG : GoodG rs) {G : Tls} (T : Tolled rs c t F) (U : Tolled rs c t G) (n : Nd) : lk F n = lk G n :=
  OLe.anti (fun v e => Tolled.le hG U T _ n v (Nat.lt_succ_self _) e) fun v e => Tolled.le hG T U _ n v (Nat.lt_succ_self _) e
/-- a rule of signs has a toll -/
theorem short_ru (T : Tolled rs c t F) {m : Nat} {r : Rl} (hr : rs[m]? = some r) (hs : ∀ p ∈ r.parts, isSg p = true) {i j : Nat} (hij : i ≤ j) (hj : j ≤ t.length) : ∀ d, d ≤ r.parts.length → ∃ v, lk F (.ru m d i j) = some v
  | 0, _ => ⟨_, (T.ok i j hij hj).zero m (List.getElem?_eq_some_iff.mp hr).1⟩
  | d + 1, h => by
    obtain ⟨a, ha⟩ := short_ru T hr hs hij hj d (by omega)
    have hp : r.parts[d]? = some r.parts[d] := List.getElem?_eq_getElem (by omega)
    have hm := List.mem_of_getElem? hp
    have hb := (T.ok j j (Nat.le_refl j) hj).sign r (List.mem_of_getElem? hr) _ hm (hs _ hm)
    obtain ⟨u, hu, _⟩ := lsum_at (F := F) (i := i) (j := j) (k := j + 1 - i) (q := j - i) (by omega) (by rw [show i + (j - i) = j by omega]; exact ha) (by rw [show i + (j - i) = j by omega]; exact hb)
    exact ⟨u, by rw [(T.ok i j hij hj).step m d r _ hr hp]; exact hu⟩
theorem short_pt (T : Tolled rs c t F) {r : Rl} (hr : r ∈ rs) (hs : ∀ p ∈ r.parts, isSg p = true) {i j : Nat} (hij : i ≤ j) (hj : j ≤ t.length) : ∃ v, lk F (.pt r.head i j) = some v := by
  obtain ⟨m, hm⟩ := List.mem_iff_getElem?.mp hr
  obtain ⟨v, hv⟩ := short_ru T hm hs hij hj r.parts.length (Nat.le_refl _)
  obtain ⟨u, hu, _⟩ := (T.ok i j hij hj).hd1 m r hm v hv
  exact ⟨u, hu⟩
def Cn (F : Tls) (hs : List Str) (h i j : Nat) : Nat := (hs.filter fun Y => (lk F (.pt Y i j)).any fun w => decide (w.2 < h)).length
theorem filtT_le {α : Type} {p q : α → Bool} : ∀ {l : List α}, (∀ x ∈ l, p x = true → q x = true) → (l.filter p).length ≤ (l.filter q).length
  | [], _ => Nat.le_refl _
  | a :: l, h => by
    have ih := filtT_le (l := l) fun x m => h x (List.mem_cons_of_mem _ m)
    by_cases c : p a = true
    · rw [List.filter_cons_of_pos c, List.filter_cons_of_pos (h a (List.mem_cons_self ..) c), List.length_cons, List.length_cons]
      omega
    · rw [List.filter_cons_of_neg c]
      by_cases c2 : q a = true
      · rw [List.filter_cons_of_pos c2, List.length_cons]
        omega
      · rw [List.filter_cons_of_neg c2]
        exact ih
theorem filtT_lt {α : Type} {p q : α → Bool} : ∀ {l : List α} {y : α}, (∀ x ∈ l, p x = true → q x = true) → y ∈ l → q y = true → p y = false → (l.filter p).length + 1 ≤ (l.filter q).length
  | a :: l, y, h, m, hq, hp => by
    have hl := filtT_le (l := l) (p := p) (q := q) fun x m => h x (List.mem_cons_of_mem _ m)
    by_cases e : a = y
    · subst e
      rw [List.filter_cons_of_neg (by rw [hp]; exact Bool.false_ne_true), List.filter_cons_of_pos hq, List.length_cons]
      omega
    · have ih := filtT_lt (l := l) (y := y) (fun x m => h x (List.mem_cons_of_mem _ m)) ((List.mem_cons.mp m).resolve_left fun z => e z.symm) hq hp
      by_cases c : p a = true
      · rw [List.filter_cons_of_pos c, List.filter_cons_of_pos (h a (List.mem_cons_self ..) c), List.length_cons, List.length_cons]
        omega
      · rw [List.filter_cons_of_neg c]
        by_cases c2 : q a = true
        · rw [List.filter_cons_of_pos c2, List.length_cons]
          omega
        · rw [List.filter_cons_of_neg c2]
          exact ih
theorem Cn_lt {hs : List Str} {X : Str} {i j h : Nat} {v : Toll} (hX : X ∈ hs) (hv : lk F (.pt X i j) = some v) (hl : v.2 < h) : Cn F hs v.2 i j + 1 ≤ Cn F hs h i j := by
  refine filtT_lt (y := X) (fun Y _ q => ?_) hX (by rw [hv]; exact decide_eq_true hl) (by rw [hv]; exact decide_eq_false (Nat.lt_irrefl _))
  cases e : lk F (.pt Y i j) with
  | none => rw [e] at q; cases q
  | some w =>
    rw [e] at q
    have q : decide (w.2 < v.2) = true := q
    show decide (w.2 < h) = true
    rw [decide_eq_true_iff] at q ⊢
    omega
theorem Cn_two {hs : List Str} (h3 : hs.length ≤ 3) {X : Str} {i j : Nat} {v : Toll} (hX : X ∈ hs) (hv : lk F (.pt X i j) = some v) : Cn F hs v.2 i j ≤ 2 := by
  have h1 : Cn F hs v.2 i j + 1 ≤ Cn F hs (v.2 + 1) i j := Cn_lt hX hv (Nat.lt_succ_self v.2)
  have h2 : Cn F hs (v.2 + 1) i j ≤ hs.length := List.length_filter_le _ _
  omega
def Eb : Nat → Nat
  | 0 => 1
  | n + 1 => 1 + 3 * Eb n
theorem Eb_mono {a b : Nat} (h : a ≤ b) : Eb a ≤ Eb b := by
  have : ∀ n a, Eb a ≤ Eb (a + n) := fun n => by
    induction n with
    | zero => intro a; exact Nat.le_refl _
    | succ n ih =>
      intro a
      have := ih a
      show Eb a ≤ 1 + 3 * Eb (a + n)
      omega
  have := this (b - a) a
  rwa [show a + (b - a) = b by omega] at this
def Wb (s C : Nat) : Nat := 100 * (2 * s - 1) - 54 + 27 * C
def Bd (s C : Nat) : Nat := if s = 0 then Eb C else Wb s C
theorem Bd_two {s C : Nat} (h : C ≤ 2) : (s = 0 → Bd s C ≤ 13) ∧ (0 < s → Bd s C ≤ 100 * (2 * s - 1)) := by
  refine ⟨fun z => ?_, fun z => ?_⟩
  · unfold Bd
    rw [if_pos z]
    exact Nat.le_trans (Eb_mono h) (by decide)
  · unfold Bd Wb
    rw [if_neg (by omega)]
    omega
theorem toll_small (hG : GoodG rs) (T : Tolled rs c t F) {hs : List Str} (h3 : hs.length ≤ 3) (hh : ∀ r ∈ rs, r.head ∈ hs) (hp : ∀ r ∈ rs, r.parts.length ≤ 3) : ∀ (N : Nat) (X : Str) (i j : Nat) (v : Toll), v.2 < N → isSg X = false → lk F (.pt X i j) = some v → v.2 ≤ Bd (j - i) (Cn F hs v.2 i j)
  | 0, _, _, _, _, h, _, _ => absurd h (Nat.not_lt_zero _)
  | N + 1, X, i, j, v, hN, hX, hv => by
    obtain ⟨hhd, hij, hj⟩ := nm_head T hX hv
    obtain ⟨m, r, hr, rfl, hk⟩ := (T.ok i j hij hj).hd2 X v hhd hv
    have hrm := List.mem_of_getElem? hr
    have hC := Cn_two h3 (hh r hrm) hv
    -- a name beneath: less, and how great
    have kid : ∀ (Y : Str) (k l : Nat) (w : Toll), isSg Y = false → w.2 < v.2 → lk F (.pt Y k l) = some w → Y ∈ hs ∧ w.2 ≤ Bd (l - k) (Cn F hs w.2 k l) := fun Y k l w hY hw e => by
      obtain ⟨⟨r', hr', e'⟩, _⟩ := nm_head T hY e
      exact ⟨by rw [← e']; exact hh r' hr', toll_small hG T h3 hh hp N Y k l w (by omega) hY e⟩
    have cut : ∀ (d k : Nat) (u : Toll), d < r.parts.length → lk F (.ru m (d + 1) i k) = some u → ∃ q a b, i + q ≤ k ∧ lk F (.ru m d i (i + q)) = some a ∧ lk F (.pt (r.parts.getD d default) (i + q) k) = some b ∧ u.2 = a.2 + b.2 ∧ 1 ≤ a.2 := fun d k u hd e => by
      obtain ⟨_, hik, hkt⟩ := T.alw _ _ e
      have hpd : r.parts[d]? = some r.parts[d] := List.getElem?_eq_getElem hd
      have := (T.ok i k hik hkt).step m d r _ hr hpd
      obtain ⟨q, a, b, hq, ha, hb, hab⟩ := lsum_hit (this.symm.trans e)
      refine ⟨q, a, b, by omega, ha, by rw [List.getD_eq_getElem?_getD, hpd]; exact hb, by rw [← hab]; rfl, ru_pos T _ _ _ _ _ ha⟩
    by_cases c0 : i = j
    · subst c0
      have key : ∀ (d : Nat) (u : Toll), d ≤ r.parts.length → u.2 ≤ v.2 → lk F (.ru m d i i) = some u → u.2 ≤ 1 + d * (Eb (Cn F hs v.2 i i) / 3) := fun d => by
        induction d with
        | zero =>
          intro u _ _ e
          have := (T.ok i i hij hj).zero m (List.getElem?_eq_some_iff.mp hr).1
          rw [e] at this
          cases this
          exact Nat.le_add_right 1 _
        | succ d ih =>
          intro u hd hu e
          obtain ⟨q, a, b, hq, ha, hb, hab, hpos⟩ := cut d i u (by omega) e
          have hq0 : q = 0 := by omega
          subst hq0
          have h1 := ih a (by omega) (by omega) ha
          rw [Nat.succ_mul]
          cases hY : isSg (r.parts.getD d default) with
          | true =>
            have := (sg_val T hG hY hb).1
            have : b.2 = 0 := by rw [this, sign_two]
            omega
          | false =>
            obtain ⟨hm, hle⟩ := kid _ _ _ b hY (by omega) hb
            have := Cn_lt hm hb (show b.2 < v.2 by omega)
            have hb2 : Bd (i - (i + 0)) (Cn F hs b.2 (i + 0) i) = Eb (Cn F hs b.2 i i) := by
              unfold Bd
              rw [if_pos (by omega)]
              rfl
            rw [hb2] at hle
            have this : Cn F hs b.2 i i + 1 ≤ Cn F hs v.2 i i := this
            have hm2 := Eb_mono this
            have hm3 : 1 + 3 * Eb (Cn F hs b.2 i i) ≤ Eb (Cn F hs v.2 i i) := hm2
            omega
      have h1 := key r.parts.length v (Nat.le_refl _) (Nat.le_refl _) hk
      have h2 := hp r hrm
      have h4 : r.parts.length * (Eb (Cn F hs v.2 i i) / 3) ≤ 3 * (Eb (Cn F hs v.2 i i) / 3) := Nat.mul_le_mul_right _ h2
      unfold Bd
      rw [if_pos (by omega)]
      have h5 : Eb (Cn F hs v.2 i i) % 3 = 1 := by
        cases Cn F hs v.2 i i with
        | zero => rfl
        | succ n => show (1 + 3 * Eb n) % 3 = 1; omega
      omega
    · have hlt : i < j := by omega
      have key : ∀ (d k : Nat) (u : Toll), d ≤ r.parts.length → k ≤ j → u.2 ≤ v.2 → lk F (.ru m d i k) = some u →
          i ≤ k ∧ (u.2 ≤ 1 + 13 * d ∨ (i < k ∧ i + 2 ≤ j ∧ ∃ s, 1 ≤ s ∧ s ≤ k - i ∧ s ≤ j - i - 1 ∧ u.2 ≤ 1 + 13 * d + 100 * (2 * s - 1)) ∨ (i + 2 ≤ k ∧ u.2 ≤ 1 + 13 * d + 100 * (2 * (k - i) - 2)) ∨ (k = j ∧ 1 ≤ Cn F hs v.2 i j ∧ u.2 + 13 ≤ 1 + 13 * d + Wb (j - i) (Cn F hs v.2 i j - 1))) := fun d => by
        induction d with
        | zero =>
          intro k u _ _ _ e
          obtain ⟨_, hik, hkt⟩ := T.alw _ _ e
          have := (T.ok i k hik hkt).zero m (List.getElem?_eq_some_iff.mp hr).1
          rw [e] at this
          cases this
          exact ⟨hik, .inl (Nat.le_refl 1)⟩
        | succ d ih =>
          intro k u hd hkj hu e
          obtain ⟨q, a, b, hq, ha, hb, hab, hpos⟩ := cut d k u (by omega) e
          obtain ⟨h0, h1⟩ := ih (i + q) a (by omega) (by omega) (by omega) ha
          refine ⟨by omega, ?_⟩
          have lift : b.2 ≤ 13 → (i + q = k ∨ b.2 = 0) → (u.2 ≤ 1 + 13 * (d + 1) ∨ (i < k ∧ i + 2 ≤ j ∧ ∃ s, 1 ≤ s ∧ s ≤ k - i ∧ s ≤ j - i - 1 ∧ u.2 ≤ 1 + 13 * (d + 1) + 100 * (2 * s - 1)) ∨ (i + 2 ≤ k ∧ u.2 ≤ 1 + 13 * (d + 1) + 100 * (2 * (k - i) - 2)) ∨ (k = j ∧ 1 ≤ Cn F hs v.2 i j ∧ u.2 + 13 ≤ 1 + 13 * (d + 1) + Wb (j - i) (Cn F hs v.2 i j - 1))) := fun hb13 hb0 => by
            rcases h1 with h1 | ⟨h1, h2, s, s1, s2, s3, h4⟩ | ⟨h1, h2⟩ | ⟨h1, h2, h4⟩
            · left; omega
            · right; left; exact ⟨by omega, h2, s, s1, by omega, s3, by omega⟩
            · right; right; left; exact ⟨by omega, by omega⟩
            · right; right; right; exact ⟨by omega, h2, by omega⟩
          cases hY : isSg (r.parts.getD d default) with
          | true =>
            have := (sg_val T hG hY hb).1
            have : b.2 = 0 := by rw [this, sign_two]
            exact lift (by omega) (.inr this)
          | false =>
            obtain ⟨hm, hle⟩ := kid _ _ _ b hY (by omega) hb
            have hb2 := Cn_two h3 hm hb
            obtain ⟨e1, e2⟩ := Bd_two (s := k - (i + q)) hb2
            by_cases ck : i + q = k
            · exact lift (Nat.le_trans hle (e1 (by omega))) (.inl ck)
            · by_cases cf : q = 0 ∧ k = j
              · obtain ⟨rfl, rfl⟩ := cf
                have hlt2 := Cn_lt hm hb (show b.2 < v.2 by omega)
                have hlt2 : Cn F hs b.2 i k + 1 ≤ Cn F hs v.2 i k := hlt2
                have hle2 : b.2 ≤ Wb (k - i) (Cn F hs b.2 i k) := by
                  have : Bd (k - (i + 0)) (Cn F hs b.2 (i + 0) k) = Wb (k - i) (Cn F hs b.2 i k) := by
                    unfold Bd
                    rw [if_neg (by omega)]
                    rfl
                  rw [← this]
                  exact hle
                have hle3 : Wb (k - i) (Cn F hs b.2 i k) ≤ Wb (k - i) (Cn F hs v.2 i k - 1) := by unfold Wb; omega
                rcases h1 with h1 | ⟨h1, _⟩ | ⟨h1, _⟩ | ⟨h1, _⟩
                · right; right; right; exact ⟨rfl, by omega, by omega⟩
                · omega
                · omega
                · omega
              · have hb4 := Nat.le_trans hle (e2 (by omega))
                rcases h1 with h1 | ⟨h1, h2, s, s1, s2, s3, h4⟩ | ⟨h1, h2⟩ | ⟨h1, h2, h4⟩
                · right; left; exact ⟨by omega, by omega, k - (i + q), by omega, by omega, by omega, by omega⟩
                · right; right; left; exact ⟨by omega, by omega⟩
                · right; right; left; exact ⟨by omega, by omega⟩
                · omega
      have h2 := hp r hrm
      obtain ⟨_, h1⟩ := key r.parts.length j v (Nat.le_refl _) (Nat.le_refl _) (Nat.le_refl _) hk
      unfold Bd
      rw [if_neg (by omega)]
      unfold Wb at h1 ⊢
      rcases h1 with h1 | ⟨h1, h2, s, s1, s2, s3, h4⟩ | ⟨h1, h2⟩ | ⟨h1, h2, h4⟩ <;> omega
theorem toll_1000 (hG : GoodG rs) (T : Tolled rs c t F) {hs : List Str} (h3 : hs.length ≤ 3) (hh : ∀ r ∈ rs, r.head ∈ hs) (hp : ∀ r ∈ rs, r.parts.length ≤ 3) {X : Str} {i j : Nat} {v : Toll} (hX : isSg X = false) (hv : lk F (.pt X i j) = some v) (hl : j - i ≤ 5) : v.2 ≤ 1000 := by
  have h1 := toll_small hG T h3 hh hp _ X i j v (Nat.lt_succ_self _) hX hv
  obtain ⟨⟨r, hr, e⟩, _⟩ := nm_head T hX hv
  have h2 := Cn_two h3 (show X ∈ hs by rw [← e]; exact hh r hr) hv
  obtain ⟨e1, e2⟩ := Bd_two (s := j - i) h2
  by_cases c : j - i = 0
  · have := e1 c; omega
  · have := e2 (by omega); omega
end

theorem list_lastD {α : Type} {l : List α} (h : l ≠ []) : ∃ l' x, l = l' ++ [x] := ⟨l.dropLast, l.getLast h, (List.dropLast_concat_getLast h).symm⟩
theorem all2_lastD {α β : Type} {R : α → β → Prop} {b : List β} {y : β} : ∀ {a : List α}, All2 R a (b ++ [y]) → ∃ a' x, a = a' ++ [x] ∧ All2 R a' b ∧ R x y := by
  induction b with
  | nil =>
    intro a h
    cases h with
    | cons h t => cases t; exact ⟨[], _, rfl, .nil, h⟩
  | cons z b ih =>
    intro a h
    cases h with
    | cons h t =>
      obtain ⟨a', x, rfl, q, r⟩ := ih t
      exact ⟨_ :: a', x, rfl, .cons h q, r⟩
theorem startV_of {rs : List Rl} {r0 : Rl} (h : rs[0]? = some r0) : startV rs = .str r0.head := by
  cases rs with
  | nil => cases h
  | cons r l => cases h; rfl
theorem cut_len2 {dd : List Deed} {c : Cst} {t m : List Nat} {n : Nat} (h : Chg c dd t m n) : dd.length ≤ t.length + m.length := by
  rw [← h.take, ← h.make]
  clear h
  induction dd with
  | nil => exact Nat.zero_le _
  | cons d l ih =>
    rw [List.flatMap_cons, List.flatMap_cons, List.length_append, List.length_append, List.length_cons]
    have : 1 ≤ (dTake d).length + (dMake d).length := by cases d <;> (simp only [dTake, dMake, List.length_cons, List.length_nil]; omega)
    omega
/-- what mended tells -/
structure Mdd (rs : List Rl) (c : Cst) (t : List Nat) (r0 : Rl) (v : Toll) (dd : List Deed) (row made : List Nat) : Prop where
  chg : Chg c dd t made v.1
  size : row.length = v.2
  rd : rg rs (rowD row) [r0.head] = some made
  few : dd.length ≤ 20 * v.2 + t.length
theorem rg_ok {rs : List Rl} (hg : ∀ r ∈ rs, ∀ p ∈ r.parts, isPartS p = true) : ∀ {ds : List PyData} {ps : List Str} {zs : List Nat}, (∀ p ∈ ps, isPartS p = true) → rg rs ds ps = some zs → ∀ c ∈ zs, okc c = true
  | [], ps, zs, hp, h, c, hc => by
    have h : (if ps.all isSg = true then some (ps.map codeOf) else none) = some zs := h
    split at h
    · rename_i ha
      cases h
      obtain ⟨p, hpm, rfl⟩ := List.mem_map.mp hc
      exact (sign_tl (hp p hpm) (List.all_eq_true.mp ha p hpm)).2
    · cases h
  | d :: ds, ps, zs, hp, h, c, hc => by
    have h : (stp rs d (ps.dropWhile isSg)).bind (fun q => (rg rs ds q).map ((ps.takeWhile isSg).map codeOf ++ ·)) = some zs := h
    cases e : stp rs d (ps.dropWhile isSg) with
    | none => rw [e] at h; cases h
    | some q =>
      rw [e, Option.bind_some] at h
      obtain ⟨k, r, qs, _, hk, e1, e2⟩ := stp_some e
      cases e3 : rg rs ds q with
      | none => rw [e3] at h; cases h
      | some z =>
        rw [e3] at h
        cases h
        rcases List.mem_append.mp hc with hc | hc
        · obtain ⟨p, hpm, rfl⟩ := List.mem_map.mp hc
          exact (sign_tl (hp p ((List.takeWhile_prefix isSg).subset hpm)) (takeWhile_ok hpm)).2
        · refine rg_ok hg (fun p hpm => ?_) e3 c hc
          rw [e2] at hpm
          rcases List.mem_append.mp hpm with hpm | hpm
          · exact hg r (List.mem_of_getElem? hk) p hpm
          · refine hp p ((List.dropWhile_suffix isSg).subset ?_)
            rw [e1]
            exact List.mem_cons_of_mem _ hpm

/-! ### no change is cheaper than the toll -/
/-- a change of signs to signs, drawn sign by sign -/
inductive Al (c : Cst) : List Nat → List Nat → Nat → Prop
  | nil : Al c [] [] 0
  | cut {t m : List Nat} {n : Nat} (x : Nat) : Al c t m n → Al c (t ++ [x]) m (n + c.cut)
  | put {t m : List Nat} {n : Nat} (y : Nat) : Al c t m n → Al c t (m ++ [y]) (n + c.put)
  | both {t m : List Nat} {n : Nat} (x y : Nat) : Al c t m n → Al c (t ++ [x]) (m ++ [y]) (n + (if x = y then 0 else min c.swap (c.put + c.cut)))
theorem Al.split {c : Cst} {t m : List Nat} {n : Nat} (h : Al c t m n) : ∀ m1 m2, m = m1 ++ m2 → ∃ t1 t2 n1 n2, t = t1 ++ t2 ∧ n = n1 + n2 ∧ Al c t1 m1 n1 ∧ Al c t2 m2 n2 := by
  induction h with
  | nil =>
    intro m1 m2 e
    obtain ⟨rfl, rfl⟩ := List.append_eq_nil_iff.mp e.symm
    exact ⟨[], [], 0, 0, rfl, rfl, .nil, .nil⟩
  | cut x h ih =>
    intro m1 m2 e
    obtain ⟨t1, t2, n1, n2, rfl, rfl, h1, h2⟩ := ih m1 m2 e
    exact ⟨t1, t2 ++ [x], n1, n2 + c.cut, by rw [List.append_assoc], by rw [Nat.add_assoc], h1, h2.cut x⟩
  | @put t m n y h ih =>
    intro m1 m2 e
    by_cases c0 : m2 = []
    · subst c0
      rw [List.append_nil] at e
      subst e
      exact ⟨t, [], n + c.put, 0, by rw [List.append_nil], rfl, h.put y, .nil⟩
    · obtain ⟨m2', z, rfl⟩ := list_lastD c0
      rw [← List.append_assoc] at e
      obtain ⟨e1, e2⟩ := List.append_inj' e rfl
      cases e2
      obtain ⟨t1, t2, n1, n2, rfl, rfl, h1, h2⟩ := ih m1 m2' e1
      exact ⟨t1, t2, n1, n2 + c.put, rfl, by rw [Nat.add_assoc], h1, h2.put _⟩
  | @both t m n x y h ih =>
    intro m1 m2 e
    by_cases c0 : m2 = []
    · subst c0
      rw [List.append_nil] at e
      subst e
      exact ⟨t ++ [x], [], _, 0, by rw [List.append_nil], rfl, h.both x y, .nil⟩
    · obtain ⟨m2', z, rfl⟩ := list_lastD c0
      rw [← List.append_assoc] at e
      obtain ⟨e1, e2⟩ := List.append_inj' e rfl
      cases e2
      obtain ⟨t1, t2, n1, n2, rfl, rfl, h1, h2⟩ := ih m1 m2' e1
      exact ⟨t1, t2 ++ [x], n1, _, by rw [List.append_assoc], by rw [Nat.add_assoc], h1, h2.both x _⟩
theorem Al.cuts {c : Cst} : ∀ (z : List Nat) {t m : List Nat} {n : Nat}, Al c t m n → Al c (t ++ z) m (n + z.length * c.cut)
  | [], t, m, n, h => by rw [List.append_nil, List.length_nil, Nat.zero_mul]; exact h
  | x :: z, t, m, n, h => by
    have := Al.cuts z (h.cut x)
    rw [List.append_assoc, List.singleton_append, Nat.add_assoc] at this
    rw [List.length_cons, Nat.succ_mul, Nat.add_comm (z.length * c.cut)]
    exact this
theorem Al.none {c : Cst} {t m : List Nat} {n : Nat} (h : Al c t m n) : m = [] → n = t.length * c.cut := by
  induction h with
  | nil => intro _; rw [List.length_nil, Nat.zero_mul]
  | cut x h ih =>
    intro e
    rw [ih e, List.length_append, List.length_singleton, Nat.succ_mul]
  | put y h => intro e; exact absurd e (by simp)
  | both x y h => intro e; exact absurd e (by simp)
theorem st_le {c : Cst} {s : Nat} (t : List Nat) : (signToll c s t).1 ≤ t.length * c.cut + c.put := by
  unfold signToll
  split
  · rename_i h; subst h; simp
  · exact Nat.min_le_left _ _
theorem st_cons {c : Cst} {s x : Nat} (t : List Nat) : (signToll c s (t ++ [x])).1 = min ((t.length + 1) * c.cut + c.put) (t.length * c.cut + (if s ∈ t ++ [x] then 0 else c.swap)) := by
  unfold signToll
  rw [if_neg (by simp), List.length_append, List.length_singleton, Nat.add_sub_cancel]
theorem st_snoc {c : Cst} {s x : Nat} (t : List Nat) : (signToll c s (t ++ [x])).1 ≤ (signToll c s t).1 + c.cut := by
  rw [st_cons]
  by_cases e : t = []
  · subst e
    show _ ≤ c.put + c.cut
    rw [List.length_nil]
    omega
  · have h1 : (signToll c s t).1 = min (t.length * c.cut + c.put) ((t.length - 1) * c.cut + (if s ∈ t then 0 else c.swap)) := by
      unfold signToll
      rw [if_neg e]
    rw [h1, Nat.succ_mul]
    have hl : 0 < t.length := List.length_pos_iff.mpr e
    obtain ⟨k, hk⟩ : ∃ k, t.length = k + 1 := ⟨t.length - 1, by omega⟩
    rw [hk, Nat.add_sub_cancel, Nat.succ_mul]
    have h2 : (if s ∈ t ++ [x] then 0 else c.swap) ≤ (if s ∈ t then 0 else c.swap) := by
      by_cases q : s ∈ t
      · rw [if_pos (List.mem_append_left _ q)]
        exact Nat.zero_le _
      · rw [if_neg q]
        split <;> omega
    omega
theorem Al.sign {c : Cst} {s : Nat} {t m : List Nat} {n : Nat} (h : Al c t m n) : m = [s] → (signToll c s t).1 ≤ n := by
  induction h with
  | nil => intro e; cases e
  | @cut t m n x h ih =>
    intro e
    exact Nat.le_trans (st_snoc t) (Nat.add_le_add_right (ih e) _)
  | @put t m n y h ih =>
    intro e
    obtain ⟨e1, e2⟩ := List.append_inj' (show m ++ [y] = [] ++ [s] from e) rfl
    rw [h.none e1]
    exact st_le t
  | @both t m n x y h ih =>
    intro e
    obtain ⟨e1, e2⟩ := List.append_inj' (show m ++ [y] = [] ++ [s] from e) rfl
    cases e2
    rw [h.none e1, st_cons, Nat.succ_mul]
    by_cases q : x = s
    · subst q
      rw [if_pos (List.mem_append_right _ (List.mem_singleton_self _)), if_pos rfl]
      omega
    · rw [if_neg q]
      split <;> omega
theorem cut2_split {t t1 t2 : List Nat} {i j : Nat} (hij : i ≤ j) (hj : j ≤ t.length) (e : cut2 t i j = t1 ++ t2) : t1 = cut2 t i (i + t1.length) ∧ t2 = cut2 t (i + t1.length) j ∧ i + t1.length ≤ j := by
  have hl := cut2_len t (p := i) hj
  rw [e, List.length_append] at hl
  have a1 : t1 = (cut2 t i j).take t1.length := by rw [e, List.take_left']; rfl
  have a2 : t2 = (cut2 t i j).drop t1.length := by rw [e, List.drop_left']; rfl
  refine ⟨?_, ?_, by omega⟩
  · refine a1.trans ?_
    unfold cut2
    rw [List.take_take, show min t1.length (j - i) = i + t1.length - i by omega]
  · refine a2.trans ?_
    unfold cut2
    rw [List.drop_take, List.drop_drop, show j - i - t1.length = j - (i + t1.length) by omega]
theorem cut2_app {t : List Nat} {i k j : Nat} (h : i ≤ k) (h2 : k ≤ j) : cut2 t i k ++ cut2 t k j = cut2 t i j := by
  unfold cut2
  rw [show j - i = (k - i) + (j - k) by omega, List.take_add, List.drop_drop, show i + (k - i) = k by omega]
section
variable {rs : List Rl} {c : Cst} {t : List Nat} {F : Tls}
theorem rg_split (hsg : ∀ r ∈ rs, isSg r.head = false) : ∀ (N : Nat) (ds : List Nat) (a b : List Str) (m : List Nat), ds.length ≤ N → rg rs (rowD ds) (a ++ b) = some m → ∃ d1 d2 m1 m2, ds = d1 ++ d2 ∧ m = m1 ++ m2 ∧ rg rs (rowD d1) a = some m1 ∧ rg rs (rowD d2) b = some m2 := by
  intro N
  induction N with
  | zero =>
    intro ds a
    induction a with
    | nil => intro b m hl h; exact ⟨[], ds, [], m, rfl, rfl, by show rg rs [] [] = _; rw [rg_nil, if_pos rfl], h⟩
    | cons p a ih =>
      intro b m hl h
      have hd : ds = [] := List.eq_nil_of_length_eq_zero (by omega)
      cases hs : isSg p with
      | true =>
        rw [List.cons_append, rg_sign hs] at h
        cases e : rg rs (rowD ds) (a ++ b) with
        | none => rw [e] at h; cases h
        | some z =>
          rw [e] at h
          cases h
          obtain ⟨d1, d2, m1, m2, h1, h2, h3, h4⟩ := ih b z hl e
          exact ⟨d1, d2, codeOf p :: m1, m2, h1, by rw [h2]; rfl, by rw [rg_sign hs, h3]; rfl, h4⟩
      | false =>
        rw [hd, List.cons_append] at h
        have h : rg rs [] (p :: (a ++ b)) = some m := h
        rw [rg_name0 hs] at h
        cases h
  | succ N IH =>
    intro ds a
    induction a with
    | nil => intro b m hl h; exact ⟨[], ds, [], m, rfl, rfl, by show rg rs [] [] = _; rw [rg_nil, if_pos rfl], h⟩
    | cons p a ih =>
      intro b m hl h
      cases hs : isSg p with
      | true =>
        rw [List.cons_append, rg_sign hs] at h
        cases e : rg rs (rowD ds) (a ++ b) with
        | none => rw [e] at h; cases h
        | some z =>
          rw [e] at h
          cases h
          obtain ⟨d1, d2, m1, m2, h1, h2, h3, h4⟩ := ih b z hl e
          exact ⟨d1, d2, codeOf p :: m1, m2, h1, by rw [h2]; rfl, by rw [rg_sign hs, h3]; rfl, h4⟩
      | false =>
        cases ds with
        | nil =>
          rw [List.cons_append] at h
          have h : rg rs [] (p :: (a ++ b)) = some m := h
          rw [rg_name0 hs] at h
          cases h
        | cons d ds =>
          have h : rg rs (.int ((d : Nat) : Int) :: rowD ds) (p :: (a ++ b)) = some m := h
          rw [rg_name hs] at h
          cases e : stp rs (.int ((d : Nat) : Int)) (p :: (a ++ b)) with
          | none => rw [e] at h; cases h
          | some q =>
            rw [e, Option.bind_some] at h
            obtain ⟨k, r, qs, e1, e2, e3, rfl⟩ := stp_some e
            have e1 := PyData.int.inj e1
            have ek : d = k := by omega
            subst ek
            obtain ⟨rfl, rfl⟩ := List.cons.inj e3
            rw [← List.append_assoc] at h
            obtain ⟨d1, d2, m1, m2, rfl, rfl, h3, h4⟩ := IH ds (r.parts ++ a) b m (by rw [List.length_cons] at hl; omega) h
            refine ⟨d :: d1, d2, m1, m2, rfl, rfl, ?_, h4⟩
            show rg rs (.int ((d : Nat) : Int) :: rowD d1) (r.head :: a) = _
            rw [rg_num e2 (hsg r (List.mem_of_getElem? e2))]
            exact h3
/-- parts, one behind the other, with their tolls -/
inductive Ch (F : Tls) : List Str → Nat → Nat → Toll → Prop
  | nil {i : Nat} : Ch F [] i i (0, 0)
  | cons {p : Str} {ps : List Str} {i k j : Nat} {a b : Toll} : lk F (.pt p i k) = some a → i ≤ k → k ≤ j → Ch F ps k j b → Ch F (p :: ps) i j (addT a b)
theorem Ch.le {ps : List Str} {i j : Nat} {b : Toll} (h : Ch F ps i j b) : i ≤ j := by
  cases h with
  | nil => exact Nat.le_refl i
  | cons _ h1 h2 _ => omega
theorem ru_chain (T : Tolled rs c t F) {m : Nat} {r : Rl} (hr : rs[m]? = some r) : ∀ (q d : Nat) (i k j : Nat) (a b : Toll), d + q = r.parts.length → i ≤ k → j ≤ t.length → lk F (.ru m d i k) = some a → Ch F (r.parts.drop d) k j b → ∃ u, lk F (.ru m r.parts.length i j) = some u ∧ ¬ LtT (addT a b) u
  | 0, d, i, k, j, a, b, hq, hik, hj, ha, hc => by
    have : r.parts.drop d = [] := List.drop_eq_nil_of_le (by omega)
    rw [this] at hc
    cases hc
    have : d = r.parts.length := by omega
    subst this
    exact ⟨a, ha, le_refl a⟩
  | q + 1, d, i, k, j, a, b, hq, hik, hj, ha, hc => by
    have hd : d < r.parts.length := by omega
    have hp : r.parts[d]? = some r.parts[d] := List.getElem?_eq_getElem hd
    rw [List.drop_eq_getElem_cons hd] at hc
    cases hc with
    | @cons _ _ _ k2 _ a1 b1 hp1 hk1 hk2 hc =>
      obtain ⟨u1, e1, l1⟩ := lsum_at (F := F) (m := m) (e := d) (p := r.parts[d]) (i := i) (j := k2) (k := k2 + 1 - i) (q := k - i) (by omega) (by rw [show i + (k - i) = k by omega]; exact ha) (by rw [show i + (k - i) = k by omega]; exact hp1)
      rw [← (T.ok i k2 (by omega) (by omega)).step m d r _ hr hp] at e1
      obtain ⟨u, e2, l2⟩ := ru_chain T hr q (d + 1) i k2 j u1 b1 (by omega) (by omega) hj e1 hc
      refine ⟨u, e2, le_trans l2 ?_⟩
      have := add_le l1 (le_refl b1)
      unfold LtT addT at *
      dsimp only at *
      omega
theorem no_cheap (T : Tolled rs c t F) (hG : GoodG rs) : ∀ (N : Nat) (ps : List Str) (ds : List Nat) (m : List Nat) (i j n : Nat), ds.length < N → rg rs (rowD ds) ps = some m → (∀ p ∈ ps, isSg p = true → ∃ r ∈ rs, p ∈ r.parts) → i ≤ j → j ≤ t.length → Al c (cut2 t i j) m n → ∃ k b, (ps ≠ [] → k = i) ∧ i ≤ k ∧ k ≤ j ∧ Ch F ps k j b ∧ ¬ LtT (n, ds.length) ((k - i) * c.cut + b.1, b.2) := by
  have hsg := fun r hr => hd_name hG (r := r) hr
  intro N
  induction N with
  | zero => intro ps ds m i j n hl; exact absurd hl (Nat.not_lt_zero _)
  | succ N IH =>
    intro ps
    induction ps with
    | nil =>
      intro ds m i j n hl h _ hij hj ha
      rw [rg_nil] at h
      split at h
      · rename_i hd
        cases h
        have hd : ds = [] := List.map_eq_nil_iff.mp hd
        subst hd
        have := ha.none rfl
        rw [cut2_len t hj] at this
        exact ⟨j, (0, 0), fun z => absurd rfl z, hij, Nat.le_refl _, .nil, by rw [this]; exact le_refl _⟩
      · cases h
    | cons p ps ih =>
      intro ds m i j n hl h hps hij hj ha
      obtain ⟨d1, d2, m1, m2, rfl, rfl, hr1, hr2⟩ := rg_split hsg ds.length ds [p] ps m (Nat.le_refl _) h
      rw [List.length_append] at hl ⊢
      obtain ⟨t1, t2, n1, n2, e1, rfl, h1, h2⟩ := ha.split m1 m2 rfl
      obtain ⟨q1, q2, q3⟩ := cut2_split hij hj e1
      rw [q2] at h2
      obtain ⟨k, b, _, k1, k2, hc, hb⟩ := ih d2 m2 (i + t1.length) j n2 (by omega) hr2 (fun x hx => hps x (List.mem_cons_of_mem _ hx)) q3 hj h2
      have h3 := h1.cuts (cut2 t (i + t1.length) k)
      rw [cut2_len t (show k ≤ t.length by omega)] at h3
      have h4 : t1 ++ cut2 t (i + t1.length) k = cut2 t i k := by
        rw [← cut2_app (t := t) (show i ≤ i + t1.length by omega) k1, ← q1]
      rw [h4] at h3
      have hik : i ≤ k := by omega
      -- the toll of the first part over what it takes
      have key : ∃ a, lk F (.pt p i k) = some a ∧ ¬ LtT (n1 + (k - (i + t1.length)) * c.cut, d1.length) a := by
        cases hs : isSg p with
        | true =>
          rw [rg_sign hs, rg_nil] at hr1
          split at hr1
          · rename_i hd
            have hr1 : some [codeOf p] = some m1 := hr1
            cases hr1
            obtain ⟨r, hr, hp⟩ := hps p (List.mem_cons_self ..) hs
            have e := (T.ok i k hik (by omega)).sign r hr p hp hs
            have e2 : (signToll c (sgOf p) (cut2 t i k)).1 ≤ _ := h3.sign rfl
            have e3 := sign_two c (sgOf p) (cut2 t i k)
            exact ⟨_, e, by unfold LtT; dsimp only; omega⟩
          · cases hr1
        | false =>
          cases d1 with
          | nil =>
            have hr1 : rg rs [] (p :: []) = some m1 := hr1
            rw [rg_name0 hs] at hr1
            cases hr1
          | cons d d1 =>
            have hr1 : rg rs (.int ((d : Nat) : Int) :: rowD d1) (p :: []) = some m1 := hr1
            rw [rg_name hs] at hr1
            cases e : stp rs (.int ((d : Nat) : Int)) (p :: []) with
            | none => rw [e] at hr1; cases hr1
            | some q =>
              rw [e, Option.bind_some] at hr1
              obtain ⟨k', r, qs, e1, e2, e3, rfl⟩ := stp_some e
              have e1 := PyData.int.inj e1
              have ek : d = k' := by omega
              subst ek
              obtain ⟨rfl, rfl⟩ := List.cons.inj e3
              rw [List.append_nil] at hr1
              rw [List.length_cons] at hl ⊢
              obtain ⟨x, b2, _, x1, x2, hc2, hb2⟩ := IH r.parts d1 m1 i k _ (by omega) hr1 (fun y hy _ => ⟨r, List.mem_of_getElem? e2, hy⟩) hik (by omega) h3
              have hz := (T.ok i x x1 (by omega)).zero d (List.getElem?_eq_some_iff.mp e2).1
              obtain ⟨u, hu, lu⟩ := ru_chain T e2 r.parts.length 0 i x k _ b2 (Nat.zero_add _) x1 (by omega) hz hc2
              obtain ⟨w, hw, lw⟩ := (T.ok i k hik (by omega)).hd1 d r e2 u hu
              refine ⟨w, hw, le_trans lw (le_trans lu ?_)⟩
              unfold LtT addT at *
              dsimp only at *
              omega
      obtain ⟨a, ha', la⟩ := key
      refine ⟨i, addT a b, fun _ => rfl, Nat.le_refl i, hij, .cons ha' hik k2 hc, ?_⟩
      rw [Nat.sub_self, Nat.zero_mul, Nat.zero_add]
      unfold LtT addT at *
      dsimp only at *
      omega
theorem no_cheaper (T : Tolled rs c t F) (hG : GoodG rs) {X : Str} (hX : isSg X = false) {v : Toll} (hv : lk F (.pt X 0 t.length) = some v) {row m : List Nat} {n : Nat} (hr : rg rs (rowD row) [X] = some m) (ha : Al c t m n) : ¬ LtT (n, row.length) v := by
  obtain ⟨k, b, hk, _, _, hc, hb⟩ := no_cheap T hG _ [X] row m 0 t.length n (Nat.lt_succ_self _) hr (fun p hp hs => by rw [List.mem_singleton.mp hp, hX] at hs; cases hs) (Nat.zero_le _) (Nat.le_refl _) (by unfold cut2; rw [List.drop_zero, Nat.sub_zero, List.take_length]; exact ha)
  have hk := hk (by simp)
  subst hk
  cases hc with
  | cons h1 _ _ h2 =>
    cases h2
    rw [hv] at h1
    cases h1
    unfold LtT addT at *
    dsimp only at *
    omega
end

/-! ### a change that costs what the toll tells -/
section
variable {rs : List Rl} {c : Cst} {t : List Nat} {F : Tls}
theorem chg_sign (c : Cst) (s : Nat) (t : List Nat) : ∃ dd, Chg c dd t [s] (signToll c s t).1 := by
  by_cases hs : s ∈ t
  · obtain ⟨i, hi⟩ := List.mem_iff_getElem?.mp hs
    have hl := (List.getElem?_eq_some_iff.mp hi).1
    have := ((Chg.cuts c (t.take i)).app (Chg.one (c := c) (d := .keep s) trivial)).app (Chg.cuts c (t.drop (i + 1)))
    have ht : t.take i ++ dTake (.keep s) ++ t.drop (i + 1) = t := by
      rw [List.append_assoc]
      exact cut_at hi
    rw [ht] at this
    have hc : (t.take i).length * c.cut + dCost c (.keep s) + (t.drop (i + 1)).length * c.cut = (signToll c s t).1 := by
      rw [← sd_keep hs, List.length_take, List.length_drop]
      show min i t.length * c.cut + 0 + (t.length - (i + 1)) * c.cut = _
      rw [Nat.add_zero, ← Nat.add_mul]
      congr 1
      omega
    rw [hc] at this
    exact ⟨_, this⟩
  · by_cases hp : t = [] ∨ c.cut + c.put < c.swap
    · have := (Chg.one (c := c) (d := .put s) trivial).app (Chg.cuts c t)
      rw [show dCost c (.put s) + t.length * c.cut = (signToll c s t).1 from sd_put hp hs] at this
      exact ⟨_, this⟩
    · cases t with
      | nil => exact absurd (.inl rfl) hp
      | cons x r =>
        have := (Chg.one (c := c) (d := .swap x s) (fun q => hs (by rw [← q]; exact List.mem_cons_self ..))).app (Chg.cuts c r)
        rw [show dCost c (.swap x s) + r.length * c.cut = (signToll c s (x :: r)).1 from sd_swap (fun z => hp (.inr z)) hs] at this
        exact ⟨_, this⟩
theorem wy_ex (T : Tolled rs c t F) {n : Nd} {v : Toll} (hv : lk F n = some v) (hn : Inner rs n) : ∃ zs, Wy rs F n v zs := by
  cases n with
  | pt X i j =>
    obtain ⟨_, hij, hj⟩ := T.alw _ _ hv
    obtain ⟨m, r, hr, rfl, hk⟩ := (T.ok i j hij hj).hd2 X v hn hv
    exact ⟨_, .head hr hk⟩
  | ru m d i j =>
    obtain ⟨_, hij, hj⟩ := T.alw _ _ hv
    obtain ⟨e, r, rfl, hr, he⟩ := hn
    have hp : r.parts[e]? = some r.parts[e] := List.getElem?_eq_getElem he
    have := (T.ok i j hij hj).step m e r _ hr hp
    obtain ⟨q, a, b, hq, ha, hb, rfl⟩ := lsum_hit (this.symm.trans hv)
    exact ⟨_, .step hr hp (by omega) (by omega) ha hb⟩
theorem mdd_go (T : Tolled rs c t F) (hG : GoodG rs) {v : Toll} {r0 : Rl} : ∀ (N : Nat) (ws : List Nd) (dd : List Deed) (row : List Nat) (p : Nat) (made : List Nat) (n : Nat), wts F ws < N → MInv rs c t F v r0 ws dd row p made n → ∃ dd row made, Mdd rs c t r0 v dd row made
  | 0, _, _, _, _, _, _, h, _ => absurd h (Nat.not_lt_zero _)
  | N + 1, ws, dd, row, p, made, n, h, I => by
    cases ws with
    | nil =>
      obtain ⟨h1, h2, h3⟩ := I.done
      have := I.few
      exact ⟨dd, row, made, h1, h2, h3, by omega⟩
    | cons w ws =>
      obtain ⟨u, hu⟩ := I.has w (List.mem_cons_self ..)
      have hw := wt_pos T hG hu
      rw [wts_cons] at h
      have inner : (∀ m i j, w ≠ .ru m 0 i j) → (∀ X i j, w = .pt X i j → isSg X = false) → ∃ dd row made, Mdd rs c t r0 v dd row made := fun a b => by
        obtain ⟨zs, hz⟩ := wy_ex T hu (inner_of T hu a b)
        have := wt_wy T hG hu hz
        exact mdd_go T hG N _ _ _ _ _ _ (by rw [wts_app]; omega) (I.way T hG hu hz)
      cases w with
      | ru m d i j =>
        cases d with
        | zero => exact mdd_go T hG N _ _ _ _ _ _ (by omega) (I.ru0 T hG)
        | succ d => exact inner (fun m i j z => by cases z) fun X i j z => by cases z
      | pt X i j =>
        cases hX : isSg X with
        | false => exact inner (fun m i j z => by cases z) fun Y i j z => by cases z; exact hX
        | true =>
          obtain ⟨d2, h2⟩ := chg_sign c (sgOf X) (cut2 t i j)
          have hl := cut_len2 h2
          obtain ⟨_, q2, q3⟩ := I.spn0 T
          have q3 : j ≤ t.length := q3
          rw [cut2_len t q3, List.length_singleton] at hl
          exact mdd_go T hG N _ _ _ _ _ _ (by omega) (I.sg T hG hX h2 (by omega))
theorem mdd_ex (T : Tolled rs c t F) (hG : GoodG rs) {r0 : Rl} (h0 : rs[0]? = some r0) {v : Toll} (hv : lk F (.pt r0.head 0 t.length) = some v) : ∃ dd row made, Mdd rs c t r0 v dd row made :=
  mdd_go T hG _ _ _ _ _ _ _ (Nat.lt_succ_self _) (MInv.start T hG h0 hv)
end

theorem dnone {K : Type} {prog : Program} {w : World} [DecidableEq K] {knd : HeapKind prog w K} {h : Heap} {d : Addr} {xs : List (K × Addr × Value)} (e : xs = []) (dd : h.DictOfH knd d xs) {L : Type} [DecidableEq L] {knd2 : HeapKind prog w L} : h.DictOfH knd2 d [] := by
  subst e
  obtain ⟨o, es, ep, h1, h2, h3, h4, h5, h6⟩ := dd
  exact ⟨o, es, ep, h1, h2, h3, h4, fun x hx => (by cases hx), .nil⟩
/-- (None, i, j) not in {} -/
theorem o_dniE {X : Cx} {H : Hp} {Q : VK} {d b : Addr} {i j : Int} (hu : X.A.units + 64 < cLine) (e : H d = some (.dT [])) (eb : H b = some (.tup [.non, .int i, .int j])) (q : Q (.bl true) H) : oW X (compareOp .NotIn) (.ref b) (.ref d) H Q := ⟨fun pins s σ u u' I ry rx => by
  obtain rfl : u' = Value.ref d := rx
  cases (show u = Value.ref b from ry)
  obtain ⟨z, hd, xs, rel, dd⟩ := dt_rd I.hok (.inl e)
  have hx : xs = [] := by cases rel; rfl
  obtain ⟨z2, its, rv, ho⟩ : ObjOk X.prog X.w H s.heap b (.tup [.non, .int i, .int j]) := I.hok b _ eb
  cases rv with
  | cons r1 rv =>
    cases rv with
    | cons r2 rv =>
      cases rv with
      | cons r3 rv =>
        cases rv
        cases r1
        obtain ⟨t2, rfl⟩ := r2
        obtain ⟨t3, rfl⟩ := r3
        obtain ⟨o, hg, e1, nn, e2⟩ := ho
        refine wpAny_notIn_heap (knd := nestedKind X.prog X.w) (k := .tup [.none, .num i, .num j]) (xs := []) (show X.A.in1.units + 8 < cLine by show X.A.units + 1 + 8 < cLine; omega) ⟨.tup hg e1 e2 (.cons .none (.cons (.int i t2) (.cons (.int j t3) .nil))), Nat.le_of_ble_eq_true rfl⟩ hd (dnone hx dd) ?_
        exact ⟨.bl true, H, I.tok _, rfl, q⟩⟩

/-- a grammar, a text and costs, or which of them is none -/
def Hand3 (K : PySem.W.Frag) (cs : Cs) (x y z : V) (H : Hp) (E : XK) (good : Addr → List V → List Rl → Str → Cst → Prop) : Prop :=
  (∃ d, Th K H x d ∧ isGramD d = false ∧ ∀ H', Same H H' → E (.ref cs.NoGrammar) none H') ∨
  ∃ a vs rs, GramAt K H x a vs rs ∧ ∃ dt, Th K H y dt ∧ ((isTextD dt = false ∧ ∀ H', Same H H' → E (.ref cs.NoText) none H') ∨
    ∃ tx dc, y = .str tx ∧ isTextD (.str tx) = true ∧ Th K H z dc ∧ ((isCostsD dc = false ∧ ∀ H', Same H H' → E (.ref cs.NoCosts) none H') ∨
      ∃ c, CsAt H z c ∧ ((c.put : Nat) : Int) ≤ top60 ∧ ((c.cut : Nat) : Int) ≤ top60 ∧ ((c.swap : Nat) : Int) ≤ top60 ∧ good a vs rs tx c))
def R_tolls (K : PySem.W.Frag) (cs : Cs) : V → V → V → Hp → VK → XK → Prop := fun x y z H Q E => Hand3 K cs x y z H E fun _ _ rs tx c => ∀ d G H', Same H H' → H d = none → Kn H' d G → Tolled rs c (tl tx) G → Q (.ref d) H'
section
set_option hygiene false in
local macro_rules | `(tactic| top_name) => `(tactic| first | refine e_call (df_checked T) (hr.mono (by decide)) ?_ | refine e_call (df_checked_text T) (hr.mono (by decide)) ?_ | refine e_call (df_checked_costs T) (hr.mono (by decide)) ?_ | refine e_call (df_lay_leaves T) (hr.mono (by decide)) ?_ | refine e_call (df_lay_span T) (hr.mono (by decide)) ?_)
theorem ok_tolls {f : Addr} {fd : FuncData} (F : Fun K "tolls" "tolls" s_tolls f fd) (T : Txt K mg cs) : FnOk P w K mg base (L2.CX P w) 6 f fd ["grammar", "text", "costs"] (sp3 (R_tolls K cs)) := by
  refine F.okX sc_tolls (fun vs H Q E h => sp3_len h) (fun cdv A outer s H vs Q E hr h => ⟨_, PBw (X := X_tolls P w K mg base f cdv A outer s H E), ?_⟩)
  obtain ⟨a0, a1, a2, rfl, h⟩ := h
  have ib_range := T.b_range
  have ib_len := T.b_len
  have hr' : Room 5 (X_tolls P w K mg base f cdv A outer s H E).A := hr
  replace hr := hr'
  clear hr'
  rcases h with ⟨d, hd, hg, h⟩ | ⟨a, vs, rs, hg, dt, hdt, h⟩
  · kxs_still
    exact .inr ⟨d, hd, hg, h⟩
  have hgat := hg.at_
  have hgok := hg.ok
  kxs_still
  refine .inl ⟨a, vs, rs, hg, fun l H1 s1 n1 k1 => ?_⟩
  kxs_still
  rcases h with ⟨ht0, h⟩ | ⟨tx, dc, rfl, htx, hdc, h⟩
  · exact ⟨dt, Same.th' s1 hdt, fun z => (by rw [ht0] at z; cases z), fun _ => h H1 s1⟩
  have ht : tx.length ≤ 60 := by
    have e : (decide (tx.length ≤ 60) && (tl tx).all okc) = true := htx
    simp only [Bool.and_eq_true, decide_eq_true_eq] at e
    exact e.1
  have hlt : (tl tx).length = tx.length := (len_tl tx).symm
  refine ⟨.str tx, .str tx (by omega), fun _ => ?_, fun z => (by rw [htx] at z; cases z)⟩
  kxs_still
  rcases h with ⟨hc0, h⟩ | ⟨c, ⟨e, rfl, he⟩, hp, hc, hs, h⟩
  · exact ⟨dc, Same.th' s1 hdc, fun z => (by rw [hc0] at z; cases z), fun _ => h H1 s1⟩
  have he1 := s1 _ _ he
  have good : isCostsD (.tuple [.int ((c.put : Nat) : Int), .int ((c.cut : Nat) : Int), .int ((c.swap : Nat) : Int)]) = true := by
    have w : ∀ n : Nat, ((n : Nat) : Int) ≤ top60 → isWorthD (.int ((n : Nat) : Int)) = true := fun n hn => by
      show (decide (0 ≤ ((n : Nat) : Int)) && decide (((n : Nat) : Int) ≤ top60)) = true
      rw [decide_eq_true (by omega), decide_eq_true hn]
      rfl
    show (isWorthD (.int ((c.put : Nat) : Int)) && (isWorthD (.int ((c.cut : Nat) : Int)) && isWorthD (.int ((c.swap : Nat) : Int)))) = true
    rw [w _ hp, w _ hc, w _ hs]
    rfl
  refine ⟨_, .tup (SqT.of he1) (.cons (.int _) (.cons (.int _) (.cons (.int _) .nil))), fun _ => ?_, fun z => (by rw [good] at z; cases z)⟩
  kt_eqs
  refine e_dctT fun d H2 s2 n2 k2 f2 => ?_
  have hR1 : RulesAt H1 vs rs := hgat.ts (Same.ts s1)
  have hvl := hR1.len
  have kn2 : Kn H2 d [] := ⟨[], k2, .nil⟩
  have i0 := SInv.start rs c (tl tx)
  kxs_still
  refine s_for (j_rng1 ?_)
  kxs_still
  refine ⟨by omega, by omega, _, _, _, walk_range0, fun m σ' H' => ∃ (F : Tls) (v5 v6 : Option V), σ' = [some a0, some (.str tx), some (.ref e), some (.ref l), some (.ref d), v5, v6] ∧ Same H1 H' ∧ Kn H' d F ∧ SInv rs c (tl tx) m 0 F, ⟨[], none, none, rfl, s2, kn2, i0⟩, fun _ _ _ _ _ => trivial, ?_, ?_⟩
  · rintro m x σ' H3 H4 hm ⟨F, v5, v6, rfl, s3, k3, i3⟩ ⟨rfl, rfl⟩
    kxs_still
    refine s_for (j_rng1 ?_)
    kxs_still
    refine ⟨by omega, by omega, _, _, _, walk_range0, fun q σ' H' => ∃ (F : Tls) (v6 : Option V), σ' = [some a0, some (.str tx), some (.ref e), some (.ref l), some (.ref d), some (.int ((m : Nat) : Int)), v6] ∧ Same H1 H' ∧ Kn H' d F ∧ SInv rs c (tl tx) m q F, ⟨F, _, rfl, s3, k3, i3⟩, fun _ _ _ _ _ => trivial, ?_, ?_⟩
    · rintro q x σ' H5 H6 hq ⟨F, v6, rfl, s5, k5, i5⟩ ⟨rfl, rfl⟩
      have hqm : q + m ≤ tx.length := by omega
      obtain ⟨kk, G, st, i6⟩ := i5.step hgok (by omega) (by omega)
      have hFl := i5.len hgok (by omega)
      have hGl := i6.len hgok (by omega)
      kxs_still
      refine ⟨H1, d, l, vs, rs, tx, c, q, q + m, F, rfl, rfl, rfl, ⟨e, rfl, he1⟩, rfl, by rw [Int.natCast_add], by omega, hqm, ht, n2, s5, k1, hR1, hgok, k5, by omega, hp, hc, fun H7 s7 k7 => ?_⟩
      kxs_still
      refine ⟨H1, d, l, vs, rs, q, q + m, kk, _, G, rfl, rfl, rfl, by rw [Int.natCast_add], by omega, by omega, n2, s7, k1, hR1, hgok, k7, st, fun F' ⟨k', q'⟩ => Nat.le_trans q'.len (by omega), fun H8 s8 k8 => ?_⟩
      kxs_still
      exact ⟨G, _, rfl, s8, k8, i6⟩
    · rintro σ' H5 ⟨F, v6, rfl, s5, k5, i5⟩
      kxs_still
      refine ⟨F, _, _, rfl, s5, k5, i5.next ?_⟩
      omega
  · rintro σ' H3 ⟨F, v5, v6, rfl, s3, k3, i3⟩
    kxs_still
    refine h d F H3 (s1.trans s3) ?_ k3 (SInv.end ?_)
    · cases q : H d with
      | none => rfl
      | some o => rw [s1 _ _ q] at n2; cases n2
    · rw [hlt]
      rw [show (((tx.length : Nat) : Int) + 1).toNat = tx.length + 1 by omega] at i3
      exact i3
end
theorem df_tolls (T : Txt K mg cs) : Df P w K mg base "tolls" 6 ["grammar", "text", "costs"] (sp3 (R_tolls K cs)) := by
  obtain ⟨f, fd, hm, F, hb⟩ := T.f_tolls.ex
  exact ⟨f, fd, hm, F.kp, hb, ok_tolls F T⟩
theorem tolled_nil {c : Cst} {t : List Nat} {F : Tls} (T : Tolled [] c t F) : F = [] := by
  cases F with
  | nil => rfl
  | cons q F =>
    have := T.alw q.1 q.2 (by show (if q.1 = q.1 then some q.2 else _) = _; rw [if_pos rfl])
    cases e : q.1 with
    | ru m d i j =>
      rw [e] at this
      obtain ⟨⟨r, hr, _⟩, _⟩ := this
      cases hr
    | pt X i j =>
      rw [e] at this
      rcases this.1 with ⟨r, hr, _⟩ | ⟨_, r, hr, _⟩ <;> cases hr
theorem Kn.nil {H : Hp} {d : Addr} (h : Kn H d []) : H d = some (.dT []) := by
  obtain ⟨kvs, e, q⟩ := h
  have := Kn.len q
  rw [List.eq_nil_of_length_eq_zero this] at e
  exact e
/-- how mended ends with right things -/
def MdEnd (cs : Cs) (H : Hp) (Q : VK) (E : XK) (rs : List Rl) (tx : Str) (c : Cst) : Prop :=
  ((rs = [] ∨ ∃ r0 : Rl, rs[0]? = some r0 ∧ ∀ F, Tolled rs c (tl tx) F → lk F (.pt r0.head 0 (tl tx).length) = none) ∧ ∀ H', Same H H' → E (.ref cs.Barren) none H') ∨
  ((∃ r0 : Rl, rs[0]? = some r0 ∧ ∀ F, Tolled rs c (tl tx) F → ∃ v, lk F (.pt r0.head 0 (tl tx).length) = some v ∧ 1000 < v.2) ∧ ∀ H', Same H H' → E (.ref cs.TooGreat) none H') ∨
  ∃ r0 : Rl, rs[0]? = some r0 ∧ (∀ F, Tolled rs c (tl tx) F → ∃ v, lk F (.pt r0.head 0 (tl tx).length) = some v ∧ v.2 ≤ 1000) ∧
    ∀ F v tp ld lr vd dd row made H', Tolled rs c (tl tx) F → lk F (.pt r0.head 0 (tl tx).length) = some v → Same H H' → H tp = none → H ld = none → H lr = none → ld ≠ lr → H' tp = some (.tup [.int ((v.1 : Nat) : Int), .ref ld, .ref lr]) → H' ld = some (.lst vd) → All2 (DdAt H') vd dd → H' lr = some (.lst (row.map fun k => V.int ((k : Nat) : Int))) → Mdd rs c (tl tx) r0 v dd row made → Q (.ref tp) H'
def R_mended (K : PySem.W.Frag) (cs : Cs) : V → V → V → Hp → VK → XK → Prop := fun x y z H Q E => Hand3 K cs x y z H E fun _ _ rs tx c => MdEnd cs H Q E rs tx c
section
set_option hygiene false in
local macro_rules | `(tactic| top_name) => `(tactic| first | refine e_call (df_checked T) (hr.mono (by decide)) ?_ | refine e_call (df_tolls T) (hr.mono (by decide)) ?_ | refine e_call (df_start_of T) (hr.mono (by decide)) ?_ | refine e_call (df_cuts_of T) (hr.mono (by decide)) ?_ | refine e_call (df_sign_deeds T) (hr.mono (by decide)) ?_ | refine e_call (df_least_way T) (hr.mono (by decide)) ?_)
set_option hygiene false in
local macro_rules | `(tactic| top_raise) => `(tactic| first | refine s_raise T.x_Barren ?_ | refine s_raise T.x_TooGreat ?_)
theorem ok_mended {f : Addr} {fd : FuncData} (F : Fun K "mended" "mended" s_mended f fd) (T : Txt K mg cs) : FnOk P w K mg base (L2.CX P w) 7 f fd ["grammar", "text", "costs"] (sp3 (R_mended K cs)) := by
  refine F.okX sc_mended (fun vs H Q E h => sp3_len h) (fun cdv A outer s H vs Q E hr h => ⟨_, PBw (X := X_mended P w K mg base f cdv A outer s H E), ?_⟩)
  obtain ⟨a0, a1, a2, rfl, h⟩ := h
  obtain ⟨t_LONGEST, h_LONGEST⟩ := T.k_LONGEST
  have ib_LONGEST : Gn mg "LONGEST" (some _) := ⟨h_LONGEST⟩
  have ib_len := T.b_len
  have ib_Barren : Gn mg "Barren" (some _) := ⟨T.x_Barren.mg⟩
  have ib_TooGreat : Gn mg "TooGreat" (some _) := ⟨T.x_TooGreat.mg⟩
  have ib_list := T.b_list
  have ib_reversed := T.b_reversed
  have hr' : Room 6 (X_mended P w K mg base f cdv A outer s H E).A := hr
  replace hr := hr'
  clear hr'
  rcases h with ⟨d, hd, hg, h⟩ | ⟨a, vs, rs, hg, dt, hdt, h⟩
  · kxs_still
    exact .inr ⟨d, hd, hg, h⟩
  have hgat := hg.at_
  have hgok := hg.ok
  kxs_still
  refine .inl ⟨a, vs, rs, hg, fun l H1 s1 n1 k1 => ?_⟩
  have hR1 : RulesAt H1 vs rs := hgat.ts (Same.ts s1)
  have hvl := hR1.len
  have hg1 : GramAt K H1 (.ref l) l vs rs := ⟨rfl, SqL.of k1, hR1, hgok⟩
  kxs_still
  refine .inr ⟨l, vs, rs, hg1, dt, Same.th' s1 hdt, ?_⟩
  rcases h with ⟨ht0, h⟩ | ⟨tx, dc, rfl, htx, hdc, h⟩
  · exact .inl ⟨ht0, fun H' s => h H' (s1.trans s)⟩
  have ht : tx.length ≤ 60 := by
    have e : (decide (tx.length ≤ 60) && (tl tx).all okc) = true := htx
    simp only [Bool.and_eq_true, decide_eq_true_eq] at e
    exact e.1
  have hlt : (tl tx).length = tx.length := (len_tl tx).symm
  refine .inr ⟨tx, dc, rfl, htx, Same.th' s1 hdc, ?_⟩
  rcases h with ⟨hc0, h⟩ | ⟨c, ⟨e, rfl, he⟩, hp, hc, hs, h⟩
  · exact .inl ⟨hc0, fun H' s => h H' (s1.trans s)⟩
  have he1 := s1 _ _ he
  refine .inr ⟨c, ⟨e, rfl, he1⟩, hp, hc, hs, fun d FF H2 s2 n2 kn2 hT => ?_⟩
  kxs_still
  refine .inl ⟨l, vs, rs, ⟨rfl, SqL.of (s2 _ _ k1), hR1.ts (Same.ts s2), hgok⟩, fun H3 s3 => ?_⟩
  rcases h with ⟨hb, h⟩ | ⟨⟨r0, h0, hgt⟩, h⟩ | ⟨r0, h0, htop, h⟩
  · rcases hb with rfl | ⟨r0, h0, hno⟩
    · kxs_still
      intro t4 H4 s4 n4 k4 f4
      have hF := tolled_nil hT
      subst hF
      have s34 := s3.trans s4
      have kd4 := (kn2.keep s34).nil
      kxs_still
      refine o_dniE hr.units kd4 k4 ?_
      kxs_still
      exact h _ (s1.trans (s2.trans s34))
    · rw [startV_of h0]
      kxs_still
      intro t4 H4 s4 n4 k4 f4
      have s34 := s3.trans s4
      have k4' : H4 t4 = some (.tup ((ndK (.pt r0.head 0 (tl tx).length)).map kV)) := by rw [hlt]; exact k4
      have gv := ((kn2.keep s34).get (n := .pt r0.head 0 (tl tx).length) (b := t4) k4').1 (hno FF hT)
      kxs_still
      refine o_dni (rm1 hr) gv ?_
      kxs_still
      exact h _ (s1.trans (s2.trans s34))
  · rw [startV_of h0]
    kxs_still
    intro t4 H4 s4 n4 k4 f4
    have s34 := s3.trans s4
    have k4' : H4 t4 = some (.tup ((ndK (.pt r0.head 0 (tl tx).length)).map kV)) := by rw [hlt]; exact k4
    obtain ⟨v, hv, hv2⟩ := hgt FF hT
    obtain ⟨av, gv, kv⟩ := ((kn2.keep s34).get (n := .pt r0.head 0 (tl tx).length) (b := t4) k4').2 v hv
    unfold tlV at kv
    have hv3 : ((1000 : Nat) : Int) < ((v.2 : Nat) : Int) := by omega
    kxs_still
    refine o_dni (rm1 hr) gv ?_
    kxs_still
    refine i_dget (rm1 hr) gv ?_
    kxs_still
    exact h _ (s1.trans (s2.trans s34))
  rw [startV_of h0]
  kxs_still
  intro t4 H4 s4 n4 k4 f4
  obtain ⟨v, hv, hv2⟩ := htop FF hT
  have kn4 := kn2.keep (s3.trans s4)
  have s14 := s2.trans (s3.trans s4)
  have s04 := s1.trans s14
  have hR4 := hR1.ts (Same.ts s14)
  have he4 := s14 _ _ he1
  have kl4 := s14 _ _ k1
  have k4' : H4 t4 = some (.tup ((ndK (.pt r0.head 0 (tl tx).length)).map kV)) := by rw [hlt]; exact k4
  obtain ⟨av, gv, kv⟩ := (kn4.get (n := .pt r0.head 0 (tl tx).length) (b := t4) k4').2 v hv
  unfold tlV at kv
  kxs_still
  refine o_dni (rm1 hr) gv ?_
  kxs_still
  refine i_dget (rm1 hr) gv ?_
  kxs_still
  intro ld H5 s5 n5 k5 f5
  kxs_still
  intro lr H6 s6 n6 k6 f6
  kxs_still
  intro lw H7 s7 n7 k7 f7
  have s47 : Same H4 H7 := s5.trans (s6.trans s7)
  have nlr : H4 lr = none := s5.none n6
  have nlw : H4 lw = none := (s5.trans s6).none n7
  have ndr : ld ≠ lr := fun z => by rw [← z, k5] at n6; cases n6
  have ndw : ld ≠ lw := fun z => by rw [← z, s6 _ _ k5] at n7; cases n7
  have nrw : lr ≠ lw := fun z => by rw [← z, k6] at n7; cases n7
  have I0 := MInv.start hT hgok h0 hv
  kxs_still
  refine s_while (fun m σ' H' => ∃ (ws : List Nd) (uv : List V) (dd : List Deed) (vd : List V) (row : List Nat) (p : Nat) (made : List Nat) (n : Nat) (v9 : Option V), σ' = [some a0, some (.str tx), some (.ref e), some (.ref l), some (.ref d), some (.ref t4), some (.ref ld), some (.ref lr), some (.ref lw), v9] ∧ Same H4 H' ∧ H' lw = some (.lst uv) ∧ All2 (NdAt H') uv ws.reverse ∧ H' ld = some (.lst vd) ∧ All2 (DdAt H') vd dd ∧ H' lr = some (.lst (row.map fun k => V.int ((k : Nat) : Int))) ∧ MInv rs c (tl tx) FF v r0 ws dd row p made n ∧ m = wts FF ws) _ ⟨_, [.ref t4], [], [], [], 0, [], 0, none, rfl, s47, k7, .cons ⟨t4, rfl, s47 _ _ k4'⟩ .nil, (s6.trans s7) _ _ k5, .nil, s7 _ _ k6, I0, rfl⟩ ?_
  rintro m σ' H' ⟨ws, uv, dd, vd, row, p, made, n, v9, rfl, s4', kw, aw, kd, ad, kr, I, rfl⟩
  kxs_still
  intro l8 H8 s8 n8 k8 f8
  have kw8 := s8 _ _ kw
  refine o_neNil hr.units kw8 k8 ?_
  kxs_still
  have hfew := I.few
  have hsz := I.size
  have hwl := wts_len hT hgok I.has
  have hdl := ad.len
  refine iteND (fun cn => ?_) fun cn => ?_
  · have hne : ws ≠ [] := fun z => by rw [z] at aw; cases aw; exact cn rfl
    obtain ⟨w, ws', rfl⟩ := List.exists_cons_of_ne_nil hne
    rw [List.reverse_cons] at aw
    obtain ⟨uv', x, rfl, aw', ⟨b, rfl, hb⟩⟩ := all2_lastD aw
    have huv := aw'.len
    rw [List.length_reverse] at huv
    rw [List.length_cons] at hwl
    kxs_still
    refine e_pop ?_
    kxs_still
    refine ⟨ty_l kw8, ?_⟩
    refine m_pop kw8 fun H9 k9 f9 => ?_
    have hblw : b ≠ lw := fun z => by rw [z, kw] at hb; cases hb
    have hb9 : H9 b = _ := (f9 b hblw).trans (s8 _ _ hb)
    have s49 : Same H4 H9 := Kn.same nlw (s4'.trans s8) f9
    have ts9 : TS H' H9 := (Same.ts s8).trans (TS.butL kw8 f9)
    have kd9 : H9 ld = some (.lst vd) := (f9 ld ndw).trans (s8 _ _ kd)
    have kr9 := (f9 lr nrw).trans (s8 _ _ kr)
    have ad9 := ad.mono fun _ _ q => q.ts ts9
    have aw9 : All2 (NdAt H9) uv' ws'.reverse := aw'.mono fun _ _ q => q.ts ts9
    have he9 := s49 _ _ he4
    obtain ⟨u, hu⟩ := I.has w (List.mem_cons_self ..)
    obtain ⟨h1, h2, h3⟩ := I.spn0 hT
    have hcut : ∀ i j : Nat, i ≤ j → tl (cutS tx (some ((i : Nat) : Int)) (some ((j : Nat) : Int))) = cut2 (tl tx) i j := fun i j hij => by
      rw [cutS_mid tx (by omega) (by omega), Int.toNat_natCast, Int.toNat_natCast]
      rfl
    have hwt := wts_cons (F := FF) w ws'
    have hwp := wt_pos hT hgok hu
    have way : ∀ (_ : Inner rs w), True := fun _ => trivial
    cases w with
    | ru mm dq i j =>
      cases dq with
      | zero =>
        have hb' : H9 b = some (.tup [.int ((mm : Nat) : Int), .int ((0 : Nat) : Int), .int ((i : Nat) : Int), .int ((j : Nat) : Int)]) := hb9
        have I' := I.ru0 hT hgok
        have h1 : i = p := h1
        have h2 : p ≤ j := h2
        have h3 : j ≤ (tl tx).length := h3
        have hcl := cut2_len (tl tx) (p := i) h3
        have hfew' := I'.few
        have hsz' := I'.size
        rw [List.length_append] at hfew' hsz'
        rw [List.length_map, hcl] at hfew'
        rw [List.length_singleton] at hsz'
        kxs_still
        refine iteDT rfl ?_
        kxs_still
        refine ⟨ty_l kr9, ?_⟩
        kxs_still
        refine m_append kr9 (by rw [List.length_map]; omega) fun H10 k10 f10 => ?_
        have hb10 := (f10 b (fun z => by rw [z, kr9] at hb'; cases hb')).trans hb'
        have kd10 := (f10 ld ndr).trans kd9
        have kw10 := (f10 lw nrw.symm).trans k9
        have ts910 : TS H9 H10 := TS.butL kr9 f10
        have s410 : Same H4 H10 := Kn.same nlr s49 f10
        kxs_still
        refine e_extend ?_
        kxs_still
        refine ⟨ty_l kd10, ?_⟩
        kxs_still
        refine n_str (Nat.le_trans ht (by decide)) ?_
        kxs_still
        refine ⟨by rw [len_tl, hcut _ _ (by omega), hcl]; omega, fun l11 H11 vs11 s11 n11 k11 a11 => ?_⟩
        rw [hcut _ _ (by omega)] at a11
        have h11l := a11.len
        rw [List.length_map, hcl] at h11l
        kxs_still
        refine m_extend (s11 _ _ kd10) k11 (by omega) fun H12 k12 f12 => ?_
        have ts12 : TS H9 H12 := ts910.trans ((Same.ts s11).trans (TS.butL (s11 _ _ kd10) f12))
        kxs_still
        refine ⟨_, ?_, ws', uv', dd ++ (cut2 (tl tx) i j).map .cut, vd ++ vs11, row ++ [mm], j, made, n + (j - i) * c.cut, _, rfl, Kn.same n5 (s410.trans s11) f12, (f12 lw ndw.symm).trans (s11 _ _ kw10), aw9.mono fun _ _ q => q.ts ts12, k12, (ad9.mono fun _ _ q => q.ts ts12).app (a11.mono fun _ _ q => q.ts (TS.butL (s11 _ _ kd10) f12)), ?_, I', rfl⟩
        · rw [hwt]
          omega
        · rw [f12 lr ndr.symm, s11 _ _ k10, List.map_append]
          rfl
      | succ dq =>
        have hb' : H9 b = some (.tup [.int ((mm : Nat) : Int), .int ((dq + 1 : Nat) : Int), .int ((i : Nat) : Int), .int ((j : Nat) : Int)]) := hb9
        have hinn := inner_of hT hu (fun m i j z => by cases z) fun X i j z => by cases z
        have hspn1 : i ≤ j := by have h1 : i = p := h1; have h2 : p ≤ j := h2; omega
        have hspn3 : j ≤ (tl tx).length := h3
        have hspn2 : j ≤ 60 := by omega
        kxs_still
        refine iteDT rfl ?_
        kxs_still
        refine iteDF (show ¬ ((4 : Nat) : Int) = 3 by decide) ?_
        kxs_still
        refine e_extend ?_
        kxs_still
        refine ⟨ty_l k9, ?_⟩
        refine a_cons (e_listRev ?_)
        kxs_still
        refine ⟨d, FF, l, vs, rs, c, tl tx, _, u, rfl, kn4.keep s49, rfl, SqL.of (s49 _ _ kl4), hR4.ts (Same.ts s49), hgok, ⟨b, rfl, hb9⟩, hu, hspn1, hspn2, hT.ok _ _ hspn1 hspn3, hinn, fun lz zs us H10 s10 n10 k10 a10 hy => ?_⟩
        refine ⟨lz, us, rfl, SqL.of k10, fun l11 H11 s11 n11 k11 f11 => ?_⟩
        have s911 := s10.trans s11
        have I' := I.way hT hgok hu hy
        have hlt2 := wt_wy hT hgok hu hy
        have hwa := wts_app (F := FF) zs ws'
        have hzl := wts_len hT hgok I'.has
        rw [List.length_append] at hzl
        have hus := a10.len
        kxs_still
        refine m_extend (s911 _ _ k9) k11 (by rw [List.length_reverse]; omega) fun H12 k12 f12 => ?_
        have ts12 : TS H9 H12 := (Same.ts s911).trans (TS.butL (s911 _ _ k9) f12)
        have ts1112 : TS H10 H12 := (Same.ts s11).trans (TS.butL (s911 _ _ k9) f12)
        kxs_still
        refine ⟨_, ?_, zs ++ ws', uv' ++ us.reverse, dd, vd, row, p, made, n, _, rfl, Kn.same nlw (s49.trans s911) f12, k12, ?_, (f12 ld ndw).trans (s911 _ _ kd9), ad9.mono fun _ _ q => q.ts ts12, (f12 lr nrw).trans (s911 _ _ kr9), I', rfl⟩
        · rw [hwa, hwt]
          omega
        · rw [List.reverse_append]
          exact (aw9.mono fun _ _ q => q.ts ts12).app ((a10.mono fun _ _ q => q.ts ts1112).rev)
    | pt X i j =>
      have hb' : H9 b = some (.tup [.str X, .int ((i : Nat) : Int), .int ((j : Nat) : Int)]) := hb9
      have h1 : i = p := h1
      have h2 : p ≤ j := h2
      have h3 : j ≤ (tl tx).length := h3
      have hXp : isPartS X = true := by
        obtain ⟨hX, _⟩ := hT.alw _ _ hu
        rcases hX with ⟨r, hr', rfl⟩ | ⟨_, r, hr', hp'⟩
        · rw [isPartS, (hgok.good r hr').head, Bool.or_true]
        · exact (hgok.good r hr').parts X hp'
      have hXl := part_len hXp
      kxs_still
      refine iteDF (show ¬ ((3 : Nat) : Int) = 4 by decide) ?_
      kxs_still
      refine iteDT rfl ?_
      kxs_still
      refine ⟨⟨part_ne hXp, by omega⟩, ?_⟩
      cases hX : isSg X with
      | true =>
        obtain ⟨hz, _⟩ := sg_val hT hgok hX hu
        have hcl := cut2_len (tl tx) (p := i) h3
        have htl := sg_tl hXp hX
        kxs_still
        refine e_extend ?_
        kxs_still
        refine ⟨ty_l kd9, ?_⟩
        kxs_still
        refine i_str (sz1m (by omega)) (c := sgOf X) (by rw [show X.cps.toList = [39, sgOf X] from htl]; rfl) ?_
        kxs_still
        refine n_str (Nat.le_trans ht (by decide)) ?_
        kxs_still
        refine ⟨sgOf X, _, c, rfl, rfl, by rw [len_tl, hcut _ _ (by omega), hcl]; omega, ⟨e, rfl, he9⟩, fun l11 H11 vs11 d2 s11 n11 k11 a11 hch => ?_⟩
        rw [hcut _ _ (by omega)] at hch
        have h11l := a11.len
        have hd2 := cut_len2 hch
        rw [hcl, List.length_singleton] at hd2
        have I' := I.sg hT hgok hX hch (by omega)
        have hfew' := I'.few
        rw [List.length_append] at hfew'
        kxs_still
        refine m_extend (s11 _ _ kd9) k11 (by omega) fun H12 k12 f12 => ?_
        have ts12 : TS H9 H12 := (Same.ts s11).trans (TS.butL (s11 _ _ kd9) f12)
        kxs_still
        refine ⟨_, ?_, ws', uv', dd ++ d2, vd ++ vs11, row, j, made ++ [sgOf X], _, _, rfl, Kn.same n5 (s49.trans s11) f12, (f12 lw ndw.symm).trans (s11 _ _ k9), aw9.mono fun _ _ q => q.ts ts12, k12, (ad9.mono fun _ _ q => q.ts ts12).app (a11.mono fun _ _ q => q.ts (TS.butL (s11 _ _ kd9) f12)), (f12 lr ndr.symm).trans (s11 _ _ kr9), I', rfl⟩
        rw [hwt]
        omega
      | false =>
        have hinn := inner_of hT hu (fun m i j z => by cases z) fun Y i j z => by cases z; exact hX
        have hspn1 : i ≤ j := by omega
        have hspn3 : j ≤ (tl tx).length := h3
        have hspn2 : j ≤ 60 := by omega
        kxs_still
        refine e_extend ?_
        kxs_still
        refine ⟨ty_l k9, ?_⟩
        refine a_cons (e_listRev ?_)
        kxs_still
        refine ⟨d, FF, l, vs, rs, c, tl tx, _, u, rfl, kn4.keep s49, rfl, SqL.of (s49 _ _ kl4), hR4.ts (Same.ts s49), hgok, ⟨b, rfl, hb9⟩, hu, hspn1, hspn2, hT.ok _ _ hspn1 hspn3, hinn, fun lz zs us H10 s10 n10 k10 a10 hy => ?_⟩
        refine ⟨lz, us, rfl, SqL.of k10, fun l11 H11 s11 n11 k11 f11 => ?_⟩
        have s911 := s10.trans s11
        have I' := I.way hT hgok hu hy
        have hlt2 := wt_wy hT hgok hu hy
        have hwa := wts_app (F := FF) zs ws'
        have hzl := wts_len hT hgok I'.has
        rw [List.length_append] at hzl
        have hus := a10.len
        kxs_still
        refine m_extend (s911 _ _ k9) k11 (by rw [List.length_reverse]; omega) fun H12 k12 f12 => ?_
        have ts12 : TS H9 H12 := (Same.ts s911).trans (TS.butL (s911 _ _ k9) f12)
        have ts1112 : TS H10 H12 := (Same.ts s11).trans (TS.butL (s911 _ _ k9) f12)
        kxs_still
        refine ⟨_, ?_, zs ++ ws', uv' ++ us.reverse, dd, vd, row, p, made, n, _, rfl, Kn.same nlw (s49.trans s911) f12, k12, ?_, (f12 ld ndw).trans (s911 _ _ kd9), ad9.mono fun _ _ q => q.ts ts12, (f12 lr nrw).trans (s911 _ _ kr9), I', rfl⟩
        · rw [hwa, hwt]
          omega
        · rw [List.reverse_append]
          exact (aw9.mono fun _ _ q => q.ts ts12).app ((a10.mono fun _ _ q => q.ts ts1112).rev)
  · have huv : uv = [] := cn
    have hws : ws = [] := by
      rw [huv] at aw
      have := aw.len
      rw [List.length_reverse] at this
      exact List.eq_nil_of_length_eq_zero this.symm
    subst hws
    obtain ⟨d1, d2, d3⟩ := I.done
    have s48 := s4'.trans s8
    obtain ⟨av2, gv2, kv2⟩ := ((kn4.keep s48).get (n := .pt r0.head 0 (tl tx).length) (b := t4) (s48 _ _ k4')).2 v hv
    unfold tlV at kv2
    kxs_still
    refine i_dget (rm1 hr) gv2 ?_
    kxs_still
    intro tp H9 s9 n9 k9 f9
    have s48' := s04.trans s4'
    refine h FF v tp ld lr vd dd row made H9 hT hv (s48'.trans (s8.trans s9)) ((s48'.trans s8).none n9) (s04.none n5) (s04.none nlr) ndr k9 ((s8.trans s9) _ _ kd) (ad.mono fun _ _ q => q.ts (Same.ts (s8.trans s9))) ((s8.trans s9) _ _ kr) ⟨d1, d2, d3, ?_⟩
    omega

end
theorem df_mended (T : Txt K mg cs) : Df P w K mg base "mended" 7 ["grammar", "text", "costs"] (sp3 (R_mended K cs)) := by
  obtain ⟨f, fd, hm, F, hb⟩ := T.f_mended.ex
  exact ⟨f, fd, hm, F.kp, hb, ok_mended F T⟩
theorem Hand3.mono {K : PySem.W.Frag} {cs : Cs} {x y z : V} {H : Hp} {E E' : XK} {g g' : Addr → List V → List Rl → Str → Cst → Prop} (h : Hand3 K cs x y z H E g) (hE : ∀ cls H', Same H H' → E cls none H' → E' cls none H') (hg : ∀ a vs rs tx c, GramAt K H x a vs rs → y = .str tx → CsAt H z c → g a vs rs tx c → g' a vs rs tx c) : Hand3 K cs x y z H E' g' := by
  rcases h with ⟨d, h1, h2, h3⟩ | ⟨a, vs, rs, h1, dt, h2, h⟩
  · exact .inl ⟨d, h1, h2, fun H' s => hE _ _ s (h3 H' s)⟩
  · refine .inr ⟨a, vs, rs, h1, dt, h2, ?_⟩
    rcases h with ⟨h3, h4⟩ | ⟨tx, dc, h3, h4, h5, h⟩
    · exact .inl ⟨h3, fun H' s => hE _ _ s (h4 H' s)⟩
    · refine .inr ⟨tx, dc, h3, h4, h5, ?_⟩
      rcases h with ⟨h6, h7⟩ | ⟨c, h6, h7, h8, h9, h10⟩
      · exact .inl ⟨h6, fun H' s => hE _ _ s (h7 H' s)⟩
      · exact .inr ⟨c, h6, h7, h8, h9, hg _ _ _ _ _ h1 h3 h6 h10⟩
theorem MdEnd.mono {cs : Cs} {H : Hp} {Q Q' : VK} {E E' : XK} {rs : List Rl} {tx : Str} {c : Cst} (h : MdEnd cs H Q E rs tx c) (hE : ∀ cls H', Same H H' → E cls none H' → E' cls none H') (hQ : ∀ v H', Q v H' → Q' v H') : MdEnd cs H Q' E' rs tx c := by
  rcases h with ⟨h1, h2⟩ | ⟨h1, h2⟩ | ⟨r0, h1, h2, h3⟩
  · exact .inl ⟨h1, fun H' s => hE _ _ s (h2 H' s)⟩
  · exact .inr (.inl ⟨h1, fun H' s => hE _ _ s (h2 H' s)⟩)
  · exact .inr (.inr ⟨r0, h1, h2, fun F v tp ld lr vd dd row made H' a1 a2 a3 a4 a5 a6 a7 a8 a9 a10 a11 a12 => hQ _ _ (h3 F v tp ld lr vd dd row made H' a1 a2 a3 a4 a5 a6 a7 a8 a9 a10 a11 a12)⟩)
inductive ErrW (cs : Cs) : Value → Str → Prop
  | grammar : ErrW cs (.ref cs.NoGrammar) (Str.ofString "grammar")
  | text : ErrW cs (.ref cs.NoText) (Str.ofString "text")
  | costs : ErrW cs (.ref cs.NoCosts) (Str.ofString "costs")
  | barren : ErrW cs (.ref cs.Barren) (Str.ofString "barren")
  | great : ErrW cs (.ref cs.TooGreat) (Str.ofString "great")
inductive ErrT (cs : Cs) : Value → Str → Prop
  | grammar : ErrT cs (.ref cs.NoGrammar) (Str.ofString "grammar")
  | text : ErrT cs (.ref cs.NoText) (Str.ofString "text")
  | costs : ErrT cs (.ref cs.NoCosts) (Str.ofString "costs")
/-- what the law's own word for a refusal leads to -/
def EW (cs : Cs) (Q : Str → Hp → Prop) : XK := fun cls d H' => d = none ∧ ∃ w, ErrW cs cls w ∧ Q w H'
def ET (cs : Cs) (Q : Str → Hp → Prop) : XK := fun cls d H' => d = none ∧ ∃ w, ErrT cs cls w ∧ Q w H'
def R_law_tolls (K : PySem.W.Frag) (cs : Cs) : V → V → V → Hp → VK → XK → Prop := fun x y z H Q _ => Hand3 K cs x y z H (ET cs fun w H' => ∀ H'', Same H' H'' → Q (.str w) H'') fun _ _ _ _ _ => ∀ H'', Same H H'' → Q (.str (Str.ofString "")) H''
section
set_option hygiene false in
local macro_rules | `(tactic| top_name) => `(tactic| first | refine e_call (df_tolls T) (hr.mono (by decide)) ?_)
theorem ok_law_tolls {f : Addr} {fd : FuncData} (F : Fun K "_law_tolls" "_law_tolls" s_law_tolls f fd) (T : Txt K mg cs) : FnOk P w K mg base (L2.CX P w) 7 f fd ["_law_grammar", "_law_signs", "_law_costs"] (sp3 (R_law_tolls K cs)) := by
  refine F.okX sc_law_tolls (fun vs H Q E h => sp3_len h) (fun cdv A outer s H vs Q E hr h => ⟨_, PBw (X := X_law_tolls P w K mg base f cdv A outer s H E), ?_⟩)
  obtain ⟨a0, a1, a2, rfl, h⟩ := h
  have ib_NoCosts : Gn mg "NoCosts" (some _) := ⟨T.x_NoCosts.mg⟩
  have ib_NoText : Gn mg "NoText" (some _) := ⟨T.x_NoText.mg⟩
  have ib_NoGrammar : Gn mg "NoGrammar" (some _) := ⟨T.x_NoGrammar.mg⟩
  have ib_Barren : Gn mg "Barren" (some _) := ⟨T.x_Barren.mg⟩
  have ib_Endless : Gn mg "Endless" (some _) := ⟨T.x_Endless.mg⟩
  have ib_NoChange : Gn mg "NoChange" (some _) := ⟨T.x_NoChange.mg⟩
  have ib_NoNumber : Gn mg "NoNumber" (some _) := ⟨T.x_NoNumber.mg⟩
  have ib_NoRow : Gn mg "NoRow" (some _) := ⟨T.x_NoRow.mg⟩
  have ib_NoRule : Gn mg "NoRule" (some _) := ⟨T.x_NoRule.mg⟩
  have ib_NoWords : Gn mg "NoWords" (some _) := ⟨T.x_NoWords.mg⟩
  have ib_TooGreat : Gn mg "TooGreat" (some _) := ⟨T.x_TooGreat.mg⟩
  have hr' : Room 6 (X_law_tolls P w K mg base f cdv A outer s H E).A := hr
  replace hr := hr'
  clear hr'
  kxs_still
  refine s_tryC (fun cls d σ' H' => ∃ w, ErrT cs cls w ∧ d = none ∧ (∀ H'', Same H' H'' → Q (.str w) H'') ∧ σ' = [some a0, some a1, some a2, some (.str (Str.ofString ""))]) ?_ ?_
  · rintro cls dd' σ' H' ⟨w, hw, rfl, hq, rfl⟩
    cases hw
    · refine .skipT (cs := [cs.Barren, cs.Endless, cs.NoChange, cs.NoNumber]) (.cons ⟨rfl, by decide, .inl T.x_Barren.mg⟩ rfl (.cons ⟨rfl, by decide, .inl T.x_Endless.mg⟩ rfl (.cons ⟨rfl, by decide, .inl T.x_NoChange.mg⟩ rfl (.cons ⟨rfl, by decide, .inl T.x_NoNumber.mg⟩ rfl .nil)))) (Nat.le_of_ble_eq_true rfl) (by
      simp only [List.mem_cons, List.not_mem_nil, or_false, forall_eq_or_imp, forall_eq]
      exact ⟨T.x_Barren.exm T.s_NoGrammar_Barren, T.x_Endless.exm T.s_NoGrammar_Endless, T.x_NoChange.exm T.s_NoGrammar_NoChange, T.x_NoNumber.exm T.s_NoGrammar_NoNumber⟩) (.skipT (cs := [cs.NoRow, cs.NoRule, cs.NoWords, cs.TooGreat]) (.cons ⟨rfl, by decide, .inl T.x_NoRow.mg⟩ rfl (.cons ⟨rfl, by decide, .inl T.x_NoRule.mg⟩ rfl (.cons ⟨rfl, by decide, .inl T.x_NoWords.mg⟩ rfl (.cons ⟨rfl, by decide, .inl T.x_TooGreat.mg⟩ rfl .nil)))) (Nat.le_of_ble_eq_true rfl) (by
      simp only [List.mem_cons, List.not_mem_nil, or_false, forall_eq_or_imp, forall_eq]
      exact ⟨T.x_NoRow.exm T.s_NoGrammar_NoRow, T.x_NoRule.exm T.s_NoGrammar_NoRule, T.x_NoWords.exm T.s_NoGrammar_NoWords, T.x_TooGreat.exm T.s_NoGrammar_TooGreat⟩) (.skip ⟨rfl, by decide, .inl T.x_NoCosts.mg⟩ (T.x_NoCosts.exm T.s_NoGrammar_NoCosts) (.skip ⟨rfl, by decide, .inl T.x_NoText.mg⟩ (T.x_NoText.exm T.s_NoGrammar_NoText) (.hit ⟨rfl, by decide, .inl T.x_NoGrammar.mg⟩ (T.x_NoGrammar.exm T.s_NoGrammar_NoGrammar) fun a oe pn ha hz hf => ?_))))
      kxs_still
      intro H2 s2 k2
      kxs_still
      exact hq _ s2
    · refine .skipT (cs := [cs.Barren, cs.Endless, cs.NoChange, cs.NoNumber]) (.cons ⟨rfl, by decide, .inl T.x_Barren.mg⟩ rfl (.cons ⟨rfl, by decide, .inl T.x_Endless.mg⟩ rfl (.cons ⟨rfl, by decide, .inl T.x_NoChange.mg⟩ rfl (.cons ⟨rfl, by decide, .inl T.x_NoNumber.mg⟩ rfl .nil)))) (Nat.le_of_ble_eq_true rfl) (by
      simp only [List.mem_cons, List.not_mem_nil, or_false, forall_eq_or_imp, forall_eq]
      exact ⟨T.x_Barren.exm T.s_NoText_Barren, T.x_Endless.exm T.s_NoText_Endless, T.x_NoChange.exm T.s_NoText_NoChange, T.x_NoNumber.exm T.s_NoText_NoNumber⟩) (.skipT (cs := [cs.NoRow, cs.NoRule, cs.NoWords, cs.TooGreat]) (.cons ⟨rfl, by decide, .inl T.x_NoRow.mg⟩ rfl (.cons ⟨rfl, by decide, .inl T.x_NoRule.mg⟩ rfl (.cons ⟨rfl, by decide, .inl T.x_NoWords.mg⟩ rfl (.cons ⟨rfl, by decide, .inl T.x_TooGreat.mg⟩ rfl .nil)))) (Nat.le_of_ble_eq_true rfl) (by
      simp only [List.mem_cons, List.not_mem_nil, or_false, forall_eq_or_imp, forall_eq]
      exact ⟨T.x_NoRow.exm T.s_NoText_NoRow, T.x_NoRule.exm T.s_NoText_NoRule, T.x_NoWords.exm T.s_NoText_NoWords, T.x_TooGreat.exm T.s_NoText_TooGreat⟩) (.skip ⟨rfl, by decide, .inl T.x_NoCosts.mg⟩ (T.x_NoCosts.exm T.s_NoText_NoCosts) (.hit ⟨rfl, by decide, .inl T.x_NoText.mg⟩ (T.x_NoText.exm T.s_NoText_NoText) fun a oe pn ha hz hf => ?_)))
      kxs_still
      intro H2 s2 k2
      kxs_still
      exact hq _ s2
    · refine .skipT (cs := [cs.Barren, cs.Endless, cs.NoChange, cs.NoNumber]) (.cons ⟨rfl, by decide, .inl T.x_Barren.mg⟩ rfl (.cons ⟨rfl, by decide, .inl T.x_Endless.mg⟩ rfl (.cons ⟨rfl, by decide, .inl T.x_NoChange.mg⟩ rfl (.cons ⟨rfl, by decide, .inl T.x_NoNumber.mg⟩ rfl .nil)))) (Nat.le_of_ble_eq_true rfl) (by
      simp only [List.mem_cons, List.not_mem_nil, or_false, forall_eq_or_imp, forall_eq]
      exact ⟨T.x_Barren.exm T.s_NoCosts_Barren, T.x_Endless.exm T.s_NoCosts_Endless, T.x_NoChange.exm T.s_NoCosts_NoChange, T.x_NoNumber.exm T.s_NoCosts_NoNumber⟩) (.skipT (cs := [cs.NoRow, cs.NoRule, cs.NoWords, cs.TooGreat]) (.cons ⟨rfl, by decide, .inl T.x_NoRow.mg⟩ rfl (.cons ⟨rfl, by decide, .inl T.x_NoRule.mg⟩ rfl (.cons ⟨rfl, by decide, .inl T.x_NoWords.mg⟩ rfl (.cons ⟨rfl, by decide, .inl T.x_TooGreat.mg⟩ rfl .nil)))) (Nat.le_of_ble_eq_true rfl) (by
      simp only [List.mem_cons, List.not_mem_nil, or_false, forall_eq_or_imp, forall_eq]
      exact ⟨T.x_NoRow.exm T.s_NoCosts_NoRow, T.x_NoRule.exm T.s_NoCosts_NoRule, T.x_NoWords.exm T.s_NoCosts_NoWords, T.x_TooGreat.exm T.s_NoCosts_TooGreat⟩) (.hit ⟨rfl, by decide, .inl T.x_NoCosts.mg⟩ (T.x_NoCosts.exm T.s_NoCosts_NoCosts) fun a oe pn ha hz hf => ?_))
      kxs_still
      intro H2 s2 k2
      kxs_still
      exact hq _ s2
  · intro pn xe ct co
    kxs_still
    refine h.mono (fun cls H' s ⟨_, w, hw, hq⟩ => ⟨w, hw, rfl, hq, rfl⟩) fun a vs rs tx c _ _ _ hq => fun d G H' s n k T => ?_
    kxs_still
    exact hq _ s
end
theorem df_law_tolls (T : Txt K mg cs) : Df P w K mg base "_law_tolls" 7 ["_law_grammar", "_law_signs", "_law_costs"] (sp3 (R_law_tolls K cs)) := by
  obtain ⟨f, fd, hm, F, hb⟩ := T.f_law_tolls.ex
  exact ⟨f, fd, hm, F.kp, hb, ok_law_tolls F T⟩
def R_law_mended (K : PySem.W.Frag) (cs : Cs) : V → V → V → Hp → VK → XK → Prop := fun x y z H Q _ => Hand3 K cs x y z H (EW cs fun w H' => ∀ t H'', Same H' H'' → H'' t = some (.tup [.str w, .non]) → Q (.ref t) H'') fun _ _ rs tx c => MdEnd cs H (fun v H' => ∀ t H'', Same H' H'' → H'' t = some (.tup [.str (Str.ofString ""), v]) → Q (.ref t) H'') (EW cs fun w H' => ∀ t H'', Same H' H'' → H'' t = some (.tup [.str w, .non]) → Q (.ref t) H'') rs tx c
section
set_option hygiene false in
local macro_rules | `(tactic| top_name) => `(tactic| first | refine e_call (df_mended T) (hr.mono (by decide)) ?_)
theorem ok_law_mended {f : Addr} {fd : FuncData} (F : Fun K "_law_mended" "_law_mended" s_law_mended f fd) (T : Txt K mg cs) : FnOk P w K mg base (L2.CX P w) 8 f fd ["_law_grammar", "_law_signs", "_law_costs"] (sp3 (R_law_mended K cs)) := by
  refine F.okX sc_law_mended (fun vs H Q E h => sp3_len h) (fun cdv A outer s H vs Q E hr h => ⟨_, PBw (X := X_law_mended P w K mg base f cdv A outer s H E), ?_⟩)
  obtain ⟨a0, a1, a2, rfl, h⟩ := h
  have ib_NoGrammar : Gn mg "NoGrammar" (some _) := ⟨T.x_NoGrammar.mg⟩
  have ib_NoText : Gn mg "NoText" (some _) := ⟨T.x_NoText.mg⟩
  have ib_NoCosts : Gn mg "NoCosts" (some _) := ⟨T.x_NoCosts.mg⟩
  have ib_Barren : Gn mg "Barren" (some _) := ⟨T.x_Barren.mg⟩
  have ib_TooGreat : Gn mg "TooGreat" (some _) := ⟨T.x_TooGreat.mg⟩
  have ib_Endless : Gn mg "Endless" (some _) := ⟨T.x_Endless.mg⟩
  have ib_NoChange : Gn mg "NoChange" (some _) := ⟨T.x_NoChange.mg⟩
  have ib_NoNumber : Gn mg "NoNumber" (some _) := ⟨T.x_NoNumber.mg⟩
  have ib_NoRow : Gn mg "NoRow" (some _) := ⟨T.x_NoRow.mg⟩
  have ib_NoRule : Gn mg "NoRule" (some _) := ⟨T.x_NoRule.mg⟩
  have ib_NoWords : Gn mg "NoWords" (some _) := ⟨T.x_NoWords.mg⟩
  have hr' : Room 7 (X_law_mended P w K mg base f cdv A outer s H E).A := hr
  replace hr := hr'
  clear hr'
  kxs_still
  refine s_tryC (fun cls d σ' H' => ∃ w, ErrW cs cls w ∧ d = none ∧ (∀ t H'', Same H' H'' → H'' t = some (.tup [.str w, .non]) → Q (.ref t) H'') ∧ σ' = [some a0, some a1, some a2, some (.str (Str.ofString "")), some .non]) ?_ ?_
  · rintro cls dd' σ' H' ⟨w, hw, rfl, hq, rfl⟩
    cases hw
    · refine .skipT (cs := [cs.Endless, cs.NoChange, cs.NoNumber]) (.cons ⟨rfl, by decide, .inl T.x_Endless.mg⟩ rfl (.cons ⟨rfl, by decide, .inl T.x_NoChange.mg⟩ rfl (.cons ⟨rfl, by decide, .inl T.x_NoNumber.mg⟩ rfl .nil))) (Nat.le_of_ble_eq_true rfl) (by
      simp only [List.mem_cons, List.not_mem_nil, or_false, forall_eq_or_imp, forall_eq]
      exact ⟨T.x_Endless.exm T.s_NoGrammar_Endless, T.x_NoChange.exm T.s_NoGrammar_NoChange, T.x_NoNumber.exm T.s_NoGrammar_NoNumber⟩) (.skipT (cs := [cs.NoRow, cs.NoRule, cs.NoWords]) (.cons ⟨rfl, by decide, .inl T.x_NoRow.mg⟩ rfl (.cons ⟨rfl, by decide, .inl T.x_NoRule.mg⟩ rfl (.cons ⟨rfl, by decide, .inl T.x_NoWords.mg⟩ rfl .nil))) (Nat.le_of_ble_eq_true rfl) (by
      simp only [List.mem_cons, List.not_mem_nil, or_false, forall_eq_or_imp, forall_eq]
      exact ⟨T.x_NoRow.exm T.s_NoGrammar_NoRow, T.x_NoRule.exm T.s_NoGrammar_NoRule, T.x_NoWords.exm T.s_NoGrammar_NoWords⟩) (.hit ⟨rfl, by decide, .inl T.x_NoGrammar.mg⟩ (T.x_NoGrammar.exm T.s_NoGrammar_NoGrammar) fun a oe pn ha hz hf => ?_))
      kxs_still
      intro H2 s2 k2
      kxs_still
      intro t H3 s3 n3 k3 f3
      exact hq t H3 (s2.trans s3) k3
    · refine .skipT (cs := [cs.Endless, cs.NoChange, cs.NoNumber]) (.cons ⟨rfl, by decide, .inl T.x_Endless.mg⟩ rfl (.cons ⟨rfl, by decide, .inl T.x_NoChange.mg⟩ rfl (.cons ⟨rfl, by decide, .inl T.x_NoNumber.mg⟩ rfl .nil))) (Nat.le_of_ble_eq_true rfl) (by
      simp only [List.mem_cons, List.not_mem_nil, or_false, forall_eq_or_imp, forall_eq]
      exact ⟨T.x_Endless.exm T.s_NoText_Endless, T.x_NoChange.exm T.s_NoText_NoChange, T.x_NoNumber.exm T.s_NoText_NoNumber⟩) (.skipT (cs := [cs.NoRow, cs.NoRule, cs.NoWords]) (.cons ⟨rfl, by decide, .inl T.x_NoRow.mg⟩ rfl (.cons ⟨rfl, by decide, .inl T.x_NoRule.mg⟩ rfl (.cons ⟨rfl, by decide, .inl T.x_NoWords.mg⟩ rfl .nil))) (Nat.le_of_ble_eq_true rfl) (by
      simp only [List.mem_cons, List.not_mem_nil, or_false, forall_eq_or_imp, forall_eq]
      exact ⟨T.x_NoRow.exm T.s_NoText_NoRow, T.x_NoRule.exm T.s_NoText_NoRule, T.x_NoWords.exm T.s_NoText_NoWords⟩) (.skip ⟨rfl, by decide, .inl T.x_NoGrammar.mg⟩ (T.x_NoGrammar.exm T.s_NoText_NoGrammar) (.hit ⟨rfl, by decide, .inl T.x_NoText.mg⟩ (T.x_NoText.exm T.s_NoText_NoText) fun a oe pn ha hz hf => ?_)))
      kxs_still
      intro H2 s2 k2
      kxs_still
      intro t H3 s3 n3 k3 f3
      exact hq t H3 (s2.trans s3) k3
    · refine .skipT (cs := [cs.Endless, cs.NoChange, cs.NoNumber]) (.cons ⟨rfl, by decide, .inl T.x_Endless.mg⟩ rfl (.cons ⟨rfl, by decide, .inl T.x_NoChange.mg⟩ rfl (.cons ⟨rfl, by decide, .inl T.x_NoNumber.mg⟩ rfl .nil))) (Nat.le_of_ble_eq_true rfl) (by
      simp only [List.mem_cons, List.not_mem_nil, or_false, forall_eq_or_imp, forall_eq]
      exact ⟨T.x_Endless.exm T.s_NoCosts_Endless, T.x_NoChange.exm T.s_NoCosts_NoChange, T.x_NoNumber.exm T.s_NoCosts_NoNumber⟩) (.skipT (cs := [cs.NoRow, cs.NoRule, cs.NoWords]) (.cons ⟨rfl, by decide, .inl T.x_NoRow.mg⟩ rfl (.cons ⟨rfl, by decide, .inl T.x_NoRule.mg⟩ rfl (.cons ⟨rfl, by decide, .inl T.x_NoWords.mg⟩ rfl .nil))) (Nat.le_of_ble_eq_true rfl) (by
      simp only [List.mem_cons, List.not_mem_nil, or_false, forall_eq_or_imp, forall_eq]
      exact ⟨T.x_NoRow.exm T.s_NoCosts_NoRow, T.x_NoRule.exm T.s_NoCosts_NoRule, T.x_NoWords.exm T.s_NoCosts_NoWords⟩) (.skip ⟨rfl, by decide, .inl T.x_NoGrammar.mg⟩ (T.x_NoGrammar.exm T.s_NoCosts_NoGrammar) (.skip ⟨rfl, by decide, .inl T.x_NoText.mg⟩ (T.x_NoText.exm T.s_NoCosts_NoText) (.hit ⟨rfl, by decide, .inl T.x_NoCosts.mg⟩ (T.x_NoCosts.exm T.s_NoCosts_NoCosts) fun a oe pn ha hz hf => ?_))))
      kxs_still
      intro H2 s2 k2
      kxs_still
      intro t H3 s3 n3 k3 f3
      exact hq t H3 (s2.trans s3) k3
    · refine .skipT (cs := [cs.Endless, cs.NoChange, cs.NoNumber]) (.cons ⟨rfl, by decide, .inl T.x_Endless.mg⟩ rfl (.cons ⟨rfl, by decide, .inl T.x_NoChange.mg⟩ rfl (.cons ⟨rfl, by decide, .inl T.x_NoNumber.mg⟩ rfl .nil))) (Nat.le_of_ble_eq_true rfl) (by
      simp only [List.mem_cons, List.not_mem_nil, or_false, forall_eq_or_imp, forall_eq]
      exact ⟨T.x_Endless.exm T.s_Barren_Endless, T.x_NoChange.exm T.s_Barren_NoChange, T.x_NoNumber.exm T.s_Barren_NoNumber⟩) (.skipT (cs := [cs.NoRow, cs.NoRule, cs.NoWords]) (.cons ⟨rfl, by decide, .inl T.x_NoRow.mg⟩ rfl (.cons ⟨rfl, by decide, .inl T.x_NoRule.mg⟩ rfl (.cons ⟨rfl, by decide, .inl T.x_NoWords.mg⟩ rfl .nil))) (Nat.le_of_ble_eq_true rfl) (by
      simp only [List.mem_cons, List.not_mem_nil, or_false, forall_eq_or_imp, forall_eq]
      exact ⟨T.x_NoRow.exm T.s_Barren_NoRow, T.x_NoRule.exm T.s_Barren_NoRule, T.x_NoWords.exm T.s_Barren_NoWords⟩) (.skip ⟨rfl, by decide, .inl T.x_NoGrammar.mg⟩ (T.x_NoGrammar.exm T.s_Barren_NoGrammar) (.skip ⟨rfl, by decide, .inl T.x_NoText.mg⟩ (T.x_NoText.exm T.s_Barren_NoText) (.skip ⟨rfl, by decide, .inl T.x_NoCosts.mg⟩ (T.x_NoCosts.exm T.s_Barren_NoCosts) (.hit ⟨rfl, by decide, .inl T.x_Barren.mg⟩ (T.x_Barren.exm T.s_Barren_Barren) fun a oe pn ha hz hf => ?_)))))
      kxs_still
      intro H2 s2 k2
      kxs_still
      intro t H3 s3 n3 k3 f3
      exact hq t H3 (s2.trans s3) k3
    · refine .skipT (cs := [cs.Endless, cs.NoChange, cs.NoNumber]) (.cons ⟨rfl, by decide, .inl T.x_Endless.mg⟩ rfl (.cons ⟨rfl, by decide, .inl T.x_NoChange.mg⟩ rfl (.cons ⟨rfl, by decide, .inl T.x_NoNumber.mg⟩ rfl .nil))) (Nat.le_of_ble_eq_true rfl) (by
      simp only [List.mem_cons, List.not_mem_nil, or_false, forall_eq_or_imp, forall_eq]
      exact ⟨T.x_Endless.exm T.s_TooGreat_Endless, T.x_NoChange.exm T.s_TooGreat_NoChange, T.x_NoNumber.exm T.s_TooGreat_NoNumber⟩) (.skipT (cs := [cs.NoRow, cs.NoRule, cs.NoWords]) (.cons ⟨rfl, by decide, .inl T.x_NoRow.mg⟩ rfl (.cons ⟨rfl, by decide, .inl T.x_NoRule.mg⟩ rfl (.cons ⟨rfl, by decide, .inl T.x_NoWords.mg⟩ rfl .nil))) (Nat.le_of_ble_eq_true rfl) (by
      simp only [List.mem_cons, List.not_mem_nil, or_false, forall_eq_or_imp, forall_eq]
      exact ⟨T.x_NoRow.exm T.s_TooGreat_NoRow, T.x_NoRule.exm T.s_TooGreat_NoRule, T.x_NoWords.exm T.s_TooGreat_NoWords⟩) (.skip ⟨rfl, by decide, .inl T.x_NoGrammar.mg⟩ (T.x_NoGrammar.exm T.s_TooGreat_NoGrammar) (.skip ⟨rfl, by decide, .inl T.x_NoText.mg⟩ (T.x_NoText.exm T.s_TooGreat_NoText) (.skip ⟨rfl, by decide, .inl T.x_NoCosts.mg⟩ (T.x_NoCosts.exm T.s_TooGreat_NoCosts) (.skip ⟨rfl, by decide, .inl T.x_Barren.mg⟩ (T.x_Barren.exm T.s_TooGreat_Barren) (.hit ⟨rfl, by decide, .inl T.x_TooGreat.mg⟩ (T.x_TooGreat.exm T.s_TooGreat_TooGreat) fun a oe pn ha hz hf => ?_))))))
      kxs_still
      intro H2 s2 k2
      kxs_still
      intro t H3 s3 n3 k3 f3
      exact hq t H3 (s2.trans s3) k3
  · intro pn xe ct co
    kxs_still
    refine h.mono (fun cls H' s ⟨_, w, hw, hq⟩ => ⟨w, hw, rfl, hq, rfl⟩) fun a vs rs tx c _ _ _ hq => hq.mono (fun cls H' s ⟨_, w, hw, hq⟩ => ⟨w, hw, rfl, hq, rfl⟩) fun v H' hq => ?_
    kxs_still
    intro t H3 s3 n3 k3 f3
    exact hq t H3 s3 k3
end
theorem df_law_mended (T : Txt K mg cs) : Df P w K mg base "_law_mended" 8 ["_law_grammar", "_law_signs", "_law_costs"] (sp3 (R_law_mended K cs)) := by
  obtain ⟨f, fd, hm, F, hb⟩ := T.f_law_mended.ex
  exact ⟨f, fd, hm, F.kp, hb, ok_law_mended F T⟩
def R_law_any (K : PySem.W.Frag) (cs : Cs) : V → V → V → Hp → VK → XK → Prop := fun x y z H Q _ => Hand3 K cs x y z H (EW cs fun _ H' => ∀ H'', Same H' H'' → Q (.bl true) H'') fun _ _ rs tx c => MdEnd cs H (fun _ _ => False) (EW cs fun _ H' => ∀ H'', Same H' H'' → Q (.bl true) H'') rs tx c
section
set_option hygiene false in
local macro_rules | `(tactic| top_name) => `(tactic| first | refine e_call (df_mended T) (hr.mono (by decide)) ?_)
theorem ok_law_any {f : Addr} {fd : FuncData} (F : Fun K "_law_any" "_law_any" s_law_any f fd) (T : Txt K mg cs) : FnOk P w K mg base (L2.CX P w) 8 f fd ["_law_grammar", "_law_signs", "_law_costs"] (sp3 (R_law_any K cs)) := by
  refine F.okX sc_law_any (fun vs H Q E h => sp3_len h) (fun cdv A outer s H vs Q E hr h => ⟨_, PBw (X := X_law_any P w K mg base f cdv A outer s H E), ?_⟩)
  obtain ⟨a0, a1, a2, rfl, h⟩ := h
  have ib_ForestError : Gn mg "ForestError" (some _) := ⟨T.x_ForestError.mg⟩
  have ib_isinstance := T.b_isinstance
  have ib_ValueError := T.b_ValueError
  have hr' : Room 7 (X_law_any P w K mg base f cdv A outer s H E).A := hr
  replace hr := hr'
  clear hr'
  kxs_still
  refine s_tryC (fun cls d σ' H' => ∃ w, ErrW cs cls w ∧ d = none ∧ (∀ H'', Same H' H'' → Q (.bl true) H'') ∧ σ' = [some a0, some a1, some a2, some (.bl false), none]) ?_ ?_
  · rintro cls dd' σ' H' ⟨w, hw, rfl, hq, rfl⟩
    cases hw
    · refine .hitAs (i := 4) sc_law_any.nd rfl rfl ⟨rfl, by decide, .inl T.x_ForestError.mg⟩ (T.x_ForestError.exm T.s_NoGrammar_ForestError) fun a oe pn ha hz hf => ?_
      kxs_still
      refine k_isEV T.x_NoGrammar hz hf ?_
      kxs_still
      intro H2 s2 k2
      kxs_still
      exact hq _ s2
    · refine .hitAs (i := 4) sc_law_any.nd rfl rfl ⟨rfl, by decide, .inl T.x_ForestError.mg⟩ (T.x_ForestError.exm T.s_NoText_ForestError) fun a oe pn ha hz hf => ?_
      kxs_still
      refine k_isEV T.x_NoText hz hf ?_
      kxs_still
      intro H2 s2 k2
      kxs_still
      exact hq _ s2
    · refine .hitAs (i := 4) sc_law_any.nd rfl rfl ⟨rfl, by decide, .inl T.x_ForestError.mg⟩ (T.x_ForestError.exm T.s_NoCosts_ForestError) fun a oe pn ha hz hf => ?_
      kxs_still
      refine k_isEV T.x_NoCosts hz hf ?_
      kxs_still
      intro H2 s2 k2
      kxs_still
      exact hq _ s2
    · refine .hitAs (i := 4) sc_law_any.nd rfl rfl ⟨rfl, by decide, .inl T.x_ForestError.mg⟩ (T.x_ForestError.exm T.s_Barren_ForestError) fun a oe pn ha hz hf => ?_
      kxs_still
      refine k_isEV T.x_Barren hz hf ?_
      kxs_still
      intro H2 s2 k2
      kxs_still
      exact hq _ s2
    · refine .hitAs (i := 4) sc_law_any.nd rfl rfl ⟨rfl, by decide, .inl T.x_ForestError.mg⟩ (T.x_ForestError.exm T.s_TooGreat_ForestError) fun a oe pn ha hz hf => ?_
      kxs_still
      refine k_isEV T.x_TooGreat hz hf ?_
      kxs_still
      intro H2 s2 k2
      kxs_still
      exact hq _ s2
  · intro pn xe ct co
    kxs_still
    refine h.mono (fun cls H' s ⟨_, w, hw, hq⟩ => ⟨w, hw, rfl, hq, rfl⟩) fun a vs rs tx c _ _ _ hq => hq.mono (fun cls H' s ⟨_, w, hw, hq⟩ => ⟨w, hw, rfl, hq, rfl⟩) fun v H' hq => hq.elim

end
theorem df_law_any (T : Txt K mg cs) : Df P w K mg base "_law_any" 8 ["_law_grammar", "_law_signs", "_law_costs"] (sp3 (R_law_any K cs)) := by
  obtain ⟨f, fd, hm, F, hb⟩ := T.f_law_any.ex
  exact ⟨f, fd, hm, F.kp, hb, ok_law_any F T⟩
/-! ### k77: one sign again and again -/
theorem rg_app {rs : List Rl} (hsg : ∀ r ∈ rs, isSg r.head = false) {d2 : List Nat} {b : List Str} : ∀ (N : Nat) (d1 : List Nat) (a : List Str) (m1 : List Nat), d1.length ≤ N → rg rs (rowD d1) a = some m1 → rg rs (rowD (d1 ++ d2)) (a ++ b) = (rg rs (rowD d2) b).map (m1 ++ ·) := by
  intro N
  induction N with
  | zero =>
    intro d1 a
    have go : ∀ (a : List Str) (m1 : List Nat), rg rs (rowD []) a = some m1 → rg rs (rowD d2) (a ++ b) = (rg rs (rowD d2) b).map (m1 ++ ·) := fun a => by
      induction a with
      | nil =>
        intro m1 h
        have h : rg rs [] [] = some m1 := h
        rw [rg_nil, if_pos rfl] at h
        cases h
        show rg rs (rowD d2) b = (rg rs (rowD d2) b).map ([] ++ ·)
        cases rg rs (rowD d2) b <;> rfl
      | cons p a ih =>
        intro m1 h
        cases hs : isSg p with
        | true =>
          rw [rg_sign hs] at h
          cases e : rg rs (rowD []) a with
          | none => rw [e] at h; cases h
          | some z =>
            rw [e] at h
            cases h
            rw [List.cons_append, rg_sign hs, ih z e]
            cases rg rs (rowD d2) b <;> rfl
        | false =>
          have h : rg rs [] (p :: a) = some m1 := h
          rw [rg_name0 hs] at h
          cases h
    intro m1 hl h
    have hd : d1 = [] := List.eq_nil_of_length_eq_zero (by omega)
    subst hd
    exact go a m1 h
  | succ N IH =>
    intro d1 a
    induction a with
    | nil =>
      intro m1 hl h
      rw [rg_nil] at h
      split at h
      · rename_i hd
        cases h
        have hd : d1 = [] := List.map_eq_nil_iff.mp hd
        subst hd
        show rg rs (rowD d2) b = (rg rs (rowD d2) b).map ([] ++ ·)
        cases rg rs (rowD d2) b <;> rfl
      · cases h
    | cons p a ih =>
      intro m1 hl h
      cases hs : isSg p with
      | true =>
        rw [rg_sign hs] at h
        cases e : rg rs (rowD d1) a with
        | none => rw [e] at h; cases h
        | some z =>
          rw [e] at h
          cases h
          rw [List.cons_append, rg_sign hs, ih z hl e]
          cases rg rs (rowD d2) b <;> rfl
      | false =>
        cases d1 with
        | nil =>
          have h : rg rs [] (p :: a) = some m1 := h
          rw [rg_name0 hs] at h
          cases h
        | cons d ds =>
          have h : rg rs (.int ((d : Nat) : Int) :: rowD ds) (p :: a) = some m1 := h
          have h0 := h
          rw [rg_name hs] at h
          cases e : stp rs (.int ((d : Nat) : Int)) (p :: a) with
          | none => rw [e] at h; cases h
          | some q =>
            rw [e, Option.bind_some] at h
            obtain ⟨k, r, qs, e1, e2, e3, rfl⟩ := stp_some e
            have e1 := PyData.int.inj e1
            have ek : d = k := by omega
            subst ek
            obtain ⟨rfl, rfl⟩ := List.cons.inj e3
            have := IH ds (r.parts ++ a) m1 (by rw [List.length_cons] at hl; omega) h
            show rg rs (.int ((d : Nat) : Int) :: rowD (ds ++ d2)) (r.head :: (a ++ b)) = _
            rw [rg_num e2 (hsg r (List.mem_of_getElem? e2)), ← List.append_assoc]
            exact this
structure K77 (rs : List Rl) (N Tn p : Str) (s a' tp : Nat) (tw : Bool) : Prop where
  good : GoodG rs
  hN : isSg N = false
  hT : isSg Tn = false
  hp : isSg p = true
  sg : sgOf p = s
  tp1 : tp ≤ 1
  a1 : a' ≤ 1
  only : ∀ d r, rs[d]? = some r → r.head = N → (d = tp + a' ∧ (r.parts = [p, N] ∨ r.parts = [N, p])) ∨ (d = tp + (1 - a') ∧ r.parts = [p]) ∨ (tw = true ∧ d = tp + 2 ∧ r.parts = [p, p])
  more : ∃ r, rs[tp + a']? = some r ∧ r.head = N ∧ (r.parts = [p, N] ∨ r.parts = [N, p])
  one : ∃ r, rs[tp + (1 - a')]? = some r ∧ r.head = N ∧ r.parts = [p]
  two : tw = true → ∃ r, rs[tp + 2]? = some r ∧ r.head = N ∧ r.parts = [p, p]
  top : tp = 1 → ∃ r, rs[0]? = some r ∧ r.head = Tn ∧ r.parts = [N]
  topo : ∀ d r, rs[d]? = some r → r.head = Tn → d = 0 ∧ tp = 1 ∧ r.parts = [N]
  zero : tp = 0 → ∃ r, rs[0]? = some r ∧ r.head = N
section
variable {rs : List Rl} {N Tn p : Str} {s a' tp : Nat} {tw : Bool}
theorem K77.sgh (K : K77 rs N Tn p s a' tp tw) : ∀ r ∈ rs, isSg r.head = false := fun r hr => hd_name K.good hr
/-- the row of k signs -/
def row77 (a' tp : Nat) (tw : Bool) (k : Nat) : List Nat := if tw = true then List.replicate (k - 2) (tp + a') ++ [tp + 2] else List.replicate (k - 1) (tp + a') ++ [tp + (1 - a')]
theorem one_p (K : K77 rs N Tn p s a' tp tw) {ds : List PyData} {m : List Nat} (h : rg rs ds [p] = some m) : ds = [] ∧ m = [s] := by
  rw [rg_sign K.hp, rg_nil] at h
  split at h
  · rename_i hd
    have h : some [codeOf p] = some m := h
    cases h
    exact ⟨hd, by rw [← K.sg]; rfl⟩
  · cases h
theorem rd77 (K : K77 rs N Tn p s a' tp tw) : ∀ (row m : List Nat), rg rs (rowD row) [N] = some m → ∃ k, 1 ≤ k ∧ m = List.replicate k s ∧ (row = List.replicate (k - 1) (tp + a') ++ [tp + (1 - a')] ∨ (tw = true ∧ 2 ≤ k ∧ row = List.replicate (k - 2) (tp + a') ++ [tp + 2]))
  | [], m, h => by
    have h : rg rs [] (N :: []) = some m := h
    rw [rg_name0 K.hN] at h
    cases h
  | d :: ds, m, h => by
    have h : rg rs (.int ((d : Nat) : Int) :: rowD ds) (N :: []) = some m := h
    rw [rg_name K.hN] at h
    cases e : stp rs (.int ((d : Nat) : Int)) (N :: []) with
    | none => rw [e] at h; cases h
    | some q =>
      rw [e, Option.bind_some] at h
      obtain ⟨k', r, qs, e1, e2, e3, rfl⟩ := stp_some e
      have e1 := PyData.int.inj e1
      have ek : d = k' := by omega
      subst ek
      obtain ⟨hN', hqs⟩ := List.cons.inj e3
      rw [← hqs, List.append_nil] at h
      have step : ∀ m1, rg rs (rowD ds) [N] = some m1 → d = tp + a' → (m = s :: m1 ∨ m = m1 ++ [s]) → ∃ k, 1 ≤ k ∧ m = List.replicate k s ∧ (d :: ds = List.replicate (k - 1) (tp + a') ++ [tp + (1 - a')] ∨ (tw = true ∧ 2 ≤ k ∧ d :: ds = List.replicate (k - 2) (tp + a') ++ [tp + 2])) := fun m1 h1 hd hm => by
        obtain ⟨k, k1, rfl, hk⟩ := rd77 K ds m1 h1
        refine ⟨k + 1, by omega, ?_, ?_⟩
        · rcases hm with hm | hm
          · rw [hm]; rfl
          · rw [hm, List.replicate_succ']
        · rcases hk with hk | ⟨t1, k2, hk⟩
          · left
            rw [hk, hd, Nat.add_sub_cancel]
            obtain ⟨q, rfl⟩ : ∃ q, k = q + 1 := ⟨k - 1, by omega⟩
            rfl
          · right
            refine ⟨t1, by omega, ?_⟩
            rw [hk, hd, show k + 1 - 2 = (k - 2) + 1 by omega]
            rfl
      rcases K.only d r e2 hN'.symm with ⟨hd, hp | hp⟩ | ⟨hd, hp⟩ | ⟨ht, hd, hp⟩
      · rw [hp, rg_sign K.hp] at h
        cases e4 : rg rs (rowD ds) [N] with
        | none => rw [e4] at h; cases h
        | some z =>
          rw [e4] at h
          cases h
          exact step z e4 hd (.inl (by rw [← K.sg]; rfl))
      · rw [hp] at h
        obtain ⟨d1, d2, m1, m2, rfl, rfl, h1, h2⟩ := rg_split K.sgh ds.length ds [N] [p] m (Nat.le_refl _) h
        obtain ⟨e5, rfl⟩ := one_p K h2
        have e5 : d2 = [] := List.map_eq_nil_iff.mp e5
        subst e5
        rw [List.append_nil] at *
        exact step m1 h1 hd (.inr rfl)
      · rw [hp] at h
        obtain ⟨e5, rfl⟩ := one_p K h
        have e5 : ds = [] := List.map_eq_nil_iff.mp e5
        subst e5
        exact ⟨1, Nat.le_refl 1, rfl, .inl (by rw [hd]; rfl)⟩
      · rw [hp, rg_sign K.hp] at h
        cases e4 : rg rs (rowD ds) [p] with
        | none => rw [e4] at h; cases h
        | some z =>
          rw [e4] at h
          cases h
          obtain ⟨e5, rfl⟩ := one_p K e4
          have e5 : ds = [] := List.map_eq_nil_iff.mp e5
          subst e5
          exact ⟨2, by decide, by rw [← K.sg]; rfl, .inr ⟨ht, Nat.le_refl 2, by rw [hd]; rfl⟩⟩
theorem mk77_step (K : K77 rs N Tn p s a' tp tw) {row m : List Nat} (h : rg rs (rowD row) [N] = some m) {k : Nat} (hm : m = List.replicate k s) : rg rs (rowD ((tp + a') :: row)) [N] = some (List.replicate (k + 1) s) := by
  obtain ⟨r, hr, hh, hp⟩ := K.more
  have e := rg_num hr (K.sgh r (List.mem_of_getElem? hr)) (rowD row) []
  rw [hh, List.append_nil] at e
  refine Eq.trans e ?_
  rcases hp with hp | hp
  · rw [hp]
    show rg rs (rowD row) (p :: [N]) = _
    rw [rg_sign K.hp, h, hm]
    show some (codeOf p :: List.replicate k s) = _
    rw [show codeOf p = s from K.sg]
    rfl
  · rw [hp]
    have := rg_app (d2 := []) (b := [p]) K.sgh _ row [N] m (Nat.le_refl _) h
    rw [List.append_nil] at this
    show rg rs (rowD row) ([N] ++ [p]) = _
    rw [this, rg_sign K.hp]
    show Option.map _ (Option.map _ (rg rs [] [])) = _
    rw [rg_nil, if_pos rfl, hm]
    show some (List.replicate k s ++ [codeOf p]) = _
    rw [show codeOf p = s from K.sg, List.replicate_succ']
theorem mk77 (K : K77 rs N Tn p s a' tp tw) : ∀ k, (if tw = true then 2 else 1) ≤ k → rg rs (rowD (row77 a' tp tw k)) [N] = some (List.replicate k s) := by
  have base1 : rg rs (rowD [tp + (1 - a')]) [N] = some [s] := by
    obtain ⟨r, hr, hh, hp⟩ := K.one
    show rg rs (.int ((tp + (1 - a') : Nat) : Int) :: []) [N] = _
    rw [← hh, rg_num hr (K.sgh r (List.mem_of_getElem? hr)), hp]
    show rg rs [] [p] = _
    rw [rg_sign K.hp, rg_nil, if_pos rfl]
    show some [codeOf p] = _
    rw [show codeOf p = s from K.sg]
  intro k
  unfold row77
  cases ht : tw with
  | false =>
    intro hk
    rw [if_neg Bool.false_ne_true] at hk ⊢
    obtain ⟨q, rfl⟩ : ∃ q, k = q + 1 := ⟨k - 1, by omega⟩
    rw [Nat.add_sub_cancel]
    subst ht
    clear hk
    induction q with
    | zero => exact base1
    | succ q ih =>
      have := mk77_step K ih rfl
      exact this
  | true =>
    intro hk
    rw [if_pos rfl] at hk ⊢
    obtain ⟨q, rfl⟩ : ∃ q, k = q + 2 := ⟨k - 2, by omega⟩
    rw [Nat.add_sub_cancel]
    have base2 : rg rs (rowD [tp + 2]) [N] = some [s, s] := by
      obtain ⟨r, hr, hh, hp⟩ := K.two ht
      show rg rs (.int ((tp + 2 : Nat) : Int) :: []) [N] = _
      rw [← hh, rg_num hr (K.sgh r (List.mem_of_getElem? hr)), hp]
      show rg rs [] [p, p] = _
      rw [rg_sign K.hp, rg_sign K.hp, rg_nil, if_pos rfl]
      show some [codeOf p, codeOf p] = _
      rw [show codeOf p = s from K.sg]
    subst ht
    clear hk
    induction q with
    | zero => exact base2
    | succ q ih =>
      have := mk77_step K ih rfl
      exact this
end
/-! what a change to one sign again and again costs at least -/
def wr (s : Nat) (t : List Nat) : Nat := (t.filter fun x => decide (x ≠ s)).length
theorem wr_app (s : Nat) (a b : List Nat) : wr s (a ++ b) = wr s a + wr s b := by unfold wr; rw [List.filter_append, List.length_append]
theorem wr_one (s x : Nat) : wr s [x] = if x = s then 0 else 1 := by
  unfold wr
  by_cases c : x = s
  · rw [if_pos c, List.filter_cons_of_neg (by simpa using c)]; rfl
  · rw [if_neg c, List.filter_cons_of_pos (by simpa using c)]; rfl
theorem wr_le (s : Nat) (t : List Nat) : wr s t ≤ t.length := List.length_filter_le _ _
theorem low_gen {c : Cst} {s : Nat} (α β γ : Nat) : ∀ dd : List Deed, (∀ d ∈ dd, β * wr s (dTake d) + γ * (dTake d).length ≤ dCost c d + α * (dMake d).length) → β * wr s (dd.flatMap dTake) + γ * (dd.flatMap dTake).length ≤ dSum c dd + α * (dd.flatMap dMake).length
  | [], _ => by
    show β * 0 + γ * 0 ≤ 0 + α * 0
    omega
  | d :: dd, h => by
    have h1 := h d (List.mem_cons_self ..)
    have h2 := low_gen α β γ dd fun x hx => h x (List.mem_cons_of_mem _ hx)
    have h3 : dSum c (d :: dd) = dCost c d + dSum c dd := by unfold dSum; rw [List.map_cons, List.sum_cons]
    rw [List.flatMap_cons, List.flatMap_cons, wr_app, List.length_append, List.length_append, h3, Nat.mul_add, Nat.mul_add, Nat.mul_add]
    omega
def due77 (c : Cst) (s : Nat) (t : List Nat) : Nat × Nat := if c.cut = 0 then (0, 1) else if c.cut ≤ c.swap then (wr s t * c.cut, t.length - wr s t) else (wr s t * c.swap, t.length)
theorem low77 {c : Cst} {s k n : Nat} {t : List Nat} {dd : List Deed} (h : Chg c dd t (List.replicate k s) n) (hk : 1 ≤ k) : (due77 c s t).1 < n ∨ ((due77 c s t).1 = n ∧ (due77 c s t).2 ≤ k) := by
  have mk : ∀ d ∈ dd, ∀ y ∈ dMake d, y = s := fun d hd y hy => by
    have : y ∈ dd.flatMap dMake := List.mem_flatMap.mpr ⟨d, hd, hy⟩
    rw [h.make] at this
    exact (List.mem_replicate.mp this).2
  have ks : ∀ x, Deed.keep x ∈ dd → x = s := fun x hx => mk _ hx x (List.mem_singleton_self x)
  have ss : ∀ x y, Deed.swap x y ∈ dd → x ≠ s := fun x y hx => by
    have e := mk _ hx y (List.mem_singleton_self y)
    have := h.ok _ hx
    rw [← e]
    exact this
  have w0 : wr s [] = 0 := rfl
  have gen : ∀ α β γ, (β * 0 + γ ≤ α) → (β + γ ≤ c.cut) → (γ ≤ c.cut) → (β + γ ≤ c.swap + α) → β * wr s t + γ * t.length ≤ n + α * k := fun α β γ g1 g2 g3 g4 => by
    have := low_gen (c := c) (s := s) α β γ dd fun d hd => by
      cases d with
      | keep x =>
        show β * wr s [x] + γ * 1 ≤ 0 + α * 1
        rw [wr_one, if_pos (ks x hd)]
        omega
      | cut x =>
        show β * wr s [x] + γ * 1 ≤ c.cut + α * 0
        rw [wr_one]
        split <;> omega
      | put x =>
        show β * 0 + γ * 0 ≤ c.put + α * 1
        omega
      | swap x y =>
        show β * wr s [x] + γ * 1 ≤ c.swap + α * 1
        rw [wr_one, if_neg (ss x y hd)]
        omega
    rw [h.take, h.make, h.cost, List.length_replicate] at this
    exact this
  unfold due77
  by_cases c0 : c.cut = 0
  · rw [if_pos c0]
    show 0 < n ∨ (0 = n ∧ 1 ≤ k)
    omega
  · rw [if_neg c0]
    by_cases c1 : c.cut ≤ c.swap
    · rw [if_pos c1]
      show wr s t * c.cut < n ∨ (wr s t * c.cut = n ∧ t.length - wr s t ≤ k)
      have g1 := gen 0 c.cut 0 (by omega) (by omega) (by omega) (by omega)
      have g2 := gen c.cut 0 c.cut (by omega) (by omega) (by omega) (by omega)
      rw [Nat.mul_comm c.cut] at g1
      by_cases e : wr s t * c.cut = n
      · refine .inr ⟨e, ?_⟩
        have hw := wr_le s t
        have : c.cut * (t.length - wr s t) ≤ c.cut * k := by
          rw [Nat.mul_sub, Nat.mul_comm c.cut (wr s t), e]
          omega
        exact Nat.le_of_mul_le_mul_left this (by omega)
      · left; omega
    · rw [if_neg c1]
      show wr s t * c.swap < n ∨ (wr s t * c.swap = n ∧ t.length ≤ k)
      have g1 := gen 0 c.swap 0 (by omega) (by omega) (by omega) (by omega)
      have g2 := gen (c.cut - c.swap) c.swap (c.cut - c.swap) (by omega) (by omega) (by omega) (by omega)
      rw [Nat.mul_comm c.swap] at g1 g2
      by_cases e : wr s t * c.swap = n
      · refine .inr ⟨e, ?_⟩
        exact Nat.le_of_mul_le_mul_left (show (c.cut - c.swap) * t.length ≤ (c.cut - c.swap) * k by omega) (by omega)
      · left; omega
theorem al_go {c : Cst} (f : Nat → List Nat) (g : Nat → Nat) (hf : ∀ x t m n, Al c t m n → Al c (t ++ [x]) (m ++ f x) (n + g x)) : ∀ (l t m : List Nat) (n : Nat), Al c t m n → Al c (t ++ l) (m ++ l.flatMap f) (n + (l.map g).sum)
  | [], t, m, n, h => by
    rw [List.append_nil]
    show Al c t (m ++ []) (n + 0)
    rw [List.append_nil]
    exact h
  | x :: l, t, m, n, h => by
    have := al_go f g hf l _ _ _ (hf x t m n h)
    rw [List.append_assoc, List.append_assoc, Nat.add_assoc] at this
    rw [List.flatMap_cons, List.map_cons, List.sum_cons]
    exact this
theorem al77 {c : Cst} {s : Nat} {t : List Nat} (hs : s ∈ t) : Al c t (List.replicate (due77 c s t).2 s) (due77 c s t).1 := by
  unfold due77
  by_cases c0 : c.cut = 0
  · rw [if_pos c0]
    obtain ⟨a, b, rfl⟩ := List.append_of_mem hs
    have h1 := ((Al.nil (c := c)).cuts a).both s s |>.cuts b
    rw [if_pos rfl, c0, Nat.mul_zero, Nat.mul_zero, List.append_assoc] at h1
    exact h1
  · rw [if_neg c0]
    by_cases c1 : c.cut ≤ c.swap
    · rw [if_pos c1]
      have h1 := al_go (c := c) (fun x => if x = s then [s] else []) (fun x => if x = s then 0 else c.cut) (fun x t m n h => by
        by_cases e : x = s
        · have := h.both x s
          rw [if_pos e] at this
          rw [if_pos e, if_pos e]
          exact this
        · have := h.cut x
          rw [if_neg e, if_neg e, List.append_nil]
          exact this) t [] [] 0 .nil
      have e1 : t.flatMap (fun x => if x = s then [s] else []) = List.replicate (t.length - wr s t) s := by
        clear h1 hs
        induction t with
        | nil => rfl
        | cons x l ih =>
          have hw := wr_le s l
          have e3 : wr s (x :: l) = wr s [x] + wr s l := wr_app s [x] l
          rw [List.flatMap_cons, ih, e3, wr_one, List.length_cons]
          by_cases e : x = s
          · rw [if_pos e, if_pos e, show l.length + 1 - (0 + wr s l) = (l.length - wr s l) + 1 by omega]
            rfl
          · rw [if_neg e, if_neg e, show l.length + 1 - (1 + wr s l) = l.length - wr s l by omega]
            rfl
      have e2 : (t.map fun x => if x = s then 0 else c.cut).sum = wr s t * c.cut := by
        clear h1 hs e1
        induction t with
        | nil => show 0 = 0 * c.cut; omega
        | cons x l ih =>
          have e3 : wr s (x :: l) = wr s [x] + wr s l := wr_app s [x] l
          rw [List.map_cons, List.sum_cons, ih, e3, wr_one, Nat.add_mul]
          split <;> omega
      rw [e1, e2, List.nil_append, List.nil_append, Nat.zero_add] at h1
      exact h1
    · rw [if_neg c1]
      have h1 := al_go (c := c) (fun _ => [s]) (fun x => if x = s then 0 else c.swap) (fun x t m n h => by
        have := h.both x s
        rw [show min c.swap (c.put + c.cut) = c.swap by omega] at this
        exact this) t [] [] 0 .nil
      have e1 : t.flatMap (fun _ => [s]) = List.replicate t.length s := by
        clear h1 hs
        induction t with
        | nil => rfl
        | cons x l ih => rw [List.flatMap_cons, ih]; rfl
      have e2 : (t.map fun x => if x = s then 0 else c.swap).sum = wr s t * c.swap := by
        clear h1 hs e1
        induction t with
        | nil => show 0 = 0 * c.swap; omega
        | cons x l ih =>
          have e3 : wr s (x :: l) = wr s [x] + wr s l := wr_app s [x] l
          rw [List.map_cons, List.sum_cons, ih, e3, wr_one, Nat.add_mul]
          split <;> omega
      rw [e1, e2, List.nil_append, List.nil_append, Nat.zero_add] at h1
      exact h1

/-! ### k76: rows of a fixed size -/
theorem chg_toAl {c : Cst} : ∀ {dd : List Deed} {t m t0 m0 : List Nat} {n n0 : Nat}, Al c t0 m0 n0 → dd.flatMap dTake = t → dd.flatMap dMake = m → dSum c dd = n → ∃ n', n' ≤ n0 + n ∧ Al c (t0 ++ t) (m0 ++ m) n'
  | [], t, m, t0, m0, n, n0, h, h1, h2, h3 => by
    subst h1 h2 h3
    exact ⟨n0, Nat.le_add_right _ _, by
      show Al c (t0 ++ []) (m0 ++ []) n0
      rw [List.append_nil, List.append_nil]; exact h⟩
  | d :: dd, t, m, t0, m0, n, n0, h, h1, h2, h3 => by
    subst h1 h2 h3
    have hs : dSum c (d :: dd) = dCost c d + dSum c dd := by unfold dSum; rw [List.map_cons, List.sum_cons]
    have step : ∃ n1, n1 ≤ n0 + dCost c d ∧ Al c (t0 ++ dTake d) (m0 ++ dMake d) n1 := by
      cases d with
      | keep x =>
        have := h.both x x
        rw [if_pos rfl] at this
        exact ⟨_, Nat.le_refl _, this⟩
      | cut x => exact ⟨_, Nat.le_refl _, by show Al c (t0 ++ [x]) (m0 ++ []) _; rw [List.append_nil]; exact h.cut x⟩
      | put x => exact ⟨_, Nat.le_refl _, by show Al c (t0 ++ []) (m0 ++ [x]) _; rw [List.append_nil]; exact h.put x⟩
      | swap x y =>
        refine ⟨_, ?_, h.both x y⟩
        show n0 + (if x = y then 0 else min c.swap (c.put + c.cut)) ≤ n0 + c.swap
        split <;> omega
    obtain ⟨n1, l1, a1⟩ := step
    obtain ⟨n', l2, a2⟩ := chg_toAl (dd := dd) a1 rfl rfl rfl
    refine ⟨n', by rw [hs]; omega, ?_⟩
    rw [List.flatMap_cons, List.flatMap_cons, ← List.append_assoc, ← List.append_assoc]
    exact a2
theorem Chg.al {c : Cst} {dd : List Deed} {t m : List Nat} {n : Nat} (h : Chg c dd t m n) : ∃ n', n' ≤ n ∧ Al c t m n' := by
  obtain ⟨n', l, a⟩ := chg_toAl (Al.nil (c := c)) h.take h.make h.cost
  exact ⟨n', by omega, a⟩
section
variable {rs : List Rl}
/-- each row of the parts has n numbers and gives nothing -/
structure FixL (rs : List Rl) (ps : List Str) (n : Nat) : Prop where
  all : ∀ row made, rg rs (rowD row) ps = some made → made = [] ∧ row.length = n
  ex : ∃ row, rg rs (rowD row) ps = some [] ∧ row.length = n
theorem FixL.nil : FixL rs [] 0 where
  all row made h := by
    rw [rg_nil] at h
    split at h
    · rename_i hd
      cases h
      have hd : row = [] := List.map_eq_nil_iff.mp hd
      rw [hd]
      exact ⟨rfl, rfl⟩
    · cases h
  ex := ⟨[], by show rg rs [] [] = _; rw [rg_nil, if_pos rfl], rfl⟩
theorem FixL.cons (hsg : ∀ r ∈ rs, isSg r.head = false) {p : Str} {ps : List Str} {a b : Nat} (h : FixL rs [p] a) (k : FixL rs ps b) : FixL rs (p :: ps) (a + b) where
  all row made e := by
    obtain ⟨d1, d2, m1, m2, rfl, rfl, h1, h2⟩ := rg_split hsg row.length row [p] ps made (Nat.le_refl _) e
    obtain ⟨rfl, q1⟩ := h.all _ _ h1
    obtain ⟨rfl, q2⟩ := k.all _ _ h2
    exact ⟨rfl, by rw [List.length_append, q1, q2]⟩
  ex := by
    obtain ⟨r1, e1, l1⟩ := h.ex
    obtain ⟨r2, e2, l2⟩ := k.ex
    refine ⟨r1 ++ r2, ?_, by rw [List.length_append, l1, l2]⟩
    have := rg_app (d2 := r2) (b := ps) hsg _ r1 [p] [] (Nat.le_refl _) e1
    rw [e2] at this
    exact this
/-- what a name's row begins with -/
theorem rg_first {X : Str} (hX : isSg X = false) {row made : List Nat} (h : rg rs (rowD row) [X] = some made) : ∃ d ds r, row = d :: ds ∧ rs[d]? = some r ∧ r.head = X ∧ rg rs (rowD ds) r.parts = some made := by
  cases row with
  | nil =>
    have h : rg rs [] (X :: []) = some made := h
    rw [rg_name0 hX] at h
    cases h
  | cons d ds =>
    have h : rg rs (.int ((d : Nat) : Int) :: rowD ds) (X :: []) = some made := h
    rw [rg_name hX] at h
    cases e : stp rs (.int ((d : Nat) : Int)) (X :: []) with
    | none => rw [e] at h; cases h
    | some q =>
      rw [e, Option.bind_some] at h
      obtain ⟨k', r, qs, e1, e2, e3, rfl⟩ := stp_some e
      have e1 := PyData.int.inj e1
      have ek : d = k' := by omega
      subst ek
      obtain ⟨e4, e5⟩ := List.cons.inj e3
      rw [← e5, List.append_nil] at h
      exact ⟨d, ds, r, rfl, e2, e4.symm, h⟩
theorem FixL.name (hsg : ∀ r ∈ rs, isSg r.head = false) {X : Str} {ps : List Str} {n : Nat} (hX : isSg X = false) (only : ∀ r ∈ rs, r.head = X → r.parts = ps) (ex : ∃ r ∈ rs, r.head = X ∧ r.parts = ps) (h : FixL rs ps n) : FixL rs [X] (n + 1) where
  all row made e := by
    obtain ⟨d, ds, r, rfl, hr, hh, e2⟩ := rg_first hX e
    rw [only r (List.mem_of_getElem? hr) hh] at e2
    obtain ⟨q1, q2⟩ := h.all _ _ e2
    exact ⟨q1, by rw [List.length_cons, q2]⟩
  ex := by
    obtain ⟨r, hr, hh, hp⟩ := ex
    obtain ⟨d, hd⟩ := List.mem_iff_getElem?.mp hr
    obtain ⟨row, e1, l1⟩ := h.ex
    refine ⟨d :: row, ?_, by rw [List.length_cons, l1]⟩
    show rg rs (.int ((d : Nat) : Int) :: rowD row) [X] = _
    rw [← hh, rg_num hd (hsg r hr), hp, List.append_nil]
    exact e1
theorem FixL.rep (hsg : ∀ r ∈ rs, isSg r.head = false) {p : Str} (h : FixL rs [p] 1) : ∀ m, FixL rs (List.replicate m p) m
  | 0 => .nil
  | m + 1 => by
    have := h.cons hsg (FixL.rep hsg h m)
    rw [Nat.add_comm] at this
    exact this
/-- the doubling grammar -/
structure Grt (rs : List Rl) (nm : Nat → Str) (two : Bool) (m : Nat) : Prop where
  good : GoodG rs
  nms : ∀ k, k ≤ 10 → isSg (nm k) = false
  start : ∃ r, rs[0]? = some r ∧ r.head = nm 0
  o0 : ∀ r ∈ rs, r.head = nm 0 → r.parts = [nm 10, nm 9, nm 8, nm 7, nm 6, nm 1] ∨ (two = true ∧ r.parts = [sgn 43])
  o1 : ∀ r ∈ rs, r.head = nm 1 → r.parts = nm 4 :: nm 3 :: List.replicate m (nm 2)
  o2 : ∀ r ∈ rs, r.head = nm 2 → r.parts = []
  ok : ∀ k, 2 ≤ k → k ≤ 9 → ∀ r ∈ rs, r.head = nm (k + 1) → r.parts = [nm k, nm k]
  e0 : ∃ r ∈ rs, r.head = nm 0 ∧ r.parts = [nm 10, nm 9, nm 8, nm 7, nm 6, nm 1]
  e0' : two = true → ∃ r ∈ rs, r.head = nm 0 ∧ r.parts = [sgn 43]
  e1 : ∃ r ∈ rs, r.head = nm 1 ∧ r.parts = nm 4 :: nm 3 :: List.replicate m (nm 2)
  e2 : ∃ r ∈ rs, r.head = nm 2 ∧ r.parts = []
  ek : ∀ k, 2 ≤ k → k ≤ 9 → ∃ r ∈ rs, r.head = nm (k + 1) ∧ r.parts = [nm k, nm k]
def sz2 : Nat → Nat
  | 0 => 1
  | k + 1 => sz2 k + sz2 k + 1
variable {nm : Nat → Str} {two : Bool} {m : Nat}
theorem Grt.sgh (g : Grt rs nm two m) : ∀ r ∈ rs, isSg r.head = false := fun r hr => hd_name g.good hr
theorem Grt.fix (g : Grt rs nm two m) : ∀ k, k ≤ 8 → FixL rs [nm (k + 2)] (sz2 k)
  | 0, _ => FixL.nil.name g.sgh (g.nms 2 (by decide)) g.o2 g.e2
  | k + 1, h => by
    have ih := Grt.fix g k (by omega)
    have := (ih.cons g.sgh (ih.cons g.sgh .nil)).name g.sgh (g.nms (k + 3) (by omega)) (g.ok (k + 2) (by omega) (by omega)) (g.ek (k + 2) (by omega) (by omega))
    exact this
theorem Grt.fix1 (g : Grt rs nm two m) : FixL rs [nm 1] (11 + m) := by
  have h2 := g.fix 0 (by decide)
  have h := (((g.fix 2 (by decide)).cons g.sgh ((g.fix 1 (by decide)).cons g.sgh (FixL.rep g.sgh h2 m)))).name g.sgh (g.nms 1 (by decide)) g.o1 g.e1
  have e : sz2 2 + (sz2 1 + m) + 1 = 11 + m := by show 7 + (3 + m) + 1 = 11 + m; omega
  rw [e] at h
  exact h
theorem Grt.fix0 (g : Grt rs nm two m) : FixL rs [nm 10, nm 9, nm 8, nm 7, nm 6, nm 1] (998 + m) := by
  have h := (g.fix 8 (by decide)).cons g.sgh ((g.fix 7 (by decide)).cons g.sgh ((g.fix 6 (by decide)).cons g.sgh ((g.fix 5 (by decide)).cons g.sgh ((g.fix 4 (by decide)).cons g.sgh g.fix1))))
  have e : sz2 8 + (sz2 7 + (sz2 6 + (sz2 5 + (sz2 4 + (11 + m))))) = 998 + m := by show 511 + (255 + (127 + (63 + (31 + (11 + m))))) = _; omega
  rw [e] at h
  exact h
theorem rg_sgn43 {row made : List Nat} (h : rg rs (rowD row) [sgn 43] = some made) : row = [] ∧ made = [43] := by
  have hs : isSg (sgn 43) = true := by decide +kernel
  rw [rg_sign hs, rg_nil] at h
  split at h
  · rename_i hd
    have h : some [codeOf (sgn 43)] = some made := h
    cases h
    exact ⟨List.map_eq_nil_iff.mp hd, by decide +kernel⟩
  · cases h
theorem Grt.rows (g : Grt rs nm two m) {row made : List Nat} (h : rg rs (rowD row) [nm 0] = some made) : (made = [] ∧ row.length = 999 + m) ∨ (two = true ∧ made = [43] ∧ row.length = 1) := by
  obtain ⟨d, ds, r, rfl, hr, hh, e⟩ := rg_first (g.nms 0 (by decide)) h
  rcases g.o0 r (List.mem_of_getElem? hr) hh with hp | ⟨ht, hp⟩
  · rw [hp] at e
    obtain ⟨q1, q2⟩ := g.fix0.all _ _ e
    exact .inl ⟨q1, by rw [List.length_cons, q2]; omega⟩
  · rw [hp] at e
    obtain ⟨rfl, q2⟩ := rg_sgn43 e
    exact .inr ⟨ht, q2, rfl⟩
def minL (a b : Toll) : Toll := if LtT b a then b else a
theorem minL_le (a b : Toll) : ¬ LtT a (minL a b) ∧ ¬ LtT b (minL a b) := by
  unfold minL
  split
  · rename_i h; exact ⟨h.asym, le_refl b⟩
  · rename_i h; exact ⟨le_refl a, h⟩
theorem minL_or (a b : Toll) : minL a b = a ∨ minL a b = b := by unfold minL; split <;> simp
/-- the start's toll -/
def dueG (c : Cst) (t : List Nat) (two : Bool) (m : Nat) : Toll := if two = true then minL (t.length * c.cut, 999 + m) ((signToll c 43 t).1, 1) else (t.length * c.cut, 999 + m)
theorem al_cuts (c : Cst) (t : List Nat) : Al c t [] (t.length * c.cut) := by
  have := (Al.nil (c := c)).cuts t
  rw [List.nil_append, Nat.zero_add] at this
  exact this
theorem al_signT (c : Cst) (s : Nat) (t : List Nat) : ∃ n, n ≤ (signToll c s t).1 ∧ Al c t [s] n := by
  obtain ⟨dd, h⟩ := chg_sign c s t
  exact h.al
theorem Grt.toll (g : Grt rs nm two m) {c : Cst} {t : List Nat} {F : Tls} (T : Tolled rs c t F) {r0 : Rl} (h0 : rs[0]? = some r0) : lk F (.pt r0.head 0 t.length) = some (dueG c t two m) := by
  obtain ⟨r, hr, hh⟩ := g.start
  rw [h0] at hr
  cases hr
  have hX := g.nms 0 (by decide)
  -- there is a toll
  have up : ∀ (row made : List Nat) (n : Nat), rg rs (rowD row) [nm 0] = some made → Al c t made n → ∃ v, lk F (.pt r0.head 0 t.length) = some v ∧ ¬ LtT (n, row.length) v := fun row made n hrd ha => by
    obtain ⟨k, b, hk, _, _, hc, hb⟩ := no_cheap T g.good _ [nm 0] row made 0 t.length n (Nat.lt_succ_self _) hrd (fun p hp hs => by rw [List.mem_singleton.mp hp, hX] at hs; cases hs) (Nat.zero_le _) (Nat.le_refl _) (by unfold cut2; rw [List.drop_zero, Nat.sub_zero, List.take_length]; exact ha)
    have hk := hk (by simp)
    subst hk
    cases hc with
    | cons h1 _ _ h2 =>
      cases h2
      rw [hh]
      refine ⟨_, h1, ?_⟩
      unfold LtT addT at *
      dsimp only at *
      omega
  obtain ⟨rowG, eG, lG⟩ := g.fix0.ex
  obtain ⟨rG, hrG, hhG, hpG⟩ := g.e0
  obtain ⟨dG, hdG⟩ := List.mem_iff_getElem?.mp hrG
  have eG0 : rg rs (rowD (dG :: rowG)) [nm 0] = some [] := by
    show rg rs (.int ((dG : Nat) : Int) :: rowD rowG) [nm 0] = _
    rw [← hhG, rg_num hdG (g.sgh rG hrG), hpG, List.append_nil]
    exact eG
  obtain ⟨v, hv, u1⟩ := up _ _ _ eG0 (al_cuts c t)
  rw [List.length_cons, lG] at u1
  have u1 : ¬ LtT (t.length * c.cut, 999 + m) v := by rw [show 999 + m = 998 + m + 1 by omega]; exact u1
  have u2 : two = true → ¬ LtT ((signToll c 43 t).1, 1) v := fun ht => by
    obtain ⟨rS, hrS, hhS, hpS⟩ := g.e0' ht
    obtain ⟨dS, hdS⟩ := List.mem_iff_getElem?.mp hrS
    have eS : rg rs (rowD [dS]) [nm 0] = some [43] := by
      show rg rs (.int ((dS : Nat) : Int) :: []) [nm 0] = _
      rw [← hhS, rg_num hdS (g.sgh rS hrS), hpS, List.append_nil, rg_sign (by decide +kernel), rg_nil, if_pos rfl]
      decide +kernel
    obtain ⟨n, ln, an⟩ := al_signT c 43 t
    obtain ⟨v', hv', u⟩ := up _ _ _ eS an
    rw [hv] at hv'
    cases hv'
    have u : ¬ LtT (n, 1) v := u
    unfold LtT at *
    dsimp only at *
    omega
  obtain ⟨dd, row, made, M⟩ := mdd_ex T g.good h0 hv
  have hrd := M.rd
  rw [hh] at hrd
  obtain ⟨n', ln, an⟩ := M.chg.al
  have hsz := M.size
  rw [hv]
  refine congrArg some ?_
  unfold dueG
  rcases g.rows hrd with ⟨rfl, hl⟩ | ⟨ht, rfl, hl⟩
  · have hn := an.none rfl
    have lo : ¬ LtT v (t.length * c.cut, 999 + m) := by
      unfold LtT; dsimp only; omega
    have e := le_anti lo u1
    cases htw : two with
    | false => rw [if_neg Bool.false_ne_true]; exact e.symm
    | true =>
      rw [if_pos rfl]
      have := u2 htw
      rw [← e] at this
      unfold minL
      rw [if_neg this, e]
  · have hn := an.sign rfl
    have lo : ¬ LtT v ((signToll c 43 t).1, 1) := by
      unfold LtT; dsimp only; omega
    have e := le_anti lo (u2 ht)
    rw [if_pos ht]
    unfold minL
    rw [e]
    by_cases q : LtT v (t.length * c.cut, 999 + m)
    · rw [if_pos q]
    · rw [if_neg q]
      exact (le_anti q u1).symm
end

/-! ### min(a, b) of pairs -/
section
open PySem PySem.W PySem.SeqAt
theorem call_min_twoH {prog : Program} {w : World} {A : Around} {E : Value → Shared → Prop} {s : Shared} {a b : Value} {Q : Value → Shared → Prop}
    (h : wpAny (model prog w) A.in1 (pyIter (.ref s.heap.objs.size)) (fun it s₂ => ∃ I fp wr G n P St H bt, it = .ref I ∧ WalksS prog w A.in1 I fp wr G n P St ∧ St 0 s₂ ∧ (∀ b ∈ fp, b < s₂.heap.objs.size) ∧ 0 < n ∧
      (∀ b o, H.get? b = some o → b ∉ wr) ∧ (∀ b o, H.get? b = some o → s₂.heap.get? b = some o) ∧ CmpIn prog w A.in1 .Lt H P bt ∧ ∀ v s', P (argBest bt (n - 1)) v → Moved wr G s₂ s' → Q v s') E
      { s with heap := s.heap.push { cls := .type "tuple", data := .seq #[a, b] } }) :
    wpAny (model prog w) A (call (.builtin "min") [a, b]) Q E s := by
  have hname : (toString "min" ++ toString ".loop" : String) = "min.loop" := by decide
  refine call_function_tree F.kind_min F.plain_min F.entry_min (F.args_min2 _ _) ?_
  show wpAny _ A.in1 (Builtin.Builtins.bindParams "min" ["key", "default"] 0 ⟨[], []⟩ >>= _) _ _ s
  refine wpAny_bind (wpAny_of_eq (show Builtin.Builtins.bindParams "min" ["key", "default"] 0 ⟨[], []⟩ = pure [none, none] from rfl) ?_)
  show wpAny _ A.in1 (newTuple [a, b] >>= _) _ _ s
  refine wpAny_bind (wpAny_newObj_type ?_)
  refine wpAny_bind (wpAny_mono h (fun it s₂ h₂ => ?_) fun _ _ e => e)
  obtain ⟨I, fp, wr, G, n, P, St, H, bt, rfl, W, hst, hfp, hn, hw, hkeep, hcmp, hQ⟩ := h₂
  refine wpAny_bind (wpAny_newObj_type ?_)
  have hSf : s₂.heap.objs.size ∉ fp := fun hm => Nat.lt_irrefl _ (hfp _ hm)
  rw [hname]
  refine wpAny_pure ⟨plainId_quiet F.plain_min_loop _, codeAny_min_loop_firstH W H hw bt hcmp s₂.heap.objs.size hSf (fresh_in hkeep) _ hn (fun b o e => Heap.get?_push_of_some _ (hkeep b o e)) (W.frame 0 s₂ _ s₂.toks hst (Nat.le_refl _) fun b _ o e => Heap.get?_push_of_some _ e) (Heap.get?_push_size _ rfl) fun v s' hP hm => ?_⟩
  exact hQ v s' hP (Moved.drop_new (tk := s₂.toks) hm (Nat.le_refl _))
theorem min_two_data {prog : Program} {w : World} {A : Around} {E : Value → Shared → Prop} {s : Shared} {a b : Value} {x y : PyData} {as : List Addr} {Q : Value → Shared → Prop} (hh : A.handled = none) (hr : ReadsAll s.heap [a, b] [x, y] as) (ha : AlikeAll [x, y]) (hu : A.units + 1 + PyData.depthAll [x, y] < cLine)
    (h : ∀ (i : Nat) v h' tk bs, [a, b][i]? = some v → Reads h' v (minD x [y]) bs → (∀ b o, s.heap.get? b = some o → h'.get? b = some o) → Q v { s with heap := h', toks := tk }) :
    wpAny (model prog w) A (call (.builtin "min") [a, b]) Q E s := by
  have hk0 : ∀ c o, s.heap.get? c = some o → (s.heap.push { cls := .type "tuple", data := .seq #[a, b] }).get? c = some o := fun c o e => Heap.get?_push_of_some _ e
  have hT : (s.heap.push { cls := .type "tuple", data := .seq #[a, b] }).IsTuple s.heap.objs.size #[a, b] := ⟨_, Heap.get?_push_size _ rfl, rfl, 0, rfl⟩
  have hr1 : ReadsAll (s.heap.push { cls := .type "tuple", data := .seq #[a, b] }) (#[a, b] : Array Value).toList [x, y] as := ReadsAll.keeps hk0 hr
  refine call_min_twoH (iter_tupleW (A := A.in1) (s := { s with heap := s.heap.push { cls := .type "tuple", data := .seq #[a, b] } }) hh hT fun s₂ e W st hfp hw hk => ?_)
  refine ⟨_, _, _, _, _, _, _, s.heap.push { cls := .type "tuple", data := .seq #[a, b] }, _, rfl, W, st, hfp, Nat.zero_lt_two, hw, hk, cmpIn_lt (s := { s with heap := s.heap.push { cls := .type "tuple", data := .seq #[a, b] } }) (A := A.in1) hr1 ha (by show A.units + 1 + _ < _; exact hu), fun v s' hP m => ?_⟩
  obtain ⟨h', tk, rfl, hk'⟩ := moved_old e rfl m
  obtain ⟨bs, r, _, _, _⟩ := readsAll_atA hr1 _ v hP
  have e2 := (argBest_fold dataLt PyData.none x [y] 1 (Nat.le_refl _)).2
  have e3 : [y].take 1 = [y] := rfl
  rw [e3] at e2
  have r2 : Reads (s.heap.push { cls := .type "tuple", data := .seq #[a, b] }) v (minD x [y]) bs := by unfold minD; rw [← e2]; exact r
  exact h _ v h' tk bs (by have : (#[a, b] : Array Value)[_]? = some v := hP; simpa using this) (reads_keeps hk' r2) fun c o e => hk' c o (hk0 c o e)
end
theorem cr_minT2 {X : Cx} (hc : X.calm = true) (hu : X.A.units + 64 < cLine) : CallR X (.builtin "min") (fun vs H Q => ∃ (u v : V) (s t : Toll), vs = [u, v] ∧ TlAt H u s ∧ TlAt H v t ∧ ∀ z, TlAt H z (minT s t) → Q z H) := by
  intro pins s σ H vs us Q I r h
  obtain ⟨u, v, a, b, rfl, hu1, hv1, q1⟩ := h
  obtain ⟨w1, w2, rfl, e1, e2⟩ : ∃ w1 w2, us = [w1, w2] ∧ RelV u w1 ∧ RelV v w2 := by
    cases r with
    | cons x r => cases r with
      | cons y r => cases r; exact ⟨_, _, rfl, x, y⟩
  obtain ⟨as, rs⟩ := Dp.readsAll I [pD a, pD b] _ _ (.cons (hu1.dp (K := X.K)) (.cons hv1.dp .nil)) (show Vals [u, v] [w1, w2] from .cons e1 (.cons e2 .nil))
  have hd1 := depthAll_pD [a, b]
  refine min_two_data (I.ok.hd hc) rs (alike_pD [a, b]) (by show X.A.units + 1 + PyData.depthAll ([a, b].map pD) < cLine; omega) fun i z h' tk bs hv rd hk => ?_
  rw [show PySem.W.minD (pD a) [pD b] = pD (minT a b) from minD_pD [b] a] at rd
  have fin : ∀ (x : V) (t : Toll), TlAt H x t → RelV x z → ∃ v H', Inv X pins σ H' { s with heap := h', toks := tk } ∧ RelV v z ∧ Q v H' := fun x t hxt rx => by
    obtain ⟨as2, rd2⟩ := Dp.reads I _ _ _ (hxt.dp (K := X.K)) rx
    have e := (PyProof.Rows.reads_det (fun b o q _ => hk b o q) rd2 rd).1
    have e := pD_inj e
    exact ⟨x, H, I.kept (t' := tk) hk, rx, q1 x (by rw [e]; exact hxt)⟩
  match i, hv with
  | 0, hv => cases hv; exact fin u a hu1 e1
  | 1, hv => cases hv; exact fin v b hv1 e2
theorem k_minT2 {X : Cx} {H : Hp} {Q : VK} {u v : V} {s t : Toll} [cc : CxC X] (hu : X.A.units + 64 < cLine) (h1 : TlAt H u s) (h2 : TlAt H v t) (q : ∀ z, TlAt H z (minT s t) → Q z H) : kW X (.builtin "min") [u, v] H Q := kI (cr_minT2 cc.h hu) ⟨u, v, s, t, rfl, h1, h2, q⟩

theorem mulw' {n m : Nat} (h1 : n ≤ 1000000) (h2 : ((m : Nat) : Int) ≤ top60) : CMulW ((m : Nat) : Int) ((n : Nat) : Int) := by
  have := mulw h1 h2
  unfold CMulW at this ⊢
  omega
theorem rep_one {α : Type} (n : Nat) (x : α) : (List.replicate n [x]).flatten = List.replicate n x := by
  induction n with
  | zero => rfl
  | succ n ih => rw [List.replicate_succ, List.flatten_cons, ih]; rfl
theorem abc_val {i : Int} {c : Nat} (e : atI (tl (Str.ofString "ABCDEFGHIJKLMNOPQRSTUVWXYZ")) i = some c) (h0 : 0 ≤ i) : c = (65 + i).toNat := by
  rw [abc_tl] at e
  unfold atI ixN at e
  rw [if_pos h0] at e
  by_cases h : i < (abcL.length : Nat)
  · rw [if_pos h] at e
    have e : abcL[i.toNat]? = some c := e
    have hl : abcL.length = 26 := rfl
    have : ∀ k : Fin 26, abcL[(k : Nat)]? = some (65 + (k : Nat)) := by decide
    have := this ⟨i.toNat, by omega⟩
    rw [e] at this
    have := Option.some.inj this
    have : c = 65 + i.toNat := this
    omega
  · rw [if_neg h] at e; cases e
def nmG (f k : Nat) : Str := ⟨#[65 + f + k]⟩
theorem nmG_inj {f a b : Nat} (h : nmG f a = nmG f b) : a = b := by
  unfold nmG at h
  injection h with h
  injection h with h
  have := (List.cons.inj h).1
  omega
theorem nmG_name {f k : Nat} (h : f + k ≤ 25) : isNameS (nmG f k) = true := (Letters.one (c := 65 + f + k) (by omega) (by omega)).name (by decide) (by decide)
def restI (f m i : Nat) : List Rl := ⟨nmG f 1, nmG f 4 :: nmG f 3 :: List.replicate m (nmG f 2), 0⟩ :: ⟨nmG f 2, [], 2⟩ :: (List.range i).map fun k => ⟨nmG f (k + 3), [nmG f (k + 2), nmG f (k + 2)], 1⟩
theorem restI_step (f m i : Nat) : restI f m (i + 1) = restI f m i ++ [⟨nmG f (i + 3), [nmG f (i + 2), nmG f (i + 2)], 1⟩] := by
  unfold restI
  rw [List.range_succ, List.map_append]
  rfl
def headG (f : Nat) (two : Bool) : List Rl := ⟨nmG f 0, [nmG f 10, nmG f 9, nmG f 8, nmG f 7, nmG f 6, nmG f 1], 1⟩ :: (if two = true then [⟨nmG f 0, [sgn 43], 1⟩] else [])
theorem grt_mk {f m : Nat} {two : Bool} {rest : List Rl} (hf : f ≤ 15) (hm : m ≤ 4) (hr : ∀ r, r ∈ rest ↔ r ∈ restI f m 8) (hl : rest.length ≤ 50) : Grt (headG f two ++ rest) (nmG f) two m := by
  have mem : ∀ r, r ∈ headG f two ++ rest ↔ (r = ⟨nmG f 0, [nmG f 10, nmG f 9, nmG f 8, nmG f 7, nmG f 6, nmG f 1], 1⟩ ∨ (two = true ∧ r = ⟨nmG f 0, [sgn 43], 1⟩) ∨ r = ⟨nmG f 1, nmG f 4 :: nmG f 3 :: List.replicate m (nmG f 2), 0⟩ ∨ r = ⟨nmG f 2, [], 2⟩ ∨ ∃ k, k < 8 ∧ r = ⟨nmG f (k + 3), [nmG f (k + 2), nmG f (k + 2)], 1⟩) := fun r => by
    rw [List.mem_append, hr]
    unfold headG restI
    simp only [List.mem_cons, List.mem_map, List.mem_range]
    constructor
    · rintro ((h | h) | h | h | ⟨k, hk, h⟩)
      · exact .inl h
      · split at h
        · rename_i ht; exact .inr (.inl ⟨ht, List.mem_singleton.mp h⟩)
        · cases h
      · exact .inr (.inr (.inl h))
      · exact .inr (.inr (.inr (.inl h)))
      · exact .inr (.inr (.inr (.inr ⟨k, hk, h.symm⟩)))
    · rintro (h | ⟨ht, h⟩ | h | h | ⟨k, hk, h⟩)
      · exact .inl (.inl h)
      · exact .inl (.inr (by rw [if_pos ht, h]; exact List.mem_singleton_self _))
      · exact .inr (.inl h)
      · exact .inr (.inr (.inl h))
      · exact .inr (.inr (.inr ⟨k, hk, h.symm⟩))
  have np : ∀ k, k ≤ 10 → isPartS (nmG f k) = true := fun k hk => by rw [isPartS, nmG_name (by omega), Bool.or_true]
  have t60 : (2 : Int) ≤ top60 := by decide +kernel
  have gd : ∀ r ∈ headG f two ++ rest, GoodR r := fun r h => by
    rcases (mem r).mp h with rfl | ⟨_, rfl⟩ | rfl | rfl | ⟨k, hk, rfl⟩
    · exact ⟨nmG_name (by omega), by show 6 ≤ 6; decide, fun p hp => by
        simp only [List.mem_cons, List.not_mem_nil, or_false] at hp
        rcases hp with rfl | rfl | rfl | rfl | rfl | rfl <;> exact np _ (by decide), by show (0 : Int) ≤ 1; decide, by show (1 : Int) ≤ top60; omega⟩
    · exact ⟨nmG_name (by omega), by show 1 ≤ 6; decide, fun p hp => by rw [List.mem_singleton.mp hp]; decide +kernel, by show (0 : Int) ≤ 1; decide, by show (1 : Int) ≤ top60; omega⟩
    · exact ⟨nmG_name (by omega), by simp only [List.length_cons, List.length_replicate]; omega, fun p hp => by
        rcases List.mem_cons.mp hp with rfl | hp
        · exact np _ (by decide)
        · rcases List.mem_cons.mp hp with rfl | hp
          · exact np _ (by decide)
          · rw [(List.mem_replicate.mp hp).2]; exact np _ (by decide), by show (0 : Int) ≤ 0; decide, by show (0 : Int) ≤ top60; omega⟩
    · exact ⟨nmG_name (by omega), by show 0 ≤ 6; decide, fun p hp => (by cases hp), by show (0 : Int) ≤ 2; decide, t60⟩
    · exact ⟨nmG_name (by omega), by show 2 ≤ 6; decide, fun p hp => by
        simp only [List.mem_cons, List.not_mem_nil, or_false] at hp
        rcases hp with rfl | rfl <;> exact np _ (by omega), by show (0 : Int) ≤ 1; decide, by show (1 : Int) ≤ top60; omega⟩
  have hlen : (headG f two ++ rest).length ≤ 60 := by
    rw [List.length_append]
    have : (headG f two).length ≤ 2 := by
      unfold headG
      split
      · exact Nat.le_refl 2
      · show 1 ≤ 2; decide
    omega
  refine ⟨⟨hlen, gd⟩, fun k hk => name_sg (nmG_name (by omega)), ⟨_, rfl, rfl⟩, fun r h e => ?_, fun r h e => ?_, fun r h e => ?_, fun k k2 k9 r h e => ?_, ⟨_, (mem _).mpr (.inl rfl), rfl, rfl⟩, fun ht => ⟨_, (mem _).mpr (.inr (.inl ⟨ht, rfl⟩)), rfl, rfl⟩, ⟨_, (mem _).mpr (.inr (.inr (.inl rfl))), rfl, rfl⟩, ⟨_, (mem _).mpr (.inr (.inr (.inr (.inl rfl)))), rfl, rfl⟩, fun k k2 k9 => ⟨_, (mem _).mpr (.inr (.inr (.inr (.inr ⟨k - 2, by omega, rfl⟩)))), by show nmG f (k - 2 + 3) = _; rw [show k - 2 + 3 = k + 1 by omega], by show [nmG f (k - 2 + 2), nmG f (k - 2 + 2)] = _; rw [show k - 2 + 2 = k by omega]⟩⟩
  · rcases (mem r).mp h with rfl | ⟨ht, rfl⟩ | rfl | rfl | ⟨k, hk, rfl⟩
    · exact .inl rfl
    · exact .inr ⟨ht, rfl⟩
    · have := nmG_inj e; omega
    · have := nmG_inj e; omega
    · have := nmG_inj e; omega
  · rcases (mem r).mp h with rfl | ⟨ht, rfl⟩ | rfl | rfl | ⟨k, hk, rfl⟩
    · have := nmG_inj e; omega
    · have := nmG_inj e; omega
    · rfl
    · have := nmG_inj e; omega
    · have := nmG_inj e; omega
  · rcases (mem r).mp h with rfl | ⟨ht, rfl⟩ | rfl | rfl | ⟨k, hk, rfl⟩
    · have := nmG_inj e; omega
    · have := nmG_inj e; omega
    · have := nmG_inj e; omega
    · rfl
    · have := nmG_inj e; omega
  · rcases (mem r).mp h with rfl | ⟨ht, rfl⟩ | rfl | rfl | ⟨j, hj, rfl⟩
    · have := nmG_inj e; omega
    · have := nmG_inj e; omega
    · have := nmG_inj e; omega
    · have := nmG_inj e; omega
    · have := nmG_inj e
      have : j + 2 = k := by omega
      show [nmG f (j + 2), nmG f (j + 2)] = _
      rw [this]
/-- no row -/
structure Brn (rs : List Rl) : Prop where
  good : GoodG rs
  no : rs = [] ∨ ∃ r0 : Rl, rs[0]? = some r0 ∧ ∀ row made, rg rs (rowD row) [r0.head] ≠ some made
theorem Brn.toll {rs : List Rl} (B : Brn rs) {c : Cst} {t : List Nat} : rs = [] ∨ ∃ r0 : Rl, rs[0]? = some r0 ∧ ∀ F, Tolled rs c t F → lk F (.pt r0.head 0 t.length) = none := by
  rcases B.no with h | ⟨r0, h0, h⟩
  · exact .inl h
  · refine .inr ⟨r0, h0, fun F T => ?_⟩
    cases e : lk F (.pt r0.head 0 t.length) with
    | none => rfl
    | some v =>
      obtain ⟨dd, row, made, M⟩ := mdd_ex T B.good h0 e
      exact absurd M.rd (h row made)
theorem brn2 {one other : Str} (h1 : isNameS one = true) (h2 : isNameS other = true) (hne : other ≠ one) : Brn [⟨one, [one, sgn 120], 3⟩, ⟨other, [], 0⟩, ⟨one, [other, one, other], 0⟩] := by
  have p1 : isPartS one = true := by rw [isPartS, h1, Bool.or_true]
  have p2 : isPartS other = true := by rw [isPartS, h2, Bool.or_true]
  have t60 : (3 : Int) ≤ top60 := by decide +kernel
  have good : GoodG [⟨one, [one, sgn 120], 3⟩, ⟨other, [], 0⟩, ⟨one, [other, one, other], 0⟩] := ⟨by show 3 ≤ 60; decide, fun r hr => by
    simp only [List.mem_cons, List.not_mem_nil, or_false] at hr
    rcases hr with rfl | rfl | rfl
    · exact ⟨h1, by show 2 ≤ 6; decide, fun p hp => by
        simp only [List.mem_cons, List.not_mem_nil, or_false] at hp
        rcases hp with rfl | rfl
        · exact p1
        · decide +kernel, by show (0 : Int) ≤ 3; decide, t60⟩
    · exact ⟨h2, by show 0 ≤ 6; decide, fun p hp => (by cases hp), by show (0 : Int) ≤ 0; decide, by show (0 : Int) ≤ top60; omega⟩
    · exact ⟨h1, by show 3 ≤ 6; decide, fun p hp => by
        simp only [List.mem_cons, List.not_mem_nil, or_false] at hp
        rcases hp with rfl | rfl | rfl
        · exact p2
        · exact p1
        · exact p2, by show (0 : Int) ≤ 0; decide, by show (0 : Int) ≤ top60; omega⟩⟩
  have hsg := fun r hr => hd_name good (r := r) hr
  refine ⟨good, .inr ⟨_, rfl, ?_⟩⟩
  have go : ∀ (N : Nat) (row made : List Nat), row.length < N → rg [⟨one, [one, sgn 120], 3⟩, ⟨other, [], 0⟩, ⟨one, [other, one, other], 0⟩] (rowD row) [one] ≠ some made := fun N => by
    induction N with
    | zero => intro row made h; exact absurd h (Nat.not_lt_zero _)
    | succ N ih =>
      intro row made hl h
      obtain ⟨d, ds, r, rfl, hr, hh, e⟩ := rg_first (name_sg h1) h
      rw [List.length_cons] at hl
      have hrm := List.mem_of_getElem? hr
      simp only [List.mem_cons, List.not_mem_nil, or_false] at hrm
      rcases hrm with rfl | rfl | rfl
      · obtain ⟨d1, d2, m1, m2, rfl, _, e1, _⟩ := rg_split hsg ds.length ds [one] [sgn 120] made (Nat.le_refl _) e
        rw [List.length_append] at hl
        exact ih d1 m1 (by omega) e1
      · exact hne hh
      · obtain ⟨d1, d2, m1, m2, rfl, _, _, e2⟩ := rg_split hsg ds.length ds [other] [one, other] made (Nat.le_refl _) e
        obtain ⟨d3, d4, m3, m4, rfl, _, e3, _⟩ := rg_split hsg d2.length d2 [one] [other] m2 (Nat.le_refl _) e2
        rw [List.length_append, List.length_append] at hl
        exact ih d3 m3 (by omega) e3
  exact fun row made => go _ row made (Nat.lt_succ_self _)
theorem brn3 {one other : Str} (h1 : isNameS one = true) (h2 : isNameS other = true) (hne : other ≠ one) : Brn [⟨one, [sgn 120, other], 3⟩, ⟨one, [other, other], 1⟩] := by
  have p2 : isPartS other = true := by rw [isPartS, h2, Bool.or_true]
  have t60 : (3 : Int) ≤ top60 := by decide +kernel
  have good : GoodG [⟨one, [sgn 120, other], 3⟩, ⟨one, [other, other], 1⟩] := ⟨by show 2 ≤ 60; decide, fun r hr => by
    simp only [List.mem_cons, List.not_mem_nil, or_false] at hr
    rcases hr with rfl | rfl
    · exact ⟨h1, by show 2 ≤ 6; decide, fun p hp => by
        simp only [List.mem_cons, List.not_mem_nil, or_false] at hp
        rcases hp with rfl | rfl
        · decide +kernel
        · exact p2, by show (0 : Int) ≤ 3; decide, t60⟩
    · exact ⟨h1, by show 2 ≤ 6; decide, fun p hp => by
        simp only [List.mem_cons, List.not_mem_nil, or_false] at hp
        rcases hp with rfl | rfl
        · exact p2
        · exact p2, by show (0 : Int) ≤ 1; decide, by show (1 : Int) ≤ top60; omega⟩⟩
  have hsg := fun r hr => hd_name good (r := r) hr
  have no : ∀ (row made : List Nat), rg [⟨one, [sgn 120, other], 3⟩, ⟨one, [other, other], 1⟩] (rowD row) [other] ≠ some made := fun row made h => by
    obtain ⟨d, ds, r, rfl, hr, hh, e⟩ := rg_first (name_sg h2) h
    have hrm := List.mem_of_getElem? hr
    simp only [List.mem_cons, List.not_mem_nil, or_false] at hrm
    rcases hrm with rfl | rfl <;> exact hne hh.symm
  refine ⟨good, .inr ⟨_, rfl, fun row made h => ?_⟩⟩
  obtain ⟨d, ds, r, rfl, hr, hh, e⟩ := rg_first (name_sg h1) h
  have hrm := List.mem_of_getElem? hr
  simp only [List.mem_cons, List.not_mem_nil, or_false] at hrm
  rcases hrm with rfl | rfl
  · obtain ⟨d1, d2, m1, m2, rfl, _, _, e2⟩ := rg_split hsg ds.length ds [sgn 120] [other] made (Nat.le_refl _) e
    exact no _ _ e2
  · obtain ⟨d1, d2, m1, m2, rfl, _, _, e2⟩ := rg_split hsg ds.length ds [other] [other] made (Nat.le_refl _) e
    exact no _ _ e2
def R_law_great (K : PySem.W.Frag) : V → Hp → VK → XK → Prop := fun x H Q _ => ∃ i : Int, x = .int i ∧ 0 ≤ i ∧ ∀ l vs rs f H', Same H H' → H l = none → H' l = some (.lst vs) → RulesAt H' vs rs → Grt rs (nmG f) (decide (i / 5 % 2 = 1)) (i % 5).toNat → rs.length ≤ 60 → Q (.ref l) H'
section
theorem ok_law_great {f : Addr} {fd : FuncData} (F : Fun K "_law_great" "_law_great" s_law_great f fd) (T : Txt K mg cs) : FnOk P w K mg base (L2.CX P w) 1 f fd ["_law_way"] (sp1 (R_law_great K)) := by
  refine F.okX sc_law_great (fun vs H Q E h => sp1_len h) (fun cdv A outer s H vs Q E hr h => ⟨_, PBw (X := X_law_great P w K mg base f cdv A outer s H E), ?_⟩)
  obtain ⟨a0, rfl, h⟩ := h
  have ib_range := T.b_range
  have hr' : Room 0 (X_law_great P w K mg base f cdv A outer s H E).A := hr
  replace hr := hr'
  clear hr'
  obtain ⟨i, rfl, i0, h⟩ := h
  obtain ⟨f, ef, hf⟩ : ∃ f : Nat, i / 80 % 16 = ((f : Nat) : Int) ∧ f ≤ 15 := ⟨(i / 80 % 16).toNat, by omega, by omega⟩
  obtain ⟨m, em, hm⟩ : ∃ m : Nat, i % 5 = ((m : Nat) : Int) ∧ m ≤ 4 := ⟨(i % 5).toNat, by omega, by omega⟩
  rw [em, Int.toNat_natCast] at h
  kxs_still
  rw [ef]
  refine s_setLcP (blkOk_by (sc := defScope s_law_great) (own := [("_law_k", 4)]) (by decide +kernel)) (fun i y => ∃ x, (List.range 11)[i]? = some x ∧ y = V.str (nmG f x)) (j_rng1 ?_)
  kxs_still
  refine ⟨by decide, by decide, _, _, _, walk_range0, by decide, fun _ _ => trivial, ?_, ?_⟩
  · rintro n x H' H2 hn s' ⟨rfl, rfl⟩
    have hn : n < 11 := hn
    refine ⟨Same.refl _, fun _ _ _ _ _ => ?_⟩
    kxs_still
    refine ⟨rfl, Same.refl _, fun _ _ _ _ _ => ?_⟩
    kxs_still
    obtain ⟨ch, e1, e2, e3⟩ := abc_at (i := ((f : Nat) : Int) + ((n : Nat) : Int)) (by omega) (by omega) abc_tl
    have ec := abc_val e1 (by omega)
    refine i_str (by decide +kernel) e1 ?_
    exact ⟨⟨n, by rw [List.getElem?_range hn], by rw [ec]; unfold nmG; rw [show (65 + (((f : Nat) : Int) + ((n : Nat) : Int))).toNat = 65 + f + n by omega]⟩, Same.refl _⟩
  intro l1 H1 ys s1 n1 k1 hyl hy
  have e := list_by (f := fun x => V.str (nmG f x)) (xs := List.range 11) (by rw [hyl]; rfl) hy
  rw [e] at k1
  have k1' : H1 l1 = some (.lst [.str (nmG f 0), .str (nmG f 1), .str (nmG f 2), .str (nmG f 3), .str (nmG f 4), .str (nmG f 5), .str (nmG f 6), .str (nmG f 7), .str (nmG f 8), .str (nmG f 9), .str (nmG f 10)]) := k1
  clear hy hyl e k1
  kxs_still
  intro t2 H2 s2 n2 k2 f2
  kxs_still
  intro t3 H3 s3 n3 k3 f3
  kxs_still
  refine o_catT (s3 _ _ k2) k3 (by show 3 + 3 ≤ 100000; decide) fun t4 H4 s4 k4 => ?_
  kxs_still
  intro t5 H5 s5 n5 k5 f5
  kxs_still
  intro l6 H6 s6 n6 k6 f6
  have s16 := s2.trans (s3.trans (s4.trans (s5.trans s6)))
  have q4 := (s5.trans s6) _ _ k4
  have q5 := s6 _ _ k5
  have n06 : H l6 = none := (s1.trans (s2.trans (s3.trans (s4.trans s5)))).none n6
  show bW _ _ _ _ _
  refine b_cons (sMono (fun σ' H' => ∃ vs, σ' = [some (.int i), some (.str (Str.ofString "ABCDEFGHIJKLMNOPQRSTUVWXYZ")), some (.int ((f : Nat) : Int)), some (.ref l1), none, some (.ref t4), some (.ref l6), none, none] ∧ (∀ b o, b ≠ l6 → H6 b = some o → H' b = some o) ∧ H' l6 = some (.lst vs) ∧ RulesAt H' vs (headG f (decide (i / 5 % 2 = 1)))) ?_ ?_)
  · kxs_still
    refine iteD (fun c => ?_) fun c => ?_
    · kxs_still
      refine ⟨ty_l k6, ?_⟩
      kxs_still
      intro t7 H7 s7 n7 k7 f7
      kxs_still
      intro t8 H8 s8 n8 k8 f8
      kxs_still
      refine m_append ((s7.trans s8) _ _ k6) (by show 1 < 16000000; decide) fun H9 k9 f9 => ?_
      have ts9 : TS H8 H9 := TS.butL ((s7.trans s8) _ _ k6) f9
      kxs_still
      refine ⟨_, rfl, fun b o hb e => (f9 b hb).trans ((s7.trans s8) _ _ e), k9, ?_⟩
      rw [decide_eq_true c]
      exact .cons ⟨t5, t4, rfl, ts9 _ _ ((s7.trans s8) _ _ q5), ts9 _ _ ((s7.trans s8) _ _ q4)⟩ (.cons ⟨t8, t7, rfl, ts9 _ _ k8, ts9 _ _ (s8 _ _ k7)⟩ .nil)
    · kxs_still
      refine ⟨_, rfl, fun _ _ _ e => e, k6, ?_⟩
      rw [decide_eq_false c]
      exact .cons ⟨t5, t4, rfl, q5, q4⟩ .nil
  rintro σ' H7 ⟨vsh, rfl, f7, k7, hRh⟩
  have ne16 : l1 ≠ l6 := fun z => by rw [← z, (s2.trans (s3.trans (s4.trans s5))) _ _ k1'] at n6; cases n6
  have k17 := f7 _ _ ne16 (s16 _ _ k1')
  have s07 : Same H H7 := fun b o q => f7 b o (fun z => by rw [z, n06] at q; cases q) ((s1.trans s16) _ _ q)
  kxs_still
  intro t8 H8 s8 n8 k8 f8
  kxs_still
  intro t9 H9 s9 n9 k9 f9
  kxs_still
  refine o_repTA k9 (List.cons_ne_nil _ _) (by omega) (by omega) (by show 1 ≤ 1000; decide) fun t10 H10 s10 k10 => ?_
  rw [em, Int.toNat_natCast, rep_one] at k10
  refine o_catT ((s9.trans s10) _ _ k8) k10 (by rw [List.length_replicate]; show 2 + m ≤ 100000; omega) fun t11 H11 s11 k11 => ?_
  kxs_still
  intro t12 H12 s12 n12 k12 f12
  kxs_still
  intro t13 H13 s13 n13 k13 f13
  kxs_still
  intro t14 H14 s14 n14 k14 f14
  kxs_still
  intro l15 H15 s15 n15 k15 f15
  have s715 := s8.trans (s9.trans (s10.trans (s11.trans (s12.trans (s13.trans (s14.trans s15))))))
  have q11 := (s12.trans (s13.trans (s14.trans s15))) _ _ k11
  have q12 := (s13.trans (s14.trans s15)) _ _ k12
  have q13 := (s14.trans s15) _ _ k13
  have q14 := s15 _ _ k14
  have q7 := s715 _ _ k7
  have q1 := s715 _ _ k17
  have hRh15 := hRh.ts (Same.ts s715)
  have n7l : H7 l15 = none := (s8.trans (s9.trans (s10.trans (s11.trans (s12.trans (s13.trans s14)))))).none n15
  have hR0 : RulesAt H15 [.ref t12, .ref t14] (restI f m 0) := .cons ⟨t12, t11, rfl, q12, by rw [q11, List.map_cons, List.map_cons, List.map_replicate]; rfl⟩ (.cons ⟨t14, t13, rfl, q14, q13⟩ .nil)
  kxs_still
  refine s_for (j_rng2 ?_)
  kxs_still
  refine ⟨by decide, _, _, _, walk_range, fun n σ' H' => ∃ vs v4, σ' = [some (.int i), some (.str (Str.ofString "ABCDEFGHIJKLMNOPQRSTUVWXYZ")), some (.int ((f : Nat) : Int)), some (.ref l1), v4, some (.ref t4), some (.ref l6), some (.ref t11), some (.ref l15)] ∧ (∀ b o, b ≠ l15 → H15 b = some o → H' b = some o) ∧ H' l15 = some (.lst vs) ∧ RulesAt H' vs (restI f m n), ⟨_, none, rfl, fun _ _ _ e => e, k15, hR0⟩, fun _ _ _ _ _ => trivial, ?_, ?_⟩
  · rintro n x σ' H' H16 hn ⟨vs, v4, rfl, f16, k16, hR16⟩ ⟨rfl, hx⟩
    have hn8 : n < 8 := hn
    obtain rfl : x = .int (3 + ((n : Nat) : Int)) := hx
    have n16 := f16 _ _ (fun z => by rw [z, k15] at q1; cases q1) q1
    have at' : ∀ k : Nat, k < 11 → atI [V.str (nmG f 0), .str (nmG f 1), .str (nmG f 2), .str (nmG f 3), .str (nmG f 4), .str (nmG f 5), .str (nmG f 6), .str (nmG f 7), .str (nmG f 8), .str (nmG f 9), .str (nmG f 10)] ((k : Nat) : Int) = some (.str (nmG f k)) := fun k hk => by
      refine atI_nat (Int.natCast_nonneg k) ?_
      show ((List.range 11).map fun x => V.str (nmG f x))[(((k : Nat) : Int)).toNat]? = _
      rw [Int.toNat_natCast, List.getElem?_map, List.getElem?_range hk]
      rfl
    have a1 := at' (n + 3) (by omega)
    have a2 := at' (n + 2) (by omega)
    rw [show ((n + 3 : Nat) : Int) = 3 + ((n : Nat) : Int) by omega] at a1
    rw [show ((n + 2 : Nat) : Int) = 3 + ((n : Nat) : Int) - 1 by omega] at a2
    have hvl := hR16.len
    have hrl : (restI f m n).length ≤ 10 := by unfold restI; rw [List.length_cons, List.length_cons, List.length_map, List.length_range]; omega
    kxs_still
    refine ⟨ty_l k16, ?_⟩
    kxs_still
    intro t17 H17 s17 n17 k17' f17
    kxs_still
    intro t18 H18 s18 n18 k18 f18
    kxs_still
    refine m_append ((s17.trans s18) _ _ k16) (by omega) fun H19 k19 f19 => ?_
    have ts19 : TS H18 H19 := TS.butL ((s17.trans s18) _ _ k16) f19
    kxs_still
    refine ⟨_, _, rfl, fun b o hb e => (f19 b hb).trans ((s17.trans s18) _ _ (f16 b o hb e)), k19, ?_⟩
    rw [restI_step]
    exact (hR16.ts ((Same.ts (s17.trans s18)).trans ts19)).app (.cons ⟨t18, t17, rfl, ts19 _ _ k18, ts19 _ _ (s18 _ _ k17')⟩ .nil)
  rintro σ' H16 ⟨vs, v4, rfl, f16, k16, hR16⟩
  have e8 : ((11 : Int) - 3).toNat = 8 := rfl
  rw [e8] at hR16
  have ne6 : l6 ≠ l15 := fun z => by rw [← z, (s8.trans (s9.trans (s10.trans (s11.trans (s12.trans (s13.trans s14)))))) _ _ k7] at n15; cases n15
  have q716 := f16 _ _ ne6 q7
  have s716 : Same H7 H16 := fun b o q => f16 b o (fun z => by rw [z, n7l] at q; cases q) (s715 _ _ q)
  have hRh16 := hRh.ts (Same.ts s716)
  have hvl := hR16.len
  have hvh := hRh16.len
  have hrl : (restI f m 8).length = 10 := by unfold restI; rw [List.length_cons, List.length_cons, List.length_map, List.length_range]
  have hhl : (headG f (decide (i / 5 % 2 = 1))).length ≤ 2 := by
    unfold headG
    split
    · exact Nat.le_refl 2
    · show 1 ≤ 2; decide
  show bW _ _ _ _ _
  refine b_cons (sMono (fun σ' H' => ∃ vs rs, σ' = [some (.int i), some (.str (Str.ofString "ABCDEFGHIJKLMNOPQRSTUVWXYZ")), some (.int ((f : Nat) : Int)), some (.ref l1), v4, some (.ref t4), some (.ref l6), some (.ref t11), some (.ref l15)] ∧ Same H7 H' ∧ H' l15 = some (.lst vs) ∧ RulesAt H' vs rs ∧ (∀ r, r ∈ rs ↔ r ∈ restI f m 8) ∧ rs.length = 10) ?_ ?_)
  · kxs_still
    refine iteD (fun c => ?_) fun c => ?_
    · kxs_still
      refine e_reverse ?_
      kxs_still
      refine ⟨ty_l k16, ?_⟩
      refine m_reverse k16 fun H17 k17' f17 => ?_
      kxs_still
      exact ⟨_, _, rfl, fun b o q => (f17 b (fun z => by rw [z, n7l] at q; cases q)).trans (s716 _ _ q), k17', (hR16.ts (TS.butL k16 f17)).rev, fun r => List.mem_reverse, by rw [List.length_reverse]; exact hrl⟩
    · kxs_still
      exact ⟨_, _, rfl, s716, k16, hR16, fun _ => Iff.rfl, hrl⟩
  rintro σ' H17 ⟨vs2, rs2, rfl, s717, k17', hR17, hmem, hlen⟩
  have hvl2 := hR17.len
  have q717 := s717 _ _ k7
  have hRh17 := hRh.ts (Same.ts s717)
  kxs_still
  refine o_catL q717 k17' (by omega) fun l20 H20 s20 n20 k20 _ => ?_
  refine h l20 _ _ f H20 (s07.trans (s717.trans s20)) (s07.none (s717.none n20)) k20 ((hRh17.app hR17).ts (Same.ts s20)) (grt_mk hf hm hmem (by omega)) (by rw [List.length_append]; omega)
end
theorem df_law_great (T : Txt K mg cs) : Df P w K mg base "_law_great" 1 ["_law_way"] (sp1 (R_law_great K)) := by
  obtain ⟨f, fd, hm, F, hb⟩ := T.f_law_great.ex
  exact ⟨f, fd, hm, F.kp, hb, ok_law_great F T⟩
def R_law_barren (K : PySem.W.Frag) : V → Hp → VK → XK → Prop := fun x H Q _ => ∃ i : Int, x = .int i ∧ 0 ≤ i ∧ ∀ l vs rs H', Same H H' → H l = none → H' l = some (.lst vs) → RulesAt H' vs rs → Brn rs → rs.length ≤ 3 → Q (.ref l) H'
section
theorem ok_law_barren {f : Addr} {fd : FuncData} (F : Fun K "_law_barren" "_law_barren" s_law_barren f fd) (T : Txt K mg cs) : FnOk P w K mg base (L2.CX P w) 1 f fd ["_law_way"] (sp1 (R_law_barren K)) := by
  refine F.okX sc_law_barren (fun vs H Q E h => sp1_len h) (fun cdv A outer s H vs Q E hr h => ⟨_, PBw (X := X_law_barren P w K mg base f cdv A outer s H E), ?_⟩)
  obtain ⟨a0, rfl, h⟩ := h
  have hr' : Room 0 (X_law_barren P w K mg base f cdv A outer s H E).A := hr
  replace hr := hr'
  clear hr'
  obtain ⟨i, rfl, i0, h⟩ := h
  obtain ⟨c, hc, c1, c2, c3⟩ : ∃ c, atI (tl (Str.ofString "QWERTYUI")) (i % 8) = some c ∧ 65 ≤ c ∧ c ≤ 90 ∧ (c ≠ 79 ∧ c ≠ 80 ∧ c ≠ 65) := atI_all (P := fun c => 65 ≤ c ∧ c ≤ 90 ∧ (c ≠ 79 ∧ c ≠ 80 ∧ c ≠ 65)) (by omega) (by show i % 8 < 8; omega) (by decide +kernel)
  obtain ⟨d, hd, d1, d2, d3⟩ : ∃ d, atI (tl (Str.ofString "OPA")) (i / 64 % 3) = some d ∧ 65 ≤ d ∧ d ≤ 90 ∧ (d = 79 ∨ d = 80 ∨ d = 65) := atI_all (P := fun d => 65 ≤ d ∧ d ≤ 90 ∧ (d = 79 ∨ d = 80 ∨ d = 65)) (by omega) (by show i / 64 % 3 < 3; omega) (by decide +kernel)
  kxs_still
  refine i_str (by decide +kernel) hc ?_
  kxs_still
  refine o_repS (by omega) (by omega) (by rw [one_len]; decide) fun one hone => ?_
  have L1 := (Letters.one c1 c2).rep hone
  rw [Nat.mul_one] at L1
  have n1 := L1.name (by omega) (by omega)
  have hl1 := L1.len
  kxs_still
  refine n_str (by rw [sizeLine_eq]; omega) ?_
  kxs_still
  refine i_str (by decide +kernel) hd ?_
  have L2 := (L1.from (i := 1) (by decide) (by omega)).app (Letters.one d1 d2)
  have hol : (cutS one (some 1) none ++ (⟨#[d]⟩ : Str)).length = one.length := by rw [L2.len, hl1]; show (1 + i / 8 % 8).toNat - 1 + 1 = _; omega
  refine o_cat (by rw [(L1.from (i := 1) (by decide) (by omega)).len, one_len, sizeLine_eq]; omega) ?_
  have n2 : isNameS (cutS one (some 1) none ++ (⟨#[d]⟩ : Str)) = true := L2.name (by omega) (by show (1 + i / 8 % 8).toNat - 1 + 1 ≤ 8; omega)
  have hne : cutS one (some 1) none ++ (⟨#[d]⟩ : Str) ≠ one := fun z => by
    have hm : d ∈ tl one := by
      rw [← z, tl_append]
      exact List.mem_append_right _ (List.mem_singleton_self d)
    rw [hone] at hm
    obtain ⟨q, hq, hdq⟩ := List.mem_flatten.mp hm
    rw [(List.mem_replicate.mp hq).2] at hdq
    have : d = c := List.mem_singleton.mp hdq
    omega
  generalize cutS one (some 1) none ++ (⟨#[d]⟩ : Str) = other at *
  kxs_still
  refine iteD (fun c0 => ?_) fun c0 => ?_
  · kxs_still
    intro l H1 s1 m1 k1 f1
    exact h l _ [] H1 s1 m1 k1 .nil ⟨⟨by show 0 ≤ 60; decide, fun r hr => (by cases hr)⟩, .inl rfl⟩ (by show 0 ≤ 3; decide)
  · kxs_still
    refine iteD (fun c4 => ?_) fun c4 => ?_
    · kxs_still
      intro t1 H1 s1 m1 k1 f1
      kxs_still
      intro t2 H2 s2 m2 k2 f2
      kxs_still
      intro t3 H3 s3 m3 k3 f3
      kxs_still
      intro t4 H4 s4 m4 k4 f4
      kxs_still
      intro t5 H5 s5 m5 k5 f5
      kxs_still
      intro t6 H6 s6 m6 k6 f6
      kxs_still
      intro l H7 s7 m7 k7 f7
      have e1 := (s2.trans (s3.trans (s4.trans (s5.trans (s6.trans s7))))) _ _ k1
      have e2 := (s3.trans (s4.trans (s5.trans (s6.trans s7)))) _ _ k2
      have e3 := (s4.trans (s5.trans (s6.trans s7))) _ _ k3
      have e4 := (s5.trans (s6.trans s7)) _ _ k4
      have e5 := (s6.trans s7) _ _ k5
      have e6 := s7 _ _ k6
      have sA := s1.trans (s2.trans (s3.trans (s4.trans (s5.trans s6))))
      have hR : RulesAt H7 [.ref t2, .ref t4, .ref t6] [⟨one, [one, sgn 120], 3⟩, ⟨other, [], 0⟩, ⟨one, [other, one, other], 0⟩] := .cons ⟨t2, t1, rfl, e2, e1⟩ (.cons ⟨t4, t3, rfl, e4, e3⟩ (.cons ⟨t6, t5, rfl, e6, e5⟩ .nil))
      exact h l _ _ H7 (sA.trans s7) (sA.none m7) k7 hR (brn2 n1 n2 hne) (Nat.le_refl 3)
    · kxs_still
      intro t1 H1 s1 m1 k1 f1
      kxs_still
      intro t2 H2 s2 m2 k2 f2
      kxs_still
      intro t3 H3 s3 m3 k3 f3
      kxs_still
      intro t4 H4 s4 m4 k4 f4
      kxs_still
      intro l H7 s7 m7 k7 f7
      have e1 := (s2.trans (s3.trans (s4.trans s7))) _ _ k1
      have e2 := (s3.trans (s4.trans s7)) _ _ k2
      have e3 := (s4.trans s7) _ _ k3
      have e4 := s7 _ _ k4
      have sA := s1.trans (s2.trans (s3.trans s4))
      have hR : RulesAt H7 [.ref t2, .ref t4] [⟨one, [sgn 120, other], 3⟩, ⟨one, [other, other], 1⟩] := .cons ⟨t2, t1, rfl, e2, e1⟩ (.cons ⟨t4, t3, rfl, e4, e3⟩ .nil)
      exact h l _ _ H7 (sA.trans s7) (sA.none m7) k7 hR (brn3 n1 n2 hne) (by show 2 ≤ 3; decide)
end
theorem df_law_barren (T : Txt K mg cs) : Df P w K mg base "_law_barren" 1 ["_law_way"] (sp1 (R_law_barren K)) := by
  obtain ⟨f, fd, hm, F, hb⟩ := T.f_law_barren.ex
  exact ⟨f, fd, hm, F.kp, hb, ok_law_barren F T⟩
theorem str_short {s : String} (h : (Str.ofString s).length ≤ 100) : (Str.ofString s).length ≤ 1000000 := Nat.le_trans h (by decide)
def R_law_odd_text (K : PySem.W.Frag) : V → Hp → VK → XK → Prop := fun x H Q _ => ∃ i : Int, x = .int i ∧ 0 ≤ i ∧ ∀ v d H', Same H H' → (∀ H'', Same H' H'' → Th K H'' v d) → isTextD d = false → Q v H'
section
theorem ok_law_odd_text {f : Addr} {fd : FuncData} (F : Fun K "_law_odd_text" "_law_odd_text" s_law_odd_text f fd) (T : Txt K mg cs) : FnOk P w K mg base (L2.CX P w) 1 f fd ["_law_way"] (sp1 (R_law_odd_text K)) := by
  refine F.okX sc_law_odd_text (fun vs H Q E h => sp1_len h) (fun cdv A outer s H vs Q E hr h => ⟨_, PBw (X := X_law_odd_text P w K mg base f cdv A outer s H E), ?_⟩)
  obtain ⟨a0, rfl, h⟩ := h
  have hr' : Room 0 (X_law_odd_text P w K mg base f cdv A outer s H E).A := hr
  replace hr := hr'
  clear hr'
  obtain ⟨i, rfl, i0, h⟩ := h
  kxs_still
  refine o_repS (by decide) (by decide) (by decide +kernel) fun z hz => ?_
  have hzl : z.length = 61 := by rw [len_tl, hz]; decide +kernel
  kxs_still
  intro l1 H1 s1 n1 k1 f1
  kxs_still
  intro l2 H2 s2 n2 k2 f2
  kxs_still
  obtain ⟨v, hv, d, hd, hb⟩ := ix_any (i := i % 5) k2 (fun v => ∃ d, (∀ H'', Same H2 H'' → Th K H'' v d) ∧ isTextD d = false) (fun x hx => by
    simp only [List.mem_cons, List.not_mem_nil, or_false] at hx
    rcases hx with rfl | rfl | rfl | rfl | rfl
    · refine ⟨.str z, fun _ _ => .str z (by omega), ?_⟩
      show (decide (z.length ≤ 60) && _) = false
      rw [decide_eq_false (by omega), Bool.false_and]
    · exact ⟨_, fun _ _ => .str _ (str_short (by decide +kernel)), by decide +kernel⟩
    · exact ⟨_, fun _ _ => .non, rfl⟩
    · exact ⟨_, fun H'' s => .lst (SqL.of (s _ _ (s2 _ _ k1))) (.cons (.str _ (str_short (by decide +kernel))) .nil), rfl⟩
    · exact ⟨_, fun _ _ => .int _, rfl⟩) (by omega) (by show i % 5 < 5; omega)
  refine i_lst (SqL.of k2) hv ?_
  exact h v d H2 (s1.trans s2) hd hb
end
theorem df_law_odd_text (T : Txt K mg cs) : Df P w K mg base "_law_odd_text" 1 ["_law_way"] (sp1 (R_law_odd_text K)) := by
  obtain ⟨f, fd, hm, F, hb⟩ := T.f_law_odd_text.ex
  exact ⟨f, fd, hm, F.kp, hb, ok_law_odd_text F T⟩
def R_law_odd_costs (K : PySem.W.Frag) : V → Hp → VK → XK → Prop := fun x H Q _ => ∃ i : Int, x = .int i ∧ 0 ≤ i ∧ ∀ v d H', Same H H' → (∀ H'', Same H' H'' → Th K H'' v d) → isCostsD d = false → Q v H'
section
theorem ok_law_odd_costs {f : Addr} {fd : FuncData} (F : Fun K "_law_odd_costs" "_law_odd_costs" s_law_odd_costs f fd) (T : Txt K mg cs) : FnOk P w K mg base (L2.CX P w) 1 f fd ["_law_way"] (sp1 (R_law_odd_costs K)) := by
  refine F.okX sc_law_odd_costs (fun vs H Q E h => sp1_len h) (fun cdv A outer s H vs Q E hr h => ⟨_, PBw (X := X_law_odd_costs P w K mg base f cdv A outer s H E), ?_⟩)
  obtain ⟨a0, rfl, h⟩ := h
  have hr' : Room 0 (X_law_odd_costs P w K mg base f cdv A outer s H E).A := hr
  replace hr := hr'
  clear hr'
  obtain ⟨i, rfl, i0, h⟩ := h
  kxs_still
  intro t1 H1 s1 n1 k1 f1
  kxs_still
  intro t2 H2 s2 n2 k2 f2
  kxs_still
  intro t3 H3 s3 n3 k3 f3
  kxs_still
  intro l4 H4 s4 n4 k4 f4
  kxs_still
  intro l5 H5 s5 n5 k5 f5
  kxs_still
  intro t6 H6 s6 n6 k6 f6
  kxs_still
  intro t7 H7 s7 n7 k7 f7
  kxs_still
  intro l8 H8 s8 n8 k8 f8
  have k58 := (s6.trans (s7.trans s8)) _ _ k5
  refine o_catL k58 k8 (by show 5 + 2 ≤ 100000; decide) fun l9 H9 s9 n9 k9 _ => ?_
  have s49 := s5.trans (s6.trans (s7.trans (s8.trans s9)))
  have q1 := (s2.trans (s3.trans (s4.trans s49))) _ _ k1
  have q2 := (s3.trans (s4.trans s49)) _ _ k2
  have q3 := (s4.trans s49) _ _ k3
  have q4 := s49 _ _ k4
  have q6 := (s7.trans (s8.trans s9)) _ _ k6
  have q7 := (s8.trans s9) _ _ k7
  kxs_still
  obtain ⟨v, hv, d, hd, hb⟩ := ix_any (i := i % 7) k9 (fun v => ∃ d, (∀ H'', Same H9 H'' → Th K H'' v d) ∧ isCostsD d = false) (fun x hx => by
    simp only [List.mem_append, List.mem_cons, List.not_mem_nil, or_false] at hx
    rcases hx with (rfl | rfl | rfl | rfl | rfl) | (rfl | rfl)
    · exact ⟨_, fun H'' s => .tup (SqT.of (s _ _ q1)) (.cons (.int _) (.cons (.int _) .nil)), rfl⟩
    · exact ⟨_, fun H'' s => .tup (SqT.of (s _ _ q2)) (.cons (.int _) (.cons (.int _) (.cons (.bl _) .nil))), by decide +kernel⟩
    · exact ⟨_, fun H'' s => .tup (SqT.of (s _ _ q3)) (.cons (.int _) (.cons (.int _) (.cons (.int _) .nil))), by decide +kernel⟩
    · exact ⟨_, fun H'' s => .lst (SqL.of (s _ _ q4)) (.cons (.int _) (.cons (.int _) (.cons (.int _) .nil))), rfl⟩
    · exact ⟨_, fun H'' s => .non, rfl⟩
    · exact ⟨_, fun H'' s => .tup (SqT.of (s _ _ q6)) (.cons (.int _) (.cons (.int _) (.cons (.int _) .nil))), by decide +kernel⟩
    · exact ⟨_, fun H'' s => .tup (SqT.of (s _ _ q7)) (.cons (.int _) (.cons (.int _) (.cons (.int _) (.cons (.int _) .nil)))), rfl⟩) (by omega) (by show i % 7 < 7; omega)
  refine i_lst (SqL.of k9) hv ?_
  exact h v d H9 (s1.trans (s2.trans (s3.trans (s4.trans s49)))) hd hb
end
theorem df_law_odd_costs (T : Txt K mg cs) : Df P w K mg base "_law_odd_costs" 1 ["_law_way"] (sp1 (R_law_odd_costs K)) := by
  obtain ⟨f, fd, hm, F, hb⟩ := T.f_law_odd_costs.ex
  exact ⟨f, fd, hm, F.kp, hb, ok_law_odd_costs F T⟩
theorem min3 (a n b c : Nat) : minT (minT (a, n) (b, 1)) (c, 1) = minL (a, n) (min b c, 1) := by
  have h1 := minL_le (a, n) (b, 1)
  have h2 := minL_le (minL (a, n) (b, 1)) (c, 1)
  have h3 := minL_le (a, n) (min b c, 1)
  show minL (minL (a, n) (b, 1)) (c, 1) = _
  have hB : ¬ LtT (b, 1) (min b c, 1) := by unfold LtT; dsimp only; omega
  have hC : ¬ LtT (c, 1) (min b c, 1) := by unfold LtT; dsimp only; omega
  refine le_anti ?_ ?_
  · rcases minL_or (a, n) (min b c, 1) with e | e
    · rw [e]; exact le_trans h2.1 h1.1
    · rw [e]
      rcases Nat.le_total b c with q | q
      · rw [Nat.min_eq_left q]; exact le_trans h2.1 h1.2
      · rw [Nat.min_eq_right q]; exact h2.2
  · rcases minL_or (minL (a, n) (b, 1)) (c, 1) with e | e
    · rw [e]
      rcases minL_or (a, n) (b, 1) with e' | e'
      · rw [e']; exact h3.1
      · rw [e']; exact le_trans h3.2 hB
    · rw [e]; exact le_trans h3.2 hC
def R_law_pair (K : PySem.W.Frag) : V → V → V → V → Hp → VK → XK → Prop := fun x y z u H Q _ => ∃ (tx : Str) (c : Cst) (m : Nat) (two : Bool), x = .str tx ∧ tx.length ≤ 1 ∧ CsAt H y c ∧ ((c.cut : Nat) : Int) ≤ top60 ∧ ((c.swap : Nat) : Int) ≤ top60 ∧ z = .int ((999 + m : Nat) : Int) ∧ u = .bl two ∧ ∀ v H', Same H H' → TlAt H' v (dueG c (tl tx) two m) → Q v H'
section
theorem ok_law_pair {f : Addr} {fd : FuncData} (F : Fun K "_law_pair" "_law_pair" s_law_pair f fd) (T : Txt K mg cs) : FnOk P w K mg base (L2.CX P w) 1 f fd ["_law_signs", "_law_costs", "_law_size", "_law_two"] (sp4 (R_law_pair K)) := by
  refine F.okX sc_law_pair (fun vs H Q E h => sp4_len h) (fun cdv A outer s H vs Q E hr h => ⟨_, PBw (X := X_law_pair P w K mg base f cdv A outer s H E), ?_⟩)
  obtain ⟨a0, a1, a2, a3, rfl, h⟩ := h
  have ib_len := T.b_len
  have ib_min := T.b_min
  have ib_int := T.b_int
  have hr' : Room 0 (X_law_pair P w K mg base f cdv A outer s H E).A := hr
  replace hr := hr'
  clear hr'
  obtain ⟨tx, c, m, two, rfl, ht, ⟨b, rfl, hb⟩, h2, h3, rfl, rfl, h⟩ := h
  have htl : (tl tx).length = tx.length := (len_tl tx).symm
  kxs_still
  refine o_mul (mulw (by omega) h2) ?_
  kxs_still
  intro t1 H1 s1 n1 k1 f1
  have k1' : H1 t1 = some (.tup (tlV ((tl tx).length * c.cut, 999 + m))) := by
    rw [k1, htl]
    show _ = some (HO.tup [.int ((tx.length * c.cut : Nat) : Int), .int ((999 + m : Nat) : Int)])
    rw [Int.natCast_mul]
  have hb1 := s1 _ _ hb
  cases two with
  | false =>
    kxs_still
    exact h _ _ s1 ⟨t1, rfl, k1'⟩
  | true =>
    kxs_still
    intro t2 H2 s2 n2 k2 f2
    have k2' : H2 t2 = some (.tup (tlV ((tl tx).length * c.cut + c.put, 1))) := by
      rw [k2, htl]
      show _ = some (HO.tup [.int ((tx.length * c.cut + c.put : Nat) : Int), .int 1])
      rw [Int.natCast_add, Int.natCast_mul]
    have hb2 := s2 _ _ hb1
    kxs_still
    refine k_minT2 hr.units ⟨t1, rfl, s2 _ _ k1'⟩ ⟨t2, rfl, k2'⟩ fun v1 hv1 => ?_
    kxs_still
    cases ext : tl tx with
    | nil =>
      have e0 : tx = Str.ofString "" := ext_tl (by rw [ext]; decide +kernel)
      kxs_still
      refine h v1 H2 (s1.trans s2) ?_
      rw [ext] at hv1 ⊢
      have e : dueG c [] true m = minT (([] : List Nat).length * c.cut, 999 + m) (([] : List Nat).length * c.cut + c.put, 1) := by
        show minL (0 * c.cut, 999 + m) (c.put, 1) = minT (0 * c.cut, 999 + m) (0 * c.cut + c.put, 1)
        rw [Nat.zero_mul, Nat.zero_add]
        rfl
      rw [e]
      exact hv1
    | cons x l =>
      have hl : l = [] := by
        have := htl
        rw [ext, List.length_cons] at this
        exact List.eq_nil_of_length_eq_zero (by omega)
      subst hl
      have e0 : ¬ tx = Str.ofString "" := fun z => by rw [z, show tl (Str.ofString "") = [] by decide +kernel] at ext; cases ext
      have htx1 : tx.length = 1 := by rw [← htl, ext]; rfl
      kxs_still
      refine o_niC (c := 43) ?_
      rw [ext]
      kxs_still
      refine k_intB ?_
      kxs_still
      have hmul : ∀ k : Bool, CMulW ((c.swap : Nat) : Int) (if k = true then 1 else 0) := fun k => by
        have := mulw' (n := if k = true then 1 else 0) (m := c.swap) (by split <;> decide) h3
        cases k <;> exact this
      refine o_mul (hmul _) ?_
      kxs_still
      intro t3 H3 s3 n3 k3 f3
      have k3' : H3 t3 = some (.tup (tlV ((if 43 ∈ [x] then 0 else c.swap), 1))) := by
        rw [k3, htx1]
        by_cases q : 43 ∈ [x]
        · rw [if_pos q, decide_eq_true q]
          show some (HO.tup [.int (((1 : Nat) : Int) * ((c.cut : Nat) : Int) - ((c.cut : Nat) : Int) + ((c.swap : Nat) : Int) * 0), .int 1]) = _
          exact congrArg (fun z => some (HO.tup [V.int z, .int 1])) (by omega)
        · rw [if_neg q, decide_eq_false q]
          show some (HO.tup [.int (((1 : Nat) : Int) * ((c.cut : Nat) : Int) - ((c.cut : Nat) : Int) + ((c.swap : Nat) : Int) * 1), .int 1]) = _
          exact congrArg (fun z => some (HO.tup [V.int z, .int 1])) (by omega)
      kxs_still
      refine k_minT2 hr.units (hv1.ts (Same.ts s3)) ⟨t3, rfl, k3'⟩ fun v2 hv2 => ?_
      kxs_still
      refine h v2 H3 (s1.trans (s2.trans s3)) ?_
      rw [ext] at hv2 ⊢
      rw [min3] at hv2
      have e : dueG c [x] true m = minL (([x] : List Nat).length * c.cut, 999 + m) (min (([x] : List Nat).length * c.cut + c.put) (if 43 ∈ [x] then 0 else c.swap), 1) := by
        unfold dueG signToll
        rw [if_pos rfl, if_neg (List.cons_ne_nil _ _)]
        show minL _ (min (1 * c.cut + c.put) ((1 - 1) * c.cut + _), 1) = minL _ (min (1 * c.cut + c.put) _, 1)
        rw [Nat.sub_self, Nat.zero_mul, Nat.zero_add]
      rw [e]
      exact hv2
end
theorem df_law_pair (T : Txt K mg cs) : Df P w K mg base "_law_pair" 1 ["_law_signs", "_law_costs", "_law_size", "_law_two"] (sp4 (R_law_pair K)) := by
  obtain ⟨f, fd, hm, F, hb⟩ := T.f_law_pair.ex
  exact ⟨f, fd, hm, F.kp, hb, ok_law_pair F T⟩
def R_law_due (K : PySem.W.Frag) : V → V → V → V → Hp → VK → XK → Prop := fun x y z u H Q _ => ∃ (tx : Str) (c : Cst) (two : Bool), x = .str tx ∧ CsAt H y c ∧ ((c.cut : Nat) : Int) ≤ top60 ∧ ((c.swap : Nat) : Int) ≤ top60 ∧ u = .bl two ∧
  ((z = .int 0 ∧ ∀ t H', Same H H' → H' t = some (.tup [.str (Str.ofString "barren"), .non]) → Q (.ref t) H') ∨
   ∃ m : Nat, z = .int ((999 + m : Nat) : Int) ∧ tx.length ≤ 1 ∧ (1000 < (dueG c (tl tx) two m).2 → ∀ t H', Same H H' → H' t = some (.tup [.str (Str.ofString "great"), .non]) → Q (.ref t) H') ∧ ((dueG c (tl tx) two m).2 ≤ 1000 → ∀ t v H', Same H H' → TlAt H' v (dueG c (tl tx) two m) → H' t = some (.tup [.str (Str.ofString ""), v]) → Q (.ref t) H'))
section
set_option hygiene false in
local macro_rules | `(tactic| top_name) => `(tactic| first | refine e_call (df_law_pair T) (hr.mono (by decide)) ?_)
theorem ok_law_due {f : Addr} {fd : FuncData} (F : Fun K "_law_due" "_law_due" s_law_due f fd) (T : Txt K mg cs) : FnOk P w K mg base (L2.CX P w) 2 f fd ["_law_signs", "_law_costs", "_law_size", "_law_two"] (sp4 (R_law_due K)) := by
  refine F.okX sc_law_due (fun vs H Q E h => sp4_len h) (fun cdv A outer s H vs Q E hr h => ⟨_, PBw (X := X_law_due P w K mg base f cdv A outer s H E), ?_⟩)
  obtain ⟨a0, a1, a2, a3, rfl, h⟩ := h
  have hr' : Room 1 (X_law_due P w K mg base f cdv A outer s H E).A := hr
  replace hr := hr'
  clear hr'
  obtain ⟨tx, c, two, rfl, ⟨b, rfl, hb⟩, h2, h3, rfl, h⟩ := h
  rcases h with ⟨rfl, h⟩ | ⟨m, rfl, ht, hg, hs⟩
  · kxs_still
    intro t H1 s1 n1 k1 f1
    exact h t H1 s1 k1
  · have hne : ¬ ((999 + m : Nat) : Int) = 0 := by omega
    kxs_still
    refine ⟨tx, c, m, two, rfl, ht, ⟨b, rfl, hb⟩, h2, h3, rfl, rfl, fun v H1 s1 ⟨a, ev, ha⟩ => ?_⟩
    subst ev
    unfold tlV at ha
    kxs_still
    refine iteD (fun c0 => ?_) fun c0 => ?_
    · kxs_still
      intro t H2 s2 n2 k2 f2
      exact hg (by omega) t H2 (s1.trans s2) k2
    · kxs_still
      intro t H2 s2 n2 k2 f2
      exact hs (by omega) t _ H2 (s1.trans s2) ⟨a, rfl, s2 _ _ ha⟩ k2
end
theorem df_law_due (T : Txt K mg cs) : Df P w K mg base "_law_due" 2 ["_law_signs", "_law_costs", "_law_size", "_law_two"] (sp4 (R_law_due K)) := by
  obtain ⟨f, fd, hm, F, hb⟩ := T.f_law_due.ex
  exact ⟨f, fd, hm, F.kp, hb, ok_law_due F T⟩
theorem rb1 {a b c : PyData} (h : isNameD a = false) : isRuleD (.tuple [a, b, c]) = false := by simp [isRuleD, isRuleL, h]
theorem rb2 {a b c : PyData} (h : arePartsD b = false) : isRuleD (.tuple [a, b, c]) = false := by simp [isRuleD, isRuleL, h]
theorem rb3 {a b c : PyData} (h : isWorthD c = false) : isRuleD (.tuple [a, b, c]) = false := by simp [isRuleD, isRuleL, h]
theorem gramBad {ds : List PyData} {d : PyData} (hm : d ∈ ds) (h : isRuleD d = false) : isGramD (.list ds) = false := by
  have : ds.all isRuleD = false := List.all_eq_false.mpr ⟨d, hm, by rw [h]; simp⟩
  simp [isGramD, this]
theorem thAll_app {K : PySem.W.Frag} {H : Hp} : ∀ {xs ys : List V} {ds es : List PyData}, ThAll K H xs ds → ThAll K H ys es → ThAll K H (xs ++ ys) (ds ++ es)
  | _, _, _, _, .nil, h => h
  | _, _, _, _, .cons a t, h => .cons a (thAll_app t h)
theorem thAll_take {K : PySem.W.Frag} {H : Hp} : ∀ {xs : List V} {ds : List PyData} (n : Nat), ThAll K H xs ds → ThAll K H (xs.take n) (ds.take n)
  | _, _, 0, _ => .nil
  | _, _, n + 1, .nil => .nil
  | _, _, n + 1, .cons a t => .cons a (thAll_take n t)
theorem thAll_drop {K : PySem.W.Frag} {H : Hp} : ∀ {xs : List V} {ds : List PyData} (n : Nat), ThAll K H xs ds → ThAll K H (xs.drop n) (ds.drop n)
  | _, _, 0, h => h
  | _, _, n + 1, .nil => .nil
  | _, _, n + 1, .cons a t => thAll_drop n t
def R_law_odd_grammar (K : PySem.W.Frag) : V → V → Hp → VK → XK → Prop := fun x y H Q _ => ∃ (a : Addr) (vs : List V) (rs : List Rl) (i : Int), x = .ref a ∧ H a = some (.lst vs) ∧ RulesAt H vs rs ∧ GoodG rs ∧ y = .int i ∧ 0 ≤ i ∧ ∀ v d H', Same H H' → (∀ H'', Same H' H'' → Th K H'' v d) → isGramD d = false → Q v H'
section
theorem ok_law_odd_grammar {f : Addr} {fd : FuncData} (F : Fun K "_law_odd_grammar" "_law_odd_grammar" s_law_odd_grammar f fd) (T : Txt K mg cs) : FnOk P w K mg base (L2.CX P w) 1 f fd ["_law_rules", "_law_way"] (sp2 (R_law_odd_grammar K)) := by
  refine F.okX sc_law_odd_grammar (fun vs H Q E h => sp2_len h) (fun cdv A outer s H vs Q E hr h => ⟨_, PBw (X := X_law_odd_grammar P w K mg base f cdv A outer s H E), ?_⟩)
  obtain ⟨a0, a1, rfl, h⟩ := h
  have ib_tuple := T.b_tuple
  have ib_len := T.b_len
  have hr' : Room 0 (X_law_odd_grammar P w K mg base f cdv A outer s H E).A := hr
  replace hr := hr'
  clear hr'
  obtain ⟨a, vs, rs, i, rfl, ha, hR, hG, rfl, i0, h⟩ := h
  have hvl := hR.len
  have h60 := hG.few
  have S1 : ∀ {s : String}, (Str.ofString s).length ≤ 100 → (Str.ofString s).length ≤ 1000000 := str_short
  kxs_still
  intro t1 H1 s1 n1 k1 f1
  kxs_still
  intro t2 H2 s2 n2 k2 f2
  kxs_still
  intro t3 H3 s3 n3 k3 f3
  kxs_still
  intro t4 H4 s4 n4 k4 f4
  kxs_still
  intro t5 H5 s5 n5 k5 f5
  kxs_still
  intro t6 H6 s6 n6 k6 f6
  kxs_still
  intro t7 H7 s7 n7 k7 f7
  kxs_still
  intro t8 H8 s8 n8 k8 f8
  kxs_still
  intro t9 H9 s9 n9 k9 f9
  kxs_still
  intro t10 H10 s10 n10 k10 f10
  kxs_still
  intro l11 H11 s11 n11 k11 f11
  kxs_still
  intro t12 H12 s12 n12 k12 f12
  kxs_still
  intro l13 H13 s13 n13 k13 f13
  kxs_still
  intro t14 H14 s14 n14 k14 f14
  kxs_still
  intro t15 H15 s15 n15 k15 f15
  kxs_still
  intro t16 H16 s16 n16 k16 f16
  kxs_still
  refine o_repTA k16 (List.cons_ne_nil _ _) (by decide) (by decide) (by show 1 ≤ 1000; decide) fun t17 H17 s17 k17 => ?_
  kxs_still
  intro t18 H18 s18 n18 k18 f18
  kxs_still
  intro t19 H19 s19 n19 k19 f19
  kxs_still
  intro t20 H20 s20 n20 k20 f20
  kxs_still
  intro l21 H21 s21 n21 k21 f21
  have u16 := s17
  refine o_catL ((s14.trans (s15.trans (s16.trans (s17.trans (s18.trans (s19.trans (s20.trans (s21)))))))) _ _ k13) k21 (by show 6 + 5 ≤ 100000; decide) fun l22 H22 s22 n22 k22 _ => ?_
  have sA : Same H H22 := s1.trans (s2.trans (s3.trans (s4.trans (s5.trans (s6.trans (s7.trans (s8.trans (s9.trans (s10.trans (s11.trans (s12.trans (s13.trans (s14.trans (s15.trans (s16.trans (s17.trans (s18.trans (s19.trans (s20.trans (s21.trans (s22)))))))))))))))))))))
  have q1 := (s2.trans (s3.trans (s4.trans (s5.trans (s6.trans (s7.trans (s8.trans (s9.trans (s10.trans (s11.trans (s12.trans (s13.trans (s14.trans (s15.trans (s16.trans (s17.trans (s18.trans (s19.trans (s20.trans (s21.trans (s22))))))))))))))))))))) _ _ k1
  have q2 := (s3.trans (s4.trans (s5.trans (s6.trans (s7.trans (s8.trans (s9.trans (s10.trans (s11.trans (s12.trans (s13.trans (s14.trans (s15.trans (s16.trans (s17.trans (s18.trans (s19.trans (s20.trans (s21.trans (s22)))))))))))))))))))) _ _ k2
  have q3 := (s4.trans (s5.trans (s6.trans (s7.trans (s8.trans (s9.trans (s10.trans (s11.trans (s12.trans (s13.trans (s14.trans (s15.trans (s16.trans (s17.trans (s18.trans (s19.trans (s20.trans (s21.trans (s22))))))))))))))))))) _ _ k3
  have q4 := (s5.trans (s6.trans (s7.trans (s8.trans (s9.trans (s10.trans (s11.trans (s12.trans (s13.trans (s14.trans (s15.trans (s16.trans (s17.trans (s18.trans (s19.trans (s20.trans (s21.trans (s22)))))))))))))))))) _ _ k4
  have q5 := (s6.trans (s7.trans (s8.trans (s9.trans (s10.trans (s11.trans (s12.trans (s13.trans (s14.trans (s15.trans (s16.trans (s17.trans (s18.trans (s19.trans (s20.trans (s21.trans (s22))))))))))))))))) _ _ k5
  have q6 := (s7.trans (s8.trans (s9.trans (s10.trans (s11.trans (s12.trans (s13.trans (s14.trans (s15.trans (s16.trans (s17.trans (s18.trans (s19.trans (s20.trans (s21.trans (s22)))))))))))))))) _ _ k6
  have q7 := (s8.trans (s9.trans (s10.trans (s11.trans (s12.trans (s13.trans (s14.trans (s15.trans (s16.trans (s17.trans (s18.trans (s19.trans (s20.trans (s21.trans (s22))))))))))))))) _ _ k7
  have q8 := (s9.trans (s10.trans (s11.trans (s12.trans (s13.trans (s14.trans (s15.trans (s16.trans (s17.trans (s18.trans (s19.trans (s20.trans (s21.trans (s22)))))))))))))) _ _ k8
  have q9 := (s10.trans (s11.trans (s12.trans (s13.trans (s14.trans (s15.trans (s16.trans (s17.trans (s18.trans (s19.trans (s20.trans (s21.trans (s22))))))))))))) _ _ k9
  have q10 := (s11.trans (s12.trans (s13.trans (s14.trans (s15.trans (s16.trans (s17.trans (s18.trans (s19.trans (s20.trans (s21.trans (s22)))))))))))) _ _ k10
  have q11 := (s12.trans (s13.trans (s14.trans (s15.trans (s16.trans (s17.trans (s18.trans (s19.trans (s20.trans (s21.trans (s22))))))))))) _ _ k11
  have q12 := (s13.trans (s14.trans (s15.trans (s16.trans (s17.trans (s18.trans (s19.trans (s20.trans (s21.trans (s22)))))))))) _ _ k12
  have q14 := (s15.trans (s16.trans (s17.trans (s18.trans (s19.trans (s20.trans (s21.trans (s22)))))))) _ _ k14
  have q15 := (s16.trans (s17.trans (s18.trans (s19.trans (s20.trans (s21.trans (s22))))))) _ _ k15
  have q17 := (s18.trans (s19.trans (s20.trans (s21.trans (s22))))) _ _ k17
  have q18 := (s19.trans (s20.trans (s21.trans (s22)))) _ _ k18
  have q19 := (s20.trans (s21.trans (s22))) _ _ k19
  have q20 := (s21.trans (s22)) _ _ k20
  kxs_still
  refine o_mod (by omega) ?_
  kxs_still
  have ha22 := sA _ _ ha
  have hR22 := hR.ts (Same.ts sA)
  have thr : ∀ H'', Same H22 H'' → ThAll K H'' vs (rs.map ruleD) := fun H'' s => (hR22.ts (Same.ts s)).th hG.good
  refine iteD (fun c => ?_) fun c => ?_
  · kxs_still
    refine k_tupL (SqL.of ha22) fun t H23 s23 n23 k23 f23 => ?_
    kxs_still
    exact h _ _ _ (sA.trans s23) (fun H'' s => .tup (SqT.of (s _ _ k23)) (thr _ (s23.trans s))) rfl
  kxs_still
  refine iteD (fun c2 => ?_) fun c2 => ?_
  · kxs_still
    exact h _ _ _ sA (fun H'' s => .non) rfl
  kxs_still
  obtain ⟨v, hv, d, hd, hb⟩ := ix_any (i := i % 13) k22 (fun v => ∃ d, (∀ H'', Same H22 H'' → Th K H'' v d) ∧ isRuleD d = false) (by
    intro x hx
    simp only [List.cons_append, List.nil_append, List.mem_cons, List.not_mem_nil, or_false] at hx
    rcases hx with rfl | rfl | rfl | rfl | rfl | rfl | rfl | rfl | rfl | rfl | rfl
    · exact ⟨_, fun H'' s => .tup (SqT.of (s _ _ q2)) (.cons (.str _ (by decide +kernel)) (.cons (.tup (SqT.of (s _ _ q1)) .nil) (.cons (.int _) .nil))), rb3 (by decide +kernel)⟩
    · exact ⟨_, fun H'' s => .tup (SqT.of (s _ _ q4)) (.cons (.str _ (by decide +kernel)) (.cons (.tup (SqT.of (s _ _ q3)) .nil) (.cons (.int _) .nil))), rb3 (by decide +kernel)⟩
    · exact ⟨_, fun H'' s => .tup (SqT.of (s _ _ q6)) (.cons (.str _ (by decide +kernel)) (.cons (.tup (SqT.of (s _ _ q5)) .nil) .nil)), rfl⟩
    · exact ⟨_, fun H'' s => .tup (SqT.of (s _ _ q8)) (.cons (.str _ (by decide +kernel)) (.cons (.tup (SqT.of (s _ _ q7)) .nil) (.cons (.int _) .nil))), rb1 (by decide +kernel)⟩
    · exact ⟨_, fun H'' s => .tup (SqT.of (s _ _ q10)) (.cons (.str _ (by decide +kernel)) (.cons (.tup (SqT.of (s _ _ q9)) (.cons (.str _ (by decide +kernel)) .nil)) (.cons (.int _) .nil))), rb2 (by decide +kernel)⟩
    · exact ⟨_, fun H'' s => .tup (SqT.of (s _ _ q12)) (.cons (.str _ (by decide +kernel)) (.cons (.lst (SqL.of (s _ _ q11)) (.cons (.str _ (by decide +kernel)) .nil)) (.cons (.int _) .nil))), rb2 rfl⟩
    · exact ⟨_, fun H'' s => .tup (SqT.of (s _ _ q15)) (.cons (.str _ (by decide +kernel)) (.cons (.tup (SqT.of (s _ _ q14)) .nil) (.cons (.int _) .nil))), rb1 (by decide +kernel)⟩
    · exact ⟨_, fun H'' s => .tup (SqT.of (s _ _ q18)) (.cons (.str _ (by decide +kernel)) (.cons (.tup (SqT.of (s _ _ q17)) (.cons (.str _ (by decide +kernel)) (.cons (.str _ (by decide +kernel)) (.cons (.str _ (by decide +kernel)) (.cons (.str _ (by decide +kernel)) (.cons (.str _ (by decide +kernel)) (.cons (.str _ (by decide +kernel)) (.cons (.str _ (by decide +kernel)) .nil)))))))) (.cons (.int _) .nil))), rb2 (by decide +kernel)⟩
    · exact ⟨_, fun H'' s => .tup (SqT.of (s _ _ q20)) (.cons (.str _ (by decide +kernel)) (.cons (.tup (SqT.of (s _ _ q19)) .nil) (.cons (.bl _) .nil))), rb3 rfl⟩
    · exact ⟨_, fun H'' s => .non, rfl⟩
    · exact ⟨_, fun H'' s => .str _ (by decide +kernel), rfl⟩) (by omega) (by show _ < (11 : Int); omega)
  have j0 : 0 ≤ i / 13 % ((vs.length : Int) + 1) := Int.emod_nonneg _ (by omega)
  have j1 : i / 13 % ((vs.length : Int) + 1) < (vs.length : Int) + 1 := Int.emod_lt_of_pos _ (by omega)
  generalize i / 13 % ((vs.length : Int) + 1) = j at *
  refine n_lst (SqL.of ha22) fun l23 H23 s23 n23 k23 f23 => ?_
  rw [cutV_to _ j0] at k23
  kxs_still
  intro l24 H24 s24 n24 k24 f24
  have ht : (vs.take j.toNat).length ≤ vs.length := List.length_take_le' ..
  refine o_catL (s24 _ _ k23) k24 (by show _ + 1 ≤ 100000; omega) fun l25 H25 s25 n25 k25 _ => ?_
  kxs_still
  refine n_lst (SqL.of ((s23.trans (s24.trans s25)) _ _ ha22)) fun l26 H26 s26 n26 k26 f26 => ?_
  rw [cutV_from _ j0] at k26
  kxs_still
  have hd2 : (vs.drop j.toNat).length ≤ vs.length := by rw [List.length_drop]; omega
  refine o_catL (s26 _ _ k25) k26 (by rw [List.length_append]; show _ + 1 + _ ≤ 100000; omega) fun l27 H27 s27 n27 k27 _ => ?_
  kxs_still
  have s27' : Same H22 H27 := s23.trans (s24.trans (s25.trans (s26.trans s27)))
  exact h _ _ _ (sA.trans s27') (fun H'' s => .lst (SqL.of (s _ _ k27)) (thAll_app (thAll_app (thAll_take _ (thr _ (s27'.trans s))) (.cons (hd _ (s27'.trans s)) .nil)) (thAll_drop _ (thr _ (s27'.trans s))))) (gramBad (List.mem_append_left _ (List.mem_append_right _ (List.mem_cons_self ..))) hb)
end
theorem df_law_odd_grammar (T : Txt K mg cs) : Df P w K mg base "_law_odd_grammar" 1 ["_law_rules", "_law_way"] (sp2 (R_law_odd_grammar K)) := by
  obtain ⟨f, fd, hm, F, hb⟩ := T.f_law_odd_grammar.ex
  exact ⟨f, fd, hm, F.kp, hb, ok_law_odd_grammar F T⟩
inductive Four (K : PySem.W.Frag) (H : Hp) (x y z : V) (rs : List Rl) (tx : Str) (c : Cst) : Str → Prop
  | gr (d : PyData) (h : ∀ H', Same H H' → Th K H' x d) (b : isGramD d = false) : Four K H x y z rs tx c (Str.ofString "grammar")
  | tx (a : Addr) (vs : List V) (d : PyData) (g : ∀ H', Same H H' → GramAt K H' x a vs rs) (h : ∀ H', Same H H' → Th K H' y d) (b : isTextD d = false) : Four K H x y z rs tx c (Str.ofString "text")
  | cs (a : Addr) (vs : List V) (d : PyData) (g : ∀ H', Same H H' → GramAt K H' x a vs rs) (e : y = .str tx) (h : ∀ H', Same H H' → Th K H' z d) (b : isCostsD d = false) : Four K H x y z rs tx c (Str.ofString "costs")
  | ok (a : Addr) (vs : List V) (g : ∀ H', Same H H' → GramAt K H' x a vs rs) (e : y = .str tx) (h : ∀ H', Same H H' → CsAt H' z c) : Four K H x y z rs tx c (Str.ofString "")
theorem Four.more {K : PySem.W.Frag} {H H2 : Hp} {x y z : V} {rs : List Rl} {tx : Str} {c : Cst} {w : Str} (s : Same H H2) (f : Four K H x y z rs tx c w) : Four K H2 x y z rs tx c w := by
  cases f with
  | gr d h b => exact .gr d (fun H' q => h H' (s.trans q)) b
  | tx a vs d g h b => exact .tx a vs d (fun H' q => g H' (s.trans q)) (fun H' q => h H' (s.trans q)) b
  | cs a vs d g e h b => exact .cs a vs d (fun H' q => g H' (s.trans q)) e (fun H' q => h H' (s.trans q)) b
  | ok a vs g e h => exact .ok a vs (fun H' q => g H' (s.trans q)) e (fun H' q => h H' (s.trans q))
theorem Four.hand {K : PySem.W.Frag} {cs : Cs} {H : Hp} {x y z : V} {rs : List Rl} {tx : Str} {c : Cst} {w : Str} (f : Four K H x y z rs tx c w) (ht : isTextD (.str tx) = true) (c1 : ((c.put : Nat) : Int) ≤ top60) (c2 : ((c.cut : Nat) : Int) ≤ top60) (c3 : ((c.swap : Nat) : Int) ≤ top60) {E : XK} {good : Addr → List V → List Rl → Str → Cst → Prop}
    (hE : ∀ cls, ErrT cs cls w → ∀ H', Same H H' → E cls none H') (hg : w = Str.ofString "" → ∀ a vs, good a vs rs tx c) : Hand3 K cs x y z H E good := by
  have hl : tx.length ≤ 1000000 := by
    have h : (decide (tx.length ≤ 60) && (tl tx).all okc) = true := ht
    rw [Bool.and_eq_true, decide_eq_true_eq] at h
    omega
  cases f with
  | gr d h b => exact .inl ⟨d, h H (Same.refl _), b, hE _ .grammar⟩
  | tx a vs d g h b => exact .inr ⟨a, vs, rs, g H (Same.refl _), d, h H (Same.refl _), .inl ⟨b, hE _ .text⟩⟩
  | cs a vs d g e h b =>
    subst e
    exact .inr ⟨a, vs, rs, g H (Same.refl _), _, .str _ hl, .inr ⟨tx, d, rfl, ht, h H (Same.refl _), .inl ⟨b, hE _ .costs⟩⟩⟩
  | ok a vs g e h =>
    subst e
    have hc := h H (Same.refl _)
    obtain ⟨b, rfl, hb⟩ := hc
    exact .inr ⟨a, vs, rs, g H (Same.refl _), _, .str _ hl, .inr ⟨tx, _, rfl, ht, .tup (SqT.of hb) (.cons (.int _) (.cons (.int _) (.cons (.int _) .nil))), .inr ⟨c, ⟨b, rfl, hb⟩, c1, c2, c3, hg rfl a vs⟩⟩⟩
/-- the told start has no tree, too great a row, or this toll -/
def Bar (rs : List Rl) (c : Cst) (t : List Nat) : Prop := rs = [] ∨ ∃ r0 : Rl, rs[0]? = some r0 ∧ ∀ F, Tolled rs c t F → lk F (.pt r0.head 0 t.length) = none
def Gre (rs : List Rl) (c : Cst) (t : List Nat) : Prop := ∃ r0 : Rl, rs[0]? = some r0 ∧ ∀ F, Tolled rs c t F → ∃ v, lk F (.pt r0.head 0 t.length) = some v ∧ 1000 < v.2
def DueAt (H : Hp) (td : Addr) (rs : List Rl) (c : Cst) (t : List Nat) : Prop :=
  (Bar rs c t ∧ H td = some (.tup [.str (Str.ofString "barren"), .non])) ∨
  (Gre rs c t ∧ H td = some (.tup [.str (Str.ofString "great"), .non])) ∨
  ∃ r0 : Rl, ∃ D : Toll, ∃ v, rs[0]? = some r0 ∧ (∀ F, Tolled rs c t F → lk F (.pt r0.head 0 t.length) = some D) ∧ D.2 ≤ 1000 ∧ TlAt H v D ∧ H td = some (.tup [.str (Str.ofString ""), v])
theorem DueAt.more {H H' : Hp} {td : Addr} {rs : List Rl} {c : Cst} {t : List Nat} (s : Same H H') (h : DueAt H td rs c t) : DueAt H' td rs c t := by
  rcases h with ⟨h, k⟩ | ⟨h, k⟩ | ⟨r0, D, v, h1, h2, h3, h4, k⟩
  · exact .inl ⟨h, s _ _ k⟩
  · exact .inr (.inl ⟨h, s _ _ k⟩)
  · exact .inr (.inr ⟨r0, D, v, h1, h2, h3, h4.ts (Same.ts s), s _ _ k⟩)
def Due2 (H : Hp) (td : Addr) (rs : List Rl) (c : Cst) (t : List Nat) (w : Str) : Prop := (¬ w = Str.ofString "" ∧ H td = some (.tup [.str w, .non])) ∨ (w = Str.ofString "" ∧ DueAt H td rs c t)
def Rf (rs : List Rl) (c : Cst) (t : List Nat) (w ww : Str) : Prop := (¬ w = Str.ofString "" ∧ ww = w) ∨ (w = Str.ofString "" ∧ ((Bar rs c t ∧ ww = Str.ofString "barren") ∨ (Gre rs c t ∧ ww = Str.ofString "great")))
theorem Rf.ne {rs : List Rl} {c : Cst} {t : List Nat} {w ww : Str} (h : Rf rs c t w ww) : ¬ ww = Str.ofString "" := by
  rcases h with ⟨h, rfl⟩ | ⟨_, ⟨_, rfl⟩ | ⟨_, rfl⟩⟩
  · exact h
  · decide +kernel
  · decide +kernel
theorem ErrT.toW {cs : Cs} {cls : Value} {w : Str} (h : ErrT cs cls w) : ErrW cs cls w := by
  cases h with
  | grammar => exact .grammar
  | text => exact .text
  | costs => exact .costs
theorem ErrT.ne {cs : Cs} {cls : Value} {w : Str} (h : ErrT cs cls w) : ¬ w = Str.ofString "" := by
  cases h <;> decide +kernel
def End76 (H : Hp) (td : Addr) (rs : List Rl) (c : Cst) (t : List Nat) (w ww : Str) (vf : V) : Prop :=
  (Rf rs c t w ww ∧ vf = .non ∧ H td = some (.tup [.str ww, .non])) ∨
  ∃ (tp ld lr : Addr) (row : List Nat) (D : Toll) (v : V), ww = Str.ofString "" ∧ vf = .ref tp ∧ H tp = some (.tup [.int ((D.1 : Nat) : Int), .ref ld, .ref lr]) ∧ H lr = some (.lst (row.map fun k => V.int ((k : Nat) : Int))) ∧ row.length = D.2 ∧ D.2 ≤ 1000 ∧ TlAt H v D ∧ H td = some (.tup [.str (Str.ofString ""), v])
theorem Rf.sh {K : PySem.W.Frag} {H : Hp} {x y z : V} {rs : List Rl} {tx : Str} {c : Cst} {t : List Nat} {w ww : Str} (h : Rf rs c t w ww) (f : Four K H x y z rs tx c w) : (PyData.tuple [.str ww, .none]).canLay0 = true ∧ SeqAt.shaped (.tuple [.str ww, .none]) = true := by
  rcases h with ⟨_, rfl⟩ | ⟨_, ⟨_, rfl⟩ | ⟨_, rfl⟩⟩
  · cases f <;> exact ⟨by decide +kernel, by decide +kernel⟩
  · exact ⟨by decide +kernel, by decide +kernel⟩
  · exact ⟨by decide +kernel, by decide +kernel⟩
section
set_option hygiene false in
local macro_rules | `(tactic| top_name) => `(tactic| first | refine e_call (df_law_mixed T) (hr.mono (by decide)) ?_ | refine e_call (df_law_barren T) (hr.mono (by decide)) ?_ | refine e_call (df_law_due T) (hr.mono (by decide)) ?_ | refine e_call (df_law_mended T) (hr.mono (by decide)) ?_ | refine e_call (df_law_great T) (hr.mono (by decide)) ?_ | refine e_call (df_law_odd_costs T) (hr.mono (by decide)) ?_ | refine e_call (df_law_odd_text T) (hr.mono (by decide)) ?_ | refine e_call (df_law_odd_grammar T) (hr.mono (by decide)) ?_ | refine e_call (df_law_tolls T) (hr.mono (by decide)) ?_ | refine e_call (df_law_worth T) (hr.mono (by decide)) ?_ | refine e_call (df_law_any T) (hr.mono (by decide)) ?_ | refine e_call (df_law_cell_at T) (hr.mono (by decide)) ?_)
theorem ok_law {f : Addr} {fd : FuncData} (F : Fun K "law" "law" s_law f fd) (T : Txt K mg cs) : FnOk P w K mg base (L2.CX P w) 9 f fd ["_law_script"] (sp1 (R_law K)) := by
  refine F.okX sc_law (fun vs H Q E h => sp1_len h) (fun cdv A outer s H vs Q E hr h => ⟨_, PBw (X := X_law P w K mg base f cdv A outer s H E), ?_⟩)
  obtain ⟨a0, rfl, h⟩ := h
  have ib_tuple := T.b_tuple
  have ib_range := T.b_range
  have ib_len := T.b_len
  have ib_int := T.b_int
  have hr' : Room 8 (X_law P w K mg base f cdv A outer s H E).A := hr
  replace hr := hr'
  clear hr'
  obtain ⟨a, ns, rfl, hS, hlen, h⟩ := h
  kxs_still
  refine ⟨_, _, _, rfl, hS, rfl, by decide, by decide, fun way w0 w1 => ?_⟩
  kxs_still
  refine ⟨_, _, _, rfl, hS, rfl, by decide, by decide, fun odd o0 o1 => ?_⟩
  kxs_still
  refine ⟨by omega, fun lb vb rb H1 s1 n1 k1 R1 B1 L1 => ?_⟩
  show bW _ _ _ _ _
  refine b_cons (sMono (fun σ' H' => ∃ lg vs rs, ∃ sz : Int, σ' = [some (.ref a), some (.int way), some (.int odd), some (.int sz), some (.ref lg), none, none, none, none, none, none, none] ∧ Same H1 H' ∧ H' lg = some (.lst vs) ∧ RulesAt H' vs rs ∧ rs.length ≤ 60 ∧ GoodG rs ∧ ((sz = 0 ∧ Brn rs) ∨ ∃ f m : Nat, sz = ((999 + m : Nat) : Int) ∧ m ≤ 4 ∧ Grt rs (nmG f) (decide (way / 10 % 2 = 1)) m)) ?_ ?_)
  · kxs_still
    refine iteD (fun c0 => ?_) fun c0 => ?_
    · kxs_still
      refine ⟨by omega, fun l vs rs f H2 s2 n2 k2 R2 G2 L2 => ?_⟩
      kxs_still
      refine ⟨l, vs, rs, _, rfl, s2, k2, R2, L2, G2.good, .inr ⟨f, (way / 2 % 5).toNat, by omega, by omega, ?_⟩⟩
      rw [show way / 2 / 5 = way / 10 by omega] at G2
      exact G2
    · kxs_still
      exact ⟨lb, vb, rb, 0, rfl, Same.refl _, k1, R1, by omega, B1.good, .inl ⟨rfl, B1⟩⟩
  rintro σ' H2 ⟨lg, vs, rs, sz, rfl, s2, k2, R2, L2, G2, hz⟩
  have hS2 := (s1.trans s2).seq hS
  show bW _ _ _ _ _
  refine b_cons (sMono (fun σ' H' => ∃ tx : Str, σ' = [some (.ref a), some (.int way), some (.int odd), some (.int sz), some (.ref lg), some (.str tx), none, none, none, none, none, none] ∧ H' = H2 ∧ isTextD (.str tx) = true ∧ (0 < sz → tx.length ≤ 1)) ?_ ?_)
  · kxs_still
    refine ⟨_, _, _, rfl, hS2, rfl, by decide, by decide, fun p p0 p1 => ?_⟩
    kxs_still
    refine n_str (by decide +kernel) ?_
    obtain ⟨z1, ez1⟩ : ∃ z1, cutS (Str.ofString "+x+ '-") (some (p % 4)) none = z1 := ⟨_, rfl⟩
    have hz1 := cutS_from (Str.ofString "+x+ '-") (i := p % 4) (by omega)
    have lz1 := cutS_from_len (Str.ofString "+x+ '-") (i := p % 4) (by omega)
    rw [ez1] at hz1 lz1
    rw [ez1]
    have lz1 : z1.length ≤ 6 := lz1
    kxs_still
    refine ⟨_, _, _, rfl, hS2, rfl, by decide, by decide, fun q q0 q1 => ?_⟩
    kxs_still
    refine k_intB ?_
    kxs_still
    obtain ⟨g, eg, g0, g1, gz⟩ : ∃ g : Int, (if decide (0 < sz) = true then (1 : Int) else 0) = g ∧ 0 ≤ g ∧ g ≤ 1 ∧ (0 < sz → g = 1) := ⟨_, rfl, by split <;> decide, by split <;> decide, fun z => by rw [decide_eq_true z]; rfl⟩
    rw [eg]
    refine o_mulS (.inl ⟨by omega, by omega⟩) ?_
    kxs_still
    refine o_mod (by omega) ?_
    have j0 : 0 ≤ q % (4 - 2 * g) := Int.emod_nonneg _ (by omega)
    have j1 : q % (4 - 2 * g) < 4 - 2 * g := Int.emod_lt_of_pos _ (by omega)
    generalize q % (4 - 2 * g) = j at *
    kxs_still
    refine n_str (by rw [sizeLine_eq]; omega) ?_
    have ht := cutS_to z1 j0
    have hl : (cutS z1 none (some j)).length ≤ j.toNat := by
      rw [len_tl, ht]
      exact List.length_take_le ..
    refine ⟨_, rfl, rfl, ?_, fun z => by have := gz z; omega⟩
    show (decide (_ ≤ 60) && (tl _).all okc) = true
    rw [decide_eq_true (by omega), Bool.true_and, ht, hz1, List.all_eq_true]
    intro x hx
    exact List.all_eq_true.mp (show (tl (Str.ofString "+x+ '-")).all okc = true by decide +kernel) x (List.mem_of_mem_drop (List.mem_of_mem_take hx))
  rintro σ' H2' ⟨tx, rfl, e2, htx, hsz⟩
  subst e2
  kxs_still
  refine e_lcP (blkOk_by (sc := defScope s_law) (own := [("_law_k", 7)]) (by decide +kernel)) (fun _ y => ∃ n : Int, y = .int n ∧ 0 ≤ n ∧ n ≤ top60) (j_rng1 ?_)
  kxs_still
  refine ⟨by omega, by omega, _, _, _, walk_range0, by omega, fun _ _ => trivial, ?_, ?_⟩
  · rintro k x Hq H3' hi s' ⟨rfl, rfl⟩
    have hS3 := s'.seq hS2
    refine ⟨Same.refl _, fun _ _ _ _ _ => ?_⟩
    kxs_still
    refine ⟨rfl, Same.refl _, fun _ _ _ _ _ => ?_⟩
    kxs_still
    refine ⟨_, _, _, rfl, hS3, rfl, by omega, ?_⟩
    kxs_still
    intro n m0 m1
    exact ⟨⟨n, rfl, m0, m1⟩, Same.refl _⟩
  intro l3 H3 ys s3 n3 k3 hyl hy
  kxs_still
  refine k_tupL (SqL.of k3) fun tc H4 s4 n4 k4 _ => ?_
  have hyl : ys.length = 3 := hyl
  obtain ⟨x0, x1, x2, rfl⟩ := len3 hyl
  obtain ⟨a0', rfl, p0, q0⟩ := hy 0 _ rfl
  obtain ⟨a1', rfl, p1, q1⟩ := hy 1 _ rfl
  obtain ⟨a2', rfl, p2, q2⟩ := hy 2 _ rfl
  obtain ⟨c, c1, c2, c3, hcs⟩ : ∃ c : Cst, ((c.put : Nat) : Int) ≤ top60 ∧ ((c.cut : Nat) : Int) ≤ top60 ∧ ((c.swap : Nat) : Int) ≤ top60 ∧ H4 tc = some (.tup [.int ((c.put : Nat) : Int), .int ((c.cut : Nat) : Int), .int ((c.swap : Nat) : Int)]) := ⟨⟨a0'.toNat, a1'.toNat, a2'.toNat⟩, by show ((a0'.toNat : Nat) : Int) ≤ _; omega, by show ((a1'.toNat : Nat) : Int) ≤ _; omega, by show ((a2'.toNat : Nat) : Int) ≤ _; omega, by
    rw [k4]
    show _ = some (HO.tup [V.int ((a0'.toNat : Nat) : Int), V.int ((a1'.toNat : Nat) : Int), V.int ((a2'.toNat : Nat) : Int)])
    rw [Int.toNat_of_nonneg p0, Int.toNat_of_nonneg p1, Int.toNat_of_nonneg p2]⟩
  clear k4 k3 hy hyl
  have k2' := (s3.trans s4) _ _ k2
  have R4 := R2.ts (Same.ts (s3.trans s4))
  have g4 : ∀ H', Same H4 H' → GramAt K H' (.ref lg) lg vs rs := fun H' s => ⟨rfl, SqL.of (s _ _ k2'), R4.ts (Same.ts s), G2⟩
  clear R1 R2 k1 k2 hS2 s1 s2 s3
  show bW _ _ _ _ _
  refine b_cons (sMono (fun σ' H' => ∃ td, σ' = [some (.ref a), some (.int way), some (.int odd), some (.int sz), some (.ref lg), some (.str tx), some (.ref tc), none, some (.ref td), none, none, none] ∧ Same H4 H' ∧ DueAt H' td rs c (tl tx)) ?_ ?_)
  · kxs_still
    refine ⟨tx, c, _, rfl, ⟨tc, rfl, hcs⟩, c2, c3, rfl, ?_⟩
    rcases hz with ⟨rfl, B⟩ | ⟨ff, m, rfl, hm, G⟩
    · refine .inl ⟨rfl, fun t H5 s5 k5 => ?_⟩
      kxs_still
      exact ⟨t, rfl, s5, .inl ⟨B.toll, k5⟩⟩
    · obtain ⟨r0, hr0, hh⟩ := G.start
      refine .inr ⟨m, rfl, hsz (by omega), fun q t H5 s5 k5 => ?_, fun q t v H5 s5 hv k5 => ?_⟩
      · kxs_still
        exact ⟨t, rfl, s5, .inr (.inl ⟨⟨r0, hr0, fun F U => ⟨_, G.toll U hr0, q⟩⟩, k5⟩)⟩
      · kxs_still
        exact ⟨t, rfl, s5, .inr (.inr ⟨r0, _, v, hr0, fun F U => G.toll U hr0, q, hv, k5⟩)⟩
  rintro σ' H5 ⟨td, rfl, s5, hdue⟩
  show bW _ _ _ _ _
  refine b_cons (sMono (fun σ' H' => σ' = [some (.ref a), some (.int way), some (.int odd), some (.int sz), some (.ref lg), some (.str tx), some (.ref tc), none, some (.ref td), some (.str (Str.ofString "")), none, none] ∧ H' = H5) ?_ ?_)
  · kxs_still
    exact ⟨rfl, rfl⟩
  rintro σ' H5' ⟨rfl, e5⟩
  subst e5
  have F0 : Four K H5' (.ref lg) (.str tx) (.ref tc) rs tx c (Str.ofString "") := .ok lg vs (fun H' s => g4 H' (s5.trans s)) rfl fun H' s => ⟨tc, rfl, (s5.trans s) _ _ hcs⟩
  show bW _ _ _ _ _
  refine b_cons (sMono (fun σ' H' => ∃ vc w, σ' = [some (.ref a), some (.int way), some (.int odd), some (.int sz), some (.ref lg), some (.str tx), some (vc), none, some (.ref td), some (.str w), none, none] ∧ Same H5' H' ∧ Four K H' (.ref lg) (.str tx) vc rs tx c w) ?_ ?_)
  · kxs_still
    refine iteD (fun e => ?_) fun e => ?_
    · kxs_still
      refine ⟨by omega, fun v d H6 s6 hd hb => ?_⟩
      kxs_still
      exact ⟨v, _, rfl, s6, .cs lg vs d (fun H' s => g4 H' (s5.trans (s6.trans s))) rfl hd hb⟩
    · kxs_still
      exact ⟨.ref tc, _, rfl, Same.refl _, F0⟩
  rintro σ' H6 ⟨vc, w1', rfl, s6, F6⟩
  show bW _ _ _ _ _
  refine b_cons (sMono (fun σ' H' => ∃ vt w, σ' = [some (.ref a), some (.int way), some (.int odd), some (.int sz), some (.ref lg), some (vt), some (vc), none, some (.ref td), some (.str w), none, none] ∧ Same H6 H' ∧ Four K H' (.ref lg) vt vc rs tx c w) ?_ ?_)
  · kxs_still
    refine iteD (fun e => ?_) fun e => ?_
    · kxs_still
      refine ⟨by omega, fun v d H7 s7 hd hb => ?_⟩
      kxs_still
      exact ⟨v, _, rfl, s7, .tx lg vs d (fun H' s => g4 H' (s5.trans (s6.trans (s7.trans s)))) hd hb⟩
    · kxs_still
      exact ⟨.str tx, _, rfl, Same.refl _, F6⟩
  rintro σ' H7 ⟨vt, w2', rfl, s7, F7⟩
  have k7 := (s5.trans (s6.trans s7)) _ _ k2'
  have R7 := R4.ts (Same.ts (s5.trans (s6.trans s7)))
  show bW _ _ _ _ _
  refine b_cons (sMono (fun σ' H' => ∃ vg w, σ' = [some (.ref a), some (.int way), some (.int odd), some (.int sz), some (vg), some (vt), some (vc), none, some (.ref td), some (.str w), none, none] ∧ Same H7 H' ∧ Four K H' vg vt vc rs tx c w) ?_ ?_)
  · kxs_still
    refine iteD (fun e => ?_) fun e => ?_
    · kxs_still
      refine ⟨lg, vs, rs, _, rfl, k7, R7, G2, rfl, by omega, fun v d H8 s8 hd hb => ?_⟩
      kxs_still
      exact ⟨v, _, rfl, s8, .gr d hd hb⟩
    · kxs_still
      exact ⟨.ref lg, _, rfl, Same.refl _, F7⟩
  rintro σ' H8 ⟨vg, w, rfl, s8, F8⟩
  have hdue8 : ∀ H', Same H8 H' → DueAt H' td rs c (tl tx) := fun H' s => hdue.more ((s6.trans (s7.trans s8)).trans s)
  clear hdue g4 k7 R7 R4 k2'
  show bW _ _ _ _ _
  refine b_cons (sMono (fun σ' H' => σ' = [some (.ref a), some (.int way), some (.int odd), some (.int sz), some (vg), some (vt), some (vc), none, some (.ref td), some (.str w), none, none] ∧ Same H8 H') ?_ ?_)
  · kxs_still
    refine F8.hand htx c1 c2 c3 (fun cls he H9 s9 => ⟨rfl, w, he, fun H10 s10 => ?_⟩) fun ew lg' vs' H9 s9 => ?_
    · kxs_still
      exact ⟨rfl, s9.trans s10⟩
    · subst ew
      kxs_still
      exact ⟨rfl, s9⟩
  rintro σ' H9 ⟨rfl, s9⟩
  show bW _ _ _ _ _
  refine b_cons (sMono (fun σ' H' => ∃ td', σ' = [some (.ref a), some (.int way), some (.int odd), some (.int sz), some (vg), some (vt), some (vc), none, some (.ref td'), some (.str w), none, none] ∧ Same H9 H' ∧ Due2 H' td' rs c (tl tx) w) ?_ ?_)
  · by_cases ew : w = Str.ofString ""
    · subst ew
      kxs_still
      exact ⟨td, rfl, Same.refl _, .inr ⟨rfl, hdue8 _ s9⟩⟩
    · kxs_still
      intro t10 H10 s10 n10 k10 f10
      kxs_still
      exact ⟨t10, rfl, s10, .inl ⟨ew, k10⟩⟩
  rintro σ' H10 ⟨td2, rfl, s10, hd10⟩
  have F10 := F8.more (s9.trans s10)
  show bW _ _ _ _ _
  refine b_cons (sMono (fun σ' H' => ∃ ww vf, σ' = [some (.ref a), some (.int way), some (.int odd), some (.int sz), some (vg), some (vt), some (vc), none, some (.ref td2), some (.str w), some (.str ww), some (vf)] ∧ Same H10 H' ∧ End76 H' td2 rs c (tl tx) w ww vf) ?_ ?_)
  · kxs_still
    refine F10.hand htx c1 c2 c3 (fun cls he H11 s11 => ⟨rfl, w, he.toW, fun t H12 s12 k12 => ?_⟩) fun ew lg' vs' => ?_
    · rcases hd10 with ⟨_, kd⟩ | ⟨ew, _⟩
      · kxs_still
        exact ⟨w, .non, rfl, s11.trans s12, .inl ⟨.inl ⟨he.ne, rfl⟩, rfl, (s11.trans s12) _ _ kd⟩⟩
      · exact absurd ew he.ne
    · rcases hd10 with ⟨ew', _⟩ | ⟨_, hd⟩
      · exact absurd ew ew'
      rcases hd with ⟨hb, kd⟩ | ⟨hg, kd⟩ | ⟨r0, D, v, hr0, hD, hD2, hv, kd⟩
      · refine .inl ⟨hb, fun H11 s11 => ⟨rfl, _, .barren, fun t H12 s12 k12 => ?_⟩⟩
        kxs_still
        exact ⟨_, .non, rfl, s11.trans s12, .inl ⟨.inr ⟨ew, .inl ⟨hb, rfl⟩⟩, rfl, (s11.trans s12) _ _ kd⟩⟩
      · refine .inr (.inl ⟨hg, fun H11 s11 => ⟨rfl, _, .great, fun t H12 s12 k12 => ?_⟩⟩)
        kxs_still
        exact ⟨_, .non, rfl, s11.trans s12, .inl ⟨.inr ⟨ew, .inr ⟨hg, rfl⟩⟩, rfl, (s11.trans s12) _ _ kd⟩⟩
      · refine .inr (.inr ⟨r0, hr0, fun U hU => ⟨D, hD U hU, hD2⟩, fun U v1 tp ld lr vd dd row made H11 hU hv1 s11 m1 m2 m3 mne kt kl ad kr M t H12 s12 k12 => ?_⟩)
        obtain rfl : v1 = D := Option.some.inj (hv1.symm.trans (hD U hU))
        have hsz2 := M.size
        kxs_still
        exact ⟨_, .ref tp, rfl, s11.trans s12, .inr ⟨tp, ld, lr, row, v1, v, rfl, rfl, s12 _ _ kt, s12 _ _ kr, hsz2, hD2, hv.ts (Same.ts (s11.trans s12)), (s11.trans s12) _ _ kd⟩⟩
  rintro σ' H11 ⟨ww, vf, rfl, s11, hend⟩
  have F11 := F10.more s11
  clear F10 F8 hdue8
  rcases hend with ⟨hrf, rfl, kd⟩ | ⟨tp, ld, lr, row, D, v, rfl, rfl, kt, kr, hrow, hD2, ⟨av, rfl, hv⟩, kd⟩
  · have hne := hrf.ne
    kxs_still
    intro t12 H12 s12 n12 k12 f12
    have kd12 := s12 _ _ kd
    kxs_still
    obtain ⟨hsh1, hsh2⟩ := hrf.sh F11
    refine o_eqD hr.units (.tup (SqT.of k12) (.cons (.str _) (.cons .non .nil))) (.tup (SqT.of kd12) (.cons (.str _) (.cons .non .nil))) hsh2 hsh2 ?_
    rw [SeqAt.eqv_refl _ hsh1]
    refine ⟨_, rfl, iteT ?_⟩
    kxs_still
    refine (F11.more s12).hand htx c1 c2 c3 (fun cls he H13 s13 => ⟨rfl, w, he.toW, fun H14 s14 => ?_⟩) fun ew lg' vs' => ?_
    · kxs_still
      exact h _
    · rcases hrf with ⟨e, _⟩ | ⟨_, ⟨hb, _⟩ | ⟨hg, _⟩⟩
      · exact absurd ew e
      · refine .inl ⟨hb, fun H13 s13 => ⟨rfl, _, .barren, fun H14 s14 => ?_⟩⟩
        kxs_still
        exact h _
      · refine .inr (.inl ⟨hg, fun H13 s13 => ⟨rfl, _, .great, fun H14 s14 => ?_⟩⟩)
        kxs_still
        exact h _
  · have hl : row.length ≤ 1000 := by omega
    kxs_still
    intro t12 H12 s12 n12 k12 f12
    have k12' : H12 t12 = some (.tup (tlV D)) := by
      rw [k12, List.length_map, hrow]
      rfl
    have kd12 := s12 _ _ kd
    kxs_still
    refine o_eqD hr.units (TlAt.dp ⟨t12, rfl, k12'⟩) (TlAt.dp ⟨av, rfl, s12 _ _ hv⟩) (oD_sh (some _)) (oD_sh (some _)) ?_
    rw [pD_eqv, decide_eq_true rfl]
    exact h _

end
end
theorem all_mk {l : PySem.W.OpenLaw} {w : World} {K : PySem.W.Frag} {h : Heap} {mg : Str → Option Value} {fa C_ForestError C_NoGrammar C_NoText C_NoRow C_NoRule C_NoNumber C_NoCosts C_NoChange C_NoWords C_Endless C_TooGreat C_Barren f_is_whole f_may_stand f_is_sign f_is_name f_checked_text f_are_parts f_is_rule f_checked f_start_of f_checked_costs f_sign_toll f_lay_leaves f_least_sum f_laid f_lay_span f_tolls f_cuts_of f_sign_deeds f_least_way f_mended f_law_cell_at f_law_mixed f_law_worth f_law_mended f_law_tolls f_law_any f_law_great f_law_barren f_law_odd_grammar f_law_odd_text f_law_odd_costs f_law_pair f_law_due f_law : Addr} (X : K.In h) (G : h.Ns mainGlobals mg) (hfa : mg "law" = some (.ref fa))
    {t_MOST_SIGNS : Tok}
    {t_MOST_RULES : Tok}
    {t_MOST_PARTS : Tok}
    {t_MOST_WORTH : Tok}
    {t_DEAREST : Tok}
    {t_LONGEST : Tok}
    {od_is_whole an_is_whole : Option Addr} {sl_is_whole : Array (Option Value)} {oc_is_whole kV_is_whole dc_is_whole pm_is_whole cd_is_whole ct_is_whole : Value}
    {od_may_stand an_may_stand : Option Addr} {sl_may_stand : Array (Option Value)} {oc_may_stand kV_may_stand dc_may_stand pm_may_stand cd_may_stand ct_may_stand : Value}
    {od_is_sign an_is_sign : Option Addr} {sl_is_sign : Array (Option Value)} {oc_is_sign kV_is_sign dc_is_sign pm_is_sign cd_is_sign ct_is_sign : Value}
    {od_is_name an_is_name : Option Addr} {sl_is_name : Array (Option Value)} {oc_is_name kV_is_name dc_is_name pm_is_name cd_is_name ct_is_name : Value}
    {od_checked_text an_checked_text : Option Addr} {sl_checked_text : Array (Option Value)} {oc_checked_text kV_checked_text dc_checked_text pm_checked_text cd_checked_text ct_checked_text : Value}
    {od_are_parts an_are_parts : Option Addr} {sl_are_parts : Array (Option Value)} {oc_are_parts kV_are_parts dc_are_parts pm_are_parts cd_are_parts ct_are_parts : Value}
    {od_is_rule an_is_rule : Option Addr} {sl_is_rule : Array (Option Value)} {oc_is_rule kV_is_rule dc_is_rule pm_is_rule cd_is_rule ct_is_rule : Value}
    {od_checked an_checked : Option Addr} {sl_checked : Array (Option Value)} {oc_checked kV_checked dc_checked pm_checked cd_checked ct_checked : Value}
    {od_start_of an_start_of : Option Addr} {sl_start_of : Array (Option Value)} {oc_start_of kV_start_of dc_start_of pm_start_of cd_start_of ct_start_of : Value}
    {od_checked_costs an_checked_costs : Option Addr} {sl_checked_costs : Array (Option Value)} {oc_checked_costs kV_checked_costs dc_checked_costs pm_checked_costs cd_checked_costs ct_checked_costs : Value}
    {od_sign_toll an_sign_toll : Option Addr} {sl_sign_toll : Array (Option Value)} {oc_sign_toll kV_sign_toll dc_sign_toll pm_sign_toll cd_sign_toll ct_sign_toll : Value}
    {od_lay_leaves an_lay_leaves : Option Addr} {sl_lay_leaves : Array (Option Value)} {oc_lay_leaves kV_lay_leaves dc_lay_leaves pm_lay_leaves cd_lay_leaves ct_lay_leaves : Value}
    {od_least_sum an_least_sum : Option Addr} {sl_least_sum : Array (Option Value)} {oc_least_sum kV_least_sum dc_least_sum pm_least_sum cd_least_sum ct_least_sum : Value}
    {od_laid an_laid : Option Addr} {sl_laid : Array (Option Value)} {oc_laid kV_laid dc_laid pm_laid cd_laid ct_laid : Value}
    {od_lay_span an_lay_span : Option Addr} {sl_lay_span : Array (Option Value)} {oc_lay_span kV_lay_span dc_lay_span pm_lay_span cd_lay_span ct_lay_span : Value}
    {od_tolls an_tolls : Option Addr} {sl_tolls : Array (Option Value)} {oc_tolls kV_tolls dc_tolls pm_tolls cd_tolls ct_tolls : Value}
    {od_cuts_of an_cuts_of : Option Addr} {sl_cuts_of : Array (Option Value)} {oc_cuts_of kV_cuts_of dc_cuts_of pm_cuts_of cd_cuts_of ct_cuts_of : Value}
    {od_sign_deeds an_sign_deeds : Option Addr} {sl_sign_deeds : Array (Option Value)} {oc_sign_deeds kV_sign_deeds dc_sign_deeds pm_sign_deeds cd_sign_deeds ct_sign_deeds : Value}
    {od_least_way an_least_way : Option Addr} {sl_least_way : Array (Option Value)} {oc_least_way kV_least_way dc_least_way pm_least_way cd_least_way ct_least_way : Value}
    {od_mended an_mended : Option Addr} {sl_mended : Array (Option Value)} {oc_mended kV_mended dc_mended pm_mended cd_mended ct_mended : Value}
    {od_law_cell_at an_law_cell_at : Option Addr} {sl_law_cell_at : Array (Option Value)} {oc_law_cell_at kV_law_cell_at dc_law_cell_at pm_law_cell_at cd_law_cell_at ct_law_cell_at : Value}
    {od_law_mixed an_law_mixed : Option Addr} {sl_law_mixed : Array (Option Value)} {oc_law_mixed kV_law_mixed dc_law_mixed pm_law_mixed cd_law_mixed ct_law_mixed : Value}
    {od_law_worth an_law_worth : Option Addr} {sl_law_worth : Array (Option Value)} {oc_law_worth kV_law_worth dc_law_worth pm_law_worth cd_law_worth ct_law_worth : Value}
    {od_law_mended an_law_mended : Option Addr} {sl_law_mended : Array (Option Value)} {oc_law_mended kV_law_mended dc_law_mended pm_law_mended cd_law_mended ct_law_mended : Value}
    {od_law_tolls an_law_tolls : Option Addr} {sl_law_tolls : Array (Option Value)} {oc_law_tolls kV_law_tolls dc_law_tolls pm_law_tolls cd_law_tolls ct_law_tolls : Value}
    {od_law_any an_law_any : Option Addr} {sl_law_any : Array (Option Value)} {oc_law_any kV_law_any dc_law_any pm_law_any cd_law_any ct_law_any : Value}
    {od_law_great an_law_great : Option Addr} {sl_law_great : Array (Option Value)} {oc_law_great kV_law_great dc_law_great pm_law_great cd_law_great ct_law_great : Value}
    {od_law_barren an_law_barren : Option Addr} {sl_law_barren : Array (Option Value)} {oc_law_barren kV_law_barren dc_law_barren pm_law_barren cd_law_barren ct_law_barren : Value}
    {od_law_odd_grammar an_law_odd_grammar : Option Addr} {sl_law_odd_grammar : Array (Option Value)} {oc_law_odd_grammar kV_law_odd_grammar dc_law_odd_grammar pm_law_odd_grammar cd_law_odd_grammar ct_law_odd_grammar : Value}
    {od_law_odd_text an_law_odd_text : Option Addr} {sl_law_odd_text : Array (Option Value)} {oc_law_odd_text kV_law_odd_text dc_law_odd_text pm_law_odd_text cd_law_odd_text ct_law_odd_text : Value}
    {od_law_odd_costs an_law_odd_costs : Option Addr} {sl_law_odd_costs : Array (Option Value)} {oc_law_odd_costs kV_law_odd_costs dc_law_odd_costs pm_law_odd_costs cd_law_odd_costs ct_law_odd_costs : Value}
    {od_law_pair an_law_pair : Option Addr} {sl_law_pair : Array (Option Value)} {oc_law_pair kV_law_pair dc_law_pair pm_law_pair cd_law_pair ct_law_pair : Value}
    {od_law_due an_law_due : Option Addr} {sl_law_due : Array (Option Value)} {oc_law_due kV_law_due dc_law_due pm_law_due cd_law_due ct_law_due : Value}
    {od_law an_law : Option Addr} {sl_law : Array (Option Value)} {oc_law kV_law dc_law pm_law cd_law ct_law : Value}
    (b_ValueError : PySem.W.nsIn K mainGlobals "ValueError" = some none)
    (b_bool : PySem.W.nsIn K mainGlobals "bool" = some none)
    (b_int : PySem.W.nsIn K mainGlobals "int" = some none)
    (b_isinstance : PySem.W.nsIn K mainGlobals "isinstance" = some none)
    (b_len : PySem.W.nsIn K mainGlobals "len" = some none)
    (b_list : PySem.W.nsIn K mainGlobals "list" = some none)
    (b_min : PySem.W.nsIn K mainGlobals "min" = some none)
    (b_ord : PySem.W.nsIn K mainGlobals "ord" = some none)
    (b_range : PySem.W.nsIn K mainGlobals "range" = some none)
    (b_reversed : PySem.W.nsIn K mainGlobals "reversed" = some none)
    (b_str : PySem.W.nsIn K mainGlobals "str" = some none)
    (b_tuple : PySem.W.nsIn K mainGlobals "tuple" = some none)
    (k_MOST_SIGNS : PySem.W.nsIn K mainGlobals "MOST_SIGNS" = some (some (.int (60) t_MOST_SIGNS)))
    (k_MOST_RULES : PySem.W.nsIn K mainGlobals "MOST_RULES" = some (some (.int (60) t_MOST_RULES)))
    (k_MOST_PARTS : PySem.W.nsIn K mainGlobals "MOST_PARTS" = some (some (.int (6) t_MOST_PARTS)))
    (k_MOST_WORTH : PySem.W.nsIn K mainGlobals "MOST_WORTH" = some (some (.int (1000000000000000000000000000000000000000000000000000000000000) t_MOST_WORTH)))
    (k_DEAREST : PySem.W.nsIn K mainGlobals "DEAREST" = some (some (.int (1000000000000000000000000000000000000000000000000000000000000) t_DEAREST)))
    (k_LONGEST : PySem.W.nsIn K mainGlobals "LONGEST" = some (some (.int (1000) t_LONGEST)))
    (g_ForestError : PySem.W.nsIn K mainGlobals "ForestError" = some (some (.ref C_ForestError)))
    (ex_ForestError : PySem.W.excIn K C_ForestError [.type "ValueError", .type "Exception", .type "BaseException", .type "object"] "ValueError.__new__" = true)
    (kc_ForestError : PySem.W.keepIn K (.ref C_ForestError) = true)
    (bc_ForestError : PySem.W.subIn K (.ref C_ForestError) (.type "BaseException") = some true)
    (tc_ForestError : PySem.W.typeIn K (.ref C_ForestError) = some (.type "type"))
    (ic_ForestError : PySem.W.isClsIn K C_ForestError = true)
    (ga_ForestError : PySem.W.findIn K (.ref C_ForestError) "__getattribute__" = some (some (.builtin "BaseException.__getattribute__")))
    (gk_ForestError : PySem.W.findIn K (.ref C_ForestError) "__getattr__" = some none)
    (hd_ForestError : PySem.W.hasDictIn K C_ForestError = true)
    (ha_ForestError : PySem.W.findIn K (.ref C_ForestError) "__class__" = some (some (.builtin "object.__class__")))
    (hn_ForestError : PySem.W.specialIn K (.builtin "object.__class__") "__get__" = some (some (.builtin "getset_descriptor.__get__")))
    (ht_ForestError : PySem.W.takesIn K (.builtin "object.__class__") = some true)
    (hm_ForestError : PySem.W.mroIn K C_ForestError (.type "object") = some true)
    (ve_ForestError : PySem.W.subIn K (.ref C_ForestError) (.type "ValueError") = some true)
    (g_NoGrammar : PySem.W.nsIn K mainGlobals "NoGrammar" = some (some (.ref C_NoGrammar)))
    (ex_NoGrammar : PySem.W.excIn K C_NoGrammar [.type "ValueError", .type "Exception", .type "BaseException", .type "object"] "ValueError.__new__" = true)
    (kc_NoGrammar : PySem.W.keepIn K (.ref C_NoGrammar) = true)
    (bc_NoGrammar : PySem.W.subIn K (.ref C_NoGrammar) (.type "BaseException") = some true)
    (tc_NoGrammar : PySem.W.typeIn K (.ref C_NoGrammar) = some (.type "type"))
    (ic_NoGrammar : PySem.W.isClsIn K C_NoGrammar = true)
    (ga_NoGrammar : PySem.W.findIn K (.ref C_NoGrammar) "__getattribute__" = some (some (.builtin "BaseException.__getattribute__")))
    (gk_NoGrammar : PySem.W.findIn K (.ref C_NoGrammar) "__getattr__" = some none)
    (hd_NoGrammar : PySem.W.hasDictIn K C_NoGrammar = true)
    (ha_NoGrammar : PySem.W.findIn K (.ref C_NoGrammar) "__class__" = some (some (.builtin "object.__class__")))
    (hn_NoGrammar : PySem.W.specialIn K (.builtin "object.__class__") "__get__" = some (some (.builtin "getset_descriptor.__get__")))
    (ht_NoGrammar : PySem.W.takesIn K (.builtin "object.__class__") = some true)
    (hm_NoGrammar : PySem.W.mroIn K C_NoGrammar (.type "object") = some true)
    (ve_NoGrammar : PySem.W.subIn K (.ref C_NoGrammar) (.type "ValueError") = some true)
    (g_NoText : PySem.W.nsIn K mainGlobals "NoText" = some (some (.ref C_NoText)))
    (ex_NoText : PySem.W.excIn K C_NoText [.type "ValueError", .type "Exception", .type "BaseException", .type "object"] "ValueError.__new__" = true)
    (kc_NoText : PySem.W.keepIn K (.ref C_NoText) = true)
    (bc_NoText : PySem.W.subIn K (.ref C_NoText) (.type "BaseException") = some true)
    (tc_NoText : PySem.W.typeIn K (.ref C_NoText) = some (.type "type"))
    (ic_NoText : PySem.W.isClsIn K C_NoText = true)
    (ga_NoText : PySem.W.findIn K (.ref C_NoText) "__getattribute__" = some (some (.builtin "BaseException.__getattribute__")))
    (gk_NoText : PySem.W.findIn K (.ref C_NoText) "__getattr__" = some none)
    (hd_NoText : PySem.W.hasDictIn K C_NoText = true)
    (ha_NoText : PySem.W.findIn K (.ref C_NoText) "__class__" = some (some (.builtin "object.__class__")))
    (hn_NoText : PySem.W.specialIn K (.builtin "object.__class__") "__get__" = some (some (.builtin "getset_descriptor.__get__")))
    (ht_NoText : PySem.W.takesIn K (.builtin "object.__class__") = some true)
    (hm_NoText : PySem.W.mroIn K C_NoText (.type "object") = some true)
    (ve_NoText : PySem.W.subIn K (.ref C_NoText) (.type "ValueError") = some true)
    (g_NoRow : PySem.W.nsIn K mainGlobals "NoRow" = some (some (.ref C_NoRow)))
    (ex_NoRow : PySem.W.excIn K C_NoRow [.type "ValueError", .type "Exception", .type "BaseException", .type "object"] "ValueError.__new__" = true)
    (kc_NoRow : PySem.W.keepIn K (.ref C_NoRow) = true)
    (bc_NoRow : PySem.W.subIn K (.ref C_NoRow) (.type "BaseException") = some true)
    (tc_NoRow : PySem.W.typeIn K (.ref C_NoRow) = some (.type "type"))
    (ic_NoRow : PySem.W.isClsIn K C_NoRow = true)
    (ga_NoRow : PySem.W.findIn K (.ref C_NoRow) "__getattribute__" = some (some (.builtin "BaseException.__getattribute__")))
    (gk_NoRow : PySem.W.findIn K (.ref C_NoRow) "__getattr__" = some none)
    (hd_NoRow : PySem.W.hasDictIn K C_NoRow = true)
    (ha_NoRow : PySem.W.findIn K (.ref C_NoRow) "__class__" = some (some (.builtin "object.__class__")))
    (hn_NoRow : PySem.W.specialIn K (.builtin "object.__class__") "__get__" = some (some (.builtin "getset_descriptor.__get__")))
    (ht_NoRow : PySem.W.takesIn K (.builtin "object.__class__") = some true)
    (hm_NoRow : PySem.W.mroIn K C_NoRow (.type "object") = some true)
    (ve_NoRow : PySem.W.subIn K (.ref C_NoRow) (.type "ValueError") = some true)
    (g_NoRule : PySem.W.nsIn K mainGlobals "NoRule" = some (some (.ref C_NoRule)))
    (ex_NoRule : PySem.W.excIn K C_NoRule [.type "ValueError", .type "Exception", .type "BaseException", .type "object"] "ValueError.__new__" = true)
    (kc_NoRule : PySem.W.keepIn K (.ref C_NoRule) = true)
    (bc_NoRule : PySem.W.subIn K (.ref C_NoRule) (.type "BaseException") = some true)
    (tc_NoRule : PySem.W.typeIn K (.ref C_NoRule) = some (.type "type"))
    (ic_NoRule : PySem.W.isClsIn K C_NoRule = true)
    (ga_NoRule : PySem.W.findIn K (.ref C_NoRule) "__getattribute__" = some (some (.builtin "BaseException.__getattribute__")))
    (gk_NoRule : PySem.W.findIn K (.ref C_NoRule) "__getattr__" = some none)
    (hd_NoRule : PySem.W.hasDictIn K C_NoRule = true)
    (ha_NoRule : PySem.W.findIn K (.ref C_NoRule) "__class__" = some (some (.builtin "object.__class__")))
    (hn_NoRule : PySem.W.specialIn K (.builtin "object.__class__") "__get__" = some (some (.builtin "getset_descriptor.__get__")))
    (ht_NoRule : PySem.W.takesIn K (.builtin "object.__class__") = some true)
    (hm_NoRule : PySem.W.mroIn K C_NoRule (.type "object") = some true)
    (ve_NoRule : PySem.W.subIn K (.ref C_NoRule) (.type "ValueError") = some true)
    (g_NoNumber : PySem.W.nsIn K mainGlobals "NoNumber" = some (some (.ref C_NoNumber)))
    (ex_NoNumber : PySem.W.excIn K C_NoNumber [.type "ValueError", .type "Exception", .type "BaseException", .type "object"] "ValueError.__new__" = true)
    (kc_NoNumber : PySem.W.keepIn K (.ref C_NoNumber) = true)
    (bc_NoNumber : PySem.W.subIn K (.ref C_NoNumber) (.type "BaseException") = some true)
    (tc_NoNumber : PySem.W.typeIn K (.ref C_NoNumber) = some (.type "type"))
    (ic_NoNumber : PySem.W.isClsIn K C_NoNumber = true)
    (ga_NoNumber : PySem.W.findIn K (.ref C_NoNumber) "__getattribute__" = some (some (.builtin "BaseException.__getattribute__")))
    (gk_NoNumber : PySem.W.findIn K (.ref C_NoNumber) "__getattr__" = some none)
    (hd_NoNumber : PySem.W.hasDictIn K C_NoNumber = true)
    (ha_NoNumber : PySem.W.findIn K (.ref C_NoNumber) "__class__" = some (some (.builtin "object.__class__")))
    (hn_NoNumber : PySem.W.specialIn K (.builtin "object.__class__") "__get__" = some (some (.builtin "getset_descriptor.__get__")))
    (ht_NoNumber : PySem.W.takesIn K (.builtin "object.__class__") = some true)
    (hm_NoNumber : PySem.W.mroIn K C_NoNumber (.type "object") = some true)
    (ve_NoNumber : PySem.W.subIn K (.ref C_NoNumber) (.type "ValueError") = some true)
    (g_NoCosts : PySem.W.nsIn K mainGlobals "NoCosts" = some (some (.ref C_NoCosts)))
    (ex_NoCosts : PySem.W.excIn K C_NoCosts [.type "ValueError", .type "Exception", .type "BaseException", .type "object"] "ValueError.__new__" = true)
    (kc_NoCosts : PySem.W.keepIn K (.ref C_NoCosts) = true)
    (bc_NoCosts : PySem.W.subIn K (.ref C_NoCosts) (.type "BaseException") = some true)
    (tc_NoCosts : PySem.W.typeIn K (.ref C_NoCosts) = some (.type "type"))
    (ic_NoCosts : PySem.W.isClsIn K C_NoCosts = true)
    (ga_NoCosts : PySem.W.findIn K (.ref C_NoCosts) "__getattribute__" = some (some (.builtin "BaseException.__getattribute__")))
    (gk_NoCosts : PySem.W.findIn K (.ref C_NoCosts) "__getattr__" = some none)
    (hd_NoCosts : PySem.W.hasDictIn K C_NoCosts = true)
    (ha_NoCosts : PySem.W.findIn K (.ref C_NoCosts) "__class__" = some (some (.builtin "object.__class__")))
    (hn_NoCosts : PySem.W.specialIn K (.builtin "object.__class__") "__get__" = some (some (.builtin "getset_descriptor.__get__")))
    (ht_NoCosts : PySem.W.takesIn K (.builtin "object.__class__") = some true)
    (hm_NoCosts : PySem.W.mroIn K C_NoCosts (.type "object") = some true)
    (ve_NoCosts : PySem.W.subIn K (.ref C_NoCosts) (.type "ValueError") = some true)
    (g_NoChange : PySem.W.nsIn K mainGlobals "NoChange" = some (some (.ref C_NoChange)))
    (ex_NoChange : PySem.W.excIn K C_NoChange [.type "ValueError", .type "Exception", .type "BaseException", .type "object"] "ValueError.__new__" = true)
    (kc_NoChange : PySem.W.keepIn K (.ref C_NoChange) = true)
    (bc_NoChange : PySem.W.subIn K (.ref C_NoChange) (.type "BaseException") = some true)
    (tc_NoChange : PySem.W.typeIn K (.ref C_NoChange) = some (.type "type"))
    (ic_NoChange : PySem.W.isClsIn K C_NoChange = true)
    (ga_NoChange : PySem.W.findIn K (.ref C_NoChange) "__getattribute__" = some (some (.builtin "BaseException.__getattribute__")))
    (gk_NoChange : PySem.W.findIn K (.ref C_NoChange) "__getattr__" = some none)
    (hd_NoChange : PySem.W.hasDictIn K C_NoChange = true)
    (ha_NoChange : PySem.W.findIn K (.ref C_NoChange) "__class__" = some (some (.builtin "object.__class__")))
    (hn_NoChange : PySem.W.specialIn K (.builtin "object.__class__") "__get__" = some (some (.builtin "getset_descriptor.__get__")))
    (ht_NoChange : PySem.W.takesIn K (.builtin "object.__class__") = some true)
    (hm_NoChange : PySem.W.mroIn K C_NoChange (.type "object") = some true)
    (ve_NoChange : PySem.W.subIn K (.ref C_NoChange) (.type "ValueError") = some true)
    (g_NoWords : PySem.W.nsIn K mainGlobals "NoWords" = some (some (.ref C_NoWords)))
    (ex_NoWords : PySem.W.excIn K C_NoWords [.type "ValueError", .type "Exception", .type "BaseException", .type "object"] "ValueError.__new__" = true)
    (kc_NoWords : PySem.W.keepIn K (.ref C_NoWords) = true)
    (bc_NoWords : PySem.W.subIn K (.ref C_NoWords) (.type "BaseException") = some true)
    (tc_NoWords : PySem.W.typeIn K (.ref C_NoWords) = some (.type "type"))
    (ic_NoWords : PySem.W.isClsIn K C_NoWords = true)
    (ga_NoWords : PySem.W.findIn K (.ref C_NoWords) "__getattribute__" = some (some (.builtin "BaseException.__getattribute__")))
    (gk_NoWords : PySem.W.findIn K (.ref C_NoWords) "__getattr__" = some none)
    (hd_NoWords : PySem.W.hasDictIn K C_NoWords = true)
    (ha_NoWords : PySem.W.findIn K (.ref C_NoWords) "__class__" = some (some (.builtin "object.__class__")))
    (hn_NoWords : PySem.W.specialIn K (.builtin "object.__class__") "__get__" = some (some (.builtin "getset_descriptor.__get__")))
    (ht_NoWords : PySem.W.takesIn K (.builtin "object.__class__") = some true)
    (hm_NoWords : PySem.W.mroIn K C_NoWords (.type "object") = some true)
    (ve_NoWords : PySem.W.subIn K (.ref C_NoWords) (.type "ValueError") = some true)
    (g_Endless : PySem.W.nsIn K mainGlobals "Endless" = some (some (.ref C_Endless)))
    (ex_Endless : PySem.W.excIn K C_Endless [.type "ValueError", .type "Exception", .type "BaseException", .type "object"] "ValueError.__new__" = true)
    (kc_Endless : PySem.W.keepIn K (.ref C_Endless) = true)
    (bc_Endless : PySem.W.subIn K (.ref C_Endless) (.type "BaseException") = some true)
    (tc_Endless : PySem.W.typeIn K (.ref C_Endless) = some (.type "type"))
    (ic_Endless : PySem.W.isClsIn K C_Endless = true)
    (ga_Endless : PySem.W.findIn K (.ref C_Endless) "__getattribute__" = some (some (.builtin "BaseException.__getattribute__")))
    (gk_Endless : PySem.W.findIn K (.ref C_Endless) "__getattr__" = some none)
    (hd_Endless : PySem.W.hasDictIn K C_Endless = true)
    (ha_Endless : PySem.W.findIn K (.ref C_Endless) "__class__" = some (some (.builtin "object.__class__")))
    (hn_Endless : PySem.W.specialIn K (.builtin "object.__class__") "__get__" = some (some (.builtin "getset_descriptor.__get__")))
    (ht_Endless : PySem.W.takesIn K (.builtin "object.__class__") = some true)
    (hm_Endless : PySem.W.mroIn K C_Endless (.type "object") = some true)
    (ve_Endless : PySem.W.subIn K (.ref C_Endless) (.type "ValueError") = some true)
    (g_TooGreat : PySem.W.nsIn K mainGlobals "TooGreat" = some (some (.ref C_TooGreat)))
    (ex_TooGreat : PySem.W.excIn K C_TooGreat [.type "ValueError", .type "Exception", .type "BaseException", .type "object"] "ValueError.__new__" = true)
    (kc_TooGreat : PySem.W.keepIn K (.ref C_TooGreat) = true)
    (bc_TooGreat : PySem.W.subIn K (.ref C_TooGreat) (.type "BaseException") = some true)
    (tc_TooGreat : PySem.W.typeIn K (.ref C_TooGreat) = some (.type "type"))
    (ic_TooGreat : PySem.W.isClsIn K C_TooGreat = true)
    (ga_TooGreat : PySem.W.findIn K (.ref C_TooGreat) "__getattribute__" = some (some (.builtin "BaseException.__getattribute__")))
    (gk_TooGreat : PySem.W.findIn K (.ref C_TooGreat) "__getattr__" = some none)
    (hd_TooGreat : PySem.W.hasDictIn K C_TooGreat = true)
    (ha_TooGreat : PySem.W.findIn K (.ref C_TooGreat) "__class__" = some (some (.builtin "object.__class__")))
    (hn_TooGreat : PySem.W.specialIn K (.builtin "object.__class__") "__get__" = some (some (.builtin "getset_descriptor.__get__")))
    (ht_TooGreat : PySem.W.takesIn K (.builtin "object.__class__") = some true)
    (hm_TooGreat : PySem.W.mroIn K C_TooGreat (.type "object") = some true)
    (ve_TooGreat : PySem.W.subIn K (.ref C_TooGreat) (.type "ValueError") = some true)
    (g_Barren : PySem.W.nsIn K mainGlobals "Barren" = some (some (.ref C_Barren)))
    (ex_Barren : PySem.W.excIn K C_Barren [.type "ValueError", .type "Exception", .type "BaseException", .type "object"] "ValueError.__new__" = true)
    (kc_Barren : PySem.W.keepIn K (.ref C_Barren) = true)
    (bc_Barren : PySem.W.subIn K (.ref C_Barren) (.type "BaseException") = some true)
    (tc_Barren : PySem.W.typeIn K (.ref C_Barren) = some (.type "type"))
    (ic_Barren : PySem.W.isClsIn K C_Barren = true)
    (ga_Barren : PySem.W.findIn K (.ref C_Barren) "__getattribute__" = some (some (.builtin "BaseException.__getattribute__")))
    (gk_Barren : PySem.W.findIn K (.ref C_Barren) "__getattr__" = some none)
    (hd_Barren : PySem.W.hasDictIn K C_Barren = true)
    (ha_Barren : PySem.W.findIn K (.ref C_Barren) "__class__" = some (some (.builtin "object.__class__")))
    (hn_Barren : PySem.W.specialIn K (.builtin "object.__class__") "__get__" = some (some (.builtin "getset_descriptor.__get__")))
    (ht_Barren : PySem.W.takesIn K (.builtin "object.__class__") = some true)
    (hm_Barren : PySem.W.mroIn K C_Barren (.type "object") = some true)
    (ve_Barren : PySem.W.subIn K (.ref C_Barren) (.type "ValueError") = some true)
    (su_NoGrammar_ForestError : PySem.W.subIn K (.ref C_NoGrammar) (.ref C_ForestError) = some true)
    (su_NoGrammar_NoGrammar : PySem.W.subIn K (.ref C_NoGrammar) (.ref C_NoGrammar) = some true)
    (su_NoGrammar_NoText : PySem.W.subIn K (.ref C_NoGrammar) (.ref C_NoText) = some false)
    (su_NoGrammar_NoRow : PySem.W.subIn K (.ref C_NoGrammar) (.ref C_NoRow) = some false)
    (su_NoGrammar_NoRule : PySem.W.subIn K (.ref C_NoGrammar) (.ref C_NoRule) = some false)
    (su_NoGrammar_NoNumber : PySem.W.subIn K (.ref C_NoGrammar) (.ref C_NoNumber) = some false)
    (su_NoGrammar_NoCosts : PySem.W.subIn K (.ref C_NoGrammar) (.ref C_NoCosts) = some false)
    (su_NoGrammar_NoChange : PySem.W.subIn K (.ref C_NoGrammar) (.ref C_NoChange) = some false)
    (su_NoGrammar_NoWords : PySem.W.subIn K (.ref C_NoGrammar) (.ref C_NoWords) = some false)
    (su_NoGrammar_Endless : PySem.W.subIn K (.ref C_NoGrammar) (.ref C_Endless) = some false)
    (su_NoGrammar_TooGreat : PySem.W.subIn K (.ref C_NoGrammar) (.ref C_TooGreat) = some false)
    (su_NoGrammar_Barren : PySem.W.subIn K (.ref C_NoGrammar) (.ref C_Barren) = some false)
    (su_NoText_ForestError : PySem.W.subIn K (.ref C_NoText) (.ref C_ForestError) = some true)
    (su_NoText_NoGrammar : PySem.W.subIn K (.ref C_NoText) (.ref C_NoGrammar) = some false)
    (su_NoText_NoText : PySem.W.subIn K (.ref C_NoText) (.ref C_NoText) = some true)
    (su_NoText_NoRow : PySem.W.subIn K (.ref C_NoText) (.ref C_NoRow) = some false)
    (su_NoText_NoRule : PySem.W.subIn K (.ref C_NoText) (.ref C_NoRule) = some false)
    (su_NoText_NoNumber : PySem.W.subIn K (.ref C_NoText) (.ref C_NoNumber) = some false)
    (su_NoText_NoCosts : PySem.W.subIn K (.ref C_NoText) (.ref C_NoCosts) = some false)
    (su_NoText_NoChange : PySem.W.subIn K (.ref C_NoText) (.ref C_NoChange) = some false)
    (su_NoText_NoWords : PySem.W.subIn K (.ref C_NoText) (.ref C_NoWords) = some false)
    (su_NoText_Endless : PySem.W.subIn K (.ref C_NoText) (.ref C_Endless) = some false)
    (su_NoText_TooGreat : PySem.W.subIn K (.ref C_NoText) (.ref C_TooGreat) = some false)
    (su_NoText_Barren : PySem.W.subIn K (.ref C_NoText) (.ref C_Barren) = some false)
    (su_NoCosts_ForestError : PySem.W.subIn K (.ref C_NoCosts) (.ref C_ForestError) = some true)
    (su_NoCosts_NoGrammar : PySem.W.subIn K (.ref C_NoCosts) (.ref C_NoGrammar) = some false)
    (su_NoCosts_NoText : PySem.W.subIn K (.ref C_NoCosts) (.ref C_NoText) = some false)
    (su_NoCosts_NoRow : PySem.W.subIn K (.ref C_NoCosts) (.ref C_NoRow) = some false)
    (su_NoCosts_NoRule : PySem.W.subIn K (.ref C_NoCosts) (.ref C_NoRule) = some false)
    (su_NoCosts_NoNumber : PySem.W.subIn K (.ref C_NoCosts) (.ref C_NoNumber) = some false)
    (su_NoCosts_NoCosts : PySem.W.subIn K (.ref C_NoCosts) (.ref C_NoCosts) = some true)
    (su_NoCosts_NoChange : PySem.W.subIn K (.ref C_NoCosts) (.ref C_NoChange) = some false)
    (su_NoCosts_NoWords : PySem.W.subIn K (.ref C_NoCosts) (.ref C_NoWords) = some false)
    (su_NoCosts_Endless : PySem.W.subIn K (.ref C_NoCosts) (.ref C_Endless) = some false)
    (su_NoCosts_TooGreat : PySem.W.subIn K (.ref C_NoCosts) (.ref C_TooGreat) = some false)
    (su_NoCosts_Barren : PySem.W.subIn K (.ref C_NoCosts) (.ref C_Barren) = some false)
    (su_TooGreat_ForestError : PySem.W.subIn K (.ref C_TooGreat) (.ref C_ForestError) = some true)
    (su_TooGreat_NoGrammar : PySem.W.subIn K (.ref C_TooGreat) (.ref C_NoGrammar) = some false)
    (su_TooGreat_NoText : PySem.W.subIn K (.ref C_TooGreat) (.ref C_NoText) = some false)
    (su_TooGreat_NoRow : PySem.W.subIn K (.ref C_TooGreat) (.ref C_NoRow) = some false)
    (su_TooGreat_NoRule : PySem.W.subIn K (.ref C_TooGreat) (.ref C_NoRule) = some false)
    (su_TooGreat_NoNumber : PySem.W.subIn K (.ref C_TooGreat) (.ref C_NoNumber) = some false)
    (su_TooGreat_NoCosts : PySem.W.subIn K (.ref C_TooGreat) (.ref C_NoCosts) = some false)
    (su_TooGreat_NoChange : PySem.W.subIn K (.ref C_TooGreat) (.ref C_NoChange) = some false)
    (su_TooGreat_NoWords : PySem.W.subIn K (.ref C_TooGreat) (.ref C_NoWords) = some false)
    (su_TooGreat_Endless : PySem.W.subIn K (.ref C_TooGreat) (.ref C_Endless) = some false)
    (su_TooGreat_TooGreat : PySem.W.subIn K (.ref C_TooGreat) (.ref C_TooGreat) = some true)
    (su_TooGreat_Barren : PySem.W.subIn K (.ref C_TooGreat) (.ref C_Barren) = some false)
    (su_Barren_ForestError : PySem.W.subIn K (.ref C_Barren) (.ref C_ForestError) = some true)
    (su_Barren_NoGrammar : PySem.W.subIn K (.ref C_Barren) (.ref C_NoGrammar) = some false)
    (su_Barren_NoText : PySem.W.subIn K (.ref C_Barren) (.ref C_NoText) = some false)
    (su_Barren_NoRow : PySem.W.subIn K (.ref C_Barren) (.ref C_NoRow) = some false)
    (su_Barren_NoRule : PySem.W.subIn K (.ref C_Barren) (.ref C_NoRule) = some false)
    (su_Barren_NoNumber : PySem.W.subIn K (.ref C_Barren) (.ref C_NoNumber) = some false)
    (su_Barren_NoCosts : PySem.W.subIn K (.ref C_Barren) (.ref C_NoCosts) = some false)
    (su_Barren_NoChange : PySem.W.subIn K (.ref C_Barren) (.ref C_NoChange) = some false)
    (su_Barren_NoWords : PySem.W.subIn K (.ref C_Barren) (.ref C_NoWords) = some false)
    (su_Barren_Endless : PySem.W.subIn K (.ref C_Barren) (.ref C_Endless) = some false)
    (su_Barren_TooGreat : PySem.W.subIn K (.ref C_Barren) (.ref C_TooGreat) = some false)
    (su_Barren_Barren : PySem.W.subIn K (.ref C_Barren) (.ref C_Barren) = some true)
    (a_is_whole : PySem.W.nsIn K mainGlobals "is_whole" = some (some (.ref f_is_whole)))
    (l_is_whole : K.lookup f_is_whole = some ⟨oc_is_whole, od_is_whole, .func (PySem.W.fnOf "is_whole" "is_whole" (defArgs s_is_whole) (defBody s_is_whole) (defScope s_is_whole) .none kV_is_whole dc_is_whole pm_is_whole an_is_whole cd_is_whole ct_is_whole), sl_is_whole⟩)
    (e_is_whole : PySem.W.codeIn K cd_is_whole "is_whole" = true)
    (p_is_whole : PySem.W.keepIn K (.ref f_is_whole) = true)
    (a_may_stand : PySem.W.nsIn K mainGlobals "may_stand" = some (some (.ref f_may_stand)))
    (l_may_stand : K.lookup f_may_stand = some ⟨oc_may_stand, od_may_stand, .func (PySem.W.fnOf "may_stand" "may_stand" (defArgs s_may_stand) (defBody s_may_stand) (defScope s_may_stand) .none kV_may_stand dc_may_stand pm_may_stand an_may_stand cd_may_stand ct_may_stand), sl_may_stand⟩)
    (e_may_stand : PySem.W.codeIn K cd_may_stand "may_stand" = true)
    (p_may_stand : PySem.W.keepIn K (.ref f_may_stand) = true)
    (a_is_sign : PySem.W.nsIn K mainGlobals "is_sign" = some (some (.ref f_is_sign)))
    (l_is_sign : K.lookup f_is_sign = some ⟨oc_is_sign, od_is_sign, .func (PySem.W.fnOf "is_sign" "is_sign" (defArgs s_is_sign) (defBody s_is_sign) (defScope s_is_sign) .none kV_is_sign dc_is_sign pm_is_sign an_is_sign cd_is_sign ct_is_sign), sl_is_sign⟩)
    (e_is_sign : PySem.W.codeIn K cd_is_sign "is_sign" = true)
    (p_is_sign : PySem.W.keepIn K (.ref f_is_sign) = true)
    (a_is_name : PySem.W.nsIn K mainGlobals "is_name" = some (some (.ref f_is_name)))
    (l_is_name : K.lookup f_is_name = some ⟨oc_is_name, od_is_name, .func (PySem.W.fnOf "is_name" "is_name" (defArgs s_is_name) (defBody s_is_name) (defScope s_is_name) .none kV_is_name dc_is_name pm_is_name an_is_name cd_is_name ct_is_name), sl_is_name⟩)
    (e_is_name : PySem.W.codeIn K cd_is_name "is_name" = true)
    (p_is_name : PySem.W.keepIn K (.ref f_is_name) = true)
    (a_checked_text : PySem.W.nsIn K mainGlobals "checked_text" = some (some (.ref f_checked_text)))
    (l_checked_text : K.lookup f_checked_text = some ⟨oc_checked_text, od_checked_text, .func (PySem.W.fnOf "checked_text" "checked_text" (defArgs s_checked_text) (defBody s_checked_text) (defScope s_checked_text) .none kV_checked_text dc_checked_text pm_checked_text an_checked_text cd_checked_text ct_checked_text), sl_checked_text⟩)
    (e_checked_text : PySem.W.codeIn K cd_checked_text "checked_text" = true)
    (p_checked_text : PySem.W.keepIn K (.ref f_checked_text) = true)
    (a_are_parts : PySem.W.nsIn K mainGlobals "are_parts" = some (some (.ref f_are_parts)))
    (l_are_parts : K.lookup f_are_parts = some ⟨oc_are_parts, od_are_parts, .func (PySem.W.fnOf "are_parts" "are_parts" (defArgs s_are_parts) (defBody s_are_parts) (defScope s_are_parts) .none kV_are_parts dc_are_parts pm_are_parts an_are_parts cd_are_parts ct_are_parts), sl_are_parts⟩)
    (e_are_parts : PySem.W.codeIn K cd_are_parts "are_parts" = true)
    (p_are_parts : PySem.W.keepIn K (.ref f_are_parts) = true)
    (a_is_rule : PySem.W.nsIn K mainGlobals "is_rule" = some (some (.ref f_is_rule)))
    (l_is_rule : K.lookup f_is_rule = some ⟨oc_is_rule, od_is_rule, .func (PySem.W.fnOf "is_rule" "is_rule" (defArgs s_is_rule) (defBody s_is_rule) (defScope s_is_rule) .none kV_is_rule dc_is_rule pm_is_rule an_is_rule cd_is_rule ct_is_rule), sl_is_rule⟩)
    (e_is_rule : PySem.W.codeIn K cd_is_rule "is_rule" = true)
    (p_is_rule : PySem.W.keepIn K (.ref f_is_rule) = true)
    (a_checked : PySem.W.nsIn K mainGlobals "checked" = some (some (.ref f_checked)))
    (l_checked : K.lookup f_checked = some ⟨oc_checked, od_checked, .func (PySem.W.fnOf "checked" "checked" (defArgs s_checked) (defBody s_checked) (defScope s_checked) .none kV_checked dc_checked pm_checked an_checked cd_checked ct_checked), sl_checked⟩)
    (e_checked : PySem.W.codeIn K cd_checked "checked" = true)
    (p_checked : PySem.W.keepIn K (.ref f_checked) = true)
    (a_start_of : PySem.W.nsIn K mainGlobals "start_of" = some (some (.ref f_start_of)))
    (l_start_of : K.lookup f_start_of = some ⟨oc_start_of, od_start_of, .func (PySem.W.fnOf "start_of" "start_of" (defArgs s_start_of) (defBody s_start_of) (defScope s_start_of) .none kV_start_of dc_start_of pm_start_of an_start_of cd_start_of ct_start_of), sl_start_of⟩)
    (e_start_of : PySem.W.codeIn K cd_start_of "start_of" = true)
    (p_start_of : PySem.W.keepIn K (.ref f_start_of) = true)
    (a_checked_costs : PySem.W.nsIn K mainGlobals "checked_costs" = some (some (.ref f_checked_costs)))
    (l_checked_costs : K.lookup f_checked_costs = some ⟨oc_checked_costs, od_checked_costs, .func (PySem.W.fnOf "checked_costs" "checked_costs" (defArgs s_checked_costs) (defBody s_checked_costs) (defScope s_checked_costs) .none kV_checked_costs dc_checked_costs pm_checked_costs an_checked_costs cd_checked_costs ct_checked_costs), sl_checked_costs⟩)
    (e_checked_costs : PySem.W.codeIn K cd_checked_costs "checked_costs" = true)
    (p_checked_costs : PySem.W.keepIn K (.ref f_checked_costs) = true)
    (a_sign_toll : PySem.W.nsIn K mainGlobals "sign_toll" = some (some (.ref f_sign_toll)))
    (l_sign_toll : K.lookup f_sign_toll = some ⟨oc_sign_toll, od_sign_toll, .func (PySem.W.fnOf "sign_toll" "sign_toll" (defArgs s_sign_toll) (defBody s_sign_toll) (defScope s_sign_toll) .none kV_sign_toll dc_sign_toll pm_sign_toll an_sign_toll cd_sign_toll ct_sign_toll), sl_sign_toll⟩)
    (e_sign_toll : PySem.W.codeIn K cd_sign_toll "sign_toll" = true)
    (p_sign_toll : PySem.W.keepIn K (.ref f_sign_toll) = true)
    (a_lay_leaves : PySem.W.nsIn K mainGlobals "lay_leaves" = some (some (.ref f_lay_leaves)))
    (l_lay_leaves : K.lookup f_lay_leaves = some ⟨oc_lay_leaves, od_lay_leaves, .func (PySem.W.fnOf "lay_leaves" "lay_leaves" (defArgs s_lay_leaves) (defBody s_lay_leaves) (defScope s_lay_leaves) .none kV_lay_leaves dc_lay_leaves pm_lay_leaves an_lay_leaves cd_lay_leaves ct_lay_leaves), sl_lay_leaves⟩)
    (e_lay_leaves : PySem.W.codeIn K cd_lay_leaves "lay_leaves" = true)
    (p_lay_leaves : PySem.W.keepIn K (.ref f_lay_leaves) = true)
    (a_least_sum : PySem.W.nsIn K mainGlobals "least_sum" = some (some (.ref f_least_sum)))
    (l_least_sum : K.lookup f_least_sum = some ⟨oc_least_sum, od_least_sum, .func (PySem.W.fnOf "least_sum" "least_sum" (defArgs s_least_sum) (defBody s_least_sum) (defScope s_least_sum) .none kV_least_sum dc_least_sum pm_least_sum an_least_sum cd_least_sum ct_least_sum), sl_least_sum⟩)
    (e_least_sum : PySem.W.codeIn K cd_least_sum "least_sum" = true)
    (p_least_sum : PySem.W.keepIn K (.ref f_least_sum) = true)
    (a_laid : PySem.W.nsIn K mainGlobals "laid" = some (some (.ref f_laid)))
    (l_laid : K.lookup f_laid = some ⟨oc_laid, od_laid, .func (PySem.W.fnOf "laid" "laid" (defArgs s_laid) (defBody s_laid) (defScope s_laid) .none kV_laid dc_laid pm_laid an_laid cd_laid ct_laid), sl_laid⟩)
    (e_laid : PySem.W.codeIn K cd_laid "laid" = true)
    (p_laid : PySem.W.keepIn K (.ref f_laid) = true)
    (a_lay_span : PySem.W.nsIn K mainGlobals "lay_span" = some (some (.ref f_lay_span)))
    (l_lay_span : K.lookup f_lay_span = some ⟨oc_lay_span, od_lay_span, .func (PySem.W.fnOf "lay_span" "lay_span" (defArgs s_lay_span) (defBody s_lay_span) (defScope s_lay_span) .none kV_lay_span dc_lay_span pm_lay_span an_lay_span cd_lay_span ct_lay_span), sl_lay_span⟩)
    (e_lay_span : PySem.W.codeIn K cd_lay_span "lay_span" = true)
    (p_lay_span : PySem.W.keepIn K (.ref f_lay_span) = true)
    (a_tolls : PySem.W.nsIn K mainGlobals "tolls" = some (some (.ref f_tolls)))
    (l_tolls : K.lookup f_tolls = some ⟨oc_tolls, od_tolls, .func (PySem.W.fnOf "tolls" "tolls" (defArgs s_tolls) (defBody s_tolls) (defScope s_tolls) .none kV_tolls dc_tolls pm_tolls an_tolls cd_tolls ct_tolls), sl_tolls⟩)
    (e_tolls : PySem.W.codeIn K cd_tolls "tolls" = true)
    (p_tolls : PySem.W.keepIn K (.ref f_tolls) = true)
    (a_cuts_of : PySem.W.nsIn K mainGlobals "cuts_of" = some (some (.ref f_cuts_of)))
    (l_cuts_of : K.lookup f_cuts_of = some ⟨oc_cuts_of, od_cuts_of, .func (PySem.W.fnOf "cuts_of" "cuts_of" (defArgs s_cuts_of) (defBody s_cuts_of) (defScope s_cuts_of) .none kV_cuts_of dc_cuts_of pm_cuts_of an_cuts_of cd_cuts_of ct_cuts_of), sl_cuts_of⟩)
    (e_cuts_of : PySem.W.codeIn K cd_cuts_of "cuts_of" = true)
    (p_cuts_of : PySem.W.keepIn K (.ref f_cuts_of) = true)
    (a_sign_deeds : PySem.W.nsIn K mainGlobals "sign_deeds" = some (some (.ref f_sign_deeds)))
    (l_sign_deeds : K.lookup f_sign_deeds = some ⟨oc_sign_deeds, od_sign_deeds, .func (PySem.W.fnOf "sign_deeds" "sign_deeds" (defArgs s_sign_deeds) (defBody s_sign_deeds) (defScope s_sign_deeds) .none kV_sign_deeds dc_sign_deeds pm_sign_deeds an_sign_deeds cd_sign_deeds ct_sign_deeds), sl_sign_deeds⟩)
    (e_sign_deeds : PySem.W.codeIn K cd_sign_deeds "sign_deeds" = true)
    (p_sign_deeds : PySem.W.keepIn K (.ref f_sign_deeds) = true)
    (a_least_way : PySem.W.nsIn K mainGlobals "least_way" = some (some (.ref f_least_way)))
    (l_least_way : K.lookup f_least_way = some ⟨oc_least_way, od_least_way, .func (PySem.W.fnOf "least_way" "least_way" (defArgs s_least_way) (defBody s_least_way) (defScope s_least_way) .none kV_least_way dc_least_way pm_least_way an_least_way cd_least_way ct_least_way), sl_least_way⟩)
    (e_least_way : PySem.W.codeIn K cd_least_way "least_way" = true)
    (p_least_way : PySem.W.keepIn K (.ref f_least_way) = true)
    (a_mended : PySem.W.nsIn K mainGlobals "mended" = some (some (.ref f_mended)))
    (l_mended : K.lookup f_mended = some ⟨oc_mended, od_mended, .func (PySem.W.fnOf "mended" "mended" (defArgs s_mended) (defBody s_mended) (defScope s_mended) .none kV_mended dc_mended pm_mended an_mended cd_mended ct_mended), sl_mended⟩)
    (e_mended : PySem.W.codeIn K cd_mended "mended" = true)
    (p_mended : PySem.W.keepIn K (.ref f_mended) = true)
    (a_law_cell_at : PySem.W.nsIn K mainGlobals "_law_cell_at" = some (some (.ref f_law_cell_at)))
    (l_law_cell_at : K.lookup f_law_cell_at = some ⟨oc_law_cell_at, od_law_cell_at, .func (PySem.W.fnOf "_law_cell_at" "_law_cell_at" (defArgs s_law_cell_at) (defBody s_law_cell_at) (defScope s_law_cell_at) .none kV_law_cell_at dc_law_cell_at pm_law_cell_at an_law_cell_at cd_law_cell_at ct_law_cell_at), sl_law_cell_at⟩)
    (e_law_cell_at : PySem.W.codeIn K cd_law_cell_at "_law_cell_at" = true)
    (p_law_cell_at : PySem.W.keepIn K (.ref f_law_cell_at) = true)
    (a_law_mixed : PySem.W.nsIn K mainGlobals "_law_mixed" = some (some (.ref f_law_mixed)))
    (l_law_mixed : K.lookup f_law_mixed = some ⟨oc_law_mixed, od_law_mixed, .func (PySem.W.fnOf "_law_mixed" "_law_mixed" (defArgs s_law_mixed) (defBody s_law_mixed) (defScope s_law_mixed) .none kV_law_mixed dc_law_mixed pm_law_mixed an_law_mixed cd_law_mixed ct_law_mixed), sl_law_mixed⟩)
    (e_law_mixed : PySem.W.codeIn K cd_law_mixed "_law_mixed" = true)
    (p_law_mixed : PySem.W.keepIn K (.ref f_law_mixed) = true)
    (a_law_worth : PySem.W.nsIn K mainGlobals "_law_worth" = some (some (.ref f_law_worth)))
    (l_law_worth : K.lookup f_law_worth = some ⟨oc_law_worth, od_law_worth, .func (PySem.W.fnOf "_law_worth" "_law_worth" (defArgs s_law_worth) (defBody s_law_worth) (defScope s_law_worth) .none kV_law_worth dc_law_worth pm_law_worth an_law_worth cd_law_worth ct_law_worth), sl_law_worth⟩)
    (e_law_worth : PySem.W.codeIn K cd_law_worth "_law_worth" = true)
    (p_law_worth : PySem.W.keepIn K (.ref f_law_worth) = true)
    (a_law_mended : PySem.W.nsIn K mainGlobals "_law_mended" = some (some (.ref f_law_mended)))
    (l_law_mended : K.lookup f_law_mended = some ⟨oc_law_mended, od_law_mended, .func (PySem.W.fnOf "_law_mended" "_law_mended" (defArgs s_law_mended) (defBody s_law_mended) (defScope s_law_mended) .none kV_law_mended dc_law_mended pm_law_mended an_law_mended cd_law_mended ct_law_mended), sl_law_mended⟩)
    (e_law_mended : PySem.W.codeIn K cd_law_mended "_law_mended" = true)
    (p_law_mended : PySem.W.keepIn K (.ref f_law_mended) = true)
    (a_law_tolls : PySem.W.nsIn K mainGlobals "_law_tolls" = some (some (.ref f_law_tolls)))
    (l_law_tolls : K.lookup f_law_tolls = some ⟨oc_law_tolls, od_law_tolls, .func (PySem.W.fnOf "_law_tolls" "_law_tolls" (defArgs s_law_tolls) (defBody s_law_tolls) (defScope s_law_tolls) .none kV_law_tolls dc_law_tolls pm_law_tolls an_law_tolls cd_law_tolls ct_law_tolls), sl_law_tolls⟩)
    (e_law_tolls : PySem.W.codeIn K cd_law_tolls "_law_tolls" = true)
    (p_law_tolls : PySem.W.keepIn K (.ref f_law_tolls) = true)
    (a_law_any : PySem.W.nsIn K mainGlobals "_law_any" = some (some (.ref f_law_any)))
    (l_law_any : K.lookup f_law_any = some ⟨oc_law_any, od_law_any, .func (PySem.W.fnOf "_law_any" "_law_any" (defArgs s_law_any) (defBody s_law_any) (defScope s_law_any) .none kV_law_any dc_law_any pm_law_any an_law_any cd_law_any ct_law_any), sl_law_any⟩)
    (e_law_any : PySem.W.codeIn K cd_law_any "_law_any" = true)
    (p_law_any : PySem.W.keepIn K (.ref f_law_any) = true)
    (a_law_great : PySem.W.nsIn K mainGlobals "_law_great" = some (some (.ref f_law_great)))
    (l_law_great : K.lookup f_law_great = some ⟨oc_law_great, od_law_great, .func (PySem.W.fnOf "_law_great" "_law_great" (defArgs s_law_great) (defBody s_law_great) (defScope s_law_great) .none kV_law_great dc_law_great pm_law_great an_law_great cd_law_great ct_law_great), sl_law_great⟩)
    (e_law_great : PySem.W.codeIn K cd_law_great "_law_great" = true)
    (p_law_great : PySem.W.keepIn K (.ref f_law_great) = true)
    (a_law_barren : PySem.W.nsIn K mainGlobals "_law_barren" = some (some (.ref f_law_barren)))
    (l_law_barren : K.lookup f_law_barren = some ⟨oc_law_barren, od_law_barren, .func (PySem.W.fnOf "_law_barren" "_law_barren" (defArgs s_law_barren) (defBody s_law_barren) (defScope s_law_barren) .none kV_law_barren dc_law_barren pm_law_barren an_law_barren cd_law_barren ct_law_barren), sl_law_barren⟩)
    (e_law_barren : PySem.W.codeIn K cd_law_barren "_law_barren" = true)
    (p_law_barren : PySem.W.keepIn K (.ref f_law_barren) = true)
    (a_law_odd_grammar : PySem.W.nsIn K mainGlobals "_law_odd_grammar" = some (some (.ref f_law_odd_grammar)))
    (l_law_odd_grammar : K.lookup f_law_odd_grammar = some ⟨oc_law_odd_grammar, od_law_odd_grammar, .func (PySem.W.fnOf "_law_odd_grammar" "_law_odd_grammar" (defArgs s_law_odd_grammar) (defBody s_law_odd_grammar) (defScope s_law_odd_grammar) .none kV_law_odd_grammar dc_law_odd_grammar pm_law_odd_grammar an_law_odd_grammar cd_law_odd_grammar ct_law_odd_grammar), sl_law_odd_grammar⟩)
    (e_law_odd_grammar : PySem.W.codeIn K cd_law_odd_grammar "_law_odd_grammar" = true)
    (p_law_odd_grammar : PySem.W.keepIn K (.ref f_law_odd_grammar) = true)
    (a_law_odd_text : PySem.W.nsIn K mainGlobals "_law_odd_text" = some (some (.ref f_law_odd_text)))
    (l_law_odd_text : K.lookup f_law_odd_text = some ⟨oc_law_odd_text, od_law_odd_text, .func (PySem.W.fnOf "_law_odd_text" "_law_odd_text" (defArgs s_law_odd_text) (defBody s_law_odd_text) (defScope s_law_odd_text) .none kV_law_odd_text dc_law_odd_text pm_law_odd_text an_law_odd_text cd_law_odd_text ct_law_odd_text), sl_law_odd_text⟩)
    (e_law_odd_text : PySem.W.codeIn K cd_law_odd_text "_law_odd_text" = true)
    (p_law_odd_text : PySem.W.keepIn K (.ref f_law_odd_text) = true)
    (a_law_odd_costs : PySem.W.nsIn K mainGlobals "_law_odd_costs" = some (some (.ref f_law_odd_costs)))
    (l_law_odd_costs : K.lookup f_law_odd_costs = some ⟨oc_law_odd_costs, od_law_odd_costs, .func (PySem.W.fnOf "_law_odd_costs" "_law_odd_costs" (defArgs s_law_odd_costs) (defBody s_law_odd_costs) (defScope s_law_odd_costs) .none kV_law_odd_costs dc_law_odd_costs pm_law_odd_costs an_law_odd_costs cd_law_odd_costs ct_law_odd_costs), sl_law_odd_costs⟩)
    (e_law_odd_costs : PySem.W.codeIn K cd_law_odd_costs "_law_odd_costs" = true)
    (p_law_odd_costs : PySem.W.keepIn K (.ref f_law_odd_costs) = true)
    (a_law_pair : PySem.W.nsIn K mainGlobals "_law_pair" = some (some (.ref f_law_pair)))
    (l_law_pair : K.lookup f_law_pair = some ⟨oc_law_pair, od_law_pair, .func (PySem.W.fnOf "_law_pair" "_law_pair" (defArgs s_law_pair) (defBody s_law_pair) (defScope s_law_pair) .none kV_law_pair dc_law_pair pm_law_pair an_law_pair cd_law_pair ct_law_pair), sl_law_pair⟩)
    (e_law_pair : PySem.W.codeIn K cd_law_pair "_law_pair" = true)
    (p_law_pair : PySem.W.keepIn K (.ref f_law_pair) = true)
    (a_law_due : PySem.W.nsIn K mainGlobals "_law_due" = some (some (.ref f_law_due)))
    (l_law_due : K.lookup f_law_due = some ⟨oc_law_due, od_law_due, .func (PySem.W.fnOf "_law_due" "_law_due" (defArgs s_law_due) (defBody s_law_due) (defScope s_law_due) .none kV_law_due dc_law_due pm_law_due an_law_due cd_law_due ct_law_due), sl_law_due⟩)
    (e_law_due : PySem.W.codeIn K cd_law_due "_law_due" = true)
    (p_law_due : PySem.W.keepIn K (.ref f_law_due) = true)
    (a_law : PySem.W.nsIn K mainGlobals "law" = some (some (.ref f_law)))
    (l_law : K.lookup f_law = some ⟨oc_law, od_law, .func (PySem.W.fnOf "law" "law" (defArgs s_law) (defBody s_law) (defScope s_law) .none kV_law dc_law pm_law an_law cd_law ct_law), sl_law⟩)
    (e_law : PySem.W.codeIn K cd_law "law" = true)
    (p_law : PySem.W.keepIn K (.ref f_law) = true)
    : ∃ fd : FuncData, (∀ (s : Shared) (v : Value), BindsTo s fd ⟨[v], []⟩ [("_law_script", v)]) ∧ ∀ base : Heap, K.In base → base.Ns mainGlobals mg → FnOk l.prog w K mg base (L2.CX l.prog w) 9 fa fd ["_law_script"] (sp1 (R_law K)) := by
  have e := hfa.symm.trans (PySem.W.mg_of X G a_law)
  cases e
  have T : Txt K mg ⟨0, C_ForestError, C_NoGrammar, C_NoText, C_NoRow, C_NoRule, C_NoNumber, C_NoCosts, C_NoChange, C_NoWords, C_Endless, C_TooGreat, C_Barren⟩ := {
    b_ValueError := ⟨PySem.W.mg_none_of X G b_ValueError⟩,
    b_bool := ⟨PySem.W.mg_none_of X G b_bool⟩,
    b_int := ⟨PySem.W.mg_none_of X G b_int⟩,
    b_isinstance := ⟨PySem.W.mg_none_of X G b_isinstance⟩,
    b_len := ⟨PySem.W.mg_none_of X G b_len⟩,
    b_list := ⟨PySem.W.mg_none_of X G b_list⟩,
    b_min := ⟨PySem.W.mg_none_of X G b_min⟩,
    b_ord := ⟨PySem.W.mg_none_of X G b_ord⟩,
    b_range := ⟨PySem.W.mg_none_of X G b_range⟩,
    b_reversed := ⟨PySem.W.mg_none_of X G b_reversed⟩,
    b_str := ⟨PySem.W.mg_none_of X G b_str⟩,
    b_tuple := ⟨PySem.W.mg_none_of X G b_tuple⟩,
    k_MOST_SIGNS := ⟨_, PySem.W.mg_of X G k_MOST_SIGNS⟩,
    k_MOST_RULES := ⟨_, PySem.W.mg_of X G k_MOST_RULES⟩,
    k_MOST_PARTS := ⟨_, PySem.W.mg_of X G k_MOST_PARTS⟩,
    k_MOST_WORTH := ⟨_, PySem.W.mg_of X G k_MOST_WORTH⟩,
    k_DEAREST := ⟨_, PySem.W.mg_of X G k_DEAREST⟩,
    k_LONGEST := ⟨_, PySem.W.mg_of X G k_LONGEST⟩,
    x_ForestError := ⟨PySem.W.mg_of X G g_ForestError, ex_ForestError, kc_ForestError, bc_ForestError, tc_ForestError, ic_ForestError, ga_ForestError, gk_ForestError, hd_ForestError, ha_ForestError, hn_ForestError, ht_ForestError, hm_ForestError, ve_ForestError⟩,
    x_NoGrammar := ⟨PySem.W.mg_of X G g_NoGrammar, ex_NoGrammar, kc_NoGrammar, bc_NoGrammar, tc_NoGrammar, ic_NoGrammar, ga_NoGrammar, gk_NoGrammar, hd_NoGrammar, ha_NoGrammar, hn_NoGrammar, ht_NoGrammar, hm_NoGrammar, ve_NoGrammar⟩,
    x_NoText := ⟨PySem.W.mg_of X G g_NoText, ex_NoText, kc_NoText, bc_NoText, tc_NoText, ic_NoText, ga_NoText, gk_NoText, hd_NoText, ha_NoText, hn_NoText, ht_NoText, hm_NoText, ve_NoText⟩,
    x_NoRow := ⟨PySem.W.mg_of X G g_NoRow, ex_NoRow, kc_NoRow, bc_NoRow, tc_NoRow, ic_NoRow, ga_NoRow, gk_NoRow, hd_NoRow, ha_NoRow, hn_NoRow, ht_NoRow, hm_NoRow, ve_NoRow⟩,
    x_NoRule := ⟨PySem.W.mg_of X G g_NoRule, ex_NoRule, kc_NoRule, bc_NoRule, tc_NoRule, ic_NoRule, ga_NoRule, gk_NoRule, hd_NoRule, ha_NoRule, hn_NoRule, ht_NoRule, hm_NoRule, ve_NoRule⟩,
    x_NoNumber := ⟨PySem.W.mg_of X G g_NoNumber, ex_NoNumber, kc_NoNumber, bc_NoNumber, tc_NoNumber, ic_NoNumber, ga_NoNumber, gk_NoNumber, hd_NoNumber, ha_NoNumber, hn_NoNumber, ht_NoNumber, hm_NoNumber, ve_NoNumber⟩,
    x_NoCosts := ⟨PySem.W.mg_of X G g_NoCosts, ex_NoCosts, kc_NoCosts, bc_NoCosts, tc_NoCosts, ic_NoCosts, ga_NoCosts, gk_NoCosts, hd_NoCosts, ha_NoCosts, hn_NoCosts, ht_NoCosts, hm_NoCosts, ve_NoCosts⟩,
    x_NoChange := ⟨PySem.W.mg_of X G g_NoChange, ex_NoChange, kc_NoChange, bc_NoChange, tc_NoChange, ic_NoChange, ga_NoChange, gk_NoChange, hd_NoChange, ha_NoChange, hn_NoChange, ht_NoChange, hm_NoChange, ve_NoChange⟩,
    x_NoWords := ⟨PySem.W.mg_of X G g_NoWords, ex_NoWords, kc_NoWords, bc_NoWords, tc_NoWords, ic_NoWords, ga_NoWords, gk_NoWords, hd_NoWords, ha_NoWords, hn_NoWords, ht_NoWords, hm_NoWords, ve_NoWords⟩,
    x_Endless := ⟨PySem.W.mg_of X G g_Endless, ex_Endless, kc_Endless, bc_Endless, tc_Endless, ic_Endless, ga_Endless, gk_Endless, hd_Endless, ha_Endless, hn_Endless, ht_Endless, hm_Endless, ve_Endless⟩,
    x_TooGreat := ⟨PySem.W.mg_of X G g_TooGreat, ex_TooGreat, kc_TooGreat, bc_TooGreat, tc_TooGreat, ic_TooGreat, ga_TooGreat, gk_TooGreat, hd_TooGreat, ha_TooGreat, hn_TooGreat, ht_TooGreat, hm_TooGreat, ve_TooGreat⟩,
    x_Barren := ⟨PySem.W.mg_of X G g_Barren, ex_Barren, kc_Barren, bc_Barren, tc_Barren, ic_Barren, ga_Barren, gk_Barren, hd_Barren, ha_Barren, hn_Barren, ht_Barren, hm_Barren, ve_Barren⟩,
    s_NoGrammar_ForestError := su_NoGrammar_ForestError,
    s_NoGrammar_NoGrammar := su_NoGrammar_NoGrammar,
    s_NoGrammar_NoText := su_NoGrammar_NoText,
    s_NoGrammar_NoRow := su_NoGrammar_NoRow,
    s_NoGrammar_NoRule := su_NoGrammar_NoRule,
    s_NoGrammar_NoNumber := su_NoGrammar_NoNumber,
    s_NoGrammar_NoCosts := su_NoGrammar_NoCosts,
    s_NoGrammar_NoChange := su_NoGrammar_NoChange,
    s_NoGrammar_NoWords := su_NoGrammar_NoWords,
    s_NoGrammar_Endless := su_NoGrammar_Endless,
    s_NoGrammar_TooGreat := su_NoGrammar_TooGreat,
    s_NoGrammar_Barren := su_NoGrammar_Barren,
    s_NoText_ForestError := su_NoText_ForestError,
    s_NoText_NoGrammar := su_NoText_NoGrammar,
    s_NoText_NoText := su_NoText_NoText,
    s_NoText_NoRow := su_NoText_NoRow,
    s_NoText_NoRule := su_NoText_NoRule,
    s_NoText_NoNumber := su_NoText_NoNumber,
    s_NoText_NoCosts := su_NoText_NoCosts,
    s_NoText_NoChange := su_NoText_NoChange,
    s_NoText_NoWords := su_NoText_NoWords,
    s_NoText_Endless := su_NoText_Endless,
    s_NoText_TooGreat := su_NoText_TooGreat,
    s_NoText_Barren := su_NoText_Barren,
    s_NoCosts_ForestError := su_NoCosts_ForestError,
    s_NoCosts_NoGrammar := su_NoCosts_NoGrammar,
    s_NoCosts_NoText := su_NoCosts_NoText,
    s_NoCosts_NoRow := su_NoCosts_NoRow,
    s_NoCosts_NoRule := su_NoCosts_NoRule,
    s_NoCosts_NoNumber := su_NoCosts_NoNumber,
    s_NoCosts_NoCosts := su_NoCosts_NoCosts,
    s_NoCosts_NoChange := su_NoCosts_NoChange,
    s_NoCosts_NoWords := su_NoCosts_NoWords,
    s_NoCosts_Endless := su_NoCosts_Endless,
    s_NoCosts_TooGreat := su_NoCosts_TooGreat,
    s_NoCosts_Barren := su_NoCosts_Barren,
    s_TooGreat_ForestError := su_TooGreat_ForestError,
    s_TooGreat_NoGrammar := su_TooGreat_NoGrammar,
    s_TooGreat_NoText := su_TooGreat_NoText,
    s_TooGreat_NoRow := su_TooGreat_NoRow,
    s_TooGreat_NoRule := su_TooGreat_NoRule,
    s_TooGreat_NoNumber := su_TooGreat_NoNumber,
    s_TooGreat_NoCosts := su_TooGreat_NoCosts,
    s_TooGreat_NoChange := su_TooGreat_NoChange,
    s_TooGreat_NoWords := su_TooGreat_NoWords,
    s_TooGreat_Endless := su_TooGreat_Endless,
    s_TooGreat_TooGreat := su_TooGreat_TooGreat,
    s_TooGreat_Barren := su_TooGreat_Barren,
    s_Barren_ForestError := su_Barren_ForestError,
    s_Barren_NoGrammar := su_Barren_NoGrammar,
    s_Barren_NoText := su_Barren_NoText,
    s_Barren_NoRow := su_Barren_NoRow,
    s_Barren_NoRule := su_Barren_NoRule,
    s_Barren_NoNumber := su_Barren_NoNumber,
    s_Barren_NoCosts := su_Barren_NoCosts,
    s_Barren_NoChange := su_Barren_NoChange,
    s_Barren_NoWords := su_Barren_NoWords,
    s_Barren_Endless := su_Barren_Endless,
    s_Barren_TooGreat := su_Barren_TooGreat,
    s_Barren_Barren := su_Barren_Barren,
    f_is_whole := ⟨f_is_whole, _, PySem.W.mg_of X G a_is_whole, (fun_mk (st := s_is_whole) l_is_whole e_is_whole p_is_whole), ((fun_mk (st := s_is_whole) l_is_whole e_is_whole p_is_whole).binds (ps := ["thing"]) fun _ _ _ _ _ _ us hl => match us, hl with | [_], _ => rfl)⟩,
    f_may_stand := ⟨f_may_stand, _, PySem.W.mg_of X G a_may_stand, (fun_mk (st := s_may_stand) l_may_stand e_may_stand p_may_stand), ((fun_mk (st := s_may_stand) l_may_stand e_may_stand p_may_stand).binds (ps := ["sign"]) fun _ _ _ _ _ _ us hl => match us, hl with | [_], _ => rfl)⟩,
    f_is_sign := ⟨f_is_sign, _, PySem.W.mg_of X G a_is_sign, (fun_mk (st := s_is_sign) l_is_sign e_is_sign p_is_sign), ((fun_mk (st := s_is_sign) l_is_sign e_is_sign p_is_sign).binds (ps := ["thing"]) fun _ _ _ _ _ _ us hl => match us, hl with | [_], _ => rfl)⟩,
    f_is_name := ⟨f_is_name, _, PySem.W.mg_of X G a_is_name, (fun_mk (st := s_is_name) l_is_name e_is_name p_is_name), ((fun_mk (st := s_is_name) l_is_name e_is_name p_is_name).binds (ps := ["thing"]) fun _ _ _ _ _ _ us hl => match us, hl with | [_], _ => rfl)⟩,
    f_checked_text := ⟨f_checked_text, _, PySem.W.mg_of X G a_checked_text, (fun_mk (st := s_checked_text) l_checked_text e_checked_text p_checked_text), ((fun_mk (st := s_checked_text) l_checked_text e_checked_text p_checked_text).binds (ps := ["thing"]) fun _ _ _ _ _ _ us hl => match us, hl with | [_], _ => rfl)⟩,
    f_are_parts := ⟨f_are_parts, _, PySem.W.mg_of X G a_are_parts, (fun_mk (st := s_are_parts) l_are_parts e_are_parts p_are_parts), ((fun_mk (st := s_are_parts) l_are_parts e_are_parts p_are_parts).binds (ps := ["thing"]) fun _ _ _ _ _ _ us hl => match us, hl with | [_], _ => rfl)⟩,
    f_is_rule := ⟨f_is_rule, _, PySem.W.mg_of X G a_is_rule, (fun_mk (st := s_is_rule) l_is_rule e_is_rule p_is_rule), ((fun_mk (st := s_is_rule) l_is_rule e_is_rule p_is_rule).binds (ps := ["thing"]) fun _ _ _ _ _ _ us hl => match us, hl with | [_], _ => rfl)⟩,
    f_checked := ⟨f_checked, _, PySem.W.mg_of X G a_checked, (fun_mk (st := s_checked) l_checked e_checked p_checked), ((fun_mk (st := s_checked) l_checked e_checked p_checked).binds (ps := ["thing"]) fun _ _ _ _ _ _ us hl => match us, hl with | [_], _ => rfl)⟩,
    f_start_of := ⟨f_start_of, _, PySem.W.mg_of X G a_start_of, (fun_mk (st := s_start_of) l_start_of e_start_of p_start_of), ((fun_mk (st := s_start_of) l_start_of e_start_of p_start_of).binds (ps := ["grammar"]) fun _ _ _ _ _ _ us hl => match us, hl with | [_], _ => rfl)⟩,
    f_checked_costs := ⟨f_checked_costs, _, PySem.W.mg_of X G a_checked_costs, (fun_mk (st := s_checked_costs) l_checked_costs e_checked_costs p_checked_costs), ((fun_mk (st := s_checked_costs) l_checked_costs e_checked_costs p_checked_costs).binds (ps := ["thing"]) fun _ _ _ _ _ _ us hl => match us, hl with | [_], _ => rfl)⟩,
    f_sign_toll := ⟨f_sign_toll, _, PySem.W.mg_of X G a_sign_toll, (fun_mk (st := s_sign_toll) l_sign_toll e_sign_toll p_sign_toll), ((fun_mk (st := s_sign_toll) l_sign_toll e_sign_toll p_sign_toll).binds (ps := ["sign", "there", "costs"]) fun _ _ _ _ _ _ us hl => match us, hl with | [_, _, _], _ => rfl)⟩,
    f_lay_leaves := ⟨f_lay_leaves, _, PySem.W.mg_of X G a_lay_leaves, (fun_mk (st := s_lay_leaves) l_lay_leaves e_lay_leaves p_lay_leaves), ((fun_mk (st := s_lay_leaves) l_lay_leaves e_lay_leaves p_lay_leaves).binds (ps := ["known", "rules", "text", "costs", "i", "j"]) fun _ _ _ _ _ _ us hl => match us, hl with | [_, _, _, _, _, _], _ => rfl)⟩,
    f_least_sum := ⟨f_least_sum, _, PySem.W.mg_of X G a_least_sum, (fun_mk (st := s_least_sum) l_least_sum e_least_sum p_least_sum), ((fun_mk (st := s_least_sum) l_least_sum e_least_sum p_least_sum).binds (ps := ["known", "part", "at", "d", "i", "j"]) fun _ _ _ _ _ _ us hl => match us, hl with | [_, _, _, _, _, _], _ => rfl)⟩,
    f_laid := ⟨f_laid, _, PySem.W.mg_of X G a_laid, (fun_mk (st := s_laid) l_laid e_laid p_laid), ((fun_mk (st := s_laid) l_laid e_laid p_laid).binds (ps := ["known", "node", "toll"]) fun _ _ _ _ _ _ us hl => match us, hl with | [_, _, _], _ => rfl)⟩,
    f_lay_span := ⟨f_lay_span, _, PySem.W.mg_of X G a_lay_span, (fun_mk (st := s_lay_span) l_lay_span e_lay_span p_lay_span), ((fun_mk (st := s_lay_span) l_lay_span e_lay_span p_lay_span).binds (ps := ["known", "rules", "i", "j"]) fun _ _ _ _ _ _ us hl => match us, hl with | [_, _, _, _], _ => rfl)⟩,
    f_tolls := ⟨f_tolls, _, PySem.W.mg_of X G a_tolls, (fun_mk (st := s_tolls) l_tolls e_tolls p_tolls), ((fun_mk (st := s_tolls) l_tolls e_tolls p_tolls).binds (ps := ["grammar", "text", "costs"]) fun _ _ _ _ _ _ us hl => match us, hl with | [_, _, _], _ => rfl)⟩,
    f_cuts_of := ⟨f_cuts_of, _, PySem.W.mg_of X G a_cuts_of, (fun_mk (st := s_cuts_of) l_cuts_of e_cuts_of p_cuts_of), ((fun_mk (st := s_cuts_of) l_cuts_of e_cuts_of p_cuts_of).binds (ps := ["signs"]) fun _ _ _ _ _ _ us hl => match us, hl with | [_], _ => rfl)⟩,
    f_sign_deeds := ⟨f_sign_deeds, _, PySem.W.mg_of X G a_sign_deeds, (fun_mk (st := s_sign_deeds) l_sign_deeds e_sign_deeds p_sign_deeds), ((fun_mk (st := s_sign_deeds) l_sign_deeds e_sign_deeds p_sign_deeds).binds (ps := ["sign", "signs", "costs"]) fun _ _ _ _ _ _ us hl => match us, hl with | [_, _, _], _ => rfl)⟩,
    f_least_way := ⟨f_least_way, _, PySem.W.mg_of X G a_least_way, (fun_mk (st := s_least_way) l_least_way e_least_way p_least_way), ((fun_mk (st := s_least_way) l_least_way e_least_way p_least_way).binds (ps := ["known", "rules", "node"]) fun _ _ _ _ _ _ us hl => match us, hl with | [_, _, _], _ => rfl)⟩,
    f_mended := ⟨f_mended, _, PySem.W.mg_of X G a_mended, (fun_mk (st := s_mended) l_mended e_mended p_mended), ((fun_mk (st := s_mended) l_mended e_mended p_mended).binds (ps := ["grammar", "text", "costs"]) fun _ _ _ _ _ _ us hl => match us, hl with | [_, _, _], _ => rfl)⟩,
    f_law_cell_at := ⟨f_law_cell_at, _, PySem.W.mg_of X G a_law_cell_at, (fun_mk (st := s_law_cell_at) l_law_cell_at e_law_cell_at p_law_cell_at), ((fun_mk (st := s_law_cell_at) l_law_cell_at e_law_cell_at p_law_cell_at).binds (ps := ["_law_script", "_law_k"]) fun _ _ _ _ _ _ us hl => match us, hl with | [_, _], _ => rfl)⟩,
    f_law_mixed := ⟨f_law_mixed, _, PySem.W.mg_of X G a_law_mixed, (fun_mk (st := s_law_mixed) l_law_mixed e_law_mixed p_law_mixed), ((fun_mk (st := s_law_mixed) l_law_mixed e_law_mixed p_law_mixed).binds (ps := ["_law_script", "_law_k"]) fun _ _ _ _ _ _ us hl => match us, hl with | [_, _], _ => rfl)⟩,
    f_law_worth := ⟨f_law_worth, _, PySem.W.mg_of X G a_law_worth, (fun_mk (st := s_law_worth) l_law_worth e_law_worth p_law_worth), ((fun_mk (st := s_law_worth) l_law_worth e_law_worth p_law_worth).binds (ps := ["_law_cell"]) fun _ _ _ _ _ _ us hl => match us, hl with | [_], _ => rfl)⟩,
    f_law_mended := ⟨f_law_mended, _, PySem.W.mg_of X G a_law_mended, (fun_mk (st := s_law_mended) l_law_mended e_law_mended p_law_mended), ((fun_mk (st := s_law_mended) l_law_mended e_law_mended p_law_mended).binds (ps := ["_law_grammar", "_law_signs", "_law_costs"]) fun _ _ _ _ _ _ us hl => match us, hl with | [_, _, _], _ => rfl)⟩,
    f_law_tolls := ⟨f_law_tolls, _, PySem.W.mg_of X G a_law_tolls, (fun_mk (st := s_law_tolls) l_law_tolls e_law_tolls p_law_tolls), ((fun_mk (st := s_law_tolls) l_law_tolls e_law_tolls p_law_tolls).binds (ps := ["_law_grammar", "_law_signs", "_law_costs"]) fun _ _ _ _ _ _ us hl => match us, hl with | [_, _, _], _ => rfl)⟩,
    f_law_any := ⟨f_law_any, _, PySem.W.mg_of X G a_law_any, (fun_mk (st := s_law_any) l_law_any e_law_any p_law_any), ((fun_mk (st := s_law_any) l_law_any e_law_any p_law_any).binds (ps := ["_law_grammar", "_law_signs", "_law_costs"]) fun _ _ _ _ _ _ us hl => match us, hl with | [_, _, _], _ => rfl)⟩,
    f_law_great := ⟨f_law_great, _, PySem.W.mg_of X G a_law_great, (fun_mk (st := s_law_great) l_law_great e_law_great p_law_great), ((fun_mk (st := s_law_great) l_law_great e_law_great p_law_great).binds (ps := ["_law_way"]) fun _ _ _ _ _ _ us hl => match us, hl with | [_], _ => rfl)⟩,
    f_law_barren := ⟨f_law_barren, _, PySem.W.mg_of X G a_law_barren, (fun_mk (st := s_law_barren) l_law_barren e_law_barren p_law_barren), ((fun_mk (st := s_law_barren) l_law_barren e_law_barren p_law_barren).binds (ps := ["_law_way"]) fun _ _ _ _ _ _ us hl => match us, hl with | [_], _ => rfl)⟩,
    f_law_odd_grammar := ⟨f_law_odd_grammar, _, PySem.W.mg_of X G a_law_odd_grammar, (fun_mk (st := s_law_odd_grammar) l_law_odd_grammar e_law_odd_grammar p_law_odd_grammar), ((fun_mk (st := s_law_odd_grammar) l_law_odd_grammar e_law_odd_grammar p_law_odd_grammar).binds (ps := ["_law_rules", "_law_way"]) fun _ _ _ _ _ _ us hl => match us, hl with | [_, _], _ => rfl)⟩,
    f_law_odd_text := ⟨f_law_odd_text, _, PySem.W.mg_of X G a_law_odd_text, (fun_mk (st := s_law_odd_text) l_law_odd_text e_law_odd_text p_law_odd_text), ((fun_mk (st := s_law_odd_text) l_law_odd_text e_law_odd_text p_law_odd_text).binds (ps := ["_law_way"]) fun _ _ _ _ _ _ us hl => match us, hl with | [_], _ => rfl)⟩,
    f_law_odd_costs := ⟨f_law_odd_costs, _, PySem.W.mg_of X G a_law_odd_costs, (fun_mk (st := s_law_odd_costs) l_law_odd_costs e_law_odd_costs p_law_odd_costs), ((fun_mk (st := s_law_odd_costs) l_law_odd_costs e_law_odd_costs p_law_odd_costs).binds (ps := ["_law_way"]) fun _ _ _ _ _ _ us hl => match us, hl with | [_], _ => rfl)⟩,
    f_law_pair := ⟨f_law_pair, _, PySem.W.mg_of X G a_law_pair, (fun_mk (st := s_law_pair) l_law_pair e_law_pair p_law_pair), ((fun_mk (st := s_law_pair) l_law_pair e_law_pair p_law_pair).binds (ps := ["_law_signs", "_law_costs", "_law_size", "_law_two"]) fun _ _ _ _ _ _ us hl => match us, hl with | [_, _, _, _], _ => rfl)⟩,
    f_law_due := ⟨f_law_due, _, PySem.W.mg_of X G a_law_due, (fun_mk (st := s_law_due) l_law_due e_law_due p_law_due), ((fun_mk (st := s_law_due) l_law_due e_law_due p_law_due).binds (ps := ["_law_signs", "_law_costs", "_law_size", "_law_two"]) fun _ _ _ _ _ _ us hl => match us, hl with | [_, _, _, _], _ => rfl)⟩ }
  exact ⟨PySem.W.fnOf "law" "law" (defArgs s_law) (defBody s_law) (defScope s_law) .none kV_law dc_law pm_law an_law cd_law ct_law, fun s v => .of_eq rfl, fun base _ _ => ok_law (fun_mk (st := s_law) l_law e_law p_law) T⟩
theorem walk {l : PySem.W.OpenLaw} {q : Program} {loose : List Str} {XP : (Str → Option Value) → Heap → Prop} {YP : World → Heap → Prop} {d : DefRec} {K : Params → PySem.W.Frag} (hn : l.most = some 63) (hdf : d.params.defaults = [])
    (hY : ∀ (w : World) (h : Heap), YP w h → (K w.params).In h)
    (F : ∀ (w : World) (mg : Str → Option Value) (fa : Addr) (h : Heap), (K w.params).In h → h.Ns mainGlobals mg → mg d.name = some (.ref fa) →
      ∃ fd : FuncData, (∀ (s : Shared) (u : Value), BindsTo s fd ⟨[u], []⟩ [("_law_script", u)]) ∧ ∀ base : Heap, (K w.params).In base → base.Ns mainGlobals mg → FnOk l.prog w (K w.params) mg base (L2.CX l.prog w) 9 fa fd ["_law_script"] (sp1 (R_law (K w.params)))) :
    PySem.W.WalkO q loose XP YP l.row.toRowW d [] (fun f vs => PySem.call f vs) :=
  L2.walk_of (n := 63) (k := 9) (x := "_law_script") (CX := fun w => L2.CX l.prog w) (sp := fun w => sp1 (R_law (K w.params))) hn (by decide) hdf ⟨rfl, by decide, by decide⟩ hY F (fun _ _ a ns hl _ hS => ⟨_, rfl, a, ns, rfl, hS, hl, fun _ => rfl⟩) fun w H s e s' h => by
    obtain ⟨_, _, _, _, _, _, _, _, _, _, _, _, z⟩ := h
    exact z
end Lw
open PySem PySem.W PyProof.Rows
set_option maxRecDepth 100000 in
set_option maxHeartbeats 0 in
theorem PySem.Challenge.cw_forestread_k76_mend_refused_holds : PySem.Challenge.rw_forestread_k76_mend_refused.Holds := by
  w_on; o_law; k_head; (case hw => w_witness2)
  k_fill
  refine Lw.walk (l := PySem.Challenge.rw_forestread_k76_mend_refused) rfl rfl (fun w h Y => PySem.W.kIn_of Y) ?F
  case F =>
    intro w mg fa h KX G hmg
    refine' Lw.all_mk KX G hmg ?b_ValueError ?b_bool ?b_int ?b_isinstance ?b_len ?b_list ?b_min ?b_ord ?b_range ?b_reversed ?b_str ?b_tuple ?k_MOST_SIGNS ?k_MOST_RULES ?k_MOST_PARTS ?k_MOST_WORTH ?k_DEAREST ?k_LONGEST ?g_ForestError ?ex_ForestError ?kc_ForestError ?bc_ForestError ?tc_ForestError ?ic_ForestError ?ga_ForestError ?gk_ForestError ?hd_ForestError ?ha_ForestError ?hn_ForestError ?ht_ForestError ?hm_ForestError ?ve_ForestError ?g_NoGrammar ?ex_NoGrammar ?kc_NoGrammar ?bc_NoGrammar ?tc_NoGrammar ?ic_NoGrammar ?ga_NoGrammar ?gk_NoGrammar ?hd_NoGrammar ?ha_NoGrammar ?hn_NoGrammar ?ht_NoGrammar ?hm_NoGrammar ?ve_NoGrammar ?g_NoText ?ex_NoText ?kc_NoText ?bc_NoText ?tc_NoText ?ic_NoText ?ga_NoText ?gk_NoText ?hd_NoText ?ha_NoText ?hn_NoText ?ht_NoText ?hm_NoText ?ve_NoText ?g_NoRow ?ex_NoRow ?kc_NoRow ?bc_NoRow ?tc_NoRow ?ic_NoRow ?ga_NoRow ?gk_NoRow ?hd_NoRow ?ha_NoRow ?hn_NoRow ?ht_NoRow ?hm_NoRow ?ve_NoRow ?g_NoRule ?ex_NoRule ?kc_NoRule ?bc_NoRule ?tc_NoRule ?ic_NoRule ?ga_NoRule ?gk_NoRule ?hd_NoRule ?ha_NoRule ?hn_NoRule ?ht_NoRule ?hm_NoRule ?ve_NoRule ?g_NoNumber ?ex_NoNumber ?kc_NoNumber ?bc_NoNumber ?tc_NoNumber ?ic_NoNumber ?ga_NoNumber ?gk_NoNumber ?hd_NoNumber ?ha_NoNumber ?hn_NoNumber ?ht_NoNumber ?hm_NoNumber ?ve_NoNumber ?g_NoCosts ?ex_NoCosts ?kc_NoCosts ?bc_NoCosts ?tc_NoCosts ?ic_NoCosts ?ga_NoCosts ?gk_NoCosts ?hd_NoCosts ?ha_NoCosts ?hn_NoCosts ?ht_NoCosts ?hm_NoCosts ?ve_NoCosts ?g_NoChange ?ex_NoChange ?kc_NoChange ?bc_NoChange ?tc_NoChange ?ic_NoChange ?ga_NoChange ?gk_NoChange ?hd_NoChange ?ha_NoChange ?hn_NoChange ?ht_NoChange ?hm_NoChange ?ve_NoChange ?g_NoWords ?ex_NoWords ?kc_NoWords ?bc_NoWords ?tc_NoWords ?ic_NoWords ?ga_NoWords ?gk_NoWords ?hd_NoWords ?ha_NoWords ?hn_NoWords ?ht_NoWords ?hm_NoWords ?ve_NoWords ?g_Endless ?ex_Endless ?kc_Endless ?bc_Endless ?tc_Endless ?ic_Endless ?ga_Endless ?gk_Endless ?hd_Endless ?ha_Endless ?hn_Endless ?ht_Endless ?hm_Endless ?ve_Endless ?g_TooGreat ?ex_TooGreat ?kc_TooGreat ?bc_TooGreat ?tc_TooGreat ?ic_TooGreat ?ga_TooGreat ?gk_TooGreat ?hd_TooGreat ?ha_TooGreat ?hn_TooGreat ?ht_TooGreat ?hm_TooGreat ?ve_TooGreat ?g_Barren ?ex_Barren ?kc_Barren ?bc_Barren ?tc_Barren ?ic_Barren ?ga_Barren ?gk_Barren ?hd_Barren ?ha_Barren ?hn_Barren ?ht_Barren ?hm_Barren ?ve_Barren ?su_NoGrammar_ForestError ?su_NoGrammar_NoGrammar ?su_NoGrammar_NoText ?su_NoGrammar_NoRow ?su_NoGrammar_NoRule ?su_NoGrammar_NoNumber ?su_NoGrammar_NoCosts ?su_NoGrammar_NoChange ?su_NoGrammar_NoWords ?su_NoGrammar_Endless ?su_NoGrammar_TooGreat ?su_NoGrammar_Barren ?su_NoText_ForestError ?su_NoText_NoGrammar ?su_NoText_NoText ?su_NoText_NoRow ?su_NoText_NoRule ?su_NoText_NoNumber ?su_NoText_NoCosts ?su_NoText_NoChange ?su_NoText_NoWords ?su_NoText_Endless ?su_NoText_TooGreat ?su_NoText_Barren ?su_NoCosts_ForestError ?su_NoCosts_NoGrammar ?su_NoCosts_NoText ?su_NoCosts_NoRow ?su_NoCosts_NoRule ?su_NoCosts_NoNumber ?su_NoCosts_NoCosts ?su_NoCosts_NoChange ?su_NoCosts_NoWords ?su_NoCosts_Endless ?su_NoCosts_TooGreat ?su_NoCosts_Barren ?su_TooGreat_ForestError ?su_TooGreat_NoGrammar ?su_TooGreat_NoText ?su_TooGreat_NoRow ?su_TooGreat_NoRule ?su_TooGreat_NoNumber ?su_TooGreat_NoCosts ?su_TooGreat_NoChange ?su_TooGreat_NoWords ?su_TooGreat_Endless ?su_TooGreat_TooGreat ?su_TooGreat_Barren ?su_Barren_ForestError ?su_Barren_NoGrammar ?su_Barren_NoText ?su_Barren_NoRow ?su_Barren_NoRule ?su_Barren_NoNumber ?su_Barren_NoCosts ?su_Barren_NoChange ?su_Barren_NoWords ?su_Barren_Endless ?su_Barren_TooGreat ?su_Barren_Barren ?a_is_whole ?l_is_whole ?e_is_whole ?p_is_whole ?a_may_stand ?l_may_stand ?e_may_stand ?p_may_stand ?a_is_sign ?l_is_sign ?e_is_sign ?p_is_sign ?a_is_name ?l_is_name ?e_is_name ?p_is_name ?a_checked_text ?l_checked_text ?e_checked_text ?p_checked_text ?a_are_parts ?l_are_parts ?e_are_parts ?p_are_parts ?a_is_rule ?l_is_rule ?e_is_rule ?p_is_rule ?a_checked ?l_checked ?e_checked ?p_checked ?a_start_of ?l_start_of ?e_start_of ?p_start_of ?a_checked_costs ?l_checked_costs ?e_checked_costs ?p_checked_costs ?a_sign_toll ?l_sign_toll ?e_sign_toll ?p_sign_toll ?a_lay_leaves ?l_lay_leaves ?e_lay_leaves ?p_lay_leaves ?a_least_sum ?l_least_sum ?e_least_sum ?p_least_sum ?a_laid ?l_laid ?e_laid ?p_laid ?a_lay_span ?l_lay_span ?e_lay_span ?p_lay_span ?a_tolls ?l_tolls ?e_tolls ?p_tolls ?a_cuts_of ?l_cuts_of ?e_cuts_of ?p_cuts_of ?a_sign_deeds ?l_sign_deeds ?e_sign_deeds ?p_sign_deeds ?a_least_way ?l_least_way ?e_least_way ?p_least_way ?a_mended ?l_mended ?e_mended ?p_mended ?a_law_cell_at ?l_law_cell_at ?e_law_cell_at ?p_law_cell_at ?a_law_mixed ?l_law_mixed ?e_law_mixed ?p_law_mixed ?a_law_worth ?l_law_worth ?e_law_worth ?p_law_worth ?a_law_mended ?l_law_mended ?e_law_mended ?p_law_mended ?a_law_tolls ?l_law_tolls ?e_law_tolls ?p_law_tolls ?a_law_any ?l_law_any ?e_law_any ?p_law_any ?a_law_great ?l_law_great ?e_law_great ?p_law_great ?a_law_barren ?l_law_barren ?e_law_barren ?p_law_barren ?a_law_odd_grammar ?l_law_odd_grammar ?e_law_odd_grammar ?p_law_odd_grammar ?a_law_odd_text ?l_law_odd_text ?e_law_odd_text ?p_law_odd_text ?a_law_odd_costs ?l_law_odd_costs ?e_law_odd_costs ?p_law_odd_costs ?a_law_pair ?l_law_pair ?e_law_pair ?p_law_pair ?a_law_due ?l_law_due ?e_law_due ?p_law_due ?a_law ?l_law ?e_law ?p_law
    (case b_ValueError => k_is)
    (case b_bool => k_is)
    (case b_int => k_is)
    (case b_isinstance => k_is)
    (case b_len => k_is)
    (case b_list => k_is)
    (case b_min => k_is)
    (case b_ord => k_is)
    (case b_range => k_is)
    (case b_reversed => k_is)
    (case b_str => k_is)
    (case b_tuple => k_is)
    (case k_MOST_SIGNS => k_is)
    (case k_MOST_RULES => k_is)
    (case k_MOST_PARTS => k_is)
    (case k_MOST_WORTH => k_is)
    (case k_DEAREST => k_is)
    (case k_LONGEST => k_is)
    (case g_ForestError => k_is)
    (case ex_ForestError => k_exc)
    (case kc_ForestError => k_is)
    (case bc_ForestError => k_is)
    (case tc_ForestError => k_is)
    (case ic_ForestError => k_is)
    (case ga_ForestError => k_is)
    (case gk_ForestError => k_is)
    (case hd_ForestError => k_is)
    (case ha_ForestError => k_is)
    (case hn_ForestError => k_is)
    (case ht_ForestError => k_is)
    (case hm_ForestError => k_is)
    (case ve_ForestError => k_is)
    (case g_NoGrammar => k_is)
    (case ex_NoGrammar => k_exc)
    (case kc_NoGrammar => k_is)
    (case bc_NoGrammar => k_is)
    (case tc_NoGrammar => k_is)
    (case ic_NoGrammar => k_is)
    (case ga_NoGrammar => k_is)
    (case gk_NoGrammar => k_is)
    (case hd_NoGrammar => k_is)
    (case ha_NoGrammar => k_is)
    (case hn_NoGrammar => k_is)
    (case ht_NoGrammar => k_is)
    (case hm_NoGrammar => k_is)
    (case ve_NoGrammar => k_is)
    (case g_NoText => k_is)
    (case ex_NoText => k_exc)
    (case kc_NoText => k_is)
    (case bc_NoText => k_is)
    (case tc_NoText => k_is)
    (case ic_NoText => k_is)
    (case ga_NoText => k_is)
    (case gk_NoText => k_is)
    (case hd_NoText => k_is)
    (case ha_NoText => k_is)
    (case hn_NoText => k_is)
    (case ht_NoText => k_is)
    (case hm_NoText => k_is)
    (case ve_NoText => k_is)
    (case g_NoRow => k_is)
    (case ex_NoRow => k_exc)
    (case kc_NoRow => k_is)
    (case bc_NoRow => k_is)
    (case tc_NoRow => k_is)
    (case ic_NoRow => k_is)
    (case ga_NoRow => k_is)
    (case gk_NoRow => k_is)
    (case hd_NoRow => k_is)
    (case ha_NoRow => k_is)
    (case hn_NoRow => k_is)
    (case ht_NoRow => k_is)
    (case hm_NoRow => k_is)
    (case ve_NoRow => k_is)
    (case g_NoRule => k_is)
    (case ex_NoRule => k_exc)
    (case kc_NoRule => k_is)
    (case bc_NoRule => k_is)
    (case tc_NoRule => k_is)
    (case ic_NoRule => k_is)
    (case ga_NoRule => k_is)
    (case gk_NoRule => k_is)
    (case hd_NoRule => k_is)
    (case ha_NoRule => k_is)
    (case hn_NoRule => k_is)
    (case ht_NoRule => k_is)
    (case hm_NoRule => k_is)
    (case ve_NoRule => k_is)
    (case g_NoNumber => k_is)
    (case ex_NoNumber => k_exc)
    (case kc_NoNumber => k_is)
    (case bc_NoNumber => k_is)
    (case tc_NoNumber => k_is)
    (case ic_NoNumber => k_is)
    (case ga_NoNumber => k_is)
    (case gk_NoNumber => k_is)
    (case hd_NoNumber => k_is)
    (case ha_NoNumber => k_is)
    (case hn_NoNumber => k_is)
    (case ht_NoNumber => k_is)
    (case hm_NoNumber => k_is)
    (case ve_NoNumber => k_is)
    (case g_NoCosts => k_is)
    (case ex_NoCosts => k_exc)
    (case kc_NoCosts => k_is)
    (case bc_NoCosts => k_is)
    (case tc_NoCosts => k_is)
    (case ic_NoCosts => k_is)
    (case ga_NoCosts => k_is)
    (case gk_NoCosts => k_is)
    (case hd_NoCosts => k_is)
    (case ha_NoCosts => k_is)
    (case hn_NoCosts => k_is)
    (case ht_NoCosts => k_is)
    (case hm_NoCosts => k_is)
    (case ve_NoCosts => k_is)
    (case g_NoChange => k_is)
    (case ex_NoChange => k_exc)
    (case kc_NoChange => k_is)
    (case bc_NoChange => k_is)
    (case tc_NoChange => k_is)
    (case ic_NoChange => k_is)
    (case ga_NoChange => k_is)
    (case gk_NoChange => k_is)
    (case hd_NoChange => k_is)
    (case ha_NoChange => k_is)
    (case hn_NoChange => k_is)
    (case ht_NoChange => k_is)
    (case hm_NoChange => k_is)
    (case ve_NoChange => k_is)
    (case g_NoWords => k_is)
    (case ex_NoWords => k_exc)
    (case kc_NoWords => k_is)
    (case bc_NoWords => k_is)
    (case tc_NoWords => k_is)
    (case ic_NoWords => k_is)
    (case ga_NoWords => k_is)
    (case gk_NoWords => k_is)
    (case hd_NoWords => k_is)
    (case ha_NoWords => k_is)
    (case hn_NoWords => k_is)
    (case ht_NoWords => k_is)
    (case hm_NoWords => k_is)
    (case ve_NoWords => k_is)
    (case g_Endless => k_is)
    (case ex_Endless => k_exc)
    (case kc_Endless => k_is)
    (case bc_Endless => k_is)
    (case tc_Endless => k_is)
    (case ic_Endless => k_is)
    (case ga_Endless => k_is)
    (case gk_Endless => k_is)
    (case hd_Endless => k_is)
    (case ha_Endless => k_is)
    (case hn_Endless => k_is)
    (case ht_Endless => k_is)
    (case hm_Endless => k_is)
    (case ve_Endless => k_is)
    (case g_TooGreat => k_is)
    (case ex_TooGreat => k_exc)
    (case kc_TooGreat => k_is)
    (case bc_TooGreat => k_is)
    (case tc_TooGreat => k_is)
    (case ic_TooGreat => k_is)
    (case ga_TooGreat => k_is)
    (case gk_TooGreat => k_is)
    (case hd_TooGreat => k_is)
    (case ha_TooGreat => k_is)
    (case hn_TooGreat => k_is)
    (case ht_TooGreat => k_is)
    (case hm_TooGreat => k_is)
    (case ve_TooGreat => k_is)
    (case g_Barren => k_is)
    (case ex_Barren => k_exc)
    (case kc_Barren => k_is)
    (case bc_Barren => k_is)
    (case tc_Barren => k_is)
    (case ic_Barren => k_is)
    (case ga_Barren => k_is)
    (case gk_Barren => k_is)
    (case hd_Barren => k_is)
    (case ha_Barren => k_is)
    (case hn_Barren => k_is)
    (case ht_Barren => k_is)
    (case hm_Barren => k_is)
    (case ve_Barren => k_is)
    (case su_NoGrammar_ForestError => first | k_is | rfl | decide)
    (case su_NoGrammar_NoGrammar => first | k_is | rfl | decide)
    (case su_NoGrammar_NoText => first | k_is | rfl | decide)
    (case su_NoGrammar_NoRow => first | k_is | rfl | decide)
    (case su_NoGrammar_NoRule => first | k_is | rfl | decide)
    (case su_NoGrammar_NoNumber => first | k_is | rfl | decide)
    (case su_NoGrammar_NoCosts => first | k_is | rfl | decide)
    (case su_NoGrammar_NoChange => first | k_is | rfl | decide)
    (case su_NoGrammar_NoWords => first | k_is | rfl | decide)
    (case su_NoGrammar_Endless => first | k_is | rfl | decide)
    (case su_NoGrammar_TooGreat => first | k_is | rfl | decide)
    (case su_NoGrammar_Barren => first | k_is | rfl | decide)
    (case su_NoText_ForestError => first | k_is | rfl | decide)
    (case su_NoText_NoGrammar => first | k_is | rfl | decide)
    (case su_NoText_NoText => first | k_is | rfl | decide)
    (case su_NoText_NoRow => first | k_is | rfl | decide)
    (case su_NoText_NoRule => first | k_is | rfl | decide)
    (case su_NoText_NoNumber => first | k_is | rfl | decide)
    (case su_NoText_NoCosts => first | k_is | rfl | decide)
    (case su_NoText_NoChange => first | k_is | rfl | decide)
    (case su_NoText_NoWords => first | k_is | rfl | decide)
    (case su_NoText_Endless => first | k_is | rfl | decide)
    (case su_NoText_TooGreat => first | k_is | rfl | decide)
    (case su_NoText_Barren => first | k_is | rfl | decide)
    (case su_NoCosts_ForestError => first | k_is | rfl | decide)
    (case su_NoCosts_NoGrammar => first | k_is | rfl | decide)
    (case su_NoCosts_NoText => first | k_is | rfl | decide)
    (case su_NoCosts_NoRow => first | k_is | rfl | decide)
    (case su_NoCosts_NoRule => first | k_is | rfl | decide)
    (case su_NoCosts_NoNumber => first | k_is | rfl | decide)
    (case su_NoCosts_NoCosts => first | k_is | rfl | decide)
    (case su_NoCosts_NoChange => first | k_is | rfl | decide)
    (case su_NoCosts_NoWords => first | k_is | rfl | decide)
    (case su_NoCosts_Endless => first | k_is | rfl | decide)
    (case su_NoCosts_TooGreat => first | k_is | rfl | decide)
    (case su_NoCosts_Barren => first | k_is | rfl | decide)
    (case su_TooGreat_ForestError => first | k_is | rfl | decide)
    (case su_TooGreat_NoGrammar => first | k_is | rfl | decide)
    (case su_TooGreat_NoText => first | k_is | rfl | decide)
    (case su_TooGreat_NoRow => first | k_is | rfl | decide)
    (case su_TooGreat_NoRule => first | k_is | rfl | decide)
    (case su_TooGreat_NoNumber => first | k_is | rfl | decide)
    (case su_TooGreat_NoCosts => first | k_is | rfl | decide)
    (case su_TooGreat_NoChange => first | k_is | rfl | decide)
    (case su_TooGreat_NoWords => first | k_is | rfl | decide)
    (case su_TooGreat_Endless => first | k_is | rfl | decide)
    (case su_TooGreat_TooGreat => first | k_is | rfl | decide)
    (case su_TooGreat_Barren => first | k_is | rfl | decide)
    (case su_Barren_ForestError => first | k_is | rfl | decide)
    (case su_Barren_NoGrammar => first | k_is | rfl | decide)
    (case su_Barren_NoText => first | k_is | rfl | decide)
    (case su_Barren_NoRow => first | k_is | rfl | decide)
    (case su_Barren_NoRule => first | k_is | rfl | decide)
    (case su_Barren_NoNumber => first | k_is | rfl | decide)
    (case su_Barren_NoCosts => first | k_is | rfl | decide)
    (case su_Barren_NoChange => first | k_is | rfl | decide)
    (case su_Barren_NoWords => first | k_is | rfl | decide)
    (case su_Barren_Endless => first | k_is | rfl | decide)
    (case su_Barren_TooGreat => first | k_is | rfl | decide)
    (case su_Barren_Barren => first | k_is | rfl | decide)
    (case a_is_whole => k_is)
    (case l_is_whole => k_is)
    (case e_is_whole => k_is)
    (case p_is_whole => k_is)
    (case a_may_stand => k_is)
    (case l_may_stand => k_is)
    (case e_may_stand => k_is)
    (case p_may_stand => k_is)
    (case a_is_sign => k_is)
    (case l_is_sign => k_is)
    (case e_is_sign => k_is)
    (case p_is_sign => k_is)
    (case a_is_name => k_is)
    (case l_is_name => k_is)
    (case e_is_name => k_is)
    (case p_is_name => k_is)
    (case a_checked_text => k_is)
    (case l_checked_text => k_is)
    (case e_checked_text => k_is)
    (case p_checked_text => k_is)
    (case a_are_parts => k_is)
    (case l_are_parts => k_is)
    (case e_are_parts => k_is)
    (case p_are_parts => k_is)
    (case a_is_rule => k_is)
    (case l_is_rule => k_is)
    (case e_is_rule => k_is)
    (case p_is_rule => k_is)
    (case a_checked => k_is)
    (case l_checked => k_is)
    (case e_checked => k_is)
    (case p_checked => k_is)
    (case a_start_of => k_is)
    (case l_start_of => k_is)
    (case e_start_of => k_is)
    (case p_start_of => k_is)
    (case a_checked_costs => k_is)
    (case l_checked_costs => k_is)
    (case e_checked_costs => k_is)
    (case p_checked_costs => k_is)
    (case a_sign_toll => k_is)
    (case l_sign_toll => k_is)
    (case e_sign_toll => k_is)
    (case p_sign_toll => k_is)
    (case a_lay_leaves => k_is)
    (case l_lay_leaves => k_is)
    (case e_lay_leaves => k_is)
    (case p_lay_leaves => k_is)
    (case a_least_sum => k_is)
    (case l_least_sum => k_is)
    (case e_least_sum => k_is)
    (case p_least_sum => k_is)
    (case a_laid => k_is)
    (case l_laid => k_is)
    (case e_laid => k_is)
    (case p_laid => k_is)
    (case a_lay_span => k_is)
    (case l_lay_span => k_is)
    (case e_lay_span => k_is)
    (case p_lay_span => k_is)
    (case a_tolls => k_is)
    (case l_tolls => k_is)
    (case e_tolls => k_is)
    (case p_tolls => k_is)
    (case a_cuts_of => k_is)
    (case l_cuts_of => k_is)
    (case e_cuts_of => k_is)
    (case p_cuts_of => k_is)
    (case a_sign_deeds => k_is)
    (case l_sign_deeds => k_is)
    (case e_sign_deeds => k_is)
    (case p_sign_deeds => k_is)
    (case a_least_way => k_is)
    (case l_least_way => k_is)
    (case e_least_way => k_is)
    (case p_least_way => k_is)
    (case a_mended => k_is)
    (case l_mended => k_is)
    (case e_mended => k_is)
    (case p_mended => k_is)
    (case a_law_cell_at => k_is)
    (case l_law_cell_at => k_is)
    (case e_law_cell_at => k_is)
    (case p_law_cell_at => k_is)
    (case a_law_mixed => k_is)
    (case l_law_mixed => k_is)
    (case e_law_mixed => k_is)
    (case p_law_mixed => k_is)
    (case a_law_worth => k_is)
    (case l_law_worth => k_is)
    (case e_law_worth => k_is)
    (case p_law_worth => k_is)
    (case a_law_mended => k_is)
    (case l_law_mended => k_is)
    (case e_law_mended => k_is)
    (case p_law_mended => k_is)
    (case a_law_tolls => k_is)
    (case l_law_tolls => k_is)
    (case e_law_tolls => k_is)
    (case p_law_tolls => k_is)
    (case a_law_any => k_is)
    (case l_law_any => k_is)
    (case e_law_any => k_is)
    (case p_law_any => k_is)
    (case a_law_great => k_is)
    (case l_law_great => k_is)
    (case e_law_great => k_is)
    (case p_law_great => k_is)
    (case a_law_barren => k_is)
    (case l_law_barren => k_is)
    (case e_law_barren => k_is)
    (case p_law_barren => k_is)
    (case a_law_odd_grammar => k_is)
    (case l_law_odd_grammar => k_is)
    (case e_law_odd_grammar => k_is)
    (case p_law_odd_grammar => k_is)
    (case a_law_odd_text => k_is)
    (case l_law_odd_text => k_is)
    (case e_law_odd_text => k_is)
    (case p_law_odd_text => k_is)
    (case a_law_odd_costs => k_is)
    (case l_law_odd_costs => k_is)
    (case e_law_odd_costs => k_is)
    (case p_law_odd_costs => k_is)
    (case a_law_pair => k_is)
    (case l_law_pair => k_is)
    (case e_law_pair => k_is)
    (case p_law_pair => k_is)
    (case a_law_due => k_is)
    (case l_law_due => k_is)
    (case e_law_due => k_is)
    (case p_law_due => k_is)
    (case a_law => k_is)
    (case l_law => k_is)
    (case e_law => k_is)
    (case p_law => k_is)
