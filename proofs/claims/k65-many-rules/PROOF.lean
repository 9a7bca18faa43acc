import PyProof.Rows.All
import Wide.All
import OpenK.AllK
import Wide.FinOn
import HandS.ForMost
import HandS.ForExc
import HandS.Flow
import HandS.IsInst
import HandS.Wide
import HandS.Walk
import HandS.ExcIs
import HandS.TryElse
import HandS.TryMany
import HandS.HotCalls
import HandS.SuiteRaise
import HandS.TupAny
import HandS.Small
import HandS.SetKeys
import HandS.DictComp
import HandS.Rev
import HandS.More
import HandS.ExcValue
import KE.DataFind
import HandS.ReplaceLit
import HandS.ReplaceList
import KE.GoesEnum
import KE.KDictKeyed
import KE.KDictWalk
import HandS.TupLen
import HandS.SortKw
import KE.DataMinMax
import KE.KDictDisplayH
import HandS.TupMul
import HandS.TupLe
import PyProof.ListMulRight
import KE.KeyNested
import KE.SortData
import HandS.Defaults
import HandS.CallSlots
import PySem.Challenge.RW_forestread_k65_many_rules
set_option Elab.async false
set_option linter.all false
set_option maxRecDepth 100000
set_option maxHeartbeats 2000000
set_option autoImplicit false
/-! Weakest wishes of the pieces of a text: eW, tW, aW, sW, bW; rules by syntax. -/
namespace G
open PySem PySem.Spec PyProof.Rows L2 TL
structure eW (X : Cx) (e : Expr) (σ : L2.St) (H : Hp) (Q : VK) : Prop where
  run : ∀ pins s, Inv X pins σ H s → wpAny (model X.prog X.w) X.A (eval e X.env) (EP X pins σ Q) X.xe s
structure tW (X : Cx) (e : Expr) (σ : L2.St) (H : Hp) (Q : Bool → Hp → Prop) : Prop where
  run : ∀ pins s, Inv X pins σ H s → wpAny (model X.prog X.w) X.A (isTrue e X.env (eval e X.env)) (TP X pins σ Q) X.xe s
structure cW (X : Cx) (e : Expr) (σ : L2.St) (H : Hp) (Q : Bool → Hp → Prop) : Prop where
  run : ∀ whole pins s, Inv X pins σ H s → wpAny (model X.prog X.w) X.A (isTrue e X.env whole) (TP X pins σ Q) X.xe s
structure aW (X : Cx) (es : List Expr) (σ : L2.St) (H : Hp) (Q : List V → Hp → Prop) : Prop where
  run : ∀ pos pins s, Inv X pins σ H s → wpAny (model X.prog X.w) X.A (spliced (backTo pos (starEach es X.env))) (AP X pins σ Q) X.xe s
structure sW (X : Cx) (st : Stmt) (D : Ends) (σ : L2.St) (H : Hp) : Prop where
  run : ∀ pins s, Inv X pins σ H s → wpAny (model X.prog X.w) X.A (exec st X.env) (SP X pins D) X.xe s
structure bW (X : Cx) (b : List Stmt) (D : Ends) (σ : L2.St) (H : Hp) : Prop where
  run : ∀ pins s, Inv X pins σ H s → wpAny (model X.prog X.w) X.A (execs b X.env) (SP X pins D) X.xe s
structure gW (X : Cx) (e : Expr) (v : V) (σ : L2.St) (H : Hp) (Q : L2.St → Hp → Prop) : Prop where
  run : ∀ pins s u, Inv X pins σ H s → RelV v u → wpAny (model X.prog X.w) X.A (assign e X.env u) (fun _ s' => ∃ σ' H', Inv X pins σ' H' s' ∧ Q σ' H') X.xe s
structure oW (X : Cx) (f : Value → Value → Sem Value) (x y : V) (H : Hp) (Q : VK) : Prop where
  run : ∀ pins s σ v u, Inv X pins σ H s → RelV x v → RelV y u → wpAny (model X.prog X.w) X.A (f v u) (EP X pins σ Q) X.xe s
structure uW (X : Cx) (f : Value → Sem Value) (x : V) (H : Hp) (Q : VK) : Prop where
  run : ∀ pins s σ v, Inv X pins σ H s → RelV x v → wpAny (model X.prog X.w) X.A (f v) (EP X pins σ Q) X.xe s
structure kW (X : Cx) (f : Value) (xs : List V) (H : Hp) (Q : VK) : Prop where
  run : ∀ pins s σ us, Inv X pins σ H s → Vals xs us → wpAny (model X.prog X.w) X.A (call f us) (EP X pins σ Q) X.xe s
section
variable {X : Cx} {e : Expr} {es : List Expr} {st : Stmt} {b : List Stmt}
theorem PEw : PE X e (eW X e) := ⟨fun pins s _ _ _ I h => h.run pins s I⟩
theorem PTw : PT X e (tW X e) := ⟨fun pins s _ _ _ I h => h.run pins s I⟩
theorem PWw : PW X e (cW X e) := ⟨fun wh pins s _ _ _ I h => h.run wh pins s I⟩
theorem PAw : PA X es (aW X es) := ⟨fun pos pins s _ _ _ I h => h.run pos pins s I⟩
theorem PSw : PS X st (sW X st) := ⟨fun pins s _ _ _ I h => h.run pins s I⟩
theorem PBw : PSs X b (bW X b) := ⟨fun pins s _ _ _ I h => h.run pins s I⟩
theorem PGw : PG X e (gW X e) := ⟨fun pins s _ _ v u _ I r h => h.run pins s u I r⟩
theorem OPw {f : Value → Value → Sem Value} : OpR X f (oW X f) := fun pins s σ H x y v u Q I rx ry h => h.run pins s σ v u I rx ry
theorem UNw {f : Value → Sem Value} : UnR X f (uW X f) := fun pins s σ H x v Q I rx h => h.run pins s σ v I rx
theorem KRw {f : Value} : CallR X f (kW X f) := fun pins s σ H xs us Q I r h => h.run pins s σ us I r
theorem eI {t : TE} {σ : L2.St} {H : Hp} {Q : VK} (h : PE X e t) (q : t σ H Q) : eW X e σ H Q := ⟨fun pins s I => h.run pins s σ H Q I q⟩
theorem tI {t : TT} {σ : L2.St} {H : Hp} {Q : Bool → Hp → Prop} (h : PT X e t) (q : t σ H Q) : tW X e σ H Q := ⟨fun pins s I => h.run pins s σ H Q I q⟩
theorem cI {t : TT} {σ : L2.St} {H : Hp} {Q : Bool → Hp → Prop} (h : PW X e t) (q : t σ H Q) : cW X e σ H Q := ⟨fun wh pins s I => h.run wh pins s σ H Q I q⟩
theorem aI {t : TA} {σ : L2.St} {H : Hp} {Q : List V → Hp → Prop} (h : PA X es t) (q : t σ H Q) : aW X es σ H Q := ⟨fun pos pins s I => h.run pos pins s σ H Q I q⟩
theorem sI {t : TS} {D : Ends} {σ : L2.St} {H : Hp} (h : PS X st t) (q : t D σ H) : sW X st D σ H := ⟨fun pins s I => h.run pins s σ H D I q⟩
theorem bI {t : TS} {D : Ends} {σ : L2.St} {H : Hp} (h : PSs X b t) (q : t D σ H) : bW X b D σ H := ⟨fun pins s I => h.run pins s σ H D I q⟩
theorem gI {t : TG} {v : V} {σ : L2.St} {H : Hp} {Q : L2.St → Hp → Prop} (h : PG X e t) (q : t v σ H Q) : gW X e v σ H Q := ⟨fun pins s u I r => h.run pins s σ H v u Q I r q⟩
theorem oI {f : Value → Value → Sem Value} {r : R2} {x y : V} {H : Hp} {Q : VK} (h : OpR X f r) (q : r x y H Q) : oW X f x y H Q := ⟨fun pins s σ v u I rx ry => h pins s σ H x y v u Q I rx ry q⟩
theorem uI {f : Value → Sem Value} {r : V → Hp → VK → Prop} {x : V} {H : Hp} {Q : VK} (h : UnR X f r) (q : r x H Q) : uW X f x H Q := ⟨fun pins s σ v I rx => h pins s σ H x v Q I rx q⟩
theorem kI {f : Value} {r : List V → Hp → VK → Prop} {xs : List V} {H : Hp} {Q : VK} (h : CallR X f r) (q : r xs H Q) : kW X f xs H Q := ⟨fun pins s σ us I rx => h pins s σ H xs us Q I rx q⟩
theorem eMono {σ : L2.St} {H : Hp} {Q Q' : VK} (h : eW X e σ H Q) (i : ∀ v H', Q v H' → Q' v H') : eW X e σ H Q' := ⟨fun pins s I => wpAny_mono (h.run pins s I) (fun _ _ ⟨v, H', a, b, c⟩ => ⟨v, H', a, b, i v H' c⟩) fun _ _ x => x⟩
theorem tMono {σ : L2.St} {H : Hp} {Q Q' : Bool → Hp → Prop} (h : tW X e σ H Q) (i : ∀ v H', Q v H' → Q' v H') : tW X e σ H Q' := ⟨fun pins s I => wpAny_mono (h.run pins s I) (fun _ _ ⟨H', a, c⟩ => ⟨H', a, i _ H' c⟩) fun _ _ x => x⟩
end

/-! ### what a context tells -/
def cxr (P : Program) (w : World) (K : PySem.W.Frag) (mg : Str → Option Value) (base : Heap) (N : List Str) (q : Str) (st : Stmt) (f : Addr) (cd : Value) (A : Around) (outer : List Env) (s : Shared) (H : Hp) (E : XK) : Cx := cxOf (L2.CX P w) P w K mg base N q (defScope st) f cd A outer s H E
class CxN (X : Cx) (N : outParam (List Str)) : Prop where h : X.N = N
class CxK (X : Cx) (K : outParam PySem.W.Frag) : Prop where h : X.K = K
class CxM (X : Cx) (mg : outParam (Str → Option Value)) : Prop where h : X.mg = mg
class CxC (X : Cx) : Prop where h : X.calm = true
class CxO (X : Cx) : Prop where h : PassesOwn (model X.prog X.w) X.A X.env X.xe
class CxT (X : Cx) (W : outParam WX) : Prop where h : Takes X W
/-- the slot of a name -/
class Slt (N : List Str) (x : Str) (i : outParam Nat) : Prop where h : N[i]? = some x
instance (priority := high) slt0 {x : Str} {N : List Str} : Slt (x :: N) x 0 := ⟨rfl⟩
instance slt1 {x y : Str} {N : List Str} {i : Nat} [s : Slt N x i] : Slt (y :: N) x (i + 1) := ⟨s.h⟩
class Blt (x : Str) (v : outParam Value) : Prop where h : bootBuiltins x = some v
instance : Blt "len" (.builtin "len") := ⟨boot_len⟩
instance : Blt "isinstance" (.builtin "isinstance") := ⟨boot_isinstance⟩
instance : Blt "min" (.builtin "min") := ⟨boot_min⟩
instance : Blt "max" (.builtin "max") := ⟨boot_max⟩
instance : Blt "sorted" (.builtin "sorted") := ⟨boot_sorted⟩
instance : Blt "sum" (.builtin "sum") := ⟨boot_sum⟩
instance : Blt "any" (.builtin "any") := ⟨boot_any⟩
instance : Blt "all" (.builtin "all") := ⟨boot_all⟩
instance : Blt "abs" (.builtin "abs") := ⟨boot_abs⟩
instance : Blt "ord" (.builtin "ord") := ⟨boot_ord⟩
instance : Blt "chr" (.builtin "chr") := ⟨boot_chr⟩
instance : Blt "range" (.type "range") := ⟨boot_range⟩
instance : Blt "list" (.type "list") := ⟨boot_list⟩
instance : Blt "tuple" (.type "tuple") := ⟨boot_tuple⟩
instance : Blt "int" (.type "int") := ⟨boot_int⟩
instance : Blt "str" (.type "str") := ⟨boot_str⟩
instance : Blt "bool" (.type "bool") := ⟨boot_bool⟩
instance : Blt "set" (.type "set") := ⟨boot_set⟩
instance : Blt "dict" (.type "dict") := ⟨boot_dict⟩
instance : Blt "enumerate" (.type "enumerate") := ⟨boot_enumerate⟩
instance : Blt "zip" (.type "zip") := ⟨boot_zip⟩
instance : Blt "reversed" (.type "reversed") := ⟨boot_reversed⟩
instance : Blt "ValueError" (.type "ValueError") := ⟨by decide +kernel⟩
/-- what a name of the module holds -/
class Gn (mg : Str → Option Value) (x : Str) (v : outParam (Option Value)) : Prop where h : mg x = v
section
variable {P : Program} {w : World} {K : PySem.W.Frag} {mg : Str → Option Value} {base : Heap} {N : List Str} {q : Str} {st : Stmt} {f : Addr} {cd : Value} {A : Around} {outer : List Env} {s : Shared} {H : Hp} {E : XK}
instance : CxN (cxr P w K mg base N q st f cd A outer s H E) N := ⟨rfl⟩
instance : CxK (cxr P w K mg base N q st f cd A outer s H E) K := ⟨rfl⟩
instance : CxM (cxr P w K mg base N q st f cd A outer s H E) mg := ⟨rfl⟩
instance : CxC (cxr P w K mg base N q st f cd A outer s H E) := ⟨rfl⟩
instance : CxO (cxr P w K mg base N q st f cd A outer s H E) := ⟨passes_of (X := cxr P w K mg base N q st f cd A outer s H E) rfl⟩
instance : CxT (cxr P w K mg base N q st f cd A outer s H E) (fun cls d _ H => E cls d H) := ⟨takes_of (X := cxr P w K mg base N q st f cd A outer s H E) rfl rfl rfl rfl⟩
end
section
variable {X : Cx} {s : Shared} {H : Hp} {sc : Scope} {ce : Env} {fp : List Addr} {pn : List (Addr × Obj)} {xe : Value → Shared → Prop} {a : Addr}
instance {N : List Str} [c : CxN X N] : CxN (X.blk s H sc ce fp) N := ⟨c.h⟩
instance {K : PySem.W.Frag} [c : CxK X K] : CxK (X.blk s H sc ce fp) K := ⟨c.h⟩
instance {mg : Str → Option Value} [c : CxM X mg] : CxM (X.blk s H sc ce fp) mg := ⟨c.h⟩
instance [c : CxC X] : CxC (X.blk s H sc ce fp) := ⟨c.h⟩
instance : CxT (X.blk s H sc ce fp) (fun _ _ _ _ => False) := ⟨takes0⟩
instance {N : List Str} [c : CxN X N] : CxN (X.tr pn xe) N := ⟨c.h⟩
instance {K : PySem.W.Frag} [c : CxK X K] : CxK (X.tr pn xe) K := ⟨c.h⟩
instance {mg : Str → Option Value} [c : CxM X mg] : CxM (X.tr pn xe) mg := ⟨c.h⟩
instance [c : CxC X] : CxC (X.tr pn xe) := ⟨c.h⟩
instance {N : List Str} [c : CxN X N] : CxN (X.suite a pn) N := ⟨c.h⟩
instance {K : PySem.W.Frag} [c : CxK X K] : CxK (X.suite a pn) K := ⟨c.h⟩
instance {mg : Str → Option Value} [c : CxM X mg] : CxM (X.suite a pn) mg := ⟨c.h⟩
end

/-! ### expressions -/
section
variable {X : Cx} {σ : L2.St} {H : Hp} {Q : VK} {pos p2 p3 p4 : Pos} {a b c : Expr} {rest : List Expr}
theorem e_var {N : List Str} {x : Str} {i : Nat} {v : V} [cn : CxN X N] [sl : Slt N x i] (hs : σ[i]? = some (some v)) (q : Q v H)
    (hv : Vis X.env.scope x := by first | exact Or.inl rfl | exact Or.inr (Or.inl rfl) | exact Or.inr (Or.inr rfl)) (hd : (x == ("__debug__" : Str)) = false := by decide) (hcd : (x == ("__classdict__" : Str)) = false := by decide) : eW X (.Name x pos) σ H Q :=
  eI (pe_var (i := i) (by rw [cn.h]; exact sl.h) hv hd hcd) ⟨v, hs, q⟩
theorem e_int {i : Int} {j : Nat} (q : Q (.int i) H) : eW X (.Constant (.int i) j pos) σ H Q := eI pe_int q
theorem e_bl {i : Bool} {j : Nat} (q : Q (.bl i) H) : eW X (.Constant (.bool i) j pos) σ H Q := eI pe_bl q
theorem e_non {j : Nat} (q : Q .non H) : eW X (.Constant .none j pos) σ H Q := eI pe_non q
theorem e_str {x : Str} {j : Nat} (q : Q (.str x) H) : eW X (.Constant (.str x) j pos) σ H Q := eI pe_str q
theorem e_glob {mg : Str → Option Value} {x : Str} {u : Value} {v : V} [cm : CxM X mg] [g : Gn mg x (some u)] (r : RelV v u) (q : Q v H) (hg : Gl X x := by rfl) (hd : (x == ("__debug__" : Str)) = false := by decide) : eW X (.Name x pos) σ H Q :=
  eI (pe_glob hg (by rw [cm.h]; exact g.h) r hd) q
theorem e_globR {mg : Str → Option Value} {x : Str} {f : Addr} [cm : CxM X mg] [g : Gn mg x (some (.ref f))] (q : Q (.ref f) H) (hg : Gl X x := by rfl) (hd : (x == ("__debug__" : Str)) = false := by decide) : eW X (.Name x pos) σ H Q :=
  eI (pe_glob (v := .ref f) hg (by rw [cm.h]; exact g.h) rfl hd) q
theorem e_globI {mg : Str → Option Value} {x : Str} {i : Int} {t : Tok} [cm : CxM X mg] [g : Gn mg x (some (.int i t))] (q : Q (.int i) H) (hg : Gl X x := by rfl) (hd : (x == ("__debug__" : Str)) = false := by decide) : eW X (.Name x pos) σ H Q :=
  eI (pe_glob (v := .int i) hg (by rw [cm.h]; exact g.h) ⟨_, rfl⟩ hd) q
theorem e_globS {mg : Str → Option Value} {x : Str} {i : Str} {t : Tok} [cm : CxM X mg] [g : Gn mg x (some (.str i t))] (q : Q (.str i) H) (hg : Gl X x := by rfl) (hd : (x == ("__debug__" : Str)) = false := by decide) : eW X (.Name x pos) σ H Q :=
  eI (pe_glob (v := .str i) hg (by rw [cm.h]; exact g.h) ⟨_, rfl⟩ hd) q
theorem e_ty {mg : Str → Option Value} {x : Str} {n : String} [cm : CxM X mg] [g : Gn mg x none] [bl : Blt x (.type n)] (q : Q (.ty n) H) (hg : Gl X x := by rfl) (hn : x ≠ "__name__" := by decide) (hd : (x == ("__debug__" : Str)) = false := by decide) : eW X (.Name x pos) σ H Q :=
  eI (pe_bltn (v := .ty n) hg (by rw [cm.h]; exact g.h) bl.h rfl hn hd) q
theorem e_bin {op : Operator} (h : eW X a σ H fun x H1 => eW X b σ H1 fun y H2 => oW X (binaryOp op) x y H2 Q) : eW X (.BinOp a op b pos) σ H Q := eI (pe_op OPw PEw PEw) h
theorem e_un {op : UnaryOp} (h : eW X a σ H fun x H1 => uW X (unaryOp op) x H1 Q) : eW X (.UnaryOp op a pos) σ H Q := eI (pe_un UNw PEw) h
theorem e_cmp {op : CmpOp} (h : eW X a σ H fun x H1 => eW X b σ H1 fun y H2 => oW X (compareOp op) x y H2 Q) (hm : behindInMarks op b = false := by first | exact nomark _ | rfl) : eW X (.Compare a [op] [b] pos) σ H Q := eI (pe_cmpR OPw PEw PEw hm) h
theorem e_isN {j : Nat} (h : eW X a σ H fun x H1 => Q (.bl (decide (x = .non))) H1) : eW X (.Compare a [.Is] [.Constant .none j p2] pos) σ H Q := eI (pe_cmp (pc_isN PEw) rfl) h
theorem e_notN {j : Nat} (h : eW X a σ H fun x H1 => Q (.bl (!decide (x = .non))) H1) : eW X (.Compare a [.IsNot] [.Constant .none j p2] pos) σ H Q := eI (pe_cmp (pc_notN PEw) rfl) h
theorem e_ifE {t : Expr} (h : tW X t σ H fun k H1 => if k = true then eW X a σ H1 Q else eW X b σ H1 Q) : eW X (.IfExp t a b pos) σ H Q := eI (pe_ifExp PTw PEw PEw) h
theorem e_one {op : BoolOp} (h : eW X a σ H Q) : eW X (.BoolOp op [a] pos) σ H Q := eI (pe_one PEw) h
theorem e_and (h : eW X a σ H fun x H1 => ∃ k, x = .bl k ∧ if k = true then eW X (.BoolOp .And (b :: rest) pos) σ H1 Q else Q (.bl false) H1) : eW X (.BoolOp .And (a :: b :: rest) pos) σ H Q := eI (pe_and PEw PEw) h
theorem e_or (h : eW X a σ H fun x H1 => ∃ k, x = .bl k ∧ if k = true then Q (.bl true) H1 else eW X (.BoolOp .Or (b :: rest) pos) σ H1 Q) : eW X (.BoolOp .Or (a :: b :: rest) pos) σ H Q := eI (pe_or PEw PEw) h
theorem e_not (h : eW X a σ H fun x H1 => ∃ k, x = .bl k ∧ Q (.bl (!k)) H1) : eW X (.UnaryOp .Not a pos) σ H Q := eI (pe_not PEw) h
theorem e_tup {es : List Expr} {k : Nat} (h : aW X es σ H fun xs H1 => xs.length ≤ sizeLine ∧ ∀ p, H1 p = none → Q (.ref p) (upd H1 p (.tup xs))) : eW X (.Tuple es k pos) σ H Q := eI (pe_tup PAw) h
theorem e_lst {es : List Expr} (h : aW X es σ H fun xs H1 => xs.length ≤ sizeLine ∧ ∀ p, H1 p = none → Q (.ref p) (upd H1 p (.lst xs))) : eW X (.List es pos) σ H Q := eI (pe_lst PAw) h
/-- and, or of two truths whose joint answer is told -/
theorem e_andJ {d : Bool} (h : eW X a σ H fun x H1 => ∃ k, x = .bl k ∧ (k = true → ∀ Q' : VK, Q' (.bl d) H1 → eW X (.BoolOp .And (b :: rest) pos) σ H1 Q') ∧ Q (.bl (k && d)) H1) : eW X (.BoolOp .And (a :: b :: rest) pos) σ H Q :=
  e_and (eMono h fun x H1 ⟨k, e, h1, h2⟩ => ⟨k, e, by cases k with | true => exact (h1 rfl _ h2) | false => exact h2⟩)
theorem e_orJ {d : Bool} (h : eW X a σ H fun x H1 => ∃ k, x = .bl k ∧ (k = false → ∀ Q' : VK, Q' (.bl d) H1 → eW X (.BoolOp .Or (b :: rest) pos) σ H1 Q') ∧ Q (.bl (k || d)) H1) : eW X (.BoolOp .Or (a :: b :: rest) pos) σ H Q :=
  e_or (eMono h fun x H1 ⟨k, e, h1, h2⟩ => ⟨k, e, by cases k with | true => exact h2 | false => exact (h1 rfl _ h2)⟩)
/-- a chain of two comparisons -/
theorem e_chain {op op' : CmpOp} (h : eW X a σ H fun x H1 => eW X b σ H1 fun y H2 => oW X (compareOp op) x y H2 fun z H3 => ∃ k, z = .bl k ∧ (if k = true then eW X c σ H3 (fun w' H4 => oW X (compareOp op') y w' H4 Q) else Q (.bl false) H3))
    (hm : lastMarks [op, op'] [b, c] = false := by with_unfolding_all rfl) : eW X (.Compare a [op, op'] [b, c] pos) σ H Q := eI (pe_chain OPw OPw PEw PEw PEw hm) h
theorem t_chain {op op' : CmpOp} {R : Bool → Hp → Prop} (h : eW X a σ H fun x H1 => eW X b σ H1 fun y H2 => oW X (compareOp op) x y H2 fun z H3 => ∃ k, z = .bl k ∧ (if k = true then eW X c σ H3 (fun w' H4 => oW X (compareOp op') y w' H4 fun u H5 => ∃ k, u = .bl k ∧ R k H5) else (∃ k', V.bl false = .bl k' ∧ R k' H3)))
    (hm : lastMarks [op, op'] [b, c] = false := by with_unfolding_all rfl) : tW X (.Compare a [op, op'] [b, c] pos) σ H R := tI (pt_chain OPw OPw PEw PEw PEw hm) h

/-! ### arguments -/
theorem a_nil {R : List V → Hp → Prop} (h : R [] H) : aW X [] σ H R := aI pa_nil h
theorem a_cons {es : List Expr} {R : List V → Hp → Prop} (h : eW X a σ H fun x H1 => aW X es σ H1 fun xs H2 => R (x :: xs) H2) (hs : starEach (a :: es) X.env = (false, eval a X.env) :: starEach es X.env := by rfl) : aW X (a :: es) σ H R := aI (pa_cons PEw PAw hs) h

/-! ### tests -/
variable {R : Bool → Hp → Prop}
theorem t_val {e : Expr} (h : eW X e σ H fun x H1 => ∃ k, x = .bl k ∧ R k H1) (he : ∀ whole, isTrue e X.env whole = (do let v ← whole; standAt e.pos; holding [v] (truthy v)) := by intro _; rfl) : tW X e σ H R := tI (pt_val PEw he) h
theorem t_tru {e : Expr} (h : eW X e σ H fun x H1 => ∃ k, TruV X.K x H1 k ∧ R k H1) (he : ∀ whole, isTrue e X.env whole = (do let v ← whole; standAt e.pos; holding [v] (truthy v)) := by intro _; rfl) : tW X e σ H R := tI (pt_truth PEw he) h
theorem t_cmp {op : CmpOp} (h : eW X a σ H fun x H1 => eW X b σ H1 fun y H2 => oW X (compareOp op) x y H2 fun z H3 => ∃ k, z = .bl k ∧ R k H3) (hm : behindInMarks op b = false := by first | exact nomark _ | rfl) : tW X (.Compare a [op] [b] pos) σ H R := tI (pt_cmpR OPw PEw PEw hm) h
theorem t_isN {j : Nat} (h : eW X a σ H fun x H1 => R (decide (x = .non)) H1) : tW X (.Compare a [.Is] [.Constant .none j p2] pos) σ H R := tI (pt_cmp (pc_isN PEw) rfl) (eMono h fun _ _ q => ⟨_, rfl, q⟩)
theorem t_notN {j : Nat} (h : eW X a σ H fun x H1 => R (!decide (x = .non)) H1) : tW X (.Compare a [.IsNot] [.Constant .none j p2] pos) σ H R := tI (pt_cmp (pc_notN PEw) rfl) (eMono h fun _ _ q => ⟨_, rfl, q⟩)
theorem t_not (h : tW X a σ H fun k H1 => R (!k) H1) : tW X (.UnaryOp .Not a pos) σ H R := tI (pt_not PTw) h
theorem t_and (h : cW X (.BoolOp .And rest pos) σ H R) : tW X (.BoolOp .And rest pos) σ H R := tI (PWw).pt h
theorem t_or (h : cW X (.BoolOp .Or rest pos) σ H R) : tW X (.BoolOp .Or rest pos) σ H R := tI (PWw).pt h
theorem c_and1 (h : tW X a σ H R) : cW X (.BoolOp .And [a] pos) σ H R := cI (pw_and1 PTw) h
theorem c_or1 (h : tW X a σ H R) : cW X (.BoolOp .Or [a] pos) σ H R := cI (pw_or1 PTw) h
theorem c_and (h : tW X a σ H fun k H1 => if k = true then cW X (.BoolOp .And (b :: rest) pos) σ H1 R else R false H1) : cW X (.BoolOp .And (a :: b :: rest) pos) σ H R := cI (pw_and PTw PWw) h
theorem c_or (h : tW X a σ H fun k H1 => if k = true then R true H1 else cW X (.BoolOp .Or (b :: rest) pos) σ H1 R) : cW X (.BoolOp .Or (a :: b :: rest) pos) σ H R := cI (pw_or PTw PWw) h
/-- .. joined: the answer of both is told -/
theorem c_andJ {d : Bool} (h : tW X a σ H fun k H1 => (k = true → ∀ R' : Bool → Hp → Prop, R' d H1 → cW X (.BoolOp .And (b :: rest) pos) σ H1 R') ∧ R (k && d) H1) : cW X (.BoolOp .And (a :: b :: rest) pos) σ H R :=
  c_and (tMono h fun k H1 ⟨h1, h2⟩ => by cases k with | true => exact (h1 rfl _ h2) | false => exact h2)
theorem c_orJ {d : Bool} (h : tW X a σ H fun k H1 => (k = false → ∀ R' : Bool → Hp → Prop, R' d H1 → cW X (.BoolOp .Or (b :: rest) pos) σ H1 R') ∧ R (k || d) H1) : cW X (.BoolOp .Or (a :: b :: rest) pos) σ H R :=
  c_or (tMono h fun k H1 ⟨h1, h2⟩ => by cases k with | true => exact h2 | false => exact (h1 rfl _ h2))
end

/-! ### statements -/
@[reducible] def Dsq (X : Cx) (more : List Stmt) (D : Ends) : Ends := { D with nx := bW X more D }
@[reducible] def Dlp (D : Ends) (N : L2.St → Hp → Prop) : Ends := { D with nx := N, ct := N, bk := D.nx }
@[reducible] def Dnx (D : Ends) (N : L2.St → Hp → Prop) : Ends := { D with nx := N }
section
variable {X : Cx} {σ : L2.St} {H : Hp} {D : Ends} {pos p2 p3 p4 : Pos} {e it tg : Expr} {st : Stmt} {body more : List Stmt}
theorem b_nil (h : D.nx σ H) : bW X [] D σ H := bI pss_nil h
theorem b_cons (h : sW X st (Dsq X more D) σ H) : bW X (st :: more) D σ H := bI (pss_cons PSw PBw) h
theorem b_one (h : sW X st D σ H) : bW X [st] D σ H := bI (pss_one PSw) h
theorem s_ret (h : eW X e σ H D.rt) : sW X (.Return (some e) pos) D σ H := sI (ps_ret PEw) h
theorem s_retN (h : D.rt .non H) : sW X (.Return none pos) D σ H := sI ps_retN h
theorem s_pass (h : D.nx σ H) : sW X (.Pass pos) D σ H := sI ps_pass h
theorem s_brk (h : D.bk σ H) : sW X (.Break pos) D σ H := sI ps_break h
theorem s_cont (h : D.ct σ H) : sW X (.Continue pos) D σ H := sI ps_continue h
theorem s_expr (h : eW X e σ H fun _ H1 => D.nx σ H1) (hs : swapsWith e none pos.line X.env = pure false := by rfl) : sW X (.Expr e pos) D σ H := sI (ps_expr PEw hs) h
theorem s_if {t : Expr} {x y : List Stmt} (h : tW X t σ H fun k H1 => if k = true then bW X x D σ H1 else bW X y D σ H1) : sW X (.If t x y pos) D σ H := sI (ps_if PTw PBw PBw) h
class NdN (N : List Str) : Prop where h : N.Nodup
theorem s_set {N : List Str} {x : Str} {i : Nat} [cn : CxN X N] [sl : Slt N x i] [nd : NdN N] (h : eW X e σ H fun v H1 => D.nx (σ.set i (some v)) H1) (hx : Loc X.env.scope x := by first | exact Or.inl rfl | exact Or.inr rfl) (hs : swapsWith e (some (.Name x p2)) pos.line X.env = pure false := by rfl)
    (hf : X.fn x = true ∨ X.env.scope.names.lookup x = some .local := by first | exact .inl rfl | exact .inr rfl | assumption) : sW X (.Assign [.Name x p2] e pos) D σ H :=
  sI (ps_set (i := i) (by rw [cn.h]; exact nd.h) (by rw [cn.h]; exact sl.h) hx PEw hs hf) h
theorem g_name {N : List Str} {x : Str} {i : Nat} {v : V} {Q : L2.St → Hp → Prop} [cn : CxN X N] [sl : Slt N x i] [nd : NdN N] (h : Q (σ.set i (some v)) H) (hx : Loc X.env.scope x := by first | exact Or.inl rfl | exact Or.inr rfl)
    (hf : X.fn x = true ∨ X.env.scope.names.lookup x = some .local := by first | exact .inl rfl | exact .inr rfl | assumption) : gW X (.Name x pos) v σ H Q :=
  gI (pg_name (i := i) (by rw [cn.h]; exact nd.h) (by rw [cn.h]; exact sl.h) hx hf) h
theorem s_asg (h : eW X e σ H fun v H1 => gW X tg v σ H1 D.nx) (hs : swapsWithSole [tg] e pos.line X.env = pure false := by rfl) (hw : swappedStores [tg] e X.env = pure none := by rfl)
    (h1 : (assignEach [tg] X.env).map (·.2) = [assign tg X.env] := by rfl) : sW X (.Assign [tg] e pos) D σ H := sI (ps_asg PEw PGw hs hw h1) h
/-- while: W by what is left -/
theorem s_while {c : Expr} [ow : CxO X] (W : Nat → L2.St → Hp → Prop) (m : Nat) (h0 : W m σ H)
    (h : ∀ m σ H, W m σ H → tW X c σ H fun b H1 => if b = true then bW X body (Dlp D fun σ' H' => ∃ m', m' < m ∧ W m' σ' H') σ H1 else D.nx σ H1) : sW X (.While c body [] pos) D σ H :=
  sI (ps_while ow.h PTw PBw) ⟨W, ⟨m, h0⟩, fun m σ H w => tMono (h m σ H w) fun b H1 q => by
    cases b with
    | true => exact ⟨_, fun _ _ z => z, q⟩
    | false => exact q⟩
theorem s_forL [ow : CxO X] [cc : CxC X] (h : eW X it σ H fun x H1 => ∃ a xs, x = .ref a ∧ SqL X.K H1 a xs ∧ ∃ Pv : Nat → L2.St → Hp → Prop, Pv 0 σ H1 ∧ (∀ i σ' H', i ≤ xs.length → Pv i σ' H' → SqL X.K H' a xs) ∧
      (∀ i v σ' H', xs[i]? = some v → Pv i σ' H' → gW X tg v σ' H' fun σ2 H2 => bW X body (Dlp D (Pv (i + 1))) σ2 H2) ∧ ∀ σ' H', Pv xs.length σ' H' → D.nx σ' H') (hs : ∀ x, foldedSetIterable it X.env x = pure x := by intro _; rfl) : sW X (.For tg it body [] pos) D σ H :=
  sI (ps_for ow.h cc.h (pi_list PEw) PGw PBw hs) (eMono h fun x H1 ⟨a, xs, e1, e2, Pv, q0, q1, q2, q3⟩ => ⟨a, e1, ⟨xs, e2⟩, for_list (K := X.K) (a := a) (xs := xs) Pv q0 q1 q2 q3⟩)
theorem s_forT [ow : CxO X] [cc : CxC X] (h : eW X it σ H fun x H1 => ∃ a xs, x = .ref a ∧ SqT X.K H1 a xs ∧ ∃ Pv : Nat → L2.St → Hp → Prop, Pv 0 σ H1 ∧ (∀ i σ' H', i ≤ xs.length → Pv i σ' H' → SqT X.K H' a xs) ∧
      (∀ i v σ' H', xs[i]? = some v → Pv i σ' H' → gW X tg v σ' H' fun σ2 H2 => bW X body (Dlp D (Pv (i + 1))) σ2 H2) ∧ ∀ σ' H', Pv xs.length σ' H' → D.nx σ' H') (hs : ∀ x, foldedSetIterable it X.env x = pure x := by intro _; rfl) : sW X (.For tg it body [] pos) D σ H :=
  sI (ps_for ow.h cc.h (pi_tup PEw) PGw PBw hs) (eMono h fun x H1 ⟨a, xs, e1, e2, Pv, q0, q1, q2, q3⟩ => ⟨a, e1, ⟨xs, e2⟩, for_tup (K := X.K) (a := a) (xs := xs) Pv q0 q1 q2 q3⟩)
end

/-! ### values -/
section
variable {X : Cx} {H : Hp} {Q : VK} {i j : Int} {k l : Bool} {x y : V} {z u : Str}
theorem o_add (q : Q (.int (i + j)) H) : oW X (binaryOp .Add) (.int i) (.int j) H Q := oI op_add ⟨_, _, rfl, rfl, q⟩
theorem o_sub (q : Q (.int (i - j)) H) : oW X (binaryOp .Sub) (.int i) (.int j) H Q := oI op_sub ⟨_, _, rfl, rfl, q⟩
theorem o_mul (h : CMulW i j) (q : Q (.int (i * j)) H) : oW X (binaryOp .Mult) (.int i) (.int j) H Q := oI op_mulW ⟨_, _, rfl, rfl, h, q⟩
theorem o_mulS (h : CMul i j) (q : Q (.int (i * j)) H) : oW X (binaryOp .Mult) (.int i) (.int j) H Q := oI op_mul ⟨_, _, rfl, rfl, h, q⟩
theorem o_mod (h : 0 < j) (q : Q (.int (i % j)) H) : oW X (binaryOp .Mod) (.int i) (.int j) H Q := oI op_mod ⟨_, _, rfl, rfl, h, q⟩
theorem o_div (h : CDiv i j) (q : Q (.int (i / j)) H) : oW X (binaryOp .FloorDiv) (.int i) (.int j) H Q := oI op_fdiv ⟨_, _, rfl, rfl, h, q⟩
theorem o_pow (h : CPow i j) (q : Q (.int (i ^ j.toNat)) H) : oW X (binaryOp .Pow) (.int i) (.int j) H Q := oI op_pow ⟨_, _, rfl, rfl, h, q⟩
theorem o_cat (h : z.length + u.length ≤ sizeLine) (q : Q (.str (z ++ u)) H) : oW X (binaryOp .Add) (.str z) (.str u) H Q := oI op_add_str ⟨_, _, rfl, rfl, h, q⟩
theorem o_lt (q : Q (.bl (decide (i < j))) H) : oW X (compareOp .Lt) (.int i) (.int j) H Q := oI op_lt ⟨_, _, rfl, rfl, q⟩
theorem o_le (q : Q (.bl (decide (i ≤ j))) H) : oW X (compareOp .LtE) (.int i) (.int j) H Q := oI op_le ⟨_, _, rfl, rfl, q⟩
theorem o_gt (q : Q (.bl (decide (j < i))) H) : oW X (compareOp .Gt) (.int i) (.int j) H Q := oI op_gt ⟨_, _, rfl, rfl, q⟩
theorem o_ge (q : Q (.bl (decide (j ≤ i))) H) : oW X (compareOp .GtE) (.int i) (.int j) H Q := oI op_ge ⟨_, _, rfl, rfl, q⟩
theorem o_eqI (q : Q (.bl (decide (i = j))) H) : oW X (compareOp .Eq) (.int i) (.int j) H Q := oI op_eq ⟨rfl, by rw [show decide (V.int i = V.int j) = decide (i = j) from decide_eq_decide.mpr ⟨fun e => V.int.inj e, fun e => by rw [e]⟩]; exact q⟩
theorem o_neI (q : Q (.bl (!decide (i = j))) H) : oW X (compareOp .NotEq) (.int i) (.int j) H Q := oI op_ne ⟨rfl, by rw [show decide (V.int i = V.int j) = decide (i = j) from decide_eq_decide.mpr ⟨fun e => V.int.inj e, fun e => by rw [e]⟩]; exact q⟩
theorem o_eqS (q : Q (.bl (decide (z = u))) H) : oW X (compareOp .Eq) (.str z) (.str u) H Q := oI op_eq ⟨rfl, by rw [show decide (V.str z = V.str u) = decide (z = u) from decide_eq_decide.mpr ⟨fun e => V.str.inj e, fun e => by rw [e]⟩]; exact q⟩
theorem o_neS (q : Q (.bl (!decide (z = u))) H) : oW X (compareOp .NotEq) (.str z) (.str u) H Q := oI op_ne ⟨rfl, by rw [show decide (V.str z = V.str u) = decide (z = u) from decide_eq_decide.mpr ⟨fun e => V.str.inj e, fun e => by rw [e]⟩]; exact q⟩
theorem o_eqB (q : Q (.bl (decide (k = l))) H) : oW X (compareOp .Eq) (.bl k) (.bl l) H Q := oI op_eq ⟨rfl, by rw [show decide (V.bl k = V.bl l) = decide (k = l) from decide_eq_decide.mpr ⟨fun e => V.bl.inj e, fun e => by rw [e]⟩]; exact q⟩
theorem o_neB (q : Q (.bl (!decide (k = l))) H) : oW X (compareOp .NotEq) (.bl k) (.bl l) H Q := oI op_ne ⟨rfl, by rw [show decide (V.bl k = V.bl l) = decide (k = l) from decide_eq_decide.mpr ⟨fun e => V.bl.inj e, fun e => by rw [e]⟩]; exact q⟩
theorem u_neg (q : Q (.int (-i)) H) : uW X (unaryOp .USub) (.int i) H Q := uI un_neg ⟨_, rfl, q⟩
end
theorem iteD {p : Prop} [Decidable p] {A B : Prop} (h1 : p → A) (h2 : ¬ p → B) : if decide p = true then A else B := by
  by_cases h : p
  · rw [if_pos (decide_eq_true h)]; exact h1 h
  · rw [decide_eq_false h, if_neg Bool.false_ne_true]; exact h2 h
theorem iteND {p : Prop} [Decidable p] {A B : Prop} (h1 : ¬ p → A) (h2 : p → B) : if (!decide p) = true then A else B := by
  by_cases h : p
  · rw [decide_eq_true h]; exact iteF (h2 h)
  · rw [decide_eq_false h]; exact iteT (h1 h)
theorem iteB {k : Bool} {A B : Prop} (h1 : k = true → A) (h2 : k = false → B) : if k = true then A else B := by
  cases k with
  | true => exact iteT (h1 rfl)
  | false => exact iteF (h2 rfl)

/-! ### calls -/
section
variable {X : Cx} {σ : L2.St} {H : Hp} {Q : VK} {pos p2 p3 p4 apos : Pos} {a e : Expr} {es : List Expr} {P : Program} {w : World} {K : PySem.W.Frag} {mg : Str → Option Value} {base : Heap}
/-- a def of the module by its name: where it stands, how it binds, its promise -/
structure Df (P : Program) (w : World) (K : PySem.W.Frag) (mg : Str → Option Value) (base : Heap) (x : Str) (k : Nat) (ps : List Str) (sp : Sp) : Prop where
  ex : ∃ (f : Addr) (fd : FuncData), mg x = some (.ref f) ∧ PySem.W.keepIn K (.ref f) = true ∧ Binds K fd ps [] ∧ FnOk P w K mg base (L2.CX P w) k f fd ps sp
theorem e_call {x : Str} {k : Nat} {ps : List Str} {sp : Sp} {W : WX} [ct : CxT X W] (F : Df X.prog X.w X.K X.mg X.base x k ps sp) (hr : Room k X.A) (h : aW X (e :: es) σ H fun vs H1 => sp vs H1 Q fun cls d H' => W cls d σ H')
    (hg : Gl X x := by rfl) (hdb : (x == ("__debug__" : Str)) = false := by decide) (he : starEach (e :: es) X.env = (false, eval e X.env) :: starEach es X.env := by rfl) (hpl : (backTo pos (starEach es X.env)).any (·.1) = false := by rfl) : eW X (.Call (.Name x p2) (e :: es) [] pos) σ H Q := by
  obtain ⟨f, fd, h1, h2, h3, h4⟩ := F.ex
  exact eI (pe_callS (E := WE W) h4 hr hg h1 h2 h3 (fun σ => passAt ct.h σ) PAw hdb he hpl) h
theorem e_call0 {x : Str} {k : Nat} {ps : List Str} {sp : Sp} (F : Df X.prog X.w X.K X.mg X.base x k ps sp) (hr : Room k X.A) (h : sp [] H Q E0)
    (hg : Gl X x := by rfl) (hdb : (x == ("__debug__" : Str)) = false := by decide) : eW X (.Call (.Name x p2) [] [] pos) σ H Q := by
  obtain ⟨f, fd, h1, h2, h3, h4⟩ := F.ex
  exact eI (pe_call0 (E := E0) h4 hr hg h1 h2 h3 .nil passL hdb) h
theorem e_callB {x : Str} {id : String} [cm : CxM X mg] [g : Gn mg x none] [bl : Blt x (.builtin id)] (h : aW X (e :: es) σ H fun vs H1 => kW X (.builtin id) vs H1 Q)
    (hg : Gl X x := by rfl) (hn : x ≠ "__name__" := by decide) (hdb : (x == ("__debug__" : Str)) = false := by decide) (he : starEach (e :: es) X.env = (false, eval e X.env) :: starEach es X.env := by rfl) (hpl : (backTo pos (starEach es X.env)).any (·.1) = false := by rfl) : eW X (.Call (.Name x p2) (e :: es) [] pos) σ H Q :=
  eI (pe_callB KRw hg (by rw [cm.h]; exact g.h) bl.h PAw hn hdb he hpl) h
theorem e_callTy {x : Str} {id : String} [cm : CxM X mg] [g : Gn mg x none] [bl : Blt x (.type id)] (h : aW X (e :: es) σ H fun vs H1 => kW X (.type id) vs H1 Q)
    (hg : Gl X x := by rfl) (hn : x ≠ "__name__" := by decide) (hdb : (x == ("__debug__" : Str)) = false := by decide) (he : starEach (e :: es) X.env = (false, eval e X.env) :: starEach es X.env := by rfl) (hpl : (backTo pos (starEach es X.env)).any (·.1) = false := by rfl) : eW X (.Call (.Name x p2) (e :: es) [] pos) σ H Q :=
  eI (pe_callTy KRw hg (by rw [cm.h]; exact g.h) bl.h PAw hn hdb he hpl) h
end
/-! ### defs and classes of the text -/
structure At (K : PySem.W.Frag) (mg : Str → Option Value) (x q : Str) (st : Stmt) (ps : List Str) : Prop where
  ex : ∃ (f : Addr) (fd : FuncData), mg x = some (.ref f) ∧ Fun K x q st f fd ∧ Binds K fd ps []
structure MAt (K : PySem.W.Frag) (C : Addr) (x q : Str) (st : Stmt) (ps : List Str) : Prop where
  ex : ∃ (f : Addr) (fd : FuncData), Meth K C x f ∧ Fun K x q st f fd ∧ Binds K fd ps []
structure InitF (K : PySem.W.Frag) (C : Addr) (q : Str) (st : Stmt) (ps : List Str) : Prop where
  ex : ∃ (f : Addr) (fd : FuncData), Mk K C f ∧ Fun K "__init__" q st f fd ∧ Binds K fd ps []
structure ClsF (K : PySem.W.Frag) (mg : Str → Option Value) (x : Str) (C : Addr) : Prop where
  mg : mg x = some (.ref C)
  cl : Cls K C
  mks : PySem.W.makesIn K C = true
  kp : PySem.W.keepIn K (.ref C) = true
  ha : PySem.W.findIn K (.ref C) "__class__" = some (some (.builtin "object.__class__"))
  hn : PySem.W.specialIn K (.builtin "object.__class__") "__get__" = some (some (.builtin "getset_descriptor.__get__"))
  ht : PySem.W.takesIn K (.builtin "object.__class__") = some true
  hm : PySem.W.mroIn K C (.type "object") = some true
  ty : PySem.W.typeIn K (.ref C) = some (.type "type")
  ic : PySem.W.isClsIn K C = true
structure ExcF (K : PySem.W.Frag) (mg : Str → Option Value) (x : Str) (C : Addr) : Prop where
  mg : mg x = some (.ref C)
  ex : PySem.W.excIn K C [.type "ValueError", .type "Exception", .type "BaseException", .type "object"] "ValueError.__new__" = true
  kp : PySem.W.keepIn K (.ref C) = true
  be : PySem.W.subIn K (.ref C) (.type "BaseException") = some true
  ty : PySem.W.typeIn K (.ref C) = some (.type "type")
  ic : PySem.W.isClsIn K C = true
  ga : PySem.W.findIn K (.ref C) "__getattribute__" = some (some (.builtin "BaseException.__getattribute__"))
  gk : PySem.W.findIn K (.ref C) "__getattr__" = some none
  hd : PySem.W.hasDictIn K C = true
  ha : PySem.W.findIn K (.ref C) "__class__" = some (some (.builtin "object.__class__"))
  hn : PySem.W.specialIn K (.builtin "object.__class__") "__get__" = some (some (.builtin "getset_descriptor.__get__"))
  ht : PySem.W.takesIn K (.builtin "object.__class__") = some true
  hm : PySem.W.mroIn K C (.type "object") = some true
  ve : PySem.W.subIn K (.ref C) (.type "ValueError") = some true
structure Md (P : Program) (w : World) (K : PySem.W.Frag) (mg : Str → Option Value) (base : Heap) (C : Addr) (x : Str) (k : Nat) (ps : List Str) (sp : Sp) : Prop where
  ex : ∃ (f : Addr) (fd : FuncData), Meth K C x f ∧ Binds K fd ps [] ∧ FnOk P w K mg base (L2.CX P w) k f fd ps sp
/-! ### promises by the number of the arguments -/
def sp0 (R : Hp → VK → XK → Prop) : Sp := fun vs H Q E => vs = [] ∧ R H Q E
def sp1 (R : V → Hp → VK → XK → Prop) : Sp := fun vs H Q E => ∃ a, vs = [a] ∧ R a H Q E
def sp2 (R : V → V → Hp → VK → XK → Prop) : Sp := fun vs H Q E => ∃ a b, vs = [a, b] ∧ R a b H Q E
def sp3 (R : V → V → V → Hp → VK → XK → Prop) : Sp := fun vs H Q E => ∃ a b c, vs = [a, b, c] ∧ R a b c H Q E
def sp4 (R : V → V → V → V → Hp → VK → XK → Prop) : Sp := fun vs H Q E => ∃ a b c d, vs = [a, b, c, d] ∧ R a b c d H Q E
def sp5 (R : V → V → V → V → V → Hp → VK → XK → Prop) : Sp := fun vs H Q E => ∃ a b c d e, vs = [a, b, c, d, e] ∧ R a b c d e H Q E
def sp6 (R : V → V → V → V → V → V → Hp → VK → XK → Prop) : Sp := fun vs H Q E => ∃ a b c d e f, vs = [a, b, c, d, e, f] ∧ R a b c d e f H Q E
section
variable {vs : List V} {H : Hp} {Q : VK} {E : XK}
theorem sp0_len {R} (h : sp0 R vs H Q E) : vs.length = 0 := by obtain ⟨rfl, _⟩ := h; rfl
theorem sp1_len {R} (h : sp1 R vs H Q E) : vs.length = 1 := by obtain ⟨_, rfl, _⟩ := h; rfl
theorem sp2_len {R} (h : sp2 R vs H Q E) : vs.length = 2 := by obtain ⟨_, _, rfl, _⟩ := h; rfl
theorem sp3_len {R} (h : sp3 R vs H Q E) : vs.length = 3 := by obtain ⟨_, _, _, rfl, _⟩ := h; rfl
theorem sp4_len {R} (h : sp4 R vs H Q E) : vs.length = 4 := by obtain ⟨_, _, _, _, rfl, _⟩ := h; rfl
theorem sp5_len {R} (h : sp5 R vs H Q E) : vs.length = 5 := by obtain ⟨_, _, _, _, _, rfl, _⟩ := h; rfl
theorem sp6_len {R} (h : sp6 R vs H Q E) : vs.length = 6 := by obtain ⟨_, _, _, _, _, _, rfl, _⟩ := h; rfl
end
section
variable {X : Cx} {σ : L2.St} {H : Hp} {Q : VK} {pos p2 p3 p4 apos : Pos} {a e o : Expr} {es : List Expr} {mg : Str → Option Value} {C : Addr}
/-- o.m(e, ..), o.m() of an own class -/
theorem e_meth {m : Str} {k : Nat} {ps : List Str} {sp : Sp} (c : Cls X.K C) (F : Md X.prog X.w X.K X.mg X.base C m k ps sp) (hr : Room k X.A)
    (h : eW X o σ H fun x H1 => ∃ a dx fs, x = .ref a ∧ H1 a = some (.ins C dx fs) ∧ fs.lookup m = none ∧ aW X (e :: es) σ H1 fun vs H2 => sp (x :: vs) H2 Q E0) {pl : Sem Bool}
    (hst : starEach (e :: es) X.env = (false, eval e X.env) :: starEach es X.env := by rfl) (hpl : (backTo pos (starEach es X.env)).any (·.1) = false := by rfl)
    (ht : eval (.Call (.Attribute o m apos) (e :: es) [] pos) X.env = (do
      let ov ← eval o X.env
      standAt apos.atName
      let (f, first) ← holding [ov] (getMethod ov m pl)
      callWith pos f first (backTo pos (starEach (e :: es) X.env)) (backToKw pos (keywordEach [] X.env))) := by rfl) : eW X (.Call (.Attribute o m apos) (e :: es) [] pos) σ H Q := by
  obtain ⟨f, fd, h1, h2, h3⟩ := F.ex
  exact eI (pe_meth (E := E0) PEw c h1 h3 hr h2 .nil passL PAw hst hpl ht) (eMono h fun x H1 ⟨a, dx, fs, q1, q2, q3, q4⟩ => ⟨a, dx, fs, q1, q2, q3, by simpa only [List.append_nil] using q4⟩)
theorem e_meth0 {m : Str} {k : Nat} {ps : List Str} {sp : Sp} (c : Cls X.K C) (F : Md X.prog X.w X.K X.mg X.base C m k ps sp) (hr : Room k X.A)
    (h : eW X o σ H fun x H1 => ∃ a dx fs, x = .ref a ∧ H1 a = some (.ins C dx fs) ∧ fs.lookup m = none ∧ sp [x] H1 Q E0) {pl : Sem Bool}
    (ht : eval (.Call (.Attribute o m apos) [] [] pos) X.env = (do
      let ov ← eval o X.env
      standAt apos.atName
      let (f, first) ← holding [ov] (getMethod ov m pl)
      callWith pos f first (backTo pos (starEach [] X.env)) (backToKw pos (keywordEach [] X.env))) := by rfl) : eW X (.Call (.Attribute o m apos) [] [] pos) σ H Q := by
  obtain ⟨f, fd, h1, h2, h3⟩ := F.ex
  exact eI (pe_meth0 (E := E0) PEw c h1 h3 hr h2 .nil passL ht) h
theorem run_makeO {pins : List (Addr × Obj)} {s : Shared} (hm : PySem.W.makesIn X.K C = true) (hi : PySem.W.findIn X.K (.ref C) "__init__" = some (some (.builtin "object.__init__"))) (I : Inv X pins σ H s)
    (h : ∀ x dx, H x = none → H dx = none → dx ≠ x → Q (.ref x) (upd (upd H dx (.own x)) x (.ins C dx []))) : wpAny (model X.prog X.w) X.A (call (.ref C) []) (EP X pins σ Q) X.xe s := by
  have hq := h (s.heap.objs.size + 1) s.heap.objs.size (I.hok.fresh (Nat.le_succ _)) (I.hok.fresh (Nat.le_refl _)) (Nat.ne_of_lt (Nat.lt_succ_self _))
  have I2 := Inv.made (C := C) I
  have KX := I.kIn
  refine wpAny_call (make_map0 KX hm hi (fun self => PySem.W.Looks.of_pure (PySem.W.oi_bind self)) ?_)
  obtain ⟨hh, g, d, t, os⟩ := s
  have Y := PySem.W.makes_of (M := model X.prog X.w) KX hm
  have t1 : PySem.W.Looks (model X.prog X.w) ((hh.push PySem.W.emptyDict).push (PySem.W.instObj C hh.objs.size)) (typeOf (.ref (hh.objs.size + 1))) (.ref C) := (PySem.W.Looks.ld (by
    have z := Heap.get?_push_size (hh.push PySem.W.emptyDict) (o := PySem.W.instObj C hh.objs.size) rfl
    rw [Heap.size_push] at z
    exact z)).andThen .now
  have t2 : PySem.W.Looks (model X.prog X.w) ((hh.push PySem.W.emptyDict).push (PySem.W.instObj C hh.objs.size)) (isInstance (.ref (hh.objs.size + 1)) (.type "object")) true := t1.andThen (Y.top.keeps fun b o e => Heap.get?_push_of_some _ (Heap.get?_push_of_some _ e))
  refine codeAny_call_builtin PySem.W.oi_plain PySem.W.entry_oi (@PySem.W.check_slot (model X.prog X.w) _ _ _ "object.__init__" "object" "__init__" (.ref (hh.objs.size + 1)) [] [] _ PySem.W.oi_kind PySem.W.oi_split t2 (PySem.W.oi_args (.ref (hh.objs.size + 1))) ?_)
  rw [PySem.W.oi_run]
  exact wpAny_pure ⟨rfl, .ref (hh.objs.size + 1), _, I2, rfl, hq⟩
theorem e_makeO {x : Str} [cm : CxM X mg] [g : Gn mg x (some (.ref C))] (hm : PySem.W.makesIn X.K C = true) (hk : PySem.W.keepIn X.K (.ref C) = true) (hi : PySem.W.findIn X.K (.ref C) "__init__" = some (some (.builtin "object.__init__")))
    (h : ∀ x dx, H x = none → H dx = none → dx ≠ x → Q (.ref x) (upd (upd H dx (.own x)) x (.ins C dx []))) (hg : Gl X x := by rfl) (hdb : (x == ("__debug__" : Str)) = false := by decide) : eW X (.Call (.Name x p2) [] [] pos) σ H Q := ⟨fun pins s I =>
  wpAny_Call_Name_kw (ld_glob I hg (by rw [cm.h]; exact g.h) (PySem.W.callWith_K0 I.kIn hk (run_makeO hm hi I h)) hdb)⟩
end
/-! ### isinstance -/
section
variable {X : Cx} {H : Hp} {Q : VK}
theorem k_isi {x c : V} {t u : Value} {b : Bool} (hc : ClsV c u) (hx : TyX X.K H x t) (e : PySem.W.kitOne X.K t u = some b) (q : Q (.bl b) H) : kW X (.builtin "isinstance") [x, c] H Q := kI call_isi ⟨_, _, _, _, _, rfl, hc, hx, e, q⟩
theorem ClsF.tyX {K : PySem.W.Frag} {mg : Str → Option Value} {x : Str} {C a dx : Addr} {fs : List (Str × V)} (T : ClsF K mg x C) (h : H a = some (.ins C dx fs)) : TyX K H (.ref a) (.ref C) := .base (.ins h T.cl T.ha T.hn T.ht T.hm)
theorem kit_refs {K : PySem.W.Frag} {C D : Addr} {b : Bool} (hs : PySem.W.subIn K (.ref C) (.ref D) = some b) (ic : PySem.W.isClsIn K D = true) (ty : PySem.W.typeIn K (.ref D) = some (.type "type")) (ne : C ≠ D) : PySem.W.kitOne K (.ref C) (.ref D) = some b := by
  have e1 : ((PySem.W.clsIn K D).isSome && PySem.W.typeIn K (.ref D) == some (.type "type")) = true := by
    have h2 : (PySem.W.clsIn K D).isSome = true := ic
    rw [h2, ty]; rfl
  have e2 : (Value.ref C == Value.ref D) = false := by simp [ne]
  show (if (Value.ref C == Value.ref D) = true then some true else if ((PySem.W.clsIn K D).isSome && PySem.W.typeIn K (.ref D) == some (.type "type")) = true then PySem.W.subIn K (.ref C) (.ref D) else none) = some b
  rw [e2, if_neg Bool.false_ne_true, if_pos e1]
  exact hs
theorem kit_self {K : PySem.W.Frag} {C : Addr} : PySem.W.kitOne K (.ref C) (.ref C) = some true := by
  show (if (Value.ref C == Value.ref C) = true then some true else _) = some true
  rw [if_pos (by simp)]
end
/-! ### subscripts, equality of data -/
structure iW (X : Cx) (x y : V) (H : Hp) (Q : VK) : Prop where
  run : ∀ (value slice : Expr) pins s σ v u, Inv X pins σ H s → RelV x v → RelV y u → subscripted slice false v u = operate [v, u] (getItem v u) → wpAny (model X.prog X.w) X.A (subscriptTail value slice v u) (EP X pins σ Q) X.xe s
section
variable {X : Cx} {σ : L2.St} {H : Hp} {Q : VK} {pos p2 p3 : Pos} {a b : Expr} {x y v : V} {p : Addr} {xs : List V} {i : Int}
theorem e_ix (h : eW X a σ H fun x H1 => eW X b σ H1 fun y H2 => iW X x y H2 Q) (hs : PlainIx b := by exact fun _ _ => rfl) : eW X (.Subscript a b pos) σ H Q :=
  eI (pe_ix (r := iW X) (fun value slice pins s σ H x y v u Q I rx ry h hs => h.run value slice pins s σ v u I rx ry hs) PEw PEw hs) h
theorem iI {r : R2} (h : IxR X r) (q : r x y H Q) : iW X x y H Q := ⟨fun value slice pins s σ v u I rx ry hs => h value slice pins s σ H x y v u Q I rx ry q hs⟩
theorem i_lst (h : SqL X.K H p xs) (e : atI xs i = some v) (q : Q v H) : iW X (.ref p) (.int i) H Q := iI ix_list ⟨_, _, _, _, rfl, rfl, h, e, q⟩
theorem i_tup (h : SqT X.K H p xs) (e : atI xs i = some v) (q : Q v H) : iW X (.ref p) (.int i) H Q := iI ix_tup ⟨_, _, _, _, rfl, rfl, h, e, q⟩
theorem i_str {z : Str} {c : Nat} (hz : z.length ≤ sizeLine) (e : atI z.cps.toList i = some c) (q : Q (.str ⟨#[c]⟩) H) : iW X (.str z) (.int i) H Q := iI ix_str ⟨_, _, _, rfl, rfl, hz, e, q⟩
theorem o_eqD {d e : PyData} (hu : X.A.units + 64 < cLine) (hx : Dp X.K H x d) (hy : Dp X.K H y e) (sd : SeqAt.shaped d = true) (se : SeqAt.shaped e = true) (q : Q (.bl (PyData.eqv d e)) H) : oW X (compareOp .Eq) x y H Q := oI (op_eqD hu) ⟨d, e, hx, hy, sd, se, q⟩
theorem o_neD {d e : PyData} (hu : X.A.units + 64 < cLine) (hx : Dp X.K H x d) (hy : Dp X.K H y e) (sd : SeqAt.shaped d = true) (se : SeqAt.shaped e = true) (q : Q (.bl (!PyData.eqv d e)) H) : oW X (compareOp .NotEq) x y H Q := oI (op_neD hu) ⟨d, e, hx, hy, sd, se, q⟩
theorem k_min {j : Int} [cc : CxC X] (q : Q (.int (if j < i then j else i)) H) : kW X (.builtin "min") [.int i, .int j] H Q := kI (call_min2 cc.h) ⟨_, _, rfl, q⟩
theorem k_max {j : Int} [cc : CxC X] (q : Q (.int (if j > i then j else i)) H) : kW X (.builtin "max") [.int i, .int j] H Q := kI (call_max2 cc.h) ⟨_, _, rfl, q⟩
end
theorem atI_nat {α : Type} {xs : List α} {i : Int} {v : α} (h0 : 0 ≤ i) (h : xs[i.toNat]? = some v) : atI xs i = some v := by
  have hl := (List.getElem?_eq_some_iff.mp h).1
  unfold atI ixN
  rw [if_pos h0, if_pos (by omega)]
  exact h
theorem atI_all {α : Type} {xs : List α} {i : Int} {P : α → Prop} (h0 : 0 ≤ i) (h1 : i < xs.length) (hp : ∀ x ∈ xs, P x) : ∃ v, atI xs i = some v ∧ P v := by
  have hl : i.toNat < xs.length := by omega
  exact ⟨xs[i.toNat], atI_nat h0 (List.getElem?_eq_getElem hl), hp _ (List.getElem_mem hl)⟩
theorem TyB {K : PySem.W.Frag} {H : Hp} : (∀ i, TyX K H (.int i) (.type "int")) ∧ (∀ b, TyX K H (.bl b) (.type "bool")) ∧ (∀ z, TyX K H (.str z) (.type "str")) ∧ TyX K H .non (.type "NoneType") := ⟨fun _ => .base (.int _), fun _ => .base (.bl _), fun _ => .base (.str _), .base .non⟩
theorem TyL {K : PySem.W.Frag} {H : Hp} {p : Addr} {xs : List V} (h : H p = some (.lst xs)) : TyX K H (.ref p) (.type "list") := .base (.lst h)
theorem TyT {K : PySem.W.Frag} {H : Hp} {p : Addr} {xs : List V} (h : H p = some (.tup xs)) : TyX K H (.ref p) (.type "tuple") := .base (.tup h)
section
variable {X : Cx} {H : Hp} {Q : VK}
/-- isinstance of a value told by its type's name, of a built-in type -/
theorem k_isB {x : V} {t n : String} {b : Bool} (hx : TyX X.K H x (.type t)) (e : kitB t n = some b) (q : Q (.bl b) H) : kW X (.builtin "isinstance") [x, .ty n] H Q := k_isi (.ty n) hx (kit_ty e) q
end
theorem kb_int_int : kitB "int" "int" = some true := by decide +kernel
theorem kb_int_bool : kitB "int" "bool" = some false := by decide +kernel
theorem kb_bool_int : kitB "bool" "int" = some true := by decide +kernel
theorem kb_bool_bool : kitB "bool" "bool" = some true := by decide +kernel
theorem p60 : (10 : Int) ^ (60 : Int).toNat = 1000000000000000000000000000000000000000000000000000000000000 := by decide
theorem p30 : (10 : Int) ^ (30 : Int).toNat = 1000000000000000000000000000000 := by decide
section
variable {X : Cx} {H : Hp} {Q : VK}
theorem o_p60 (q : Q (.int 1000000000000000000000000000000000000000000000000000000000000) H) : oW X (binaryOp .Pow) (.int 10) (.int 60) H Q := oI op_pow ⟨_, _, rfl, rfl, ⟨by decide, by decide, by decide⟩, by show Q (.int ((10 : Int) ^ (60 : Int).toNat)) H; rw [p60]; exact q⟩
theorem o_p30 (q : Q (.int 1000000000000000000000000000000) H) : oW X (binaryOp .Pow) (.int 10) (.int 30) H Q := oI op_pow ⟨_, _, rfl, rfl, ⟨by decide, by decide, by decide⟩, by show Q (.int ((10 : Int) ^ (30 : Int).toNat)) H; rw [p30]; exact q⟩
end
/-- a new list, its heap by what is known of it -/
theorem e_lstN {X : Cx} {σ : L2.St} {H : Hp} {Q : VK} {pos : Pos} {es : List Expr} (h : aW X es σ H fun xs H1 => Nat.ble xs.length 1000 = true ∧ ∀ p H2, Same H1 H2 → H1 p = none → H2 p = some (.lst xs) → (∀ b, b ≠ p → H2 b = H1 b) → Q (.ref p) H2) : eW X (.List es pos) σ H Q :=
  e_lst ⟨fun pos pins s I => wpAny_mono (h.run pos pins s I) (fun us s' ⟨vs, H', a, b, c, d⟩ => ⟨vs, H', a, b, Nat.le_trans (Nat.le_of_ble_eq_true c) (by decide), fun p hp => d p _ (fun x o e => by rw [upd_ne (ne_of_none e hp)]; exact e) hp upd_same fun x hx => upd_ne hx⟩) fun _ _ x => x⟩
theorem e_tupN {X : Cx} {σ : L2.St} {H : Hp} {Q : VK} {pos : Pos} {es : List Expr} {k : Nat} (h : aW X es σ H fun xs H1 => Nat.ble xs.length 1000 = true ∧ ∀ p H2, Same H1 H2 → H1 p = none → H2 p = some (.tup xs) → (∀ b, b ≠ p → H2 b = H1 b) → Q (.ref p) H2) : eW X (.Tuple es k pos) σ H Q :=
  e_tup ⟨fun pos pins s I => wpAny_mono (h.run pos pins s I) (fun us s' ⟨vs, H', a, b, c, d⟩ => ⟨vs, H', a, b, Nat.le_trans (Nat.le_of_ble_eq_true c) (by decide), fun p hp => d p _ (fun x o e => by rw [upd_ne (ne_of_none e hp)]; exact e) hp upd_same fun x hx => upd_ne hx⟩) fun _ _ x => x⟩
section
variable {X : Cx} {H : Hp} {Q : VK} {p : Addr} {xs : List V} {z : Str}
theorem k_lenL (h : SqL X.K H p xs) (q : Q (.int (xs.length : Int)) H) : kW X (.builtin "len") [.ref p] H Q := kI call_len_seq ⟨_, _, rfl, .inl h, q⟩
theorem k_lenT (h : SqT X.K H p xs) (q : Q (.int (xs.length : Int)) H) : kW X (.builtin "len") [.ref p] H Q := kI call_len_seq ⟨_, _, rfl, .inr h, q⟩
theorem k_lenS (h : z.length ≤ sizeLine) (q : Q (.int (z.length : Int)) H) : kW X (.builtin "len") [.str z] H Q := kI call_len_str ⟨_, rfl, h, q⟩
end
theorem Same.made' {H : Hp} {x dx C : Addr} (nx : H x = Option.none) (nd : H dx = Option.none) : Same H (upd (upd H dx (.own x)) x (.ins C dx [])) := fun b o e => by
  rw [upd_ne (ne_of_none e nx), upd_ne (ne_of_none e nd)]
  exact e
def R_law (K : PySem.W.Frag) : V → Hp → VK → XK → Prop := fun x H Q _ => ∃ (a : Addr) (ns : List Int), x = .ref a ∧ SqL K H a (ns.map V.int) ∧ ns.length ≤ 63 ∧ ∀ H', Q (.bl true) H'
/-! ### targets that are tuples -/
structure hW (X : Cx) (es : List Expr) (vs : List V) (σ : L2.St) (H : Hp) (Q : L2.St → Hp → Prop) : Prop where
  run : ∀ pins s us, Inv X pins σ H s → Vals vs us → wpAny (model X.prog X.w) X.A (assignInOrder ((assignEach es X.env).map (·.2)) us) (fun _ s' => ∃ σ' H', Inv X pins σ' H' s' ∧ Q σ' H') X.xe s
section
variable {X : Cx} {σ : L2.St} {H : Hp} {pos : Pos} {e : Expr} {es : List Expr} {Q : L2.St → Hp → Prop}
theorem PHw : PGs X es (hW X es) := ⟨fun pins s _ _ vs us _ I r h => h.run pins s us I r⟩
theorem h_nil (h : Q σ H) : hW X [] [] σ H Q := ⟨fun pins s us I r => pgs_nil.run pins s σ H [] us Q I r ⟨rfl, h⟩⟩
theorem h_cons {v : V} {vs : List V} (h : gW X e v σ H fun σ1 H1 => hW X es vs σ1 H1 Q) (hs : (assignEach (e :: es) X.env).map (·.2) = assign e X.env :: (assignEach es X.env).map (·.2) := by rfl) : hW X (e :: es) (v :: vs) σ H Q :=
  ⟨fun pins s us I r => (pgs_cons PGw PHw hs).run pins s σ H (v :: vs) us Q I r ⟨v, vs, rfl, h⟩⟩
theorem g_tup {k n : Nat} {v : V} [cc : CxC X] (h : ∃ a xs, v = .ref a ∧ SqT X.K H a xs ∧ xs.length = n ∧ hW X es xs σ H Q)
    (hn : (assignEach es X.env).length = n := by rfl) (hst : (assignEach es X.env).findIdx? (·.1) = none := by rfl) : gW X (.Tuple es k pos) v σ H Q := gI (pg_tup cc.h PHw hn hst) h
end
section
variable {X : Cx} {σ : L2.St} {H : Hp} {pos : Pos} {es : List Expr} {Q : L2.St → Hp → Prop}
theorem g_lst {k n : Nat} {v : V} [cc : CxC X] (h : ∃ a xs, v = .ref a ∧ SqL X.K H a xs ∧ xs.length = n ∧ hW X es xs σ H Q)
    (hn : (assignEach es X.env).length = n := by rfl) (hst : (assignEach es X.env).findIdx? (·.1) = none := by rfl) : gW X (.Tuple es k pos) v σ H Q := gI (pg_lst cc.h PHw hn hst) h
theorem is_h {vs : List V} (h : hW X es vs σ H Q) : hW X es vs σ H Q := h
end
theorem s_asgT {X : Cx} {σ : L2.St} {H : Hp} {D : Ends} {pos p2 : Pos} {e : Expr} {es : List Expr} {k : Nat} (h : eW X e σ H fun v H1 => gW X (.Tuple es k p2) v σ H1 D.nx) (hs : swapsWithSole [.Tuple es k p2] e pos.line X.env = pure false := by rfl) (hw : swappedStores [.Tuple es k p2] e X.env = pure none := by rfl)
    (h1 : (assignEach [.Tuple es k p2] X.env).map (·.2) = [assign (.Tuple es k p2) X.env] := by rfl) : sW X (.Assign [.Tuple es k p2] e pos) D σ H := s_asg h hs hw h1
def oV : Option Int → V
  | none => .non
  | some i => .int i
theorem TyO {K : PySem.W.Frag} {H : Hp} : TyX K H .non (.type "NoneType") := .base .non
/-! ### what is walked; for and comprehensions over any walk -/
structure jW (X : Cx) (tg it : Expr) (σ : L2.St) (H : Hp) (R : It → Hp → Prop) : Prop where
  run : ∀ pins s, Inv X pins σ H s → wpAny (model X.prog X.w) X.A (eval it X.env) (fun v s1 => wpAny (model X.prog X.w) X.A (pyIter v) (PIE X pins σ tg R) X.xe s1) X.xe s
structure mW (X : Cx) (id : String) (x : V) (xs : List V) (H : Hp) (Q : VK) : Prop where
  run : ∀ pins s σ v us, Inv X pins σ H s → RelV x v → Vals xs us → wpAny (model X.prog X.w) X.A (call (.builtin id) (v :: us)) (EP X pins σ Q) X.xe s
structure nW (X : Cx) (x : V) (lo hi : Option Int) (H : Hp) (Q : VK) : Prop where
  run : ∀ pins s σ v vl vu sl, Inv X pins σ H s → RelV x v → s.heap.IsSliceOf sl vl vu .none → IsPart vl lo → IsPart vu hi →
    ∃ T id, typeLookup (.type T) "__getitem__" = pure (some (.builtin id)) ∧ s.TypeIs v T ∧ wpAny (model X.prog X.w) X.A (getItem v (.ref sl)) (EP X pins σ Q) X.xe s
section
variable {X : Cx} {σ : L2.St} {H : Hp} {Q : VK} {D : Ends} {pos p2 p3 p4 p5 apos : Pos} {e o it tg elt c a b : Expr} {es : List Expr} {body : List Stmt} {R : It → Hp → Prop} {mg : Str → Option Value}
theorem PJw : PI X tg it (jW X tg it) := ⟨fun pins s _ _ _ I h => h.run pins s I⟩
theorem jI {wi : TI} (h : PI X tg it wi) (q : wi σ H R) : jW X tg it σ H R := ⟨fun pins s I => h.run pins s σ H R I q⟩
theorem MRw {id : String} : MtR X id (mW X id) := fun pins s σ H x xs v us Q I rx r h => h.run pins s σ v us I rx r
theorem mI {id : String} {r : V → List V → Hp → VK → Prop} {x : V} {xs : List V} (h : MtR X id r) (q : r x xs H Q) : mW X id x xs H Q := ⟨fun pins s σ v us I rx rs => h pins s σ H x xs v us Q I rx rs q⟩
theorem NRw : SlR X (nW X) := fun pins s σ H x v vl vu lo hi sl Q I rx h1 h2 h3 q => q.run pins s σ v vl vu sl I rx h1 h2 h3
theorem nI {r : V → Option Int → Option Int → Hp → VK → Prop} {x : V} {lo hi : Option Int} (h : SlR X r) (q : r x lo hi H Q) : nW X x lo hi H Q := ⟨fun pins s σ v vl vu sl I rx h1 h2 h3 => h pins s σ H x v vl vu lo hi sl Q I rx h1 h2 h3 q⟩
theorem j_list (h : eW X it σ H fun x H1 => ∃ a, x = .ref a ∧ (∃ xs, SqL X.K H1 a xs) ∧ R (Itl X.K a) H1) : jW X tg it σ H R := jI (pi_list PEw) h
theorem j_tup (h : eW X it σ H fun x H1 => ∃ a, x = .ref a ∧ (∃ xs, SqT X.K H1 a xs) ∧ R (Itt X.K a) H1) : jW X tg it σ H R := jI (pi_tup PEw) h
theorem j_str (h : eW X it σ H fun x H1 => ∃ z, x = .str z ∧ R (Its z) H1) : jW X tg it σ H R := jI (pi_str PEw) h
theorem j_rng1 [cm : CxM X mg] [g : Gn mg "range" none] (h : aW X [a] σ H fun vs H1 => ∃ j : Int, vs = [.int j] ∧ -(2 ^ 62) ≤ j ∧ j < 2 ^ 62 ∧ R (Itr 0 j.toNat) H1) (hg : Gl X "range" := by rfl) (hs : starEach [a] X.env = [(false, eval a X.env)] := by rfl) : jW X tg (.Call (.Name "range" p2) [a] [] pos) σ H R :=
  jI (pi_range1 hg (by rw [cm.h]; exact g.h) PAw hs) h
theorem j_rng2 [cm : CxM X mg] [g : Gn mg "range" none] (h : aW X [a, b] σ H fun vs H1 => ∃ i j : Int, vs = [.int i, .int j] ∧ (-(2 ^ 62) ≤ i ∧ i < 2 ^ 62 ∧ -(2 ^ 62) ≤ j ∧ j < 2 ^ 62) ∧ R (Itr i (j - i).toNat) H1) (hg : Gl X "range" := by rfl)
    (hs : starEach [a, b] X.env = [(false, eval a X.env), (false, eval b X.env)] := by rfl) (hs2 : starEach [b] X.env = [(false, eval b X.env)] := by rfl) : jW X tg (.Call (.Name "range" p2) [a, b] [] pos) σ H R :=
  jI (pi_range2 hg (by rw [cm.h]; exact g.h) PAw hs hs2) h
theorem j_rng3 [cm : CxM X mg] [g : Gn mg "range" none] (h : aW X [a, b, c] σ H fun vs H1 => ∃ (i j c : Int) (n : Nat), vs = [.int i, .int j, .int c] ∧ RgC i j c n ∧ R (Itc i c n) H1) (hg : Gl X "range" := by rfl)
    (hs : starEach [a, b, c] X.env = (false, eval a X.env) :: starEach [b, c] X.env := by rfl) (hpl : (backTo pos (starEach [b, c] X.env)).any (·.1) = false := by rfl) : jW X tg (.Call (.Name "range" p2) [a, b, c] [] pos) σ H R :=
  jI (pi_range3 hg (by rw [cm.h]; exact g.h) PAw hs hpl) h
theorem j_rev [cm : CxM X mg] [g : Gn mg "reversed" none] (h : aW X [a] σ H fun vs H1 => ∃ (a : Addr) (xs : List V), vs = [.ref a] ∧ SqL X.K H1 a xs ∧ R (Itv X.K a xs.length) H1) (hg : Gl X "reversed" := by rfl) (hs : starEach [a] X.env = [(false, eval a X.env)] := by rfl) : jW X tg (.Call (.Name "reversed" p2) [a] [] pos) σ H R :=
  jI (pi_reversed hg (by rw [cm.h]; exact g.h) PAw hs) h
theorem j_revT [cm : CxM X mg] [g : Gn mg "reversed" none] (h : eW X a σ H fun v H1 => ∃ (p : Addr) (xs : List V), v = .ref p ∧ SqT X.K H1 p xs ∧ R (RT.ItvT X.K p xs.length) H1) (hg : Gl X "reversed" := by rfl) (hs : starEach [a] X.env = (false, eval a X.env) :: starEach [] X.env := by rfl) : jW X tg (.Call (.Name "reversed" p2) [a] [] pos) σ H R :=
  jI (RT.pi_revA hg (by rw [cm.h]; exact g.h) PEw hs) (eMono h fun v H1 ⟨p, xs, e, q, r⟩ => ⟨p, xs, e, .inr ⟨q, r⟩⟩)
theorem walk_revT {K : PySem.W.Frag} {p : Addr} {xs : List V} : Walk (RT.ItvT K p xs.length) xs.length (fun H => SqT K H p xs) (fun i H x H' => H' = H ∧ xs[xs.length - 1 - i]? = some x) :=
  ⟨fun i _ hi q => ⟨hi, xs, xs[xs.length - 1 - i]'(by omega), q, by simp [show xs.length - 1 - i < xs.length by omega]⟩, fun _ _ => Nat.le_refl _, fun _ _ _ _ _ q y => ⟨y.1, y.2 xs q⟩⟩
theorem j_enum {elts : List Expr} {kk : Nat} [cm : CxM X mg] [g : Gn mg "enumerate" none] (h : aW X [a] σ H fun vs H1 => ∃ a xs, vs = [.ref a] ∧ SqL X.K H1 a xs ∧ R (Ite X.K a) H1) (hg : Gl X "enumerate" := by rfl) (hs : starEach [a] X.env = [(false, eval a X.env)] := by rfl) : jW X (.Tuple elts kk p3) (.Call (.Name "enumerate" p2) [a] [] pos) σ H R :=
  jI (pi_enum hg (by rw [cm.h]; exact g.h) PAw hs) h
theorem j_items {elts : List Expr} {kk : Nat} (h : eW X e σ H fun x H1 => ∃ d o kvs, x = .ref d ∧ H1 d = some (.frz o (.dK kvs)) ∧ R (Iti d o kvs) H1) (hbase : attributeBase e "items" X.env (eval e X.env) = eval e X.env := by rfl) (hline : (apos.endLine == pos.line) = true := by rfl) :
    jW X (.Tuple elts kk p3) (.Call (.Attribute e "items" apos) [] [] pos) σ H R := jI (pi_items PEw hbase hline) h
/-- for over any walk -/
theorem s_for [ow : CxO X] [cc : CxC X] (h : jW X tg it σ H fun J H1 => ∃ n G Y, Walk J n G Y ∧ ∃ Pv : Nat → L2.St → Hp → Prop, Pv 0 σ H1 ∧ (∀ i σ' H', i ≤ n → Pv i σ' H' → G H') ∧
      (∀ i x σ' H' H2, i < n → Pv i σ' H' → Y i H' x H2 → gW X tg x σ' H2 fun σ3 H3 => bW X body (Dlp D (Pv (i + 1))) σ3 H3) ∧ ∀ σ' H', Pv n σ' H' → D.nx σ' H')
    (hs : ∀ x, foldedSetIterable it X.env x = pure x := by intro _; rfl) : sW X (.For tg it body [] pos) D σ H :=
  sI (ps_for ow.h cc.h PJw PGw PBw hs) ⟨fun pins s I => wpAny_mono (h.run pins s I) (fun v s1 q => wpAny_mono q (fun u s2 ⟨i, fp, tn, J, H2, e, I2, T, t0, f2, n, G, Y, w, Pv, q0, q1, q2, q3⟩ => ⟨i, fp, tn, J, H2, e, I2, T, t0, f2, for_it w Pv q0 q1 q2 q3⟩) fun _ _ z => z) fun _ _ z => z⟩
/-- the parts of a comprehension, in every context of its block -/
def eB (X : Cx) (sc : Scope) (e : Expr) : TE := fun σ H Q => ∀ (s : Shared) (H0 : Hp) (C : Addr) (cl : List (Str × Addr)) (fp : List Addr), eW (X.blk s H0 sc (compEnvC sc cl C X.env) fp) e σ H Q
def tB' (X : Cx) (sc : Scope) (e : Expr) : TT := fun σ H Q => ∀ (s : Shared) (H0 : Hp) (C : Addr) (cl : List (Str × Addr)) (fp : List Addr), tW (X.blk s H0 sc (compEnvC sc cl C X.env) fp) e σ H Q
def gB (X : Cx) (sc : Scope) (e : Expr) : TG := fun v σ H Q => ∀ (s : Shared) (H0 : Hp) (C : Addr) (cl : List (Str × Addr)) (fp : List Addr), gW (X.blk s H0 sc (compEnvC sc cl C X.env) fp) e v σ H Q
theorem e_lc {sc : Scope} {N : List Str} {own : List (Str × Nat)} [cc : CxC X] [cn : CxN X N] [nd : NdN N] (ok : BlkOk N X.env.scope sc own)
    (h : jW X tg it σ H fun J H1 => ∃ n G Y, Walk J n G Y ∧ ∀ D, H1 D = none → ∃ Pv : Nat → Hp → Prop, Pv 0 (upd H1 D (.lst [])) ∧ (∀ i H', i ≤ n → Pv i H' → G H') ∧
      (∀ i x H' H2, i < n → Pv i H' → Y i H' x H2 → gB X sc tg x (wipe σ (own.map (·.2))) H2 fun σ3 H3 => wipe σ3 (own.map (·.2)) = wipe σ (own.map (·.2)) ∧ eB X sc elt σ3 H3 fun y H4 => ∃ acc, H4 D = some (.lst acc) ∧ acc.length < sizeLine ∧ Pv (i + 1) (upd H4 D (.lst (acc ++ [y])))) ∧
      ∀ H', Pv n H' → Q (.ref D) H') (hs : ∀ x, foldedSetIterable it X.env x = pure x := by intro _; rfl) : eW X (.ListComp elt [⟨tg, it, [], 0⟩] sc pos) σ H Q :=
  eI (pe_lc (g := gB X sc tg) (tt := tYes) (te := eB X sc elt) cc.h (by rw [cn.h]; exact nd.h) PJw (by rw [cn.h]; exact ok) (fun s H0 C cl fp => ⟨fun pins s' _ _ v u _ I r h => (h s H0 C cl fp).run pins s' u I r⟩) (fun _ _ _ _ _ => pts_nil) (fun s H0 C cl fp => ⟨fun pins s' _ _ _ I h => (h s H0 C cl fp).run pins s' I⟩) hs)
    ⟨fun pins s I => wpAny_mono (h.run pins s I) (fun v s1 q => wpAny_mono q (fun u s2 ⟨i, fp, tn, J, H2, e, I2, T, t0, f2, n, G, Y, w, k⟩ => ⟨i, fp, tn, J, H2, e, I2, T, t0, f2, fun D hD => by
      obtain ⟨Pv, q0, q1, q2, q3⟩ := k D hD
      exact lc_it w Pv q0 q1 (fun i x H' H2' hi p y s0 H0 C cl fp => ⟨fun pins s' u I r => wpAny_mono ((q2 i x H' H2' hi p y s0 H0 C cl fp).run pins s' u I r) (fun _ s'' ⟨σ', H'', I'', e1, e2⟩ => ⟨σ', H'', I'', e1, e2⟩) fun _ _ z => z⟩) q3⟩) fun _ _ z => z) fun _ _ z => z⟩
/-- .. with one if -/
theorem e_lcI {sc : Scope} {N : List Str} {own : List (Str × Nat)} [cc : CxC X] [cn : CxN X N] [nd : NdN N] (ok : BlkOk N X.env.scope sc own)
    (h : jW X tg it σ H fun J H1 => ∃ n G Y, Walk J n G Y ∧ ∀ D, H1 D = none → ∃ Pv : Nat → Hp → Prop, Pv 0 (upd H1 D (.lst [])) ∧ (∀ i H', i ≤ n → Pv i H' → G H') ∧
      (∀ i x H' H2, i < n → Pv i H' → Y i H' x H2 → gB X sc tg x (wipe σ (own.map (·.2))) H2 fun σ3 H3 => wipe σ3 (own.map (·.2)) = wipe σ (own.map (·.2)) ∧ tB' X sc c σ3 H3 fun k H4 => if k = true then eB X sc elt σ3 H4 fun y H5 => ∃ acc, H5 D = some (.lst acc) ∧ acc.length < sizeLine ∧ Pv (i + 1) (upd H5 D (.lst (acc ++ [y]))) else Pv (i + 1) H4) ∧
      ∀ H', Pv n H' → Q (.ref D) H') (hs : ∀ x, foldedSetIterable it X.env x = pure x := by intro _; rfl) : eW X (.ListComp elt [⟨tg, it, [c], 0⟩] sc pos) σ H Q :=
  eI (pe_lc (g := gB X sc tg) (tt := tB' X sc c) (te := eB X sc elt) cc.h (by rw [cn.h]; exact nd.h) PJw (by rw [cn.h]; exact ok) (fun s H0 C cl fp => ⟨fun pins s' _ _ v u _ I r h => (h s H0 C cl fp).run pins s' u I r⟩) (fun s H0 C cl fp => pts_one ⟨fun pins s' _ _ _ I h => (h s H0 C cl fp).run pins s' I⟩) (fun s H0 C cl fp => ⟨fun pins s' _ _ _ I h => (h s H0 C cl fp).run pins s' I⟩) hs)
    ⟨fun pins s I => wpAny_mono (h.run pins s I) (fun v s1 q => wpAny_mono q (fun u s2 ⟨i, fp, tn, J, H2, e, I2, T, t0, f2, n, G, Y, w, k⟩ => ⟨i, fp, tn, J, H2, e, I2, T, t0, f2, fun D hD => by
      obtain ⟨Pv, q0, q1, q2, q3⟩ := k D hD
      exact lc_it w Pv q0 q1 q2 q3⟩) fun _ _ z => z) fun _ _ z => z⟩
/-- name = [..] whose place is stored from within -/
theorem s_setLc {sc : Scope} {N : List Str} {own : List (Str × Nat)} {y : Str} {i : Nat} [cc : CxC X] [cn : CxN X N] [sl : Slt N y i] [nd : NdN N] (ok : BlkOk N X.env.scope sc own)
    (h : jW X tg it σ H fun J H1 => ∃ n G Y, Walk J n G Y ∧ ∀ D', H1 D' = none → ∃ Pv : Nat → Hp → Prop, Pv 0 (upd H1 D' (.lst [])) ∧ (∀ i H', i ≤ n → Pv i H' → G H') ∧
      (∀ i x H' H2, i < n → Pv i H' → Y i H' x H2 → gB X sc tg x (wipe σ (own.map (·.2))) H2 fun σ3 H3 => wipe σ3 (own.map (·.2)) = wipe σ (own.map (·.2)) ∧ eB X sc elt σ3 H3 fun y H4 => ∃ acc, H4 D' = some (.lst acc) ∧ acc.length < sizeLine ∧ Pv (i + 1) (upd H4 D' (.lst (acc ++ [y])))) ∧
      ∀ H', Pv n H' → D.nx (σ.set i (some (.ref D'))) H') (hyl : X.env.scope.names.lookup y = some .local := by rfl)
    (hsw : swapsWith (.ListComp elt [⟨tg, it, [], 0⟩] sc pos) (some (.Name y p2)) p3.line X.env = pure true := by exact sw_true rfl rfl rfl (by decide +kernel)) (hs : ∀ x, foldedSetIterable it X.env x = pure x := by intro _; rfl) : sW X (.Assign [.Name y p2] (.ListComp elt [⟨tg, it, [], 0⟩] sc pos) p3) D σ H :=
  sI (ps_setLc (i := i) (g := gB X sc tg) (tt := tYes) (te := eB X sc elt) cc.h (by rw [cn.h]; exact nd.h) (by rw [cn.h]; exact sl.h) hyl hsw PJw (by rw [cn.h]; exact ok) (fun s H0 C cl fp => ⟨fun pins s' _ _ v u _ I r h => (h s H0 C cl fp).run pins s' u I r⟩) (fun _ _ _ _ _ => pts_nil) (fun s H0 C cl fp => ⟨fun pins s' _ _ _ I h => (h s H0 C cl fp).run pins s' I⟩) hs)
    ⟨fun pins s I => wpAny_mono (h.run pins s I) (fun v s1 q => wpAny_mono q (fun u s2 ⟨j, fp, tn, J, H2, e, I2, T, t0, f2, n, G, Y, w, k⟩ => ⟨j, fp, tn, J, H2, e, I2, T, t0, f2, fun D' hD => by
      obtain ⟨Pv, q0, q1, q2, q3⟩ := k D' hD
      exact lc_it w Pv q0 q1 (fun i x H' H2' hi p y s0 H0 C cl fp => ⟨fun pins s' u I r => wpAny_mono ((q2 i x H' H2' hi p y s0 H0 C cl fp).run pins s' u I r) (fun _ s'' ⟨σ', H'', I'', e1, e2⟩ => ⟨σ', H'', I'', e1, e2⟩) fun _ _ z => z⟩) q3⟩) fun _ _ z => z) fun _ _ z => z⟩
/-- name = [.. if ..] whose place is stored from within -/
theorem s_setLcI {sc : Scope} {N : List Str} {own : List (Str × Nat)} {y : Str} {i : Nat} [cc : CxC X] [cn : CxN X N] [sl : Slt N y i] [nd : NdN N] (ok : BlkOk N X.env.scope sc own)
    (h : jW X tg it σ H fun J H1 => ∃ n G Y, Walk J n G Y ∧ ∀ D', H1 D' = none → ∃ Pv : Nat → Hp → Prop, Pv 0 (upd H1 D' (.lst [])) ∧ (∀ i H', i ≤ n → Pv i H' → G H') ∧
      (∀ i x H' H2, i < n → Pv i H' → Y i H' x H2 → gB X sc tg x (wipe σ (own.map (·.2))) H2 fun σ3 H3 => wipe σ3 (own.map (·.2)) = wipe σ (own.map (·.2)) ∧ tB' X sc c σ3 H3 fun k H4 => if k = true then eB X sc elt σ3 H4 fun y H5 => ∃ acc, H5 D' = some (.lst acc) ∧ acc.length < sizeLine ∧ Pv (i + 1) (upd H5 D' (.lst (acc ++ [y]))) else Pv (i + 1) H4) ∧
      ∀ H', Pv n H' → D.nx (σ.set i (some (.ref D'))) H') (hyl : X.env.scope.names.lookup y = some .local := by rfl)
    (hsw : swapsWith (.ListComp elt [⟨tg, it, [c], 0⟩] sc pos) (some (.Name y p2)) p3.line X.env = pure true := by exact sw_true rfl rfl rfl (by decide +kernel)) (hs : ∀ x, foldedSetIterable it X.env x = pure x := by intro _; rfl) : sW X (.Assign [.Name y p2] (.ListComp elt [⟨tg, it, [c], 0⟩] sc pos) p3) D σ H :=
  sI (ps_setLc (i := i) (g := gB X sc tg) (tt := tB' X sc c) (te := eB X sc elt) cc.h (by rw [cn.h]; exact nd.h) (by rw [cn.h]; exact sl.h) hyl hsw PJw (by rw [cn.h]; exact ok) (fun s H0 C cl fp => ⟨fun pins s' _ _ v u _ I r h => (h s H0 C cl fp).run pins s' u I r⟩) (fun s H0 C cl fp => pts_one ⟨fun pins s' _ _ _ I h => (h s H0 C cl fp).run pins s' I⟩) (fun s H0 C cl fp => ⟨fun pins s' _ _ _ I h => (h s H0 C cl fp).run pins s' I⟩) hs)
    ⟨fun pins s I => wpAny_mono (h.run pins s I) (fun v s1 q => wpAny_mono q (fun u s2 ⟨j, fp, tn, J, H2, e, I2, T, t0, f2, n, G, Y, w, k⟩ => ⟨j, fp, tn, J, H2, e, I2, T, t0, f2, fun D' hD => by
      obtain ⟨Pv, q0, q1, q2, q3⟩ := k D' hD
      exact lc_it w Pv q0 q1 q2 q3⟩) fun _ _ z => z) fun _ _ z => z⟩
/-! ### slices -/
structure pW (X : Cx) (e : Option Expr) (σ : L2.St) (H : Hp) (Q : Option Int → Hp → Prop) : Prop where
  run : ∀ pins s, Inv X pins σ H s → wpAny (model X.prog X.w) X.A (evalPart e X.env) (fun u s' => ∃ o H', Inv X pins σ H' s' ∧ IsPart u o ∧ Q o H') X.xe s
theorem p_none {R : Option Int → Hp → Prop} (h : R none H) : pW X none σ H R := ⟨fun pins s I => by
  have z := (po_none (X := X)).run pins s σ H R I h
  exact wpAny_mono z (fun u s' ⟨o, H', a, b, c⟩ => ⟨o, H', a, b, c⟩) fun _ _ z => z⟩
theorem p_some {R : Option Int → Hp → Prop} (h : eW X e σ H fun v H1 => ∃ i, v = .int i ∧ R (some i) H1) : pW X (some e) σ H R := ⟨fun pins s I => by
  have z := (po_some (X := X) (PEw (e := e))).run pins s σ H R I h
  exact wpAny_mono z (fun u s' ⟨o, H', a, b, c⟩ => ⟨o, H', a, b, c⟩) fun _ _ z => z⟩
theorem POw {e : Option Expr} : PO X e (pW X e) := ⟨fun pins s _ _ _ I h => h.run pins s I⟩
theorem e_slice {lo hi : Option Expr} (h : eW X e σ H fun x H1 => pW X lo σ H1 fun l H2 => pW X hi σ H2 fun u H3 => nW X x l u H3 Q) : eW X (.Subscript e (.Slice lo hi none p2) pos) σ H Q := eI (pe_slice NRw PEw POw POw) h
theorem n_str {z : Str} {lo hi : Option Int} (hz : z.length ≤ sizeLine) (q : Q (.str (cutS z lo hi)) H) : nW X (.str z) lo hi H Q := nI sl_str ⟨z, rfl, hz, q⟩
theorem n_lst {p : Addr} {xs : List V} {lo hi : Option Int} (h : SqL X.K H p xs) (q : ∀ l H2, Same H H2 → H l = none → H2 l = some (.lst (cutV xs lo hi)) → (∀ b, b ≠ l → H2 b = H b) → Q (.ref l) H2) : nW X (.ref p) lo hi H Q :=
  nI sl_list ⟨p, xs, rfl, h, fun l hl => q l _ (fun x o e => by rw [upd_ne (ne_of_none e hl)]; exact e) hl upd_same fun x hx => upd_ne hx⟩
/-! ### methods of built-in types -/
theorem e_bm {T id : String} {name : Str} (pa : PlainAttrs T) (slot : Slot T name id) (hty : typeOf (.builtin id) = pure (.type "method_descriptor")) (h : eW X o σ H fun x H1 => tyV X.K T x H1 ∧ aW X (e :: es) σ H1 fun xs H2 => mW X id x xs H2 Q)
    (hbase : attributeBase o name X.env (eval o X.env) = eval o X.env := by rfl)
    (hfew : ((backTo pos (starEach (e :: es) X.env)).all (fun x => !x.1) && (backToKw pos (keywordEach [] X.env)).all (fun x => x.1.isSome) && decide ((e :: es).length + ([] : List Keyword).length + (if ([] : List Keyword).isEmpty then 0 else 1) < 30)) = true := by rfl)
    (hline : (apos.endLine == pos.line) = true := by rfl) (hs : starEach (e :: es) X.env = (false, eval e X.env) :: starEach es X.env := by rfl) (hplain : (backTo pos (starEach es X.env)).any (·.1) = false := by rfl) : eW X (.Call (.Attribute o name apos) (e :: es) [] pos) σ H Q :=
  eI (pe_bm pa slot hty MRw PEw PAw hbase hfew hline hs hplain) h
theorem e_bm0 {T id : String} {name : Str} (pa : PlainAttrs T) (slot : Slot T name id) (hty : typeOf (.builtin id) = pure (.type "method_descriptor")) (h : eW X o σ H fun x H1 => tyV X.K T x H1 ∧ mW X id x [] H1 Q)
    (hbase : attributeBase o name X.env (eval o X.env) = eval o X.env := by rfl) (hline : (apos.endLine == pos.line) = true := by rfl) : eW X (.Call (.Attribute o name apos) [] [] pos) σ H Q := eI (pe_bm0 pa slot hty MRw PEw hbase hline) h
theorem m_append {l : Addr} {xs : List V} {y : V} (h : H l = some (.lst xs)) (hz : xs.length < 16000000) (q : ∀ H2, H2 l = some (.lst (xs ++ [y])) → (∀ b, b ≠ l → H2 b = H b) → Q .non H2) : mW X "list.append" (.ref l) [y] H Q :=
  mI mt_append ⟨l, xs, y, rfl, rfl, h, Nat.lt_of_lt_of_le hz (by decide), q _ upd_same fun b hb => upd_ne hb⟩
theorem m_extend {l b : Addr} {xs zs : List V} (h : H l = some (.lst xs)) (h2 : H b = some (.lst zs)) (hz : xs.length + zs.length ≤ 100000) (q : ∀ H2, H2 l = some (.lst (xs ++ zs)) → (∀ b, b ≠ l → H2 b = H b) → Q .non H2) : mW X "list.extend" (.ref l) [.ref b] H Q :=
  mI mt_extend ⟨l, b, xs, zs, rfl, rfl, h, h2, Nat.le_trans hz (by decide), q _ upd_same fun b hb => upd_ne hb⟩
theorem m_pop {l : Addr} {xs : List V} {y : V} (h : H l = some (.lst (xs ++ [y]))) (q : ∀ H2, H2 l = some (.lst xs) → (∀ b, b ≠ l → H2 b = H b) → Q y H2) : mW X "list.pop" (.ref l) [] H Q :=
  mI mt_pop ⟨l, _, y, rfl, rfl, h, by simp, q _ (by rw [List.dropLast_concat]; exact upd_same) fun b hb => upd_ne hb⟩
theorem m_reverse {l : Addr} {xs : List V} (h : H l = some (.lst xs)) (q : ∀ H2, H2 l = some (.lst xs.reverse) → (∀ b, b ≠ l → H2 b = H b) → Q .non H2) : mW X "list.reverse" (.ref l) [] H Q :=
  mI mt_reverse ⟨l, _, rfl, rfl, h, q _ upd_same fun b hb => upd_ne hb⟩
theorem e_append (h : eW X o σ H fun x H1 => tyV X.K "list" x H1 ∧ aW X [e] σ H1 fun xs H2 => mW X "list.append" x xs H2 Q) (hbase : attributeBase o "append" X.env (eval o X.env) = eval o X.env := by rfl)
    (hfew : ((backTo pos (starEach [e] X.env)).all (fun x => !x.1) && (backToKw pos (keywordEach [] X.env)).all (fun x => x.1.isSome) && decide ([e].length + ([] : List Keyword).length + (if ([] : List Keyword).isEmpty then 0 else 1) < 30)) = true := by rfl)
    (hline : (apos.endLine == pos.line) = true := by rfl) (hs : starEach [e] X.env = (false, eval e X.env) :: starEach [] X.env := by rfl) : eW X (.Call (.Attribute o "append" apos) [e] [] pos) σ H Q :=
  e_bm PySem.F.plainAttrs_list PySem.F.slot_list_append PySem.F.type_list_append h hbase hfew hline hs rfl
theorem e_extend (h : eW X o σ H fun x H1 => tyV X.K "list" x H1 ∧ aW X [e] σ H1 fun xs H2 => mW X "list.extend" x xs H2 Q) (hbase : attributeBase o "extend" X.env (eval o X.env) = eval o X.env := by rfl)
    (hfew : ((backTo pos (starEach [e] X.env)).all (fun x => !x.1) && (backToKw pos (keywordEach [] X.env)).all (fun x => x.1.isSome) && decide ([e].length + ([] : List Keyword).length + (if ([] : List Keyword).isEmpty then 0 else 1) < 30)) = true := by rfl)
    (hline : (apos.endLine == pos.line) = true := by rfl) (hs : starEach [e] X.env = (false, eval e X.env) :: starEach [] X.env := by rfl) : eW X (.Call (.Attribute o "extend" apos) [e] [] pos) σ H Q :=
  e_bm PySem.F.plainAttrs_list PySem.F.slot_list_extend PySem.F.type_list_extend h hbase hfew hline hs rfl
theorem e_pop (h : eW X o σ H fun x H1 => tyV X.K "list" x H1 ∧ mW X "list.pop" x [] H1 Q) (hbase : attributeBase o "pop" X.env (eval o X.env) = eval o X.env := by rfl) (hline : (apos.endLine == pos.line) = true := by rfl) : eW X (.Call (.Attribute o "pop" apos) [] [] pos) σ H Q :=
  e_bm0 PySem.F.plainAttrs_list PySem.F.slot_list_pop PySem.F.type_list_pop h hbase hline
theorem e_reverse (h : eW X o σ H fun x H1 => tyV X.K "list" x H1 ∧ mW X "list.reverse" x [] H1 Q) (hbase : attributeBase o "reverse" X.env (eval o X.env) = eval o X.env := by rfl) (hline : (apos.endLine == pos.line) = true := by rfl) : eW X (.Call (.Attribute o "reverse" apos) [] [] pos) σ H Q :=
  e_bm0 PySem.F.plainAttrs_list PySem.F.slot_list_reverse PySem.F.type_list_reverse h hbase hline
theorem ty_l {K : PySem.W.Frag} {p : Addr} {xs : List V} (h : H p = some (.lst xs)) : tyV K "list" (.ref p) H := .inl ⟨rfl, _, SqL.of h⟩
theorem e_join (h : eW X o σ H fun x H1 => (∃ a, x = .str a) ∧ eW X e σ H1 fun y H2 => mW X "str.join" x [y] H2 Q) (hs : starEach [e] X.env = [(false, eval e X.env)] := by rfl) (hbase : attributeBase o "join" X.env (eval o X.env) = eval o X.env := by rfl) (hline : (apos.endLine == pos.line) = true := by rfl) : eW X (.Call (.Attribute o "join" apos) [e] [] pos) σ H Q :=
  eI (pe_m1 PySem.F.slot_str_join PySem.F.type_str_join MRw PEw PEw hs hbase hline) h
theorem e_split (h : eW X o σ H fun x H1 => (∃ a, x = .str a) ∧ eW X e σ H1 fun y H2 => mW X "str.split" x [y] H2 Q) (hs : starEach [e] X.env = [(false, eval e X.env)] := by rfl) (hbase : attributeBase o "split" X.env (eval o X.env) = eval o X.env := by rfl) (hline : (apos.endLine == pos.line) = true := by rfl) : eW X (.Call (.Attribute o "split" apos) [e] [] pos) σ H Q :=
  eI (pe_m1 PySem.F.slot_str_split PySem.F.type_str_split MRw PEw PEw hs hbase hline) h
end
section
variable {X : Cx} {H : Hp} {Q : VK} {i j : Int} {z u : Str} {p : Addr} {xs : List V}
theorem o_leS (q : Q (.bl (!decide (tl u < tl z))) H) : oW X (compareOp .LtE) (.str z) (.str u) H Q := oI op_le_str ⟨_, _, rfl, rfl, q⟩
theorem o_ltS (q : Q (.bl (decide (tl z < tl u))) H) : oW X (compareOp .Lt) (.str z) (.str u) H Q := oI op_lt_str ⟨_, _, rfl, rfl, q⟩
theorem o_inC {c : Nat} (q : Q (.bl (decide (c ∈ tl z))) H) : oW X (compareOp .In) (.str ⟨#[c]⟩) (.str z) H Q := oI op_in_sign ⟨_, _, rfl, rfl, q⟩
theorem o_niC {c : Nat} (q : Q (.bl (!decide (c ∈ tl z))) H) : oW X (compareOp .NotIn) (.str ⟨#[c]⟩) (.str z) H Q := oI op_notIn_sign ⟨_, _, rfl, rfl, q⟩
theorem k_ordC {c : Nat} (q : Q (.int (c : Int)) H) : kW X (.builtin "ord") [.str ⟨#[c]⟩] H Q := kI call_ord ⟨_, rfl, rfl, q⟩
theorem k_strI (h : i.natAbs.log2 < 1920) (q : Q (.str (Str.ofString (toString i))) H) : kW X (.type "str") [.int i] H Q := kI call_str_int ⟨_, rfl, h, q⟩
theorem k_intS (h : PySem.intText? z = some i) (hz : z.length ≤ 640) (q : Q (.int i) H) : kW X (.type "int") [.str z] H Q := kI call_int_str ⟨_, _, rfl, h, hz, q⟩
theorem k_sum {ns : List Int} [cc : CxC X] (h : SqL X.K H p (ns.map V.int)) (q : Q (.int ns.sum) H) : kW X (.builtin "sum") [.ref p] H Q := kI (cr_sum cc.h) ⟨_, _, rfl, h, q⟩
theorem k_all {bs : List Bool} [cc : CxC X] (h : SqL X.K H p (bs.map V.bl)) (q : Q (.bl (bs.all id)) H) : kW X (.builtin "all") [.ref p] H Q := kI (cr_all cc.h) ⟨_, _, rfl, h, q⟩
theorem k_dictD {kvs : List (Key × V)} (h : Rd H p (.dK kvs)) (q : ∀ l H2, Same H H2 → H l = none → H2 l = some (.dK kvs) → (∀ b, b ≠ l → H2 b = H b) → Q (.ref l) H2) : kW X (.type "dict") [.ref p] H Q :=
  kI call_dictD ⟨_, _, rfl, h, fun l hl => q l _ (fun x o e => by rw [upd_ne (ne_of_none e hl)]; exact e) hl upd_same fun x hx => upd_ne hx⟩
theorem k_listL (h : SqL X.K H p xs ∨ SqT X.K H p xs) (q : ∀ l H2, Same H H2 → H l = none → H2 l = some (.lst xs) → (∀ b, b ≠ l → H2 b = H b) → Q (.ref l) H2) : kW X (.type "list") [.ref p] H Q :=
  kI call_list_of ⟨_, _, rfl, h, fun l hl => q l _ (fun x o e => by rw [upd_ne (ne_of_none e hl)]; exact e) hl upd_same fun x hx => upd_ne hx⟩
theorem k_tupL (h : SqL X.K H p xs) (q : ∀ l H2, Same H H2 → H l = none → H2 l = some (.tup xs) → (∀ b, b ≠ l → H2 b = H b) → Q (.ref l) H2) : kW X (.type "tuple") [.ref p] H Q :=
  kI call_tuple_of ⟨_, _, rfl, .inl ⟨h, fun l hl => q l _ (fun x o e => by rw [upd_ne (ne_of_none e hl)]; exact e) hl upd_same fun x hx => upd_ne hx⟩⟩
theorem o_catL {q2 : Addr} {zs : List V} (h1 : H p = some (.lst xs)) (h2 : H q2 = some (.lst zs)) (hz : xs.length + zs.length ≤ 100000) (q : ∀ l H2, Same H H2 → H l = none → H2 l = some (.lst (xs ++ zs)) → (∀ b, b ≠ l → H2 b = H b) → Q (.ref l) H2) : oW X (binaryOp .Add) (.ref p) (.ref q2) H Q :=
  oI op_cat ⟨_, _, _, _, rfl, rfl, h1, h2, Nat.le_trans hz (by decide), fun l hl => q l _ (fun x o e => by rw [upd_ne (ne_of_none e hl)]; exact e) hl upd_same fun x hx => upd_ne hx⟩
theorem m_join {ys : List Str} {a : Str} (h : SqL X.K H p (ys.map V.str) ∨ SqT X.K H p (ys.map V.str)) (hz : (ys.map Str.length).sum + ys.length * a.length ≤ 16777216) (q : Q (.str (Txt.join a ys)) H) : mW X "str.join" (.str a) [.ref p] H Q := by
  exact mI mt_join ⟨_, _, _, rfl, rfl, h, hz, q⟩
theorem m_split {a b : Str} (hb : (b.length == 0) = false) (ha : a.length ≤ 1000000) (q : ∀ l H2, Same H H2 → H l = none → H2 l = some (.lst ((Txt.split a b).map V.str)) → (∀ b, b ≠ l → H2 b = H b) → Q (.ref l) H2) : mW X "str.split" (.str a) [.str b] H Q :=
  mI mt_split ⟨_, _, rfl, rfl, hb, by rw [sizeLine_eq]; omega, fun l hl => q l _ (fun x o e => by rw [upd_ne (ne_of_none e hl)]; exact e) hl upd_same fun x hx => upd_ne hx⟩
end
/-! ### things of any kind -/
mutual
inductive Th (K : PySem.W.Frag) (H : Hp) : V → PyData → Prop
  | non : Th K H .non .none
  | bl (b : Bool) : Th K H (.bl b) (.bool b)
  | int (i : Int) : Th K H (.int i) (.int i)
  | str (x : Str) (h : x.length ≤ 1000000) : Th K H (.str x) (.str x)
  | lst {a : Addr} {xs : List V} {ds : List PyData} : SqL K H a xs → ThAll K H xs ds → Th K H (.ref a) (.list ds)
  | tup {a : Addr} {xs : List V} {ds : List PyData} : SqT K H a xs → ThAll K H xs ds → Th K H (.ref a) (.tuple ds)
  | dct {a : Addr} {kvs : List (Key × V)} : H a = some (.dK kvs) → Th K H (.ref a) (.dict [])
inductive ThAll (K : PySem.W.Frag) (H : Hp) : List V → List PyData → Prop
  | nil : ThAll K H [] []
  | cons {v : V} {vs : List V} {d : PyData} {ds : List PyData} : Th K H v d → ThAll K H vs ds → ThAll K H (v :: vs) (d :: ds)
end
def tyName : PyData → String
  | .none => "NoneType"
  | .bool _ => "bool"
  | .int _ => "int"
  | .str _ => "str"
  | .list _ => "list"
  | .tuple _ => "tuple"
  | .dict _ => "dict"
theorem Th.ty {K : PySem.W.Frag} {H : Hp} {v : V} {d : PyData} (h : Th K H v d) : TyX K H v (.type (tyName d)) := by
  cases h with
  | non => exact .base .non
  | bl b => exact .base (.bl b)
  | int i => exact .base (.int i)
  | str x _ => exact .base (.str x)
  | lst hs _ =>
    rcases hs with (h | ⟨o, h⟩) | ⟨o, its, n, h, hc, _⟩
    · exact .base (.lst h)
    · exact .base (.frz h)
    · exact .kList h hc
  | tup hs _ =>
    rcases hs with (h | ⟨o, h⟩) | ⟨o, its, n, h, hc, _⟩
    · exact .base (.tup h)
    · exact .fTuple h
    · exact .kTuple h hc
  | dct h => exact .base (.dK h)
/-- whether data is of the built-in type -/
def isK (d : PyData) (n : String) : Bool := match d with
  | .none => false
  | .bool _ => n == "bool" || n == "int"
  | .int _ => n == "int"
  | .str _ => n == "str"
  | .list _ => n == "list"
  | .tuple _ => n == "tuple"
  | .dict _ => n == "dict"
theorem kitTh (d : PyData) : kitB (tyName d) "str" = some (isK d "str") ∧ kitB (tyName d) "int" = some (isK d "int") ∧ kitB (tyName d) "bool" = some (isK d "bool") ∧ kitB (tyName d) "list" = some (isK d "list") ∧ kitB (tyName d) "tuple" = some (isK d "tuple") ∧ kitB (tyName d) "dict" = some (isK d "dict") := by
  cases d <;> (simp only [tyName, isK]; decide +kernel)
section
variable {X : Cx} {H : Hp} {Q : VK} {v : V} {d : PyData}
theorem k_isStr (h : Th X.K H v d) (q : Q (.bl (isK d "str")) H) : kW X (.builtin "isinstance") [v, .ty "str"] H Q := k_isB h.ty (kitTh d).1 q
theorem k_isInt (h : Th X.K H v d) (q : Q (.bl (isK d "int")) H) : kW X (.builtin "isinstance") [v, .ty "int"] H Q := k_isB h.ty (kitTh d).2.1 q
theorem k_isBool (h : Th X.K H v d) (q : Q (.bl (isK d "bool")) H) : kW X (.builtin "isinstance") [v, .ty "bool"] H Q := k_isB h.ty (kitTh d).2.2.1 q
theorem k_isList (h : Th X.K H v d) (q : Q (.bl (isK d "list")) H) : kW X (.builtin "isinstance") [v, .ty "list"] H Q := k_isB h.ty (kitTh d).2.2.2.1 q
theorem k_isTuple (h : Th X.K H v d) (q : Q (.bl (isK d "tuple")) H) : kW X (.builtin "isinstance") [v, .ty "tuple"] H Q := k_isB h.ty (kitTh d).2.2.2.2.1 q
theorem k_isDict (h : Th X.K H v d) (q : Q (.bl (isK d "dict")) H) : kW X (.builtin "isinstance") [v, .ty "dict"] H Q := k_isB h.ty (kitTh d).2.2.2.2.2 q
end
/-- what is tracked stands so in a greater heap -/
theorem sq_more {K : PySem.W.Frag} {H H' : Hp} {a : Addr} {xs : List V} (s : Same H H') (h : SqT K H a xs) : SqT K H' a xs := by
  rcases h with (h | ⟨o, h⟩) | h
  · exact .inl (.inl (s _ _ h))
  · exact .inl (.inr ⟨o, s _ _ h⟩)
  · exact .inr h
mutual
theorem Th.more {K : PySem.W.Frag} {H H' : Hp} (s : Same H H') : ∀ (d : PyData) (v : V), Th K H v d → Th K H' v d
  | .none, _, h => by cases h; exact .non
  | .bool _, _, h => by cases h; exact .bl _
  | .int _, _, h => by cases h; exact .int _
  | .str _, _, h => by cases h with | str _ h => exact .str _ h
  | .list ds, _, h => by cases h with | lst hs ha => exact .lst (s.seq hs) (ThAll.more s ds _ ha)
  | .tuple ds, _, h => by cases h with | tup hs ha => exact .tup (sq_more s hs) (ThAll.more s ds _ ha)
  | .dict _, _, h => by cases h with | dct hd => exact .dct (s _ _ hd)
theorem ThAll.more {K : PySem.W.Frag} {H H' : Hp} (s : Same H H') : ∀ (ds : List PyData) (vs : List V), ThAll K H vs ds → ThAll K H' vs ds
  | [], _, h => by cases h; exact .nil
  | d :: ds, _, h => by cases h with | cons h1 h2 => exact .cons (Th.more s d _ h1) (ThAll.more s ds _ h2)
end
theorem ThAll.len {K : PySem.W.Frag} {H : Hp} : ∀ {vs : List V} {ds : List PyData}, ThAll K H vs ds → vs.length = ds.length
  | _, _, .nil => rfl
  | _, _, .cons _ h => congrArg (· + 1) h.len
theorem ThAll.get {K : PySem.W.Frag} {H : Hp} : ∀ {vs : List V} {ds : List PyData} {i : Nat} {v : V}, ThAll K H vs ds → vs[i]? = some v → ∃ d, ds[i]? = some d ∧ Th K H v d
  | _, _, _, _, .nil, e => by simp at e
  | _, _, 0, _, .cons h _, e => by simp at e; subst e; exact ⟨_, rfl, h⟩
  | _, _, i + 1, v, .cons _ t, e => by
    obtain ⟨d, h1, h2⟩ := ThAll.get (i := i) (v := v) t (by simpa using e)
    exact ⟨d, by simpa using h1, h2⟩
theorem all_snoc {α : Type} {p : α → Bool} {l : List α} {i : Nat} {x : α} (h : l[i]? = some x) : (l.take (i + 1)).all p = ((l.take i).all p && p x) := by
  have hl := (List.getElem?_eq_some_iff.mp h).1
  have e := (List.getElem?_eq_some_iff.mp h).2
  rw [← List.take_append_getElem hl, List.all_append, e]
  simp
theorem all_cut {α : Type} {p : α → Bool} {l : List α} {i : Nat} {x : α} (h : l[i]? = some x) (hx : p x = false) : l.all p = false := by
  have hm := List.mem_of_getElem? h
  cases e : l.all p with
  | false => rfl
  | true => rw [List.all_eq_true.mp e x hm] at hx; cases hx
theorem sz1m {n : Nat} (h : n ≤ 1000000) : n ≤ sizeLine := Nat.le_trans h (by decide)
theorem lt1 (a b : Nat) : ([a] < [b]) ↔ a < b := by simp [List.cons_lt_cons_iff]
section
variable {X : Cx} {σ : L2.St} {H : Hp} {Q : VK} {D : Ends} {pos p2 p3 p4 p5 : Pos} {it tg elt c : Expr}
/-- a comprehension whose elements are told one by one and track nothing that a turn could change -/
theorem e_lcM {sc : Scope} {N : List Str} {own : List (Str × Nat)} [cc : CxC X] [cn : CxN X N] [nd : NdN N] (ok : BlkOk N X.env.scope sc own)
    (h : jW X tg it σ H fun J H1 => ∃ n G Y, Walk J n G Y ∧ ∃ ys : List V, ys.length = n ∧ ys.length ≤ 100000 ∧ (∀ H', Same H1 H' → G H') ∧
      (∀ i x H' H2, i < n → Same H1 H' → Y i H' x H2 → Same H' H2 ∧ gB X sc tg x (wipe σ (own.map (·.2))) H2 fun σ3 H3 => wipe σ3 (own.map (·.2)) = wipe σ (own.map (·.2)) ∧ Same H2 H3 ∧ eB X sc elt σ3 H3 fun y H4 => ys[i]? = some y ∧ Same H3 H4) ∧
      ∀ l H', Same H1 H' → H1 l = none → H' l = some (.lst ys) → Q (.ref l) H') (hs : ∀ x, foldedSetIterable it X.env x = pure x := by intro _; rfl) : eW X (.ListComp elt [⟨tg, it, [], 0⟩] sc pos) σ H Q := by
  refine e_lc ok ⟨fun pins s I => wpAny_mono (h.run pins s I) (fun v s1 q => wpAny_mono q (fun u s2 ⟨i, fp, tn, J, H2, e, I2, T, t0, f2, n, G, Y, w, ys, hl, hn, q1, q2, q3⟩ => ⟨i, fp, tn, J, H2, e, I2, T, t0, f2, n, G, Y, w, fun D' hD => ⟨fun i H' => Same H2 H' ∧ H' D' = some (.lst (ys.take i)), ⟨fun b o e => by rw [upd_ne (ne_of_none e hD)]; exact e, upd_same⟩, fun _ _ _ p => q1 _ p.1, fun i x H' H3 hi p y s0 H0 C cl fp => ?_, fun H' p => q3 D' H' p.1 hD (by rw [p.2, ← hl, List.take_length])⟩⟩) fun _ _ z => z) fun _ _ z => z⟩ hs
  obtain ⟨k1, k2⟩ := q2 i x H' H3 hi p.1 y
  refine ⟨fun pins s' u I r => wpAny_mono ((k2 s0 H0 C cl fp).run pins s' u I r) (fun _ s'' ⟨σ', H'', I'', e1, e2, e3⟩ => ⟨σ', H'', I'', e1, fun s0 H0 C cl fp => ⟨fun pins s' I => wpAny_mono ((e3 s0 H0 C cl fp).run pins s' I) (fun u s4 ⟨v4, H4, I4, r4, ev, e4⟩ => ⟨v4, H4, I4, r4, ys.take i, e4 _ _ (e2 _ _ (k1 _ _ p.2)), ?_, ?_, ?_⟩) fun _ _ z => z⟩⟩) fun _ _ z => z⟩
  · rw [List.length_take]
    exact Nat.lt_of_le_of_lt (Nat.min_le_left _ _) (Nat.lt_of_lt_of_le (Nat.lt_of_lt_of_le (hl ▸ hi) hn) (by decide))
  · intro b o e
    rw [upd_ne (ne_of_none e hD)]
    exact e4 _ _ (e2 _ _ (k1 _ _ (p.1 _ _ e)))
  · rw [upd_same]
    have q := (List.getElem?_eq_some_iff.mp ev).1
    rw [← List.take_append_getElem q, (List.getElem?_eq_some_iff.mp ev).2]
/-- a comprehension whose elements are told by a word of the turn and the element -/
theorem e_lcP {sc : Scope} {N : List Str} {own : List (Str × Nat)} [cc : CxC X] [cn : CxN X N] [nd : NdN N] (ok : BlkOk N X.env.scope sc own) (Pr : Nat → V → Prop)
    (h : jW X tg it σ H fun J H1 => ∃ n G Y, Walk J n G Y ∧ n ≤ 100000 ∧ (∀ H', Same H1 H' → G H') ∧
      (∀ i x H' H2, i < n → Same H1 H' → Y i H' x H2 → Same H' H2 ∧ gB X sc tg x (wipe σ (own.map (·.2))) H2 fun σ3 H3 => wipe σ3 (own.map (·.2)) = wipe σ (own.map (·.2)) ∧ Same H2 H3 ∧ eB X sc elt σ3 H3 fun y H4 => Pr i y ∧ Same H3 H4) ∧
      ∀ l H' ys, Same H1 H' → H1 l = none → H' l = some (.lst ys) → ys.length = n → (∀ i y, ys[i]? = some y → Pr i y) → Q (.ref l) H') (hs : ∀ x, foldedSetIterable it X.env x = pure x := by intro _; rfl) : eW X (.ListComp elt [⟨tg, it, [], 0⟩] sc pos) σ H Q := by
  refine e_lc ok ⟨fun pins s I => wpAny_mono (h.run pins s I) (fun v s1 q => wpAny_mono q (fun u s2 ⟨i, fp, tn, J, H2, e, I2, T, t0, f2, n, G, Y, w, hn, q1, q2, q3⟩ => ⟨i, fp, tn, J, H2, e, I2, T, t0, f2, n, G, Y, w, fun D' hD => ⟨fun i H' => Same H2 H' ∧ ∃ acc, H' D' = some (.lst acc) ∧ acc.length = i ∧ ∀ j z, acc[j]? = some z → Pr j z, ⟨fun b o e => by rw [upd_ne (ne_of_none e hD)]; exact e, [], upd_same, rfl, by simp⟩, fun _ _ _ p => q1 _ p.1, fun i x H' H3 hi p y s0 H0 C cl fp => ?_, fun H' p => by
    obtain ⟨p1, acc, p2, p3, p4⟩ := p
    exact q3 D' H' acc p1 hD p2 p3 p4⟩⟩) fun _ _ z => z) fun _ _ z => z⟩ hs
  obtain ⟨k1, k2⟩ := q2 i x H' H3 hi p.1 y
  obtain ⟨p1, acc, p2, p3, p4⟩ := p
  refine ⟨fun pins s' u I r => wpAny_mono ((k2 s0 H0 C cl fp).run pins s' u I r) (fun _ s'' ⟨σ', H'', I'', e1, e2, e3⟩ => ⟨σ', H'', I'', e1, fun s0 H0 C cl fp => ⟨fun pins s' I => wpAny_mono ((e3 s0 H0 C cl fp).run pins s' I) (fun u s4 ⟨v4, H4, I4, r4, ev, e4⟩ => ⟨v4, H4, I4, r4, acc, e4 _ _ (e2 _ _ (k1 _ _ p2)), ?_, ?_, acc ++ [v4], upd_same, ?_, ?_⟩) fun _ _ z => z⟩⟩) fun _ _ z => z⟩
  · rw [p3]
    exact Nat.lt_of_lt_of_le (Nat.lt_of_lt_of_le hi hn) (by decide)
  · intro b o e
    rw [upd_ne (ne_of_none e hD)]
    exact e4 _ _ (e2 _ _ (k1 _ _ (p1 _ _ e)))
  · rw [List.length_append, p3]; rfl
  · intro j z hz
    by_cases hj : j < i
    · rw [List.getElem?_append_left (by omega)] at hz
      exact p4 j z hz
    · rw [List.getElem?_append_right (by omega), p3] at hz
      have hj2 : j = i := by
        have := (List.getElem?_eq_some_iff.mp hz).1
        simp at this
        omega
      subst hj2
      simp at hz
      rw [← hz]
      exact ev
theorem s_setLcP {sc : Scope} {N : List Str} {own : List (Str × Nat)} {y : Str} {i : Nat} [cc : CxC X] [cn : CxN X N] [sl : Slt N y i] [nd : NdN N] (ok : BlkOk N X.env.scope sc own) (Pr : Nat → V → Prop)
    (h : jW X tg it σ H fun J H1 => ∃ n G Y, Walk J n G Y ∧ n ≤ 100000 ∧ (∀ H', Same H1 H' → G H') ∧
      (∀ i x H' H2, i < n → Same H1 H' → Y i H' x H2 → Same H' H2 ∧ gB X sc tg x (wipe σ (own.map (·.2))) H2 fun σ3 H3 => wipe σ3 (own.map (·.2)) = wipe σ (own.map (·.2)) ∧ Same H2 H3 ∧ eB X sc elt σ3 H3 fun y H4 => Pr i y ∧ Same H3 H4) ∧
      ∀ l H' ys, Same H1 H' → H1 l = none → H' l = some (.lst ys) → ys.length = n → (∀ i y, ys[i]? = some y → Pr i y) → D.nx (σ.set i (some (.ref l))) H') (hyl : X.env.scope.names.lookup y = some .local := by rfl)
    (hsw : swapsWith (.ListComp elt [⟨tg, it, [], 0⟩] sc pos) (some (.Name y p2)) p3.line X.env = pure true := by exact sw_true rfl rfl rfl (by decide +kernel)) (hs : ∀ x, foldedSetIterable it X.env x = pure x := by intro _; rfl) : sW X (.Assign [.Name y p2] (.ListComp elt [⟨tg, it, [], 0⟩] sc pos) p3) D σ H := by
  refine s_setLc ok ⟨fun pins s I => wpAny_mono (h.run pins s I) (fun v s1 q => wpAny_mono q (fun u s2 ⟨i, fp, tn, J, H2, e, I2, T, t0, f2, n, G, Y, w, hn, q1, q2, q3⟩ => ⟨i, fp, tn, J, H2, e, I2, T, t0, f2, n, G, Y, w, fun D' hD => ⟨fun i H' => Same H2 H' ∧ ∃ acc, H' D' = some (.lst acc) ∧ acc.length = i ∧ ∀ j z, acc[j]? = some z → Pr j z, ⟨fun b o e => by rw [upd_ne (ne_of_none e hD)]; exact e, [], upd_same, rfl, by simp⟩, fun _ _ _ p => q1 _ p.1, fun i x H' H3 hi p y s0 H0 C cl fp => ?_, fun H' p => by
    obtain ⟨p1, acc, p2, p3, p4⟩ := p
    exact q3 D' H' acc p1 hD p2 p3 p4⟩⟩) fun _ _ z => z) fun _ _ z => z⟩ hyl hsw hs
  obtain ⟨k1, k2⟩ := q2 i x H' H3 hi p.1 y
  obtain ⟨p1, acc, p2, p3, p4⟩ := p
  refine ⟨fun pins s' u I r => wpAny_mono ((k2 s0 H0 C cl fp).run pins s' u I r) (fun _ s'' ⟨σ', H'', I'', e1, e2, e3⟩ => ⟨σ', H'', I'', e1, fun s0 H0 C cl fp => ⟨fun pins s' I => wpAny_mono ((e3 s0 H0 C cl fp).run pins s' I) (fun u s4 ⟨v4, H4, I4, r4, ev, e4⟩ => ⟨v4, H4, I4, r4, acc, e4 _ _ (e2 _ _ (k1 _ _ p2)), ?_, ?_, acc ++ [v4], upd_same, ?_, ?_⟩) fun _ _ z => z⟩⟩) fun _ _ z => z⟩
  · rw [p3]
    exact Nat.lt_of_lt_of_le (Nat.lt_of_lt_of_le hi hn) (by decide)
  · intro b o e
    rw [upd_ne (ne_of_none e hD)]
    exact e4 _ _ (e2 _ _ (k1 _ _ (p1 _ _ e)))
  · rw [List.length_append, p3]; rfl
  · intro j z hz
    by_cases hj : j < i
    · rw [List.getElem?_append_left (by omega)] at hz
      exact p4 j z hz
    · rw [List.getElem?_append_right (by omega), p3] at hz
      have hj2 : j = i := by
        have := (List.getElem?_eq_some_iff.mp hz).1
        simp at this
        omega
      subst hj2
      simp at hz
      rw [← hz]
      exact ev
/-- raise X('..') -/
theorem s_raise {x m : Str} {C : Addr} {j : Nat} {W : WX} [cc : CxC X] [ct : CxT X W] (T : ExcF X.K X.mg x C) (h : W (.ref C) none σ H) (hg : Gl X x := by rfl) (hdb : (x == ("__debug__" : Str)) = false := by decide) : sW X (.Raise (some (.Call (.Name x p2) [.Constant (.str m) j p3] [] p4)) none pos) D σ H :=
  sI (ps_raise cc.h ct.h (pmk_own PySem.F.excBase_ValueError T.ex T.mg T.kp (raises_own T.be T.ty) hg hdb)) h
end
theorem range_map {α β : Type} (f : α → β) (d : β) : ∀ (l : List α), (List.range l.length).map (fun i => (l[i]?.map f).getD d) = l.map f
  | [] => rfl
  | a :: l => by
    rw [List.length_cons, List.range_succ_eq_map, List.map_cons, List.map_map, List.map_cons, ← range_map f d l]
    simp [Function.comp_def]
theorem sIx_nn (n d : Nat) {i : Int} (h : 0 ≤ i) : HT.sIx n d (some i) = min i.toNat n := by
  show (if i < 0 then (i + (n : Int)).toNat else min i.toNat n) = _
  rw [if_neg (by omega)]
theorem cutL_from {α : Type} (xs : List α) {n : Nat} (hn : xs.length = n) {i : Int} (h : 0 ≤ i) : (xs.drop (HT.sIx n 0 (some i))).take (HT.sIx n n none - HT.sIx n 0 (some i)) = xs.drop i.toNat := by
  rw [sIx_nn _ _ h, HT.sIx_none, ← hn]
  by_cases k : i.toNat ≤ xs.length
  · rw [Nat.min_eq_left k, List.take_of_length_le (by rw [List.length_drop]; omega)]
  · rw [Nat.min_eq_right (by omega), List.drop_length, List.drop_of_length_le (by omega)]
    simp
theorem cutL_to {α : Type} (xs : List α) {n : Nat} (hn : xs.length = n) {i : Int} (h : 0 ≤ i) : (xs.drop (HT.sIx n 0 none)).take (HT.sIx n n (some i) - HT.sIx n 0 none) = xs.take i.toNat := by
  rw [sIx_nn _ _ h, HT.sIx_none, ← hn, List.drop_zero, Nat.sub_zero]
  by_cases k : i.toNat ≤ xs.length
  · rw [Nat.min_eq_left k]
  · rw [Nat.min_eq_right (by omega), List.take_length, List.take_of_length_le (by omega)]
theorem cutL_mid {α : Type} (xs : List α) {n : Nat} (hn : xs.length = n) {i j : Int} (h : 0 ≤ i) (h2 : i ≤ j) : (xs.drop (HT.sIx n 0 (some i))).take (HT.sIx n n (some j) - HT.sIx n 0 (some i)) = (xs.drop i.toNat).take (j.toNat - i.toNat) := by
  rw [sIx_nn _ _ h, sIx_nn _ _ (by omega), ← hn]
  by_cases k : i.toNat ≤ xs.length
  · rw [Nat.min_eq_left k]
    by_cases k2 : j.toNat ≤ xs.length
    · rw [Nat.min_eq_left k2]
    · rw [Nat.min_eq_right (by omega), List.take_of_length_le (by rw [List.length_drop]; omega), List.take_of_length_le (by rw [List.length_drop]; omega)]
  · rw [Nat.min_eq_right (a := i.toNat) (by omega), List.drop_length, List.drop_of_length_le (by omega)]
    simp
theorem cutV_from (xs : List V) {i : Int} (h : 0 ≤ i) : cutV xs (some i) none = xs.drop i.toNat := cutL_from xs rfl h
theorem cutV_to (xs : List V) {i : Int} (h : 0 ≤ i) : cutV xs none (some i) = xs.take i.toNat := cutL_to xs rfl h
theorem cutV_mid (xs : List V) {i j : Int} (h : 0 ≤ i) (h2 : i ≤ j) : cutV xs (some i) (some j) = (xs.drop i.toNat).take (j.toNat - i.toNat) := cutL_mid xs rfl h h2
theorem cutV_last (xs : List V) : cutV xs none (some (-1)) = xs.dropLast := by
  have h : HT.sIx xs.length xs.length (some (-1)) = xs.length - 1 := by
    show (if (-1 : Int) < 0 then (-1 + (xs.length : Int)).toNat else min (-1 : Int).toNat xs.length) = _
    rw [if_pos (by decide)]
    omega
  unfold cutV
  rw [h, HT.sIx_none, List.drop_zero, Nat.sub_zero, List.dropLast_eq_take]
theorem cutS_from (z : Str) {i : Int} (h : 0 ≤ i) : tl (cutS z (some i) none) = (tl z).drop i.toNat := cutL_from (tl z) (len_tl z).symm h
theorem cutS_to (z : Str) {i : Int} (h : 0 ≤ i) : tl (cutS z none (some i)) = (tl z).take i.toNat := cutL_to (tl z) (len_tl z).symm h
theorem cutS_mid (z : Str) {i j : Int} (h : 0 ≤ i) (h2 : i ≤ j) : tl (cutS z (some i) (some j)) = ((tl z).drop i.toNat).take (j.toNat - i.toNat) := cutL_mid (tl z) (len_tl z).symm h h2

/-! ### data that == may be asked of -/
structure Sh (k : Nat) (d : PyData) : Prop where
  can : d.canLay0 = true
  dep : d.depth ≤ k
theorem Sh.int {k : Nat} (i : Int) : Sh k (.int i) := ⟨rfl, Nat.zero_le _⟩
theorem Sh.bl {k : Nat} (i : Bool) : Sh k (.bool i) := ⟨rfl, Nat.zero_le _⟩
theorem Sh.non {k : Nat} : Sh k .none := ⟨rfl, Nat.zero_le _⟩
theorem Sh.str {k : Nat} {z : Str} (h : ∀ c ∈ tl z, c < 1114112) : Sh k (.str z) := ⟨by
  show z.cps.all (· < 0x110000) = true
  rw [← Array.all_toList]
  exact List.all_eq_true.mpr fun c hc => decide_eq_true (h c hc), Nat.zero_le _⟩
theorem can_all : ∀ {ds : List PyData}, (∀ d ∈ ds, d.canLay0 = true) → PyData.canLayAll0 ds = true
  | [], _ => rfl
  | d :: ds, h => by
    show (d.canLay0 && PyData.canLayAll0 ds) = true
    rw [h d (List.mem_cons_self ..), can_all fun x hx => h x (List.mem_cons_of_mem _ hx)]
    rfl
theorem depth_all {k : Nat} : ∀ {ds : List PyData}, (∀ d ∈ ds, d.depth ≤ k) → PyData.depthAll ds ≤ k
  | [], _ => Nat.zero_le _
  | d :: ds, h => by
    show max d.depth (PyData.depthAll ds) ≤ k
    exact Nat.max_le.mpr ⟨h d (List.mem_cons_self ..), depth_all fun x hx => h x (List.mem_cons_of_mem _ hx)⟩
theorem Sh.lst {k : Nat} {ds : List PyData} (h : ∀ d ∈ ds, Sh k d) : Sh (k + 1) (.list ds) := ⟨can_all fun d hd => (h d hd).can, Nat.succ_le_succ (depth_all fun d hd => (h d hd).dep)⟩
theorem Sh.tup {k : Nat} {ds : List PyData} (h : ∀ d ∈ ds, Sh k d) : Sh (k + 1) (.tuple ds) := ⟨can_all fun d hd => (h d hd).can, Nat.succ_le_succ (depth_all fun d hd => (h d hd).dep)⟩
theorem Sh.ok {k : Nat} {d : PyData} (h : Sh k d) (hk : k ≤ 64 := by decide) : SeqAt.shaped d = true := by
  show (d.canLay0 && decide (d.depth ≤ 64)) = true
  rw [h.can, decide_eq_true (Nat.le_trans h.dep hk)]
  rfl
theorem Sh.refl {k : Nat} {d : PyData} (h : Sh k d) : PyData.eqv d d = true := SeqAt.eqv_refl d h.can
theorem dp_strs {K : PySem.W.Frag} {H : Hp} : ∀ (l : List Str), DpAll K H (l.map V.str) (l.map PyData.str)
  | [] => .nil
  | z :: l => .cons (.str z) (dp_strs l)
theorem dp_ints {K : PySem.W.Frag} {H : Hp} : ∀ (l : List Int), DpAll K H (l.map V.int) (l.map PyData.int)
  | [] => .nil
  | z :: l => .cons (.int z) (dp_ints l)

/-! ### what kind of goal stands here -/
/-- a word of one value, once for all that follows -/
theorem eVia {X : Cx} {e : Expr} {σ : L2.St} {H : Hp} {Q : VK} (v : V) (h1 : ∀ Q' : VK, Q' v H → eW X e σ H Q') (h2 : Q v H) : eW X e σ H Q := h1 Q h2
/-- .., where the heap may grow -/
theorem eViaS {X : Cx} {e : Expr} {σ : L2.St} {H : Hp} {Q : VK} (P : V → Hp → Prop) (h1 : ∀ Q' : VK, (∀ v H', P v H' → Q' v H') → eW X e σ H Q') (h2 : ∀ v H', P v H' → Q v H') : eW X e σ H Q := h1 Q h2
theorem oMono {X : Cx} {f : Value → Value → Sem Value} {x y : V} {H : Hp} {Q Q' : VK} (h : oW X f x y H Q) (i : ∀ v H', Q v H' → Q' v H') : oW X f x y H Q' := ⟨fun pins s σ v u I rx ry => wpAny_mono (h.run pins s σ v u I rx ry) (fun _ _ ⟨v, H', a, b, c⟩ => ⟨v, H', a, b, i v H' c⟩) fun _ _ x => x⟩
theorem e_chainJ {X : Cx} {σ : L2.St} {H : Hp} {Q : VK} {pos : Pos} {a b c : Expr} {op op' : CmpOp} {d : Bool} (h : eW X a σ H fun x H1 => eW X b σ H1 fun y H2 => oW X (compareOp op) x y H2 fun z H3 => ∃ k, z = .bl k ∧ (k = true → ∀ Q' : VK, Q' (.bl d) H3 → eW X c σ H3 (fun w' H4 => oW X (compareOp op') y w' H4 Q')) ∧ Q (.bl (k && d)) H3)
    (hm : lastMarks [op, op'] [b, c] = false := by with_unfolding_all rfl) : eW X (.Compare a [op, op'] [b, c] pos) σ H Q :=
  e_chain (eMono h fun x H1 h1 => eMono h1 fun y H2 h2 => oMono h2 fun z H3 ⟨k, e, h3, q⟩ => ⟨k, e, by
    cases k with
    | true => exact iteT (h3 rfl _ q)
    | false => exact iteF q⟩) hm
theorem s_augA {X : Cx} {σ : L2.St} {H : Hp} {D : Ends} {pos p2 : Pos} {e : Expr} {N : List Str} {x : Str} {i : Nat} {v : Int} [cn : CxN X N] [sl : Slt N x i] [nd : NdN N] (hs : σ[i]? = some (some (.int v))) (h : eW X e σ H fun y H1 => ∃ j, y = .int j ∧ D.nx (σ.set i (some (.int (v + j)))) H1) (hx : Loc X.env.scope x := by first | exact Or.inl rfl | exact Or.inr rfl)
    (hf : X.fn x = true ∨ X.env.scope.names.lookup x = some .local := by first | exact .inl rfl | exact .inr rfl | assumption) : sW X (.AugAssign (.Name x p2) .Add e pos) D σ H :=
  sI (ps_aug (i := i) (by rw [cn.h]; exact nd.h) (by rw [cn.h]; exact sl.h) hx PEw ip_add hf) ⟨.int v, hs, eMono h fun y H1 ⟨j, e, q⟩ => ⟨v, j, rfl, e, q⟩⟩
theorem e_neg {X : Cx} {a : Expr} {σ : L2.St} {H : Hp} {Q : VK} {pos : Pos} (h : eW X a σ H fun x H1 => ∃ i, x = .int i ∧ Q (.int (-i)) H1) : eW X (.UnaryOp .USub a pos) σ H Q := e_un (eMono h fun x H1 ⟨i, e, q⟩ => by subst e; exact u_neg q)
/-- a test of one truth, once for all that follows -/
theorem tVia {X : Cx} {e : Expr} {σ : L2.St} {H : Hp} {R : Bool → Hp → Prop} (b : Bool) (P : Hp → Prop) (h1 : ∀ R' : Bool → Hp → Prop, (∀ H', P H' → R' b H') → tW X e σ H R') (h2 : ∀ H', P H' → R b H') : tW X e σ H R := h1 R h2
/-! ### dict displays -/
theorem sameU {H : Hp} {p : Addr} {o : HO} (hp : H p = none) : Same H (upd H p o) := fun x u e => by rw [upd_ne (ne_of_none e hp)]; exact e
section
variable {X : Cx} {σ : L2.St} {H : Hp} {Q : VK} {pos : Pos} {a b : Expr}
theorem e_dct0 (h : ∀ p H2, Same H H2 → H p = none → H2 p = some (.dK []) → (∀ b, b ≠ p → H2 b = H b) → Q (.ref p) H2) : eW X (.Dict [] [] pos) σ H Q :=
  eI pe_dnewK fun p hp => h p _ (sameU hp) hp upd_same fun _ hb => upd_ne hb
theorem e_dct1 (h : ∀ p H', Same H H' → H p = none → H' p = some (.dK []) → (∀ b, b ≠ p → H' b = H b) → eW X a σ H' fun x H1 => eW X b σ H1 fun y H2 => H2 p = some (.dK []) ∧ ∃ k : Key, x = kV k ∧ ∀ H3, H3 p = some (.dK (mergeK [] [(k, y)])) → (∀ b, b ≠ p → H3 b = H2 b) → Q (.ref p) H3) : eW X (.Dict [some a] [b] pos) σ H Q :=
  eI (pe_disp (pps_cons PEw PEw pps_nil) rfl rfl (fun z => nomatch z) (Nat.le_of_ble_eq_true rfl)) fun p hp => eMono (h p _ (sameU hp) hp upd_same fun _ hb => upd_ne hb) fun x H1 h1 => eMono h1 fun y H2 ⟨e, k, ek, q⟩ => ⟨e, [(k, y)], by rw [ek]; rfl, Nat.le_of_ble_eq_true rfl, q _ upd_same fun _ hb => upd_ne hb⟩
end
/-! ### tuples: parts and sums; dicts -/
/-- all that is a tuple stays -/
def TS (H H' : Hp) : Prop := ∀ b xs, H b = some (.tup xs) → H' b = some (.tup xs)
theorem TS.refl (H : Hp) : TS H H := fun _ _ h => h
theorem TS.trans {H H1 H2 : Hp} (a : TS H H1) (b : TS H1 H2) : TS H H2 := fun c o h => b c o (a c o h)
theorem Same.ts {H H' : Hp} (s : Same H H') : TS H H' := fun _ _ h => s _ _ h
/-- a list's or dict's place is stored anew: tuples stay -/
theorem TS.but {H H' : Hp} {l : Addr} {o : HO} (h : H l = some o) (hn : ∀ xs, o ≠ .tup xs) (k : ∀ b, b ≠ l → H' b = H b) : TS H H' := fun b xs e => by
  rw [k b fun z => hn xs (by rw [z, h] at e; exact Option.some.inj e)]
  exact e
theorem TS.butL {H H' : Hp} {l : Addr} {ys : List V} (h : H l = some (.lst ys)) (k : ∀ b, b ≠ l → H' b = H b) : TS H H' := TS.but h (fun _ z => nomatch z) k
theorem TS.butD {H H' : Hp} {l : Addr} {ys : List (Key × V)} (h : H l = some (.dK ys)) (k : ∀ b, b ≠ l → H' b = H b) : TS H H' := TS.but h (fun _ z => nomatch z) k
section
variable {X : Cx} {σ : L2.St} {H : Hp} {Q : VK} {pos p2 : Pos} {p q : Addr} {xs ys : List V} {lo hi : Option Int}
theorem n_tup (h : H p = some (.tup xs)) (k : ∀ t H2, Same H H2 → H2 t = some (.tup (cutV xs lo hi)) → Q (.ref t) H2) : nW X (.ref p) lo hi H Q :=
  nI sl_tupA ⟨p, xs, rfl, SqT.of h, fun ⟨e1, e2⟩ => k p H (Same.refl _) (by
    have e : cutV xs lo hi = xs := by
      unfold cutV
      rw [e1, e2, List.drop_zero, Nat.sub_zero, List.take_length]
    rw [e]; exact h), fun _ t ht => k t _ (sameU ht) upd_same⟩
theorem n_tupS (h : SqT X.K H p xs) (k : ∀ t H2, Same H H2 → SqT X.K H2 t (cutV xs lo hi) → Q (.ref t) H2) : nW X (.ref p) lo hi H Q :=
  nI sl_tupA ⟨p, xs, rfl, h, fun ⟨e1, e2⟩ => k p H (Same.refl _) (by
    have e : cutV xs lo hi = xs := by
      unfold cutV
      rw [e1, e2, List.drop_zero, Nat.sub_zero, List.take_length]
    rw [e]; exact h), fun _ t ht => k t _ (sameU ht) (SqT.of upd_same)⟩
theorem o_catT (h1 : H p = some (.tup xs)) (h2 : H q = some (.tup ys)) (hz : xs.length + ys.length ≤ 100000) (k : ∀ t H2, Same H H2 → H2 t = some (.tup (xs ++ ys)) → Q (.ref t) H2) : oW X (binaryOp .Add) (.ref p) (.ref q) H Q :=
  oI op_catA ⟨p, q, xs, ys, rfl, rfl, SqT.of h1, SqT.of h2, Nat.le_trans hz (by decide), fun e => k q H (Same.refl _) (by rw [e]; exact h2), fun _ e => k p H (Same.refl _) (by rw [e, List.append_nil]; exact h1), fun _ _ t ht => k t _ (sameU ht) upd_same⟩
theorem k_listD {d : Addr} {kvs : List (Key × V)} [cc : CxC X] (h : H d = some (.dK kvs)) (k : ∀ l H2, Same H H2 → H l = none → H2 l = some (.lst (kvs.map fun kv => kV kv.1)) → (∀ b, b ≠ l → H2 b = H b) → Q (.ref l) H2) : kW X (.type "list") [.ref d] H Q :=
  kI (call_listD cc.h) ⟨d, kvs, rfl, .inl h, fun l hl => k l _ (sameU hl) hl upd_same fun b hb => upd_ne hb⟩
/-- o[i] = v, o a dict whose keys are ints and texts -/
theorem g_setD {o i : Expr} {v : V} {R : L2.St → Hp → Prop} (hu : X.A.units + 1 < cLine) (h : eW X o σ H fun x H1 => eW X i σ H1 fun y H2 => ∃ d kvs k, x = .ref d ∧ H2 d = some (.dK kvs) ∧ y = kV k ∧ kvs.length ≤ 100000 ∧ ∀ H3, H3 d = some (.dK (putK kvs k v)) → (∀ b, b ≠ d → H3 b = H2 b) → R σ H3)
    (ha : ∀ v, assign (.Subscript o i pos) X.env v = (holding [v] (eval o X.env) >>= fun ov => holding [v, ov] (eval i X.env) >>= fun iv => standAt pos >>= fun _ => holding [v, ov, iv] (setItem ov iv v) >>= fun _ => release [v, ov, iv] []) := by intro _; rfl) : gW X (.Subscript o i pos) v σ H R :=
  gI (pg_sub PEw PEw (set_dict hu) ha) (eMono h fun x H1 h1 => eMono h1 fun y H2 ⟨d, kvs, k, e1, e2, e3, e4, q⟩ => ⟨d, _, e1, by rw [e3]; exact .k e2 (Nat.lt_of_le_of_lt e4 (by decide)), q _ upd_same fun b hb => upd_ne hb⟩)
theorem g_setL {o i : Expr} {v : V} {R : L2.St → Hp → Prop} (h : eW X o σ H fun x H1 => eW X i σ H1 fun y H2 => ∃ p xs k j, x = .ref p ∧ y = .int k ∧ H2 p = some (.lst xs) ∧ ixN xs.length k = some j ∧ ∀ H3, H3 p = some (.lst (xs.set j v)) → (∀ b, b ≠ p → H3 b = H2 b) → R σ H3)
    (ha : ∀ v, assign (.Subscript o i pos) X.env v = (holding [v] (eval o X.env) >>= fun ov => holding [v, ov] (eval i X.env) >>= fun iv => standAt pos >>= fun _ => holding [v, ov, iv] (setItem ov iv v) >>= fun _ => release [v, ov, iv] []) := by intro _; rfl) : gW X (.Subscript o i pos) v σ H R :=
  gI (pg_sub PEw PEw set_list ha) (eMono h fun x H1 h1 => eMono h1 fun y H2 ⟨p, xs, k, j, e1, e2, e3, e4, q⟩ => ⟨p, xs, k, j, e1, e2, e3, e4, q _ upd_same fun b hb => upd_ne hb⟩)
/-- a comprehension, its elements by a word of the heap that holds while tuples stay -/
theorem lcH_h {it tg elt : Expr} {sc : Scope} {own : List (Str × Nat)} {R : Addr → Hp → Prop} (Pr : Nat → V → Hp → Prop) (hP : ∀ i y H H', TS H H' → Pr i y H → Pr i y H')
    (h : jW X tg it σ H fun J H1 => ∃ n G Y, Walk J n G Y ∧ n ≤ 100000 ∧ (∀ H', Same H1 H' → G H') ∧
      (∀ i x H' H2, i < n → Same H1 H' → Y i H' x H2 → Same H' H2 ∧ gB X sc tg x (wipe σ (own.map (·.2))) H2 fun σ3 H3 => wipe σ3 (own.map (·.2)) = wipe σ (own.map (·.2)) ∧ Same H2 H3 ∧ eB X sc elt σ3 H3 fun y H4 => Pr i y H4 ∧ Same H3 H4) ∧
      ∀ l H' ys, Same H1 H' → H1 l = none → H' l = some (.lst ys) → ys.length = n → (∀ i y, ys[i]? = some y → Pr i y H') → R l H') :
    jW X tg it σ H fun J H1 => ∃ n G Y, Walk J n G Y ∧ ∀ D, H1 D = none → ∃ Pv : Nat → Hp → Prop, Pv 0 (upd H1 D (.lst [])) ∧ (∀ i H', i ≤ n → Pv i H' → G H') ∧
      (∀ i x H' H2, i < n → Pv i H' → Y i H' x H2 → gB X sc tg x (wipe σ (own.map (·.2))) H2 fun σ3 H3 => wipe σ3 (own.map (·.2)) = wipe σ (own.map (·.2)) ∧ eB X sc elt σ3 H3 fun y H4 => ∃ acc, H4 D = some (.lst acc) ∧ acc.length < sizeLine ∧ Pv (i + 1) (upd H4 D (.lst (acc ++ [y])))) ∧
      ∀ H', Pv n H' → R D H' := by
  refine ⟨fun pins s I => wpAny_mono (h.run pins s I) (fun v s1 q => wpAny_mono q (fun u s2 ⟨i, fp, tn, J, H2, e, I2, T, t0, f2, n, G, Y, w, hn, q1, q2, q3⟩ => ⟨i, fp, tn, J, H2, e, I2, T, t0, f2, n, G, Y, w, fun D' hD => ⟨fun i H' => Same H2 H' ∧ ∃ acc, H' D' = some (.lst acc) ∧ acc.length = i ∧ ∀ j z, acc[j]? = some z → Pr j z H', ⟨sameU hD, [], upd_same, rfl, by simp⟩, fun _ _ _ p => q1 _ p.1, fun i x H' H3 hi p y s0 H0 C cl fp => ?_, fun H' p => by
    obtain ⟨p1, acc, p2, p3, p4⟩ := p
    exact q3 D' H' acc p1 hD p2 p3 p4⟩⟩) fun _ _ z => z) fun _ _ z => z⟩
  obtain ⟨k1, k2⟩ := q2 i x H' H3 hi p.1 y
  obtain ⟨p1, acc, p2, p3, p4⟩ := p
  refine ⟨fun pins s' u I r => wpAny_mono ((k2 s0 H0 C cl fp).run pins s' u I r) (fun _ s'' ⟨σ', H'', I'', e1, e2, e3⟩ => ⟨σ', H'', I'', e1, fun s0 H0 C cl fp => ⟨fun pins s' I => wpAny_mono ((e3 s0 H0 C cl fp).run pins s' I) (fun u s4 ⟨v4, H4, I4, r4, ev, e4⟩ => ⟨v4, H4, I4, r4, acc, e4 _ _ (e2 _ _ (k1 _ _ p2)), ?_, ?_, acc ++ [v4], upd_same, ?_, ?_⟩) fun _ _ z => z⟩⟩) fun _ _ z => z⟩
  · rw [p3]
    exact Nat.lt_of_lt_of_le (Nat.lt_of_lt_of_le hi hn) (by decide)
  · intro b o e
    rw [upd_ne (ne_of_none e hD)]
    exact e4 _ _ (e2 _ _ (k1 _ _ (p1 _ _ e)))
  · rw [List.length_append, p3]; rfl
  · have k4 := e4 _ _ (e2 _ _ (k1 _ _ p2))
    have up : TS H4 (upd H4 D' (.lst (acc ++ [v4]))) := TS.butL k4 fun b hb => upd_ne hb
    intro j z hz
    by_cases hj : j < i
    · rw [List.getElem?_append_left (by omega)] at hz
      exact hP _ _ _ _ ((TS.trans (Same.ts k1) (TS.trans (Same.ts e2) (Same.ts e4))).trans up) (p4 j z hz)
    · rw [List.getElem?_append_right (by omega), p3] at hz
      have hj2 : j = i := by
        have := (List.getElem?_eq_some_iff.mp hz).1
        simp at this
        omega
      subst hj2
      simp at hz
      rw [← hz]
      exact hP _ _ _ _ up ev
theorem e_lcH {it tg elt : Expr} {sc : Scope} {N : List Str} {own : List (Str × Nat)} [cc : CxC X] [cn : CxN X N] [nd : NdN N] (ok : BlkOk N X.env.scope sc own) (Pr : Nat → V → Hp → Prop) (hP : ∀ i y H H', TS H H' → Pr i y H → Pr i y H')
    (h : jW X tg it σ H fun J H1 => ∃ n G Y, Walk J n G Y ∧ n ≤ 100000 ∧ (∀ H', Same H1 H' → G H') ∧
      (∀ i x H' H2, i < n → Same H1 H' → Y i H' x H2 → Same H' H2 ∧ gB X sc tg x (wipe σ (own.map (·.2))) H2 fun σ3 H3 => wipe σ3 (own.map (·.2)) = wipe σ (own.map (·.2)) ∧ Same H2 H3 ∧ eB X sc elt σ3 H3 fun y H4 => Pr i y H4 ∧ Same H3 H4) ∧
      ∀ l H' ys, Same H1 H' → H1 l = none → H' l = some (.lst ys) → ys.length = n → (∀ i y, ys[i]? = some y → Pr i y H') → Q (.ref l) H') (hs : ∀ x, foldedSetIterable it X.env x = pure x := by intro _; rfl) : eW X (.ListComp elt [⟨tg, it, [], 0⟩] sc pos) σ H Q :=
  e_lc ok (lcH_h (R := fun l H' => Q (.ref l) H') Pr hP h) hs
theorem s_setLcH {it tg elt : Expr} {sc : Scope} {N : List Str} {own : List (Str × Nat)} {y : Str} {i : Nat} {D : Ends} {p3 : Pos} [cc : CxC X] [cn : CxN X N] [sl : Slt N y i] [nd : NdN N] (ok : BlkOk N X.env.scope sc own) (Pr : Nat → V → Hp → Prop) (hP : ∀ i y H H', TS H H' → Pr i y H → Pr i y H')
    (h : jW X tg it σ H fun J H1 => ∃ n G Y, Walk J n G Y ∧ n ≤ 100000 ∧ (∀ H', Same H1 H' → G H') ∧
      (∀ i x H' H2, i < n → Same H1 H' → Y i H' x H2 → Same H' H2 ∧ gB X sc tg x (wipe σ (own.map (·.2))) H2 fun σ3 H3 => wipe σ3 (own.map (·.2)) = wipe σ (own.map (·.2)) ∧ Same H2 H3 ∧ eB X sc elt σ3 H3 fun y H4 => Pr i y H4 ∧ Same H3 H4) ∧
      ∀ l H' ys, Same H1 H' → H1 l = none → H' l = some (.lst ys) → ys.length = n → (∀ i y, ys[i]? = some y → Pr i y H') → D.nx (σ.set i (some (.ref l))) H') (hyl : X.env.scope.names.lookup y = some .local := by rfl)
    (hsw : swapsWith (.ListComp elt [⟨tg, it, [], 0⟩] sc pos) (some (.Name y p2)) p3.line X.env = pure true := by exact sw_true rfl rfl rfl (by decide +kernel)) (hs : ∀ x, foldedSetIterable it X.env x = pure x := by intro _; rfl) : sW X (.Assign [.Name y p2] (.ListComp elt [⟨tg, it, [], 0⟩] sc pos) p3) D σ H :=
  s_setLc ok (lcH_h (R := fun l H' => D.nx (σ.set i (some (.ref l))) H') Pr hP h) hyl hsw hs
/-- a comprehension, its elements by a word of the heap that holds while all but the comprehension's own list stays -/
theorem lcK_h {it tg elt : Expr} {sc : Scope} {own : List (Str × Nat)} {R : Addr → Hp → Prop} (Pr : Nat → V → Hp → Prop) (hP : ∀ i y H H', Same H H' → Pr i y H → Pr i y H') (hK : ∀ i y H H' D acc, H D = some (.lst acc) → (∀ (j : Nat) z, acc[j]? = some z → Pr j z H) → (∀ b, b ≠ D → H' b = H b) → Pr i y H → Pr i y H')
    (h : jW X tg it σ H fun J H1 => ∃ n G Y, Walk J n G Y ∧ n ≤ 100000 ∧ (∀ H', Same H1 H' → G H') ∧
      (∀ i x H' H2, i < n → Same H1 H' → Y i H' x H2 → Same H' H2 ∧ gB X sc tg x (wipe σ (own.map (·.2))) H2 fun σ3 H3 => wipe σ3 (own.map (·.2)) = wipe σ (own.map (·.2)) ∧ Same H2 H3 ∧ eB X sc elt σ3 H3 fun y H4 => Pr i y H4 ∧ Same H3 H4) ∧
      ∀ l H' ys, Same H1 H' → H1 l = none → H' l = some (.lst ys) → ys.length = n → (∀ i y, ys[i]? = some y → Pr i y H') → R l H') :
    jW X tg it σ H fun J H1 => ∃ n G Y, Walk J n G Y ∧ ∀ D, H1 D = none → ∃ Pv : Nat → Hp → Prop, Pv 0 (upd H1 D (.lst [])) ∧ (∀ i H', i ≤ n → Pv i H' → G H') ∧
      (∀ i x H' H2, i < n → Pv i H' → Y i H' x H2 → gB X sc tg x (wipe σ (own.map (·.2))) H2 fun σ3 H3 => wipe σ3 (own.map (·.2)) = wipe σ (own.map (·.2)) ∧ eB X sc elt σ3 H3 fun y H4 => ∃ acc, H4 D = some (.lst acc) ∧ acc.length < sizeLine ∧ Pv (i + 1) (upd H4 D (.lst (acc ++ [y])))) ∧
      ∀ H', Pv n H' → R D H' := by
  refine ⟨fun pins s I => wpAny_mono (h.run pins s I) (fun v s1 q => wpAny_mono q (fun u s2 ⟨i, fp, tn, J, H2, e, I2, T, t0, f2, n, G, Y, w, hn, q1, q2, q3⟩ => ⟨i, fp, tn, J, H2, e, I2, T, t0, f2, n, G, Y, w, fun D' hD => ⟨fun i H' => Same H2 H' ∧ ∃ acc, H' D' = some (.lst acc) ∧ acc.length = i ∧ ∀ j z, acc[j]? = some z → Pr j z H', ⟨sameU hD, [], upd_same, rfl, by simp⟩, fun _ _ _ p => q1 _ p.1, fun i x H' H3 hi p y s0 H0 C cl fp => ?_, fun H' p => by
    obtain ⟨p1, acc, p2, p3, p4⟩ := p
    exact q3 D' H' acc p1 hD p2 p3 p4⟩⟩) fun _ _ z => z) fun _ _ z => z⟩
  obtain ⟨k1, k2⟩ := q2 i x H' H3 hi p.1 y
  obtain ⟨p1, acc, p2, p3, p4⟩ := p
  refine ⟨fun pins s' u I r => wpAny_mono ((k2 s0 H0 C cl fp).run pins s' u I r) (fun _ s'' ⟨σ', H'', I'', e1, e2, e3⟩ => ⟨σ', H'', I'', e1, fun s0 H0 C cl fp => ⟨fun pins s' I => wpAny_mono ((e3 s0 H0 C cl fp).run pins s' I) (fun u s4 ⟨v4, H4, I4, r4, ev, e4⟩ => ⟨v4, H4, I4, r4, acc, e4 _ _ (e2 _ _ (k1 _ _ p2)), ?_, ?_, acc ++ [v4], upd_same, ?_, ?_⟩) fun _ _ z => z⟩⟩) fun _ _ z => z⟩
  · rw [p3]
    exact Nat.lt_of_lt_of_le (Nat.lt_of_lt_of_le hi hn) (by decide)
  · intro b o e
    rw [upd_ne (ne_of_none e hD)]
    exact e4 _ _ (e2 _ _ (k1 _ _ (p1 _ _ e)))
  · rw [List.length_append, p3]; rfl
  · have k4 := e4 _ _ (e2 _ _ (k1 _ _ p2))
    have sm : Same H' H4 := k1.trans (e2.trans e4)
    have pa : ∀ (j : Nat) z, acc[j]? = some z → Pr j z H4 := fun j z hz => hP _ _ _ _ sm (p4 j z hz)
    have up : ∀ i y, Pr i y H4 → Pr i y (upd H4 D' (.lst (acc ++ [v4]))) := fun i y h => hK _ _ _ _ _ _ k4 pa (fun b hb => upd_ne hb) h
    intro j z hz
    by_cases hj : j < i
    · rw [List.getElem?_append_left (by omega)] at hz
      exact up _ _ (pa j z hz)
    · rw [List.getElem?_append_right (by omega), p3] at hz
      have hj2 : j = i := by
        have := (List.getElem?_eq_some_iff.mp hz).1
        simp at this
        omega
      subst hj2
      simp at hz
      rw [← hz]
      exact up _ _ ev
theorem e_lcK {it tg elt : Expr} {sc : Scope} {N : List Str} {own : List (Str × Nat)} [cc : CxC X] [cn : CxN X N] [nd : NdN N] (ok : BlkOk N X.env.scope sc own) (Pr : Nat → V → Hp → Prop) (hP : ∀ i y H H', Same H H' → Pr i y H → Pr i y H') (hK : ∀ i y H H' D acc, H D = some (.lst acc) → (∀ (j : Nat) z, acc[j]? = some z → Pr j z H) → (∀ b, b ≠ D → H' b = H b) → Pr i y H → Pr i y H')
    (h : jW X tg it σ H fun J H1 => ∃ n G Y, Walk J n G Y ∧ n ≤ 100000 ∧ (∀ H', Same H1 H' → G H') ∧
      (∀ i x H' H2, i < n → Same H1 H' → Y i H' x H2 → Same H' H2 ∧ gB X sc tg x (wipe σ (own.map (·.2))) H2 fun σ3 H3 => wipe σ3 (own.map (·.2)) = wipe σ (own.map (·.2)) ∧ Same H2 H3 ∧ eB X sc elt σ3 H3 fun y H4 => Pr i y H4 ∧ Same H3 H4) ∧
      ∀ l H' ys, Same H1 H' → H1 l = none → H' l = some (.lst ys) → ys.length = n → (∀ i y, ys[i]? = some y → Pr i y H') → Q (.ref l) H') (hs : ∀ x, foldedSetIterable it X.env x = pure x := by intro _; rfl) : eW X (.ListComp elt [⟨tg, it, [], 0⟩] sc pos) σ H Q :=
  e_lc ok (lcK_h (R := fun l H' => Q (.ref l) H') Pr hP hK h) hs
theorem s_setLcK {it tg elt : Expr} {sc : Scope} {N : List Str} {own : List (Str × Nat)} {y : Str} {i : Nat} {D : Ends} {p3 : Pos} [cc : CxC X] [cn : CxN X N] [sl : Slt N y i] [nd : NdN N] (ok : BlkOk N X.env.scope sc own) (Pr : Nat → V → Hp → Prop) (hP : ∀ i y H H', Same H H' → Pr i y H → Pr i y H') (hK : ∀ i y H H' D acc, H D = some (.lst acc) → (∀ (j : Nat) z, acc[j]? = some z → Pr j z H) → (∀ b, b ≠ D → H' b = H b) → Pr i y H → Pr i y H')
    (h : jW X tg it σ H fun J H1 => ∃ n G Y, Walk J n G Y ∧ n ≤ 100000 ∧ (∀ H', Same H1 H' → G H') ∧
      (∀ i x H' H2, i < n → Same H1 H' → Y i H' x H2 → Same H' H2 ∧ gB X sc tg x (wipe σ (own.map (·.2))) H2 fun σ3 H3 => wipe σ3 (own.map (·.2)) = wipe σ (own.map (·.2)) ∧ Same H2 H3 ∧ eB X sc elt σ3 H3 fun y H4 => Pr i y H4 ∧ Same H3 H4) ∧
      ∀ l H' ys, Same H1 H' → H1 l = none → H' l = some (.lst ys) → ys.length = n → (∀ i y, ys[i]? = some y → Pr i y H') → D.nx (σ.set i (some (.ref l))) H') (hyl : X.env.scope.names.lookup y = some .local := by rfl)
    (hsw : swapsWith (.ListComp elt [⟨tg, it, [], 0⟩] sc pos) (some (.Name y p2)) p3.line X.env = pure true := by exact sw_true rfl rfl rfl (by decide +kernel)) (hs : ∀ x, foldedSetIterable it X.env x = pure x := by intro _; rfl) : sW X (.Assign [.Name y p2] (.ListComp elt [⟨tg, it, [], 0⟩] sc pos) p3) D σ H :=
  s_setLc ok (lcK_h (R := fun l H' => D.nx (σ.set i (some (.ref l))) H') Pr hP hK h) hyl hsw hs
end
/-! ### a text so often -/
theorem fold_app : ∀ (n : Nat) (a : Array Nat) (z : Array Nat), ((List.replicate n z).foldl (· ++ ·) a).toList = a.toList ++ (List.replicate n z.toList).flatten
  | 0, a, z => by simp
  | n + 1, a, z => by
    rw [List.replicate_succ, List.foldl_cons, fold_app n, Array.toList_append, List.replicate_succ, List.flatten_cons, List.append_assoc]
theorem o_repS {X : Cx} {H : Hp} {Q : VK} {z : Str} {n : Int} (h0 : 0 ≤ n) (h1 : n ≤ 100000) (hz : z.length ≤ 100) (q : ∀ y, tl y = (List.replicate n.toNat (tl z)).flatten → Q (.str y) H) : oW X (binaryOp .Mult) (.str z) (.int n) H Q := by
  refine ⟨fun pins s σ v u I rx ry => ?_⟩
  obtain ⟨t, rfl⟩ := rx
  obtain ⟨t', rfl⟩ := ry
  have hm : z.length * n.toNat ≤ 100 * 100000 := Nat.mul_le_mul hz (by omega)
  refine PySem.P.mul_str (by rw [decide_eq_false (by omega), decide_eq_false (by omega)]; rfl) (fun c _ => ?_) (fun _ _ => ?_) ?_
  · have : (z.length : Int) ≤ (2 ^ 63 - 1) / n := by
      refine Int.le_ediv_of_mul_le (by omega) ?_
      have e : (z.length : Int) * n = ((z.length * n.toNat : Nat) : Int) := by
        rw [Int.natCast_mul, Int.toNat_of_nonneg h0]
      rw [e]
      omega
    omega
  · show decide (z.length * n.toNat > sizeLine) = false
    rw [sizeLine_eq]
    exact decide_eq_false (by omega)
  · by_cases c : n < 1
    · rw [if_pos c]
      refine ⟨by decide, ⟨.str Str.empty, H, I.tok _, ⟨_, rfl⟩, q _ ?_⟩⟩
      have : n.toNat = 0 := by omega
      rw [this]
      rfl
    · rw [if_neg c]
      by_cases c2 : (n == 1 || z.length == 0) = true
      · rw [if_pos c2]
        refine ⟨.str z, H, I.tok _, ⟨t, rfl⟩, q z ?_⟩
        rcases Bool.or_eq_true_iff.mp c2 with c3 | c3
        · have : n = 1 := beq_iff_eq.mp c3
          subst this
          simp
        · have e : tl z = [] := List.eq_nil_of_length_eq_zero (by rw [← len_tl]; exact beq_iff_eq.mp c3)
          rw [e]
          simp
      · rw [if_neg c2]
        have e : tl (⟨(List.replicate n.toNat z.cps).foldl (· ++ ·) #[]⟩ : Str) = (List.replicate n.toNat (tl z)).flatten := by
          show ((List.replicate n.toNat z.cps).foldl (· ++ ·) #[]).toList = _
          rw [fold_app]
          rfl
        refine ⟨?_, ⟨.str _, H, I.tok _, ⟨_, rfl⟩, q _ e⟩⟩
        rw [len_tl, e, List.length_flatten, List.map_replicate, List.sum_replicate_nat, ← len_tl, Nat.mul_comm, sizeLine_eq]
        omega
/-! ### exceptions: try, what a clause names, isinstance of what is caught -/
def trX (X : Cx) (pn : List (Addr × Obj)) (xe : Value → Shared → Prop) : Cx := X.tr pn xe
def suX (X : Cx) (a : Addr) (pn : List (Addr × Obj)) : Cx := X.suite a pn
theorem bMono {X : Cx} {b : List Stmt} {D : Ends} {σ : L2.St} {H : Hp} {nx : L2.St → Hp → Prop} (h : bW X b D σ H) (i : ∀ σ' H', D.nx σ' H' → nx σ' H') : bW X b { D with nx := nx } σ H := ⟨fun pins s I => wpAny_mono (h.run pins s I) (fun f s1 q => by
  cases f with
  | next => obtain ⟨σ', H', a, c⟩ := q; exact ⟨σ', H', a, i _ _ c⟩
  | brk => exact q
  | cont => exact q
  | ret v => exact q) fun _ _ x => x⟩
theorem sMono {X : Cx} {st : Stmt} {D : Ends} {σ : L2.St} {H : Hp} (nx : L2.St → Hp → Prop) (h : sW X st (Dnx D nx) σ H) (i : ∀ σ' H', nx σ' H' → D.nx σ' H') : sW X st D σ H := ⟨fun pins s I => wpAny_mono (h.run pins s I) (fun f s1 q => by
  cases f with
  | next => obtain ⟨σ', H', a, c⟩ := q; exact ⟨σ', H', a, i _ _ c⟩
  | brk => exact q
  | cont => exact q
  | ret v => exact q) fun _ _ x => x⟩
section
variable {X : Cx} {pn : List (Addr × Obj)} {xe : Value → Shared → Prop} {a : Addr}
instance {N : List Str} [c : CxN X N] : CxN (trX X pn xe) N := ⟨c.h⟩
instance {K : PySem.W.Frag} [c : CxK X K] : CxK (trX X pn xe) K := ⟨c.h⟩
instance {mg : Str → Option Value} [c : CxM X mg] : CxM (trX X pn xe) mg := ⟨c.h⟩
instance [c : CxC X] : CxC (trX X pn xe) := ⟨c.h⟩
instance {N : List Str} [c : CxN X N] : CxN (suX X a pn) N := ⟨c.h⟩
instance {K : PySem.W.Frag} [c : CxK X K] : CxK (suX X a pn) K := ⟨c.h⟩
instance {mg : Str → Option Value} [c : CxM X mg] : CxM (suX X a pn) mg := ⟨c.h⟩
instance : CxO (suX X a pn) := ⟨PassesOwn.never⟩
instance : CxT (suX X a pn) (fun _ _ _ _ => False) := ⟨takes0 (X := suX X a pn)⟩
end
section
variable {K : PySem.W.Frag} {mg : Str → Option Value} {x y : Str} {C D : Addr} {b : Bool}
theorem ExcF.excC (T : ExcF K mg x C) : ExcC K C := ⟨T.ga, T.gk, T.be, T.hd, T.ha, T.hn, T.ht, T.hm⟩
theorem ExcF.self (T : ExcF K mg x C) : PySem.W.subIn K (.ref C) (.ref C) = some true := by
  have q := T.ex
  unfold PySem.W.excIn at q
  show PySem.W.mroIn K C (.ref C) = some true
  unfold PySem.W.mroIn PySem.W.clsIn
  split at q
  · rename_i dd cd sl ho
    rw [ho]
    dsimp only
    split at q
    · rename_i C' bm k0 k1 k2 k3 n k5 hm hs
      simp only [Bool.and_eq_true, beq_iff_eq] at q
      obtain ⟨⟨⟨⟨⟨e, _⟩, _⟩, _⟩, _⟩, _⟩ := q
      subst e
      rw [Option.bind_some, hm]
      simp
    · cases q
  · cases q
theorem ExcF.kit (TD : ExcF K mg x D) (TC : ExcF K mg y C) (h : PySem.W.subIn K (.ref D) (.ref C) = some b) : PySem.W.kitOne K (.ref D) (.ref C) = some b := by
  by_cases e : D = C
  · subst e
    rw [TD.self] at h
    cases h
    exact kit_self
  · exact kit_refs h TC.ic TC.ty e
theorem ExcF.kitVE (TD : ExcF K mg x D) : PySem.W.kitOne K (.ref D) (.type "ValueError") = some true := by
  have e2 : (Value.ref D == Value.type "ValueError") = false := by simp
  have e3 : PySem.W.kitMeta "ValueError" = true := by decide +kernel
  show (if (Value.ref D == Value.type "ValueError") = true then some true else if PySem.W.kitMeta "ValueError" = true then PySem.W.subIn K (.ref D) (.type "ValueError") else none) = some true
  rw [e2, if_neg Bool.false_ne_true, if_pos e3]
  exact TD.ve
theorem ExcF.exm (TC : ExcF K mg y C) (h : PySem.W.subIn K (.ref D) (.ref C) = some b) : PySem.W.exmOne K (.ref D) (.ref C) = some b := PySem.W.exm_ref TC.be TC.hd TC.ty h
theorem kit_none {t : Value} : ∀ {cs : List Addr}, (∀ c ∈ cs, PySem.W.kitOne K t (.ref c) = some false) → PySem.W.kitAny K t (cs.map Value.ref) = some false
  | [], _ => rfl
  | c :: cs, h => by
    show (match PySem.W.kitOne K t (.ref c) with
      | some true => some true
      | some false => PySem.W.kitAny K t (cs.map Value.ref)
      | none => none) = some false
    rw [h c List.mem_cons_self]
    exact kit_none fun d hd => h d (List.mem_cons_of_mem _ hd)
theorem vals_refs : ∀ {cs : List Addr} {its : List Value}, Vals (cs.map V.ref) its → its = cs.map Value.ref
  | [], _, .nil => rfl
  | c :: cs, _, .cons r t => by
    have e : _ = Value.ref c := r
    rw [e, vals_refs t]
    rfl
end
section
variable {X : Cx} {σ : L2.St} {H : Hp} {D : Ends} {Q : VK} {pos pos' np p2 p3 p4 : Pos} {st b₀ : Stmt} {body suite orelse : List Stmt} {N : List Str} {x y n : Str} {a C E : Addr} {oe : Obj} {pn : List (Addr × Obj)} {b : Bool} {mg : Str → Option Value}
/-- isinstance(e, C), e what the suite holds -/
theorem k_isE (TD : ExcF X.K mg x E) (TC : ExcF X.K mg y C) (hz : Zc (.ref E) none oe) (hf : ∃ vs, oe.data = .fields vs) (h : PySem.W.subIn X.K (.ref E) (.ref C) = some b) (q : Q (.bl b) H) : kW (suX X a ((a, oe) :: pn)) (.builtin "isinstance") [.ref a, .ref C] H Q :=
  kI (X := X.suite a ((a, oe) :: pn)) (call_isE TD.excC hz hf) ⟨_, _, _, rfl, fun _ r => r, TD.kit TC h, q⟩
theorem k_isEV (TD : ExcF X.K mg x E) (hz : Zc (.ref E) none oe) (hf : ∃ vs, oe.data = .fields vs) (q : Q (.bl true) H) : kW (suX X a ((a, oe) :: pn)) (.builtin "isinstance") [.ref a, .ty "ValueError"] H Q :=
  kI (X := X.suite a ((a, oe) :: pn)) (call_isE TD.excC hz hf) ⟨_, _, _, rfl, fun _ r => r, TD.kitVE, q⟩
/-- isinstance(e, (C1, C2, ..)), none of them -/
theorem k_isEN {t : Addr} (cs : List Addr) (TD : ExcF X.K mg x E) (hz : Zc (.ref E) none oe) (hf : ∃ vs, oe.data = .fields vs) (ht : H t = some (.tup (cs.map V.ref))) (h : ∀ c ∈ cs, PySem.W.kitOne X.K (.ref E) (.ref c) = some false) (q : Q (.bl false) H) :
    kW (suX X a ((a, oe) :: pn)) (.builtin "isinstance") [.ref a, .ref t] H Q := by
  refine ⟨fun pins s σ us I r => ?_⟩
  cases r with
  | cons rx rr =>
    cases rr with
    | cons rt rr =>
      cases rr
      cases rx
      cases rt
      obtain ⟨hget, _⟩ := I.pin (a, oe) (List.mem_append.mpr (.inl List.mem_cons_self))
      obtain ⟨vs, hv⟩ := hf
      have J : PySem.W.InstAt s.heap a oe E none := by
        obtain ⟨oc, od, oda, osl⟩ := oe
        obtain ⟨h1, h2⟩ := hz
        dsimp only at h1 h2 hv
        subst h1 h2 hv
        exact ⟨hget, rfl, rfl, trivial⟩
      have C := TD.excC
      obtain ⟨_, its, rv, ho⟩ : ObjOk X.prog X.w H s.heap t (.tup (cs.map V.ref)) := I.hok t _ ht
      have e := vals_refs rv
      subst e
      obtain ⟨⟨oc, dd, dt, osl⟩, hg, e1, nn, e2⟩ := ho
      dsimp only at e1 e2
      subst e1 e2
      exact PySem.W.kia_tup (PySem.W.handS_kitx_exc C.hg C.hk C.hs C.hd C.ha C.hn C.ht C.hm) I.kIn J hg (kit_none h) (fun z => nomatch z) fun tk => ⟨.bl false, H, I.kept (t' := tk) fun _ _ z => z, rfl, q⟩
theorem k_intB {k : Bool} (q : Q (.int (if k then 1 else 0)) H) : kW X (.type "int") [.bl k] H Q := kI call_int1 (.inr ⟨k, rfl, q⟩)
/-- try: body, except x as n: suite -/
theorem s_tryAs {i : Nat} {Wout : WX} [cn : CxN X N] [sl : Slt N n i] [nd : NdN N] [ct : CxT X Wout] (T : ExcF X.K X.mg x C) (W : WX)
    (hw : ∀ cls d σ' H', W cls d σ' H' → (PySem.W.exmOne X.K cls (.ref C) = some true ∧ ∀ a oe pn, H' a = none → Zc cls d oe → (∃ vs, oe.data = .fields vs) →
        bW (suX X a ((a, oe) :: pn)) (b₀ :: suite) { nx := fun σ' H' => D.nx (σ'.set i none) H', rt := D.rt, bk := fun σ' H' => D.bk (σ'.set i none) H', ct := fun σ' H' => D.ct (σ'.set i none) H' } (σ'.set i (some (.ref a))) H') ∨
      (PySem.W.exmOne X.K cls (.ref C) = some false ∧ Wout cls d σ' H'))
    (hb : ∀ pn xe, CxT (trX X pn xe) W → CxO (trX X pn xe) → bW (trX X pn xe) body D σ H)
    (hg : Gl X x := by rfl) (hdb : (x == ("__debug__" : Str)) = false := by decide) (hln : X.env.kindOf n = some .local := by rfl) (hs : X.stack = X.env :: X.outer := by rfl) (hf : X.env.frame = some X.env.locals := by rfl) :
    sW X (.Try body [.ExceptHandler (some (.Name x np)) (some n) (b₀ :: suite) pos'] [] [] pos) D σ H :=
  sI (ps_try_as hs hf (by rw [cn.h]; exact nd.h) (by rw [cn.h]; exact sl.h) hln ⟨hg, hdb, .inl T.mg⟩ ct.h
    (tb := fun W' D' σ' H' => ∀ pn xe, CxT (trX X pn xe) W' → CxO (trX X pn xe) → bW (trX X pn xe) body D' σ' H')
    (ts := fun a cls d D' σ' H' => ∀ oe pn, Zc cls d oe → (∃ vs, oe.data = .fields vs) → bW (suX X a ((a, oe) :: pn)) (b₀ :: suite) D' σ' H')
    (fun W' pn xe tk ow => ⟨fun pins s σ H D I q => (q pn xe ⟨tk⟩ ⟨ow⟩).run pins s I⟩)
    (fun a oe cls d pn hz hf => ⟨fun pins s σ H D I q => (q oe pn hz hf).run pins s I⟩))
   (fun pn xe c1 c2 => hb pn xe ⟨c1.h.imp fun cls d σ' H' w => (hw cls d σ' H' w).elim (fun ⟨h1, h2⟩ => ⟨true, h1, fun _ a ha oe pn hz hf => h2 a oe pn ha hz hf, fun z => nomatch z⟩) fun ⟨h1, h2⟩ => ⟨false, h1, (fun z => nomatch z), fun _ => h2⟩⟩ c2)
/-- try: body, except x: suite, else: orelse -/
theorem s_tryElse {Wout : WX} [ct : CxT X Wout] (T : ExcF X.K X.mg x C) (W : WX)
    (hw : ∀ cls d σ' H', W cls d σ' H' → (PySem.W.exmOne X.K cls (.ref C) = some true ∧ ∀ a oe pn, H' a = none → Zc cls d oe → (∃ vs, oe.data = .fields vs) → bW (suX X a ((a, oe) :: pn)) (b₀ :: suite) D σ' H') ∨ (PySem.W.exmOne X.K cls (.ref C) = some false ∧ Wout cls d σ' H'))
    (hb : ∀ pn xe, CxT (trX X pn xe) W → CxO (trX X pn xe) → bW (trX X pn xe) body (Dsq X orelse D) σ H)
    (hg : Gl X x := by rfl) (hdb : (x == ("__debug__" : Str)) = false := by decide) (hs : X.stack = X.env :: X.outer := by rfl) (hf : X.env.frame = some X.env.locals := by rfl) :
    sW X (.Try body [.ExceptHandler (some (.Name x np)) none (b₀ :: suite) pos'] orelse [] pos) D σ H :=
  sI (ps_try_onlyE (u := bW X orelse) PBw hs hf ⟨hg, hdb, .inl T.mg⟩ ct.h
    (tb := fun W' D' σ' H' => ∀ pn xe, CxT (trX X pn xe) W' → CxO (trX X pn xe) → bW (trX X pn xe) body D' σ' H')
    (ts := fun a cls d D' σ' H' => ∀ oe pn, Zc cls d oe → (∃ vs, oe.data = .fields vs) → bW (suX X a ((a, oe) :: pn)) (b₀ :: suite) D' σ' H')
    (fun W' pn xe tk ow => ⟨fun pins s σ H D I q => (q pn xe ⟨tk⟩ ⟨ow⟩).run pins s I⟩)
    (fun a oe cls d pn hz hf => ⟨fun pins s σ H D I q => (q oe pn hz hf).run pins s I⟩))
   (fun pn xe c1 c2 => hb pn xe ⟨c1.h.imp fun cls d σ' H' w => (hw cls d σ' H' w).elim (fun ⟨h1, h2⟩ => ⟨true, h1, fun _ a ha oe pn hz hf => h2 a oe pn ha hz hf, fun z => nomatch z⟩) fun ⟨h1, h2⟩ => ⟨false, h1, (fun z => nomatch z), fun _ => h2⟩⟩ c2)
/-- try: body, except x: suite -/
theorem s_tryOnly {Wout : WX} [ct : CxT X Wout] (T : ExcF X.K X.mg x C) (W : WX)
    (hw : ∀ cls d σ' H', W cls d σ' H' → (PySem.W.exmOne X.K cls (.ref C) = some true ∧ ∀ a oe pn, H' a = none → Zc cls d oe → (∃ vs, oe.data = .fields vs) → bW (suX X a ((a, oe) :: pn)) (b₀ :: suite) D σ' H') ∨ (PySem.W.exmOne X.K cls (.ref C) = some false ∧ Wout cls d σ' H'))
    (hb : ∀ pn xe, CxT (trX X pn xe) W → CxO (trX X pn xe) → bW (trX X pn xe) body D σ H)
    (hg : Gl X x := by rfl) (hdb : (x == ("__debug__" : Str)) = false := by decide) (hs : X.stack = X.env :: X.outer := by rfl) (hf : X.env.frame = some X.env.locals := by rfl) :
    sW X (.Try body [.ExceptHandler (some (.Name x np)) none (b₀ :: suite) pos'] [] [] pos) D σ H :=
  s_tryElse T W hw (fun pn xe c1 c2 => ⟨fun pins s I => (bMono (hb pn xe c1 c2) (fun σ' H' q => b_nil q)).run pins s I⟩) hg hdb hs hf
end
/-! ### try with clauses of any kind -/
theorem wp_forIn {M : Model} {A : Around} {E : Value → Shared → Prop} {α β : Type} {f : α → β → Sem (ForInStep β)} {init : β} {s : Shared} {Q : β → Shared → Prop} : ∀ L : List α, (∀ c ∈ L, ∀ R : ForInStep β → Shared → Prop, R (.yield init) s → wpAny M A (f c init) R E s) → Q init s → wpAny M A (forIn L init f) Q E s
  | [], _, q => by rw [List.forIn_nil]; exact wpAny_pure q
  | c :: L, h, q => by
    rw [List.forIn_cons]
    exact wpAny_bind (h c (List.mem_cons_self ..) _ (wp_forIn L (fun d hd => h d (List.mem_cons_of_mem _ hd)) q))
theorem exm_none {M : Model} {K : PySem.W.Frag} {cs : List Addr} {cls : Value} {tp e : Addr} {h : Heap} (X : K.In h) (LT : PySem.W.Looks M h (typeOf (.ref e)) cls) (hp : h.get? tp = some { cls := .type "tuple", data := .seq (cs.map Value.ref).toArray })
    (hx : ∀ c ∈ cs, PySem.W.exmOne K cls (.ref c) = some false) : PySem.W.Looks M h (excMatches (.ref e) (.ref tp)) false := by
  intro A Q E s k₀ q
  obtain ⟨hh, g, d, tk, os⟩ := s
  have k : ∀ b o, h.get? b = some o → hh.get? b = some o := k₀
  have LTT : PySem.W.Looks M h (isInstance (.ref tp) (.type "tuple")) true := ((PySem.W.Looks.ld hp).andThen .now).andThen (PySem.W.Looks.of_pure isSubtype_tuple_tuple)
  have hpp := k _ _ hp
  unfold excMatches
  refine wpAny_bind ((LTT.keeps k).at ?_)
  dsimp only
  rw [if_pos rfl]
  first
    | refine wpAny_bind (wpAny_seqItems hpp rfl ?_)
    | refine wpAny_bind (wpAny_bind (wpAny_seqItems hpp rfl (wpAny_pure ?_)))
  dsimp only [Option.getD_some, Option.getD]
  have get : ∀ v ∈ cs.map Value.ref, PySem.W.exmOne K cls v = some false := fun v hv => by
    obtain ⟨c, hc, rfl⟩ := List.mem_map.mp hv
    exact hx c hc
  refine wpAny_bind (wpAny_pure (wpAny_bind (wp_forIn _ (fun c hc R r => ?_) ?_)))
  · have L1 := (PySem.W.exm_cls (M := M) X (get c hc)).1.keeps k
    refine wpAny_bind (L1.at ?_)
    rw [if_neg (by decide)]
    exact wpAny_pure r
  · refine wpAny_bind ((LT.keeps k).at ?_)
    refine wpAny_bind (wp_forIn _ (fun c hc R r => ?_) ?_)
    · have L1 := (PySem.W.exm_cls (M := M) X (get c hc)).2.keeps k
      refine wpAny_bind (L1.at ?_)
      rw [if_neg (by decide)]
      exact wpAny_pure r
    · exact wpAny_pure q
/-- an exception that was caught, kept -/
def ExK (cls : Value) (d : Option Addr) (a : Addr) : HO := .ext fun h => ∃ (oe : Obj) (vs : Array Value), h.get? a = some oe ∧ Zc cls d oe ∧ oe.data = .fields vs
theorem exK_ok {P : Program} {w : World} {H : Hp} {h : Heap} {a : Addr} {cls : Value} {d : Option Addr} {oe : Obj} {vs : Array Value} (e : h.get? a = some oe) (z : Zc cls d oe) (q : oe.data = .fields vs) : ObjOk P w H h a (ExK cls d a) :=
  ⟨⟨oe, vs, e, z, q⟩, ⟨oe, e⟩, fun _ _ ⟨o, v, q, r⟩ k => ⟨o, v, k o q, r⟩⟩
/-- what stood unseen is seen -/
theorem lay_old {X : Cx} {pins : List (Addr × Obj)} {σ : L2.St} {H : Hp} {s : Shared} {a : Addr} {o : HO} (I : Inv X pins σ H s) (hn : H a = none) (h0 : X.s_0.heap.get? a = none) (nl : a ≠ X.env.locals) (nc : ∀ v, ¬ s.heap.IsCell a v)
    (np : ∀ p ∈ X.pn ++ pins, p.1 ≠ a) (new : ObjOk X.prog X.w (upd H a o) s.heap a o) : Inv X pins σ (upd H a o) s where
  ok := I.ok
  os := I.os
  bare := I.bare
  base := { keep := I.base.keep, slot := I.base.slot, there := I.base.there
            free := fun b u q n x => by rw [upd_ne fun z => by rw [z, h0] at q; cases q]; exact I.base.free b u q n x
            tups := fun b xs q => by
              have t := I.base.tups b xs q
              rw [upd_ne fun z => by rw [z, hn] at t; cases t]; exact t
            frzs := fun b u xs q => by
              have t := I.base.frzs b u xs q
              rw [upd_ne fun z => by rw [z, hn] at t; cases t]; exact t
            tbls := fun b ps q => by
              obtain ⟨m, t⟩ := I.base.tbls b ps q
              exact ⟨m, by rw [upd_ne fun z => by rw [z, hn] at t; cases t]; exact t⟩ }
  loc := I.loc
  cell := I.cell
  free := by rw [upd_ne (Ne.symm nl)]; exact I.free
  freeC := fun x c e => by
    rw [upd_ne fun z => by
      obtain ⟨v, hv⟩ := I.cell x c e
      rw [z] at hv
      exact nc v hv]
    exact I.freeC x c e
  pin := fun p hp => by
    obtain ⟨q1, q2, q3⟩ := I.pin p hp
    exact ⟨q1, by rw [upd_ne (np p hp)]; exact q2, q3⟩
  hok := HOk.laidN I.hok (fun _ _ z => z) hn new
  len := I.len
/-- the ends of a suite: what is held is kept -/
def keptD (D : Ends) (f : L2.St → L2.St) (cls : Value) (d : Option Addr) (a : Addr) : Ends where
  nx := fun σ H => ∀ H2, Same H H2 → H2 a = some (ExK cls d a) → D.nx (f σ) H2
  rt := fun v H => ∀ H2, Same H H2 → H2 a = some (ExK cls d a) → D.rt v H2
  bk := fun σ H => ∀ H2, Same H H2 → H2 a = some (ExK cls d a) → D.bk (f σ) H2
  ct := fun σ H => ∀ H2, Same H H2 → H2 a = some (ExK cls d a) → D.ct (f σ) H2
/-- the names of a tuple of classes -/
inductive Tst (X : Cx) : List Expr → List Addr → Prop
  | nil : Tst X [] []
  | cons {x : Str} {c : Addr} {np : Pos} {es : List Expr} {cs : List Addr} (hc : Names X x (.ref c)) (hs : starEach (.Name x np :: es) X.env = (false, eval (.Name x np) X.env) :: starEach es X.env) (t : Tst X es cs) : Tst X (.Name x np :: es) (c :: cs)
/-- what the clauses do with an exception of the class cls -/
inductive Caught (X : Cx) (D : Ends) (Wout : WX) (cls : Value) (d : Option Addr) (σ : L2.St) (H : Hp) : List ExceptHandler → Prop
  | out (w : Wout cls d σ H) : Caught X D Wout cls d σ H []
  | skip {x : Str} {c : Addr} {np pos : Pos} {nm : Option Str} {b₀ : Stmt} {suite : List Stmt} {hds : List ExceptHandler} (hc : Names X x (.ref c)) (hx : PySem.W.exmOne X.K cls (.ref c) = some false) (r : Caught X D Wout cls d σ H hds) : Caught X D Wout cls d σ H (.ExceptHandler (some (.Name x np)) nm (b₀ :: suite) pos :: hds)
  | skipT {es : List Expr} {k : Nat} {cs : List Addr} {tp pos : Pos} {nm : Option Str} {b₀ : Stmt} {suite : List Stmt} {hds : List ExceptHandler} (t : Tst X es cs) (hz : cs.length ≤ 1000) (hx : ∀ c ∈ cs, PySem.W.exmOne X.K cls (.ref c) = some false) (r : Caught X D Wout cls d σ H hds) :
      Caught X D Wout cls d σ H (.ExceptHandler (some (.Tuple es k tp)) nm (b₀ :: suite) pos :: hds)
  | hit {x : Str} {c : Addr} {np pos : Pos} {b₀ : Stmt} {suite : List Stmt} {hds : List ExceptHandler} (hc : Names X x (.ref c)) (hx : PySem.W.exmOne X.K cls (.ref c) = some true)
      (q : ∀ a oe pn, H a = none → Zc cls d oe → (∃ vs, oe.data = .fields vs) → bW (suX X a ((a, oe) :: pn)) (b₀ :: suite) (keptD D id cls d a) σ H) : Caught X D Wout cls d σ H (.ExceptHandler (some (.Name x np)) none (b₀ :: suite) pos :: hds)
  | hitAs {x n : Str} {i : Nat} {c : Addr} {np pos : Pos} {b₀ : Stmt} {suite : List Stmt} {hds : List ExceptHandler} (hN : X.N.Nodup) (hi : X.N[i]? = some n) (hln : X.env.kindOf n = some .local) (hc : Names X x (.ref c)) (hx : PySem.W.exmOne X.K cls (.ref c) = some true)
      (q : ∀ a oe pn, H a = none → Zc cls d oe → (∃ vs, oe.data = .fields vs) → bW (suX X a ((a, oe) :: pn)) (b₀ :: suite) (keptD D (·.set i none) cls d a) (σ.set i (some (.ref a))) H) : Caught X D Wout cls d σ H (.ExceptHandler (some (.Name x np)) (some n) (b₀ :: suite) pos :: hds)
theorem tst_name {X : Cx} {a : Addr} {pn pins : List (Addr × Obj)} {σ : L2.St} {H : Hp} {s : Shared} {x : Str} {np : Pos} {c : Value} (hc : Names X x c) (S : Inv (X.suite a pn) pins σ H s) {Q : Value → Shared → Prop} {E : Value → Shared → Prop} (q : Q c s) :
    wpAny (model X.prog X.w) (X.A.mark (some (.ref a))) (eval (.Name x np) X.env) Q E s := by
  obtain ⟨hg, hdb, hm | ⟨hm, hv, hn⟩⟩ := hc
  · exact ld_glob (X := X.suite a pn) S hg hm q hdb
  · exact ld_blt (X := X.suite a pn) S hg hm hv q hn hdb
theorem tst_run {X : Cx} {a : Addr} {pn pins : List (Addr × Obj)} {σ : L2.St} {H : Hp} {s : Shared} {pos : Pos} (S : Inv (X.suite a pn) pins σ H s) {E : Value → Shared → Prop} : ∀ {es : List Expr} {cs : List Addr}, Tst X es cs → ∀ {Q : List Value → Shared → Prop}, Q (cs.map Value.ref) s →
    wpAny (model X.prog X.w) (X.A.mark (some (.ref a))) (spliced (backTo pos (starEach es X.env))) Q E s
  | _, _, .nil, Q, q => wpAny_pure q
  | _, _, .cons hc hs t, Q, q => by
    rw [hs]
    show wpAny _ _ (spliced ((false, eval _ X.env) :: backTo pos _)) _ _ s
    exact Calls.spliced_cons (tst_name hc S (tst_run S t q))
theorem s_tryC {X : Cx} {σ : L2.St} {H : Hp} {D : Ends} {pos : Pos} {body orelse : List Stmt} {h₀ : ExceptHandler} {hds : List ExceptHandler} {Wout : WX} [ct : CxT X Wout] (W : WX)
    (hw : ∀ cls d σ' H', W cls d σ' H' → Caught X D Wout cls d σ' H' (h₀ :: hds))
    (hb : ∀ pn xe, CxT (trX X pn xe) W → CxO (trX X pn xe) → bW (trX X pn xe) body (Dsq X orelse D) σ H)
    (hs : X.stack = X.env :: X.outer := by rfl) (hf : X.env.frame = some X.env.locals := by rfl) (hex : X.ex = [] := by rfl) : sW X (.Try body (h₀ :: hds) orelse [] pos) D σ H := by
  refine ⟨fun pins s I => ?_⟩
  have ok := I.ok
  have fr0 : X.A.frames = some (X.env :: X.outer) := by rw [ok.frames, hs]
  refine wpAny_Try_except ?_
  refine wpAny_mono ((hb (X.pn ++ pins) (fun e s1 => wpAny (model X.prog X.w) X.A (noteFrame e X.env) (fun _ s2 => wpAny (model X.prog X.w) X.A (setFlight e none) (fun _ s3 => wpAny (model X.prog X.w) X.A (handleBy e X.env (h₀ :: hds)) (SP X pins D) X.xe s3) X.xe s2) X.xe s1)
    ⟨fun u s' xx => ?_⟩ ⟨PassesOwn.looking⟩).run [] s (I.toTry _)) (fun f s1 hsp => ?_) (fun e s1 he => he)
  · obtain ⟨a, B, sI, pins', σ', H', cls, d, rfl, J0, nb, up, sky, na, os, ag, w⟩ := xx
    have JJ : Inv X pins σ' H' sI := J0.ofTry ok
    have sky2 : Sky B (X.env :: X.outer) a (Zc cls d) X.env.locals s'.heap := by rw [← hs]; exact sky
    show wpAny (model X.prog X.w) X.A (noteFrame (.ref a) X.env) _ _ _
    refine Sky.land Zc.steady fr0 hf sky2 fun h3 fl3 up3 => ?_
    have aB : B.get? a = none := fl3.2.1
    have nfr : a ∉ frs (X.env :: X.outer) := fun hm => by
      obtain ⟨oe3, vs3, he3, _, hd3⟩ := fl3.there
      obtain ⟨_, o', e', hnf⟩ := fl3.2.2.1.mem hm; rw [he3] at e'; cases e'; exact hnf _ hd3
    have nL : a ≠ X.env.locals := fun z => nfr (List.mem_filterMap.mpr ⟨X.env, List.mem_cons_self .., by rw [hf, z]⟩)
    have nF : a ∉ X.fs := fun hm => by
      obtain ⟨e, he, q⟩ := List.mem_filterMap.mp hm; exact nfr (List.mem_filterMap.mpr ⟨e, List.mem_cons_of_mem _ he, q⟩)
    have ngr : ∀ o, ¬ sI.heap.get? a = some o := fun o e => by
      have t := nb a o e (by show a ∉ frs X.stack; rw [hs]; exact nfr); rw [aB] at t; cases t
    have h0 : X.s_0.heap.get? a = none := by
      cases e : X.s_0.heap.get? a with
      | none => rfl
      | some o => obtain ⟨o', q⟩ := JJ.base.there a o e (by rw [hex]; simp); exact absurd q (ngr o')
    have np : ∀ p ∈ X.pn ++ pins, p.1 ≠ a := fun p hp z => ngr p.2 (by rw [← z]; exact (JJ.pin p hp).1)
    have fac : ∀ h, HandSPX.FlyingZ B (X.env :: X.outer) a (Zc cls d) h → sI.heap.UpToSlots h → Inv X pins σ' H' { s' with heap := h } ∧ ∃ oe, Zc cls d oe ∧ (∃ vs, oe.data = .fields vs) ∧ h.get? a = some oe ∧ Inv (X.suite a ((a, oe) :: (X.pn ++ pins))) [] σ' H' { s' with heap := h } := fun h fl u => by
      obtain ⟨oe, vs, he, hz, hd⟩ := fl.there
      have J : Inv X pins σ' H' { s' with heap := h } := JJ.landed nb fl.1 u os ag
      exact ⟨J, oe, hz, ⟨vs, hd⟩, he, J.suite he hd na nL nF⟩
    have kept6 : ∀ {oe : Obj} {σ6 : L2.St} {H6 : Hp} {s6 : Shared}, Zc cls d oe → (∃ vs, oe.data = .fields vs) → Inv (X.suite a ((a, oe) :: (X.pn ++ pins))) [] σ6 H6 s6 → Inv X pins σ6 (upd H6 a (ExK cls d a)) s6 ∧ Same H6 (upd H6 a (ExK cls d a)) := fun {oe σ6 H6 s6} hz hd S6 => by
      obtain ⟨vs, hd⟩ := hd
      obtain ⟨p1, p2, p3, p4, p5⟩ := S6.pin (a, oe) (List.mem_append_left _ (List.mem_cons_self ..))
      exact ⟨lay_old (S6.unsuite ok) p2 h0 nL (fun v ⟨o, q1, q2⟩ => by rw [p1] at q1; cases q1; exact p5 v q2) np (exK_ok p1 hz hd), sameU p2⟩
    have go : ∀ {hs2 : List ExceptHandler}, Caught X D Wout cls d σ' H' hs2 → ∀ h, HandSPX.FlyingZ B (X.env :: X.outer) a (Zc cls d) h → sI.heap.UpToSlots h → wpAny (model X.prog X.w) X.A (handleBy (.ref a) X.env hs2) (SP X pins D) X.xe { s' with heap := h } := by
      intro hs2 hk
      induction hk with
      | out w =>
        intro h fl u
        refine wpAny_handleBy_nil ?_
        obtain ⟨_, _, _, oe, vs, T, oT, ts, he, hz, hd, h1, hr⟩ := id fl
        unfold PySem.passOn; refine wpAny_bind (wpAny_field he hd h1 ?_); rw [if_neg (show ¬ ((Value.ref T == Value.none) = true) from by simp)]
        have fin : wpAny (model X.prog X.w) X.A (setFlight (.ref a) X.env.frame) (fun _ s4 => wpAny (model X.prog X.w) X.A (throw (.ref a) : Sem Flow) (SP X pins D) X.xe s4) X.xe { s' with heap := h } := by
          rw [hf]; exact HandSPX.setFlight_upZ fl fun h4 hh4 up4 => wpAny_throw (ct.h _ _ ⟨a, B, sI, pins, σ', H', cls, d, rfl, JJ, nb, u.trans up4, .inr (.inr (by rw [hs]; exact hh4)), na, os, ag, w⟩)
        first | exact wpAny_bind (wpAny_pure (wpAny_bind fin)) | exact wpAny_bind fin
      | skip hc hx r ih =>
        intro h fl u
        obtain ⟨J, oe, hz, hd, he, S⟩ := fac h fl u
        refine wpAny_handleBy_cons (codeAny_handlers_test ?_) (by intro q; cases q)
        have LT : PySem.W.Looks (model X.prog X.w) h (typeOf (.ref a)) cls := fun A Q E s k q => wpAny_typeOf_ref (k _ _ he) (by rw [hz.1]; exact q)
        refine tst_name hc S ((PySem.W.exm_one (M := model X.prog X.w) J.kIn LT hx).here ?_)
        exact ih h fl u
      | @skipT es k cs tp pos nm b₀ suite hds t hz1 hx r ih =>
        intro h fl u
        obtain ⟨J, oe, hz, hd, he, S⟩ := fac h fl u
        refine wpAny_handleBy_cons (codeAny_handlers_test ?_) (by intro q; cases q)
        refine wpAny_Tuple_spliced (tst_run S t ⟨by rw [List.length_map]; exact Nat.le_trans hz1 (by decide), ?_⟩)
        have kp : ∀ b o, h.get? b = some o → (h.push { cls := .type "tuple", data := .seq (cs.map Value.ref).toArray }).get? b = some o := fun b o e => Heap.get?_push_of_some _ e
        have fl2 : HandSPX.FlyingZ B (X.env :: X.outer) a (Zc cls d) (h.push { cls := .type "tuple", data := .seq (cs.map Value.ref).toArray }) := by
          obtain ⟨q1, q2, q3, oe', vs, T, oT, ts, r1, r2, r3, r4, r5, r6, r7, r8⟩ := id fl
          exact ⟨fun b o e => kp b o (q1 b o e), q2, q3.of_keeps fun b o e _ => ⟨o, kp b o e, rfl⟩, oe', vs, T, oT, ts, kp _ _ r1, r2, r3, r4, r5, r6, kp _ _ r7, r8⟩
        have u2 : sI.heap.UpToSlots (h.push { cls := .type "tuple", data := .seq (cs.map Value.ref).toArray }) := u.trans fun b o e _ => ⟨o.slots, kp b o e⟩
        have LT : PySem.W.Looks (model X.prog X.w) (h.push { cls := .type "tuple", data := .seq (cs.map Value.ref).toArray }) (typeOf (.ref a)) cls := fun A Q E s k q => wpAny_typeOf_ref (k _ _ (kp _ _ he)) (by rw [hz.1]; exact q)
        refine (exm_none (M := model X.prog X.w) (fac _ fl2 u2).1.kIn LT (Heap.get?_push_size _ rfl) hx).here ?_
        exact ih _ fl2 u2
      | hit hc hx q =>
        intro h fl u
        obtain ⟨J, oe, hz, hd, he, S⟩ := fac h fl u
        refine wpAny_handleBy_cons (codeAny_handlers_test ?_) (by intro q; cases q)
        have LT : PySem.W.Looks (model X.prog X.w) h (typeOf (.ref a)) cls := fun A Q E s k q => wpAny_typeOf_ref (k _ _ he) (by rw [hz.1]; exact q)
        refine tst_name hc S ((PySem.W.exm_one (M := model X.prog X.w) J.kIn LT hx).here ?_)
        refine codeAny_handlers_suite (HandSPX.lands_againZ fl fun h4 fl4 up4 => ?_)
        obtain ⟨J4, oe4, hz4, hd4, he4, S4⟩ := fac h4 fl4 (u.trans up4)
        refine wpAny_mono ((q a oe4 (X.pn ++ pins) na hz4 hd4).run [] _ S4) (fun f s6 hsp => ?_) fun _ _ z => False.elim z
        cases f with
        | next => obtain ⟨σ6, H6, S6, q6⟩ := hsp; obtain ⟨k1, k2⟩ := kept6 hz4 hd4 S6; exact ⟨_, _, k1, q6 _ k2 upd_same⟩
        | brk => obtain ⟨σ6, H6, S6, q6⟩ := hsp; obtain ⟨k1, k2⟩ := kept6 hz4 hd4 S6; exact ⟨_, _, k1, q6 _ k2 upd_same⟩
        | cont => obtain ⟨σ6, H6, S6, q6⟩ := hsp; obtain ⟨k1, k2⟩ := kept6 hz4 hd4 S6; exact ⟨_, _, k1, q6 _ k2 upd_same⟩
        | ret v => obtain ⟨v6, σ6, H6, S6, r6, q6⟩ := hsp; obtain ⟨k1, k2⟩ := kept6 hz4 hd4 S6; exact ⟨_, _, _, k1, r6, q6 _ k2 upd_same⟩
      | @hitAs x n i c np pos b₀ suite hds hN hi hln hc hx q =>
        intro h fl u
        obtain ⟨J, oe, hz, hd, he, S⟩ := fac h fl u
        refine wpAny_handleBy_cons (codeAny_handlers_test ?_) (by intro q; cases q)
        have LT : PySem.W.Looks (model X.prog X.w) h (typeOf (.ref a)) cls := fun A Q E s k q => wpAny_typeOf_ref (k _ _ he) (by rw [hz.1]; exact q)
        refine tst_name hc S ((PySem.W.exm_one (M := model X.prog X.w) J.kIn LT hx).here ?_)
        refine codeAny_handlers_suite_as (HandSPX.lands_againZ fl fun h4 fl4 up4 => ?_)
        obtain ⟨J4, oe4, hz4, hd4, he4, S4⟩ := fac h4 fl4 (u.trans up4)
        have hloc : Loc X.env.scope n := .inl hln
        refine store_ok (X := X.suite a ((a, oe4) :: (X.pn ++ pins))) (v := .ref a) S4 hN hi hloc rfl (fun s5 S5 => ?_) (.inr hln)
        refine wpAny_mono ((q a oe4 (X.pn ++ pins) na hz4 hd4).run [] s5 S5) (fun f s6 hsp => ?_) fun _ _ z => False.elim z
        cases f with
        | next => obtain ⟨σ6, H6, S6, q6⟩ := hsp; obtain ⟨k1, k2⟩ := kept6 hz4 hd4 S6; exact gone_ok k1 hN hi hln fun s7 J7 => ⟨_, _, J7, q6 _ k2 upd_same⟩
        | brk => obtain ⟨σ6, H6, S6, q6⟩ := hsp; obtain ⟨k1, k2⟩ := kept6 hz4 hd4 S6; exact gone_ok k1 hN hi hln fun s7 J7 => ⟨_, _, J7, q6 _ k2 upd_same⟩
        | cont => obtain ⟨σ6, H6, S6, q6⟩ := hsp; obtain ⟨k1, k2⟩ := kept6 hz4 hd4 S6; exact gone_ok k1 hN hi hln fun s7 J7 => ⟨_, _, J7, q6 _ k2 upd_same⟩
        | ret v => obtain ⟨v6, σ6, H6, S6, r6, q6⟩ := hsp; obtain ⟨k1, k2⟩ := kept6 hz4 hd4 S6; exact gone_ok k1 hN hi hln fun s7 J7 => ⟨_, _, _, J7, r6, q6 _ k2 upd_same⟩
    exact go (hw cls d σ' H' w) h3 fl3 (up.trans up3)
  · cases f with
    | next => obtain ⟨σ2, H2, J2, q⟩ := hsp; exact q.run pins s1 (J2.ofTry ok)
    | brk => obtain ⟨σ2, H2, J2, q⟩ := hsp; exact ⟨σ2, H2, J2.ofTry ok, q⟩
    | cont => obtain ⟨σ2, H2, J2, q⟩ := hsp; exact ⟨σ2, H2, J2.ofTry ok, q⟩
    | ret v => obtain ⟨v, σ2, H2, J2, r, q⟩ := hsp; exact ⟨v, σ2, H2, J2.ofTry ok, r, q⟩
section
variable {X : Cx} {H : Hp} {Q : VK} {x y : Str} {a C E : Addr} {b : Bool} {mg : Str → Option Value}
theorem instK {pins : List (Addr × Obj)} {σ : L2.St} {s : Shared} (I : Inv X pins σ H s) (hk : H a = some (ExK (.ref E) none a)) : ∃ oe, PySem.W.InstAt s.heap a oe E none := by
  obtain ⟨⟨oe, vs, e, z, hv⟩, _⟩ : ObjOk X.prog X.w H s.heap a (ExK (.ref E) none a) := I.hok a _ hk
  refine ⟨oe, ?_⟩
  obtain ⟨oc, od, oda, osl⟩ := oe
  obtain ⟨h1, h2⟩ := z
  dsimp only at h1 h2 hv
  subst h1 h2 hv
  exact ⟨e, rfl, rfl, trivial⟩
/-- isinstance(e, C), e an exception that was caught and kept -/
theorem k_isK (TD : ExcF X.K mg x E) (TC : ExcF X.K mg y C) (hk : H a = some (ExK (.ref E) none a)) (h : PySem.W.subIn X.K (.ref E) (.ref C) = some b) (q : Q (.bl b) H) : kW X (.builtin "isinstance") [.ref a, .ref C] H Q := by
  refine ⟨fun pins s σ us I r => ?_⟩
  cases r with
  | cons rx rr =>
    cases rr with
    | cons rt rr =>
      cases rr; cases rx; cases rt
      obtain ⟨oe, J⟩ := instK I hk
      have K := TD.excC
      exact PySem.W.kia_one (PySem.W.handS_kitx_exc K.hg K.hk K.hs K.hd K.ha K.hn K.ht K.hm) I.kIn J (TD.kit TC h) (fun z => nomatch z) fun tk => ⟨.bl b, H, I.kept (t' := tk) fun _ _ z => z, rfl, q⟩
theorem k_isKV (TD : ExcF X.K mg x E) (hk : H a = some (ExK (.ref E) none a)) (q : Q (.bl true) H) : kW X (.builtin "isinstance") [.ref a, .ty "ValueError"] H Q := by
  refine ⟨fun pins s σ us I r => ?_⟩
  cases r with
  | cons rx rr =>
    cases rr with
    | cons rt rr =>
      cases rr; cases rx; cases rt
      obtain ⟨oe, J⟩ := instK I hk
      have K := TD.excC
      exact PySem.W.kia_one (PySem.W.handS_kitx_exc K.hg K.hk K.hs K.hd K.ha K.hn K.ht K.hm) I.kIn J TD.kitVE (fun z => nomatch z) fun tk => ⟨.bl true, H, I.kept (t' := tk) fun _ _ z => z, rfl, q⟩
end
/-! ### list(reversed(xs)) -/
section
open RT
section
variable {prog : Program} {w : World} {A : Around} {E : Value → Shared → Prop} {s : Shared}
theorem wpAny_extend_rev {R : Result → Shared → Prop} (hh : A.handled = none) {it l : Addr} {items : Array Value} (S : Addr) (res : Value) (c₀ : Nat) (hS : s.heap.get? S = some { cls := .type "list", data := .seq #[] c₀ })
    (hit : s.heap.IsRevIter it l ((items.size : Int) - 1)) (hl : s.heap.IsList l items) (hne : l ≠ it) (hSi : S ≠ it) (hSl : S ≠ l) (hn : items.size ≤ sizeLine)
    (hR : ∀ h' tk acc' c', (∀ b o, b ≠ S → b ≠ it → s.heap.get? b = some o → h'.get? b = some o) → h'.get? S = some { cls := .type "list", dict := none, data := .seq acc' c', slots := #[] } →
      ItemsOf (fun i v => items[items.size - 1 - i]? = some v) acc' items.size → R (.ok (.ret res)) { s with heap := h', toks := tk }) :
    wpAny (model prog w) A.in1 (Builtin.List.listExtendWith (.ref S) (.ref it) res)
      (fun fin s' => match fin with | .done f => R (.ok f) s' | .again c' => c'.quiet = true ∧ codeAny (model prog w) A c' R s') (fun e s' => R (.error e) s') s := by
  have W := (Walks.listRev (prog := prog) (w := w) (A := A.in1) hh it l hne items).toS
  have hSf : S ∉ [it, l] := by simp only [List.mem_cons, List.not_mem_nil, or_false, not_or]; exact ⟨hSi, hSl⟩
  have hT : s.TypeIs (.ref it) "list_reverseiterator" := Heap.IsRevIter.typeIs hit
  have h1 : Builtin.List.listSameRef (.ref S) (.ref it) = false := by simp [Builtin.List.listSameRef, hSi]
  unfold Builtin.List.listExtendWith
  refine wpAny_bind (wpAny_typeOf hT ?_)
  rw [if_neg (by rw [h1]; decide)]
  refine wpAny_bind (wpAny_pyIter_revIter hit ?_)
  refine wpAny_bind (wpAny_holding ?_)
  unfold Builtin.List.listLengthHint
  refine wpAny_bind (wpAny_specialOf hT nolen_lri ?_)
  show wpAny _ A.in1 (specialOf (Value.ref it) (Str.ofString "__length_hint__") >>= _) _ _ _
  refine wpAny_bind (wpAny_specialOf hT hint_lri ?_)
  generalize hid : ("list_reverseiterator.__length_hint__" : String) = id0
  wp_delta
  rw [show splitId id0 = some ("list_reverseiterator", "__length_hint__") from by subst hid; decide +kernel]
  subst hid
  refine wpAny_bind (wpAny_isInstance (b := true) hT (by rw [isSubtype_type]; kernel_rfl) ?_)
  refine wpAny_pure ?_
  rw [if_neg (by decide)]
  have e0 : ((items.size : Nat) : Int) - 1 - ((0 : Nat) : Int) = (items.size : Int) - 1 := by omega
  refine wpAny_pure ⟨plainId_quiet F.plain_extend_loop _, codeAny_extend_loopS W hn _ hSf _ items.size 0 _ _ _ rfl (Nat.zero_le _) ⟨Nat.zero_le _, by rw [e0]; exact hit, hl⟩ hS (ItemsOf.nil _) fun s' acc' c' hm hS' hacc => ?_⟩
  rw [Moved.eq_with hm]
  refine hR s'.heap s'.toks acc' c' (fun b o hb hb2 e => hm.heap b o (fun hmem => ?_) e) hS' hacc
  rcases List.mem_cons.mp hmem with e' | hmem
  · exact hb e'
  · exact hb2 (List.mem_singleton.mp hmem)
theorem call_list_rev {it l : Addr} {items : Array Value} {Q : Value → Shared → Prop} (hh : A.handled = none) (hit : s.heap.IsRevIter it l ((items.size : Int) - 1)) (hl : s.heap.IsList l items) (hne : l ≠ it) (hn : items.size ≤ sizeLine)
    (hQ : ∀ h' tk acc' c', (∀ b o, b ≠ it → s.heap.get? b = some o → h'.get? b = some o) →
      h'.get? s.heap.objs.size = some { cls := .type "list", dict := none, data := .seq acc' c', slots := #[] } → ItemsOf (fun i v => items[items.size - 1 - i]? = some v) acc' items.size → Q (.ref s.heap.objs.size) { s with heap := h', toks := tk }) :
    wpAny (model prog w) A (call (.type "list") [.ref it]) Q E s := by
  obtain ⟨oi, hoi, _⟩ := id hit
  obtain ⟨ol, hol, _⟩ := id hl
  have hSi : s.heap.objs.size ≠ it := Nat.ne_of_gt (Heap.lt_size hoi)
  have hSl : s.heap.objs.size ≠ l := Nat.ne_of_gt (Heap.lt_size hol)
  refine callType_codes (Q₁ := fun obj s₁ => obj = .ref s.heap.objs.size ∧ s₁ = { s with heap := s.heap.push { cls := .type "list", data := .seq #[] } }) F.called_list (F.typeCall_list_1 _) F.entry_list_init
    (code_list_new _ ⟨rfl, rfl⟩) fun obj s₁ h₁ => ?_
  obtain ⟨rfl, rfl⟩ := h₁
  have hS : (s.heap.push { cls := .type "list", data := .seq #[] }).get? s.heap.objs.size = some { cls := .type "list", data := .seq #[] } := Heap.get?_push_size _ rfl
  have hit1 : (s.heap.push { cls := .type "list", data := .seq #[] }).IsRevIter it l ((items.size : Int) - 1) := hit.at fun o e => Heap.get?_push_of_some _ e
  have hl1 : (s.heap.push { cls := .type "list", data := .seq #[] }).IsList l items := hl.push _
  refine ⟨⟨_, hS, rfl⟩, F.args_list_init_2 _ _, ?_⟩
  show wpAny _ _ (do let old ← Builtin.List.listItems (.ref s.heap.objs.size); Builtin.List.listUpdate (.ref s.heap.objs.size) (fun _ => #[]); letGo old.toList.reverse; Builtin.List.listExtendWith (.ref s.heap.objs.size) (.ref it) .none) _ _ _
  refine wpAny_bind ?_
  unfold Builtin.List.listItems
  refine wpAny_bind (wpAny_seqItems hS rfl (wpAny_pure ?_))
  show wpAny _ _ (updateSeq s.heap.objs.size (fun _ => #[]) >>= fun _ => letGo (#[] : Array Value).toList.reverse >>= fun _ => Builtin.List.listExtendWith (.ref s.heap.objs.size) (.ref it) .none) _ _ _
  refine wpAny_bind (wpAny_updateSeq hS rfl ?_)
  have hS₂ := Heap.get?_update_self (Obj.mapSeq (fun _ => (#[] : Array Value))) hS rfl
  have oth : ∀ b o, b ≠ s.heap.objs.size → (s.heap.push { cls := .type "list", data := .seq #[] }).get? b = some o → ((s.heap.push { cls := .type "list", data := .seq #[] }).update s.heap.objs.size (Obj.mapSeq (fun _ => (#[] : Array Value)))).get? b = some o :=
    fun b o hb e => (Heap.get?_update_other _ _ (Ne.symm hb)).trans e
  have hit2 : ((s.heap.push { cls := .type "list", data := .seq #[] }).update s.heap.objs.size (Obj.mapSeq (fun _ => (#[] : Array Value)))).IsRevIter it l ((items.size : Int) - 1) := hit1.at fun o e => oth it o hSi.symm e
  have hl2 : ((s.heap.push { cls := .type "list", data := .seq #[] }).update s.heap.objs.size (Obj.mapSeq (fun _ => (#[] : Array Value)))).IsList l items := by
    obtain ⟨o, ho, r⟩ := hl1
    exact ⟨o, oth l o hSl.symm ho, r⟩
  refine wpAny_bind (wpAny_letGo ?_)
  refine wpAny_extend_rev (s := { s with heap := (s.heap.push { cls := .type "list", data := .seq #[] }).update s.heap.objs.size (Obj.mapSeq (fun _ => (#[] : Array Value))) }) (R := wants (fun r s₂ => r = Value.none ∧ Q (Value.ref s.heap.objs.size) s₂) E) (A := A.in1) hh s.heap.objs.size .none _ hS₂ hit2 hl2 hne hSi hSl hn fun h' tk acc' c' hk hS' hacc => ?_
  exact ⟨rfl, hQ h' tk acc' c' (fun b o hb e => hk b o (Nat.ne_of_lt (Heap.lt_size e)) hb (oth b o (Nat.ne_of_lt (Heap.lt_size e)) (Heap.get?_push_of_some _ e))) hS' hacc⟩
end
/-- list(reversed(xs)), xs a list -/
theorem e_listRev {X : Cx} {σ : L2.St} {H : Hp} {Q : VK} {e : Expr} {p p2 pos pos2 : Pos} {mg : Str → Option Value} [cc : CxC X] [cm : CxM X mg] [g1 : Gn mg "list" none] [g2 : Gn mg "reversed" none]
    (h : eW X e σ H fun v H1 => ∃ (a : Addr) (xs : List V), v = .ref a ∧ SqL X.K H1 a xs ∧ ∀ l H2, Same H1 H2 → H1 l = none → H2 l = some (.lst xs.reverse) → (∀ b, b ≠ l → H2 b = H1 b) → Q (.ref l) H2)
    (hg : Gl X "list" := by rfl) (hg2 : Gl X "reversed" := by rfl) (hs : starEach [e] X.env = (false, eval e X.env) :: starEach [] X.env := by rfl)
    (hs2 : starEach [.Call (.Name "reversed" p2) [e] [] pos2] X.env = (false, eval (.Call (.Name "reversed" p2) [e] [] pos2) X.env) :: starEach [] X.env := by rfl) : eW X (.Call (.Name "list" p) [.Call (.Name "reversed" p2) [e] [] pos2] [] pos) σ H Q := by
  refine ⟨fun pins s I => ?_⟩
  have hm : X.mg "list" = none := by rw [cm.h]; exact g1.h
  have hm2 : X.mg "reversed" = none := by rw [cm.h]; exact g2.h
  refine Call_ (ld_blt I hg hm boot_list (PyProof.Rows.callWith_type1 (args_cons (Call_ (ld_blt I hg2 hm2 PyProof.Rows.boot_reversed (PyProof.Rows.callWith_type1 (args_cons (thn (h.run pins s I) fun u s1 ⟨v, H1, I1, r1, q1⟩ => args_nil ?_) hs) hs rfl))) hs2) hs2 rfl))
  obtain ⟨a, xs, ev, hq, q⟩ := q1
  subst ev
  obtain rfl : u = Value.ref a := r1
  obtain ⟨its, rv, p', hz⟩ := I1.list hq
  refine call_reversed_list p'.isList (args_nil ?_)
  have k0 : ∀ b o, s1.heap.get? b = some o → (s1.heap.push (revObj a ((its.toArray.size : Int) - 1))).get? b = some o := fun b o e => Heap.get?_push_of_some _ e
  have I2 : Inv X pins σ H1 { s1 with heap := s1.heap.push (revObj a ((its.toArray.size : Int) - 1)) } := I1.kept (t' := s1.toks) k0
  obtain ⟨f0, f1, f2, f3, f4, f5⟩ := I1.fpOk (H' := H1) (b := s1.heap.objs.size) (Nat.le_refl _) (I1.hok.fresh (Nat.le_refl _))
  have hl := p'.isList
  obtain ⟨ol, hol, _⟩ := id hl
  have hne : a ≠ s1.heap.objs.size := Nat.ne_of_lt (Heap.lt_size hol)
  have hn : its.toArray.size ≤ sizeLine := by rw [List.size_toArray, ← rv.length]; exact hz
  refine call_list_rev (s := { s1 with heap := s1.heap.push (revObj a ((its.toArray.size : Int) - 1)) }) (I1.ok.hd cc.h) ⟨_, Heap.get?_push_size _ rfl, rfl, rfl⟩ (hl.push _) hne hn fun h' tk acc c' hk hS hi => ?_
  have I3 : Inv X pins σ H1 { s1 with heap := h', toks := tk } := I2.turned (t' := tk) (fun b o hb e => hk b o hb e) f0 f1 f3 f4 f5
  have hn1 : H1 (s1.heap.push (revObj a ((its.toArray.size : Int) - 1))).objs.size = none := I2.hok.fresh (Nat.le_refl _)
  refine ⟨.ref _, upd H1 (s1.heap.push (revObj a ((its.toArray.size : Int) - 1))).objs.size (.lst xs.reverse), I1.laid (t' := tk) (fun b u e => hk b u (Nat.ne_of_lt (Heap.lt_size e)) (k0 b u e)) ?_ ⟨by rw [List.length_reverse]; exact hz, acc.toList, c', RT.vals_rev rv hi, by simpa using hS⟩, rfl, q _ _ (sameU hn1) hn1 upd_same fun b hb => upd_ne hb⟩
  show s1.heap.objs.size ≤ _
  rw [Heap.size_push]
  omega
end
/-! ### comprehensions with one if, told turn by turn -/
section
variable {X : Cx} {σ : L2.St} {H : Hp} {Q : VK} {pos p2 p3 : Pos} {it tg elt cnd : Expr} {D : Ends}
theorem lcF_h {sc : Scope} {own : List (Str × Nat)} {R : Addr → Hp → Prop} (c : Nat → Bool) (ys : Nat → V)
    (h : jW X tg it σ H fun J H1 => ∃ n G Y, Walk J n G Y ∧ n ≤ 100000 ∧ (∀ H', Same H1 H' → G H') ∧
      (∀ i x H' H2, i < n → Same H1 H' → Y i H' x H2 → Same H' H2 ∧ gB X sc tg x (wipe σ (own.map (·.2))) H2 fun σ3 H3 => wipe σ3 (own.map (·.2)) = wipe σ (own.map (·.2)) ∧ Same H2 H3 ∧ tB' X sc cnd σ3 H3 fun k H4 => Same H3 H4 ∧ k = c i ∧ (k = true → eB X sc elt σ3 H4 fun y H5 => y = ys i ∧ Same H4 H5)) ∧
      ∀ l H', Same H1 H' → H1 l = none → H' l = some (.lst (((List.range n).filter c).map ys)) → R l H') :
    jW X tg it σ H fun J H1 => ∃ n G Y, Walk J n G Y ∧ ∀ D, H1 D = none → ∃ Pv : Nat → Hp → Prop, Pv 0 (upd H1 D (.lst [])) ∧ (∀ i H', i ≤ n → Pv i H' → G H') ∧
      (∀ i x H' H2, i < n → Pv i H' → Y i H' x H2 → gB X sc tg x (wipe σ (own.map (·.2))) H2 fun σ3 H3 => wipe σ3 (own.map (·.2)) = wipe σ (own.map (·.2)) ∧ tB' X sc cnd σ3 H3 fun k H4 => if k = true then eB X sc elt σ3 H4 fun y H5 => ∃ acc, H5 D = some (.lst acc) ∧ acc.length < sizeLine ∧ Pv (i + 1) (upd H5 D (.lst (acc ++ [y]))) else Pv (i + 1) H4) ∧
      ∀ H', Pv n H' → R D H' := by
  refine ⟨fun pins s I => wpAny_mono (h.run pins s I) (fun v s1 q => wpAny_mono q (fun u s2 ⟨i, fp, tn, J, H2, e, I2, T, t0, f2, n, G, Y, w, hn, q1, q2, q3⟩ => ⟨i, fp, tn, J, H2, e, I2, T, t0, f2, n, G, Y, w, fun D' hD => ⟨fun i H' => Same H2 H' ∧ H' D' = some (.lst (((List.range i).filter c).map ys)), ⟨sameU hD, upd_same⟩, fun _ _ _ p => q1 _ p.1, fun i x H' H3 hi p y s0 H0 C cl fp => ?_, fun H' p => q3 D' H' p.1 hD p.2⟩⟩) fun _ _ z => z) fun _ _ z => z⟩
  obtain ⟨k1, k2⟩ := q2 i x H' H3 hi p.1 y
  obtain ⟨p1, p2⟩ := p
  have step : (List.range (i + 1)).filter c = (List.range i).filter c ++ (if c i = true then [i] else []) := by
    rw [List.range_succ, List.filter_append]
    congr 1
    by_cases q : c i = true
    · rw [if_pos q, List.filter_cons_of_pos q, List.filter_nil]
    · rw [if_neg q, List.filter_cons_of_neg q, List.filter_nil]
  refine ⟨fun pins s' u I r => wpAny_mono ((k2 s0 H0 C cl fp).run pins s' u I r) (fun _ s'' ⟨σ', H'', I'', e1, e2, e3⟩ => ⟨σ', H'', I'', e1, fun s0 H0 C cl fp => ⟨fun pins s' I => wpAny_mono ((e3 s0 H0 C cl fp).run pins s' I) (fun u s4 ⟨H4, I4, e4, ek, ey⟩ => ⟨H4, I4, ?_⟩) fun _ _ z => z⟩⟩) fun _ _ z => z⟩
  have s4' : Same H' H4 := fun b o q => e4 _ _ (e2 _ _ (k1 _ _ q))
  cases u with
  | false =>
    refine iteF ⟨fun b o q => s4' _ _ (p1 _ _ q), ?_⟩
    rw [step, if_neg (by rw [← ek]; exact Bool.false_ne_true), List.append_nil]
    exact s4' _ _ p2
  | true =>
    refine iteT fun s0 H0 C cl fp => ⟨fun pins s' I => wpAny_mono ((ey rfl s0 H0 C cl fp).run pins s' I) (fun u s5 ⟨v5, H5, I5, r5, ev, e5⟩ => ⟨v5, H5, I5, r5, _, e5 _ _ (s4' _ _ p2), ?_, ?_, ?_⟩) fun _ _ z => z⟩
    · rw [List.length_map]
      have := List.length_filter_le c (List.range i)
      rw [List.length_range] at this
      rw [sizeLine_eq]
      omega
    · intro b o e
      rw [upd_ne (ne_of_none e hD)]
      exact e5 _ _ (s4' _ _ (p1 _ _ e))
    · rw [upd_same, step, if_pos ek.symm, List.map_append, ev]
      rfl
theorem e_lcF {sc : Scope} {N : List Str} {own : List (Str × Nat)} [cc : CxC X] [cn : CxN X N] [nd : NdN N] (ok : BlkOk N X.env.scope sc own) (c : Nat → Bool) (ys : Nat → V)
    (h : jW X tg it σ H fun J H1 => ∃ n G Y, Walk J n G Y ∧ n ≤ 100000 ∧ (∀ H', Same H1 H' → G H') ∧
      (∀ i x H' H2, i < n → Same H1 H' → Y i H' x H2 → Same H' H2 ∧ gB X sc tg x (wipe σ (own.map (·.2))) H2 fun σ3 H3 => wipe σ3 (own.map (·.2)) = wipe σ (own.map (·.2)) ∧ Same H2 H3 ∧ tB' X sc cnd σ3 H3 fun k H4 => Same H3 H4 ∧ k = c i ∧ (k = true → eB X sc elt σ3 H4 fun y H5 => y = ys i ∧ Same H4 H5)) ∧
      ∀ l H', Same H1 H' → H1 l = none → H' l = some (.lst (((List.range n).filter c).map ys)) → Q (.ref l) H') (hs : ∀ x, foldedSetIterable it X.env x = pure x := by intro _; rfl) : eW X (.ListComp elt [⟨tg, it, [cnd], 0⟩] sc pos) σ H Q :=
  e_lcI ok (lcF_h (R := fun l H' => Q (.ref l) H') c ys h) hs
theorem s_setLcF {sc : Scope} {N : List Str} {own : List (Str × Nat)} {y : Str} {i : Nat} [cc : CxC X] [cn : CxN X N] [sl : Slt N y i] [nd : NdN N] (ok : BlkOk N X.env.scope sc own) (c : Nat → Bool) (ys : Nat → V)
    (h : jW X tg it σ H fun J H1 => ∃ n G Y, Walk J n G Y ∧ n ≤ 100000 ∧ (∀ H', Same H1 H' → G H') ∧
      (∀ i x H' H2, i < n → Same H1 H' → Y i H' x H2 → Same H' H2 ∧ gB X sc tg x (wipe σ (own.map (·.2))) H2 fun σ3 H3 => wipe σ3 (own.map (·.2)) = wipe σ (own.map (·.2)) ∧ Same H2 H3 ∧ tB' X sc cnd σ3 H3 fun k H4 => Same H3 H4 ∧ k = c i ∧ (k = true → eB X sc elt σ3 H4 fun y H5 => y = ys i ∧ Same H4 H5)) ∧
      ∀ l H', Same H1 H' → H1 l = none → H' l = some (.lst (((List.range n).filter c).map ys)) → D.nx (σ.set i (some (.ref l))) H') (hyl : X.env.scope.names.lookup y = some .local := by rfl)
    (hsw : swapsWith (.ListComp elt [⟨tg, it, [cnd], 0⟩] sc pos) (some (.Name y p2)) p3.line X.env = pure true := by exact sw_true rfl rfl rfl (by decide +kernel)) (hs : ∀ x, foldedSetIterable it X.env x = pure x := by intro _; rfl) : sW X (.Assign [.Name y p2] (.ListComp elt [⟨tg, it, [cnd], 0⟩] sc pos) p3) D σ H :=
  s_setLcI ok (lcF_h (R := fun l H' => D.nx (σ.set i (some (.ref l))) H') c ys h) hyl hsw hs
theorem lcG_h {sc : Scope} {own : List (Str × Nat)} {R : Addr → Hp → Prop}
    (h : jW X tg it σ H fun J H1 => ∃ c : Nat → Bool, ∃ ys : Nat → V, ∃ n G Y, Walk J n G Y ∧ n ≤ 100000 ∧ (∀ H', Same H1 H' → G H') ∧
      (∀ i x H' H2, i < n → Same H1 H' → Y i H' x H2 → Same H' H2 ∧ gB X sc tg x (wipe σ (own.map (·.2))) H2 fun σ3 H3 => wipe σ3 (own.map (·.2)) = wipe σ (own.map (·.2)) ∧ Same H2 H3 ∧ tB' X sc cnd σ3 H3 fun k H4 => Same H3 H4 ∧ k = c i ∧ (k = true → eB X sc elt σ3 H4 fun y H5 => y = ys i ∧ Same H4 H5)) ∧
      ∀ l H', Same H1 H' → H1 l = none → H' l = some (.lst (((List.range n).filter c).map ys)) → R l H') :
    jW X tg it σ H fun J H1 => ∃ n G Y, Walk J n G Y ∧ ∀ D, H1 D = none → ∃ Pv : Nat → Hp → Prop, Pv 0 (upd H1 D (.lst [])) ∧ (∀ i H', i ≤ n → Pv i H' → G H') ∧
      (∀ i x H' H2, i < n → Pv i H' → Y i H' x H2 → gB X sc tg x (wipe σ (own.map (·.2))) H2 fun σ3 H3 => wipe σ3 (own.map (·.2)) = wipe σ (own.map (·.2)) ∧ tB' X sc cnd σ3 H3 fun k H4 => if k = true then eB X sc elt σ3 H4 fun y H5 => ∃ acc, H5 D = some (.lst acc) ∧ acc.length < sizeLine ∧ Pv (i + 1) (upd H5 D (.lst (acc ++ [y]))) else Pv (i + 1) H4) ∧
      ∀ H', Pv n H' → R D H' := by
  refine ⟨fun pins s I => wpAny_mono (h.run pins s I) (fun v s1 q => wpAny_mono q (fun u s2 ⟨i, fp, tn, J, H2, e, I2, T, t0, f2, c, ys, n, G, Y, w, hn, q1, q2, q3⟩ => ⟨i, fp, tn, J, H2, e, I2, T, t0, f2, n, G, Y, w, fun D' hD => ⟨fun i H' => Same H2 H' ∧ H' D' = some (.lst (((List.range i).filter c).map ys)), ⟨sameU hD, upd_same⟩, fun _ _ _ p => q1 _ p.1, fun i x H' H3 hi p y s0 H0 C cl fp => ?_, fun H' p => q3 D' H' p.1 hD p.2⟩⟩) fun _ _ z => z) fun _ _ z => z⟩
  obtain ⟨k1, k2⟩ := q2 i x H' H3 hi p.1 y
  obtain ⟨p1, p2⟩ := p
  have step : (List.range (i + 1)).filter c = (List.range i).filter c ++ (if c i = true then [i] else []) := by
    rw [List.range_succ, List.filter_append]
    congr 1
    by_cases q : c i = true
    · rw [if_pos q, List.filter_cons_of_pos q, List.filter_nil]
    · rw [if_neg q, List.filter_cons_of_neg q, List.filter_nil]
  refine ⟨fun pins s' u I r => wpAny_mono ((k2 s0 H0 C cl fp).run pins s' u I r) (fun _ s'' ⟨σ', H'', I'', e1, e2, e3⟩ => ⟨σ', H'', I'', e1, fun s0 H0 C cl fp => ⟨fun pins s' I => wpAny_mono ((e3 s0 H0 C cl fp).run pins s' I) (fun u s4 ⟨H4, I4, e4, ek, ey⟩ => ⟨H4, I4, ?_⟩) fun _ _ z => z⟩⟩) fun _ _ z => z⟩
  have s4' : Same H' H4 := fun b o q => e4 _ _ (e2 _ _ (k1 _ _ q))
  cases u with
  | false =>
    refine iteF ⟨fun b o q => s4' _ _ (p1 _ _ q), ?_⟩
    rw [step, if_neg (by rw [← ek]; exact Bool.false_ne_true), List.append_nil]
    exact s4' _ _ p2
  | true =>
    refine iteT fun s0 H0 C cl fp => ⟨fun pins s' I => wpAny_mono ((ey rfl s0 H0 C cl fp).run pins s' I) (fun u s5 ⟨v5, H5, I5, r5, ev, e5⟩ => ⟨v5, H5, I5, r5, _, e5 _ _ (s4' _ _ p2), ?_, ?_, ?_⟩) fun _ _ z => z⟩
    · rw [List.length_map]
      have := List.length_filter_le c (List.range i)
      rw [List.length_range] at this
      rw [sizeLine_eq]
      omega
    · intro b o e
      rw [upd_ne (ne_of_none e hD)]
      exact e5 _ _ (s4' _ _ (p1 _ _ e))
    · rw [upd_same, step, if_pos ek.symm, List.map_append, ev]
      rfl
theorem e_lcG {sc : Scope} {N : List Str} {own : List (Str × Nat)} [cc : CxC X] [cn : CxN X N] [nd : NdN N] (ok : BlkOk N X.env.scope sc own)
    (h : jW X tg it σ H fun J H1 => ∃ c : Nat → Bool, ∃ ys : Nat → V, ∃ n G Y, Walk J n G Y ∧ n ≤ 100000 ∧ (∀ H', Same H1 H' → G H') ∧
      (∀ i x H' H2, i < n → Same H1 H' → Y i H' x H2 → Same H' H2 ∧ gB X sc tg x (wipe σ (own.map (·.2))) H2 fun σ3 H3 => wipe σ3 (own.map (·.2)) = wipe σ (own.map (·.2)) ∧ Same H2 H3 ∧ tB' X sc cnd σ3 H3 fun k H4 => Same H3 H4 ∧ k = c i ∧ (k = true → eB X sc elt σ3 H4 fun y H5 => y = ys i ∧ Same H4 H5)) ∧
      ∀ l H', Same H1 H' → H1 l = none → H' l = some (.lst (((List.range n).filter c).map ys)) → Q (.ref l) H') (hs : ∀ x, foldedSetIterable it X.env x = pure x := by intro _; rfl) : eW X (.ListComp elt [⟨tg, it, [cnd], 0⟩] sc pos) σ H Q :=
  e_lcI ok (lcG_h (R := fun l H' => Q (.ref l) H') h) hs
theorem s_setLcG {sc : Scope} {N : List Str} {own : List (Str × Nat)} {y : Str} {i : Nat} [cc : CxC X] [cn : CxN X N] [sl : Slt N y i] [nd : NdN N] (ok : BlkOk N X.env.scope sc own)
    (h : jW X tg it σ H fun J H1 => ∃ c : Nat → Bool, ∃ ys : Nat → V, ∃ n G Y, Walk J n G Y ∧ n ≤ 100000 ∧ (∀ H', Same H1 H' → G H') ∧
      (∀ i x H' H2, i < n → Same H1 H' → Y i H' x H2 → Same H' H2 ∧ gB X sc tg x (wipe σ (own.map (·.2))) H2 fun σ3 H3 => wipe σ3 (own.map (·.2)) = wipe σ (own.map (·.2)) ∧ Same H2 H3 ∧ tB' X sc cnd σ3 H3 fun k H4 => Same H3 H4 ∧ k = c i ∧ (k = true → eB X sc elt σ3 H4 fun y H5 => y = ys i ∧ Same H4 H5)) ∧
      ∀ l H', Same H1 H' → H1 l = none → H' l = some (.lst (((List.range n).filter c).map ys)) → D.nx (σ.set i (some (.ref l))) H') (hyl : X.env.scope.names.lookup y = some .local := by rfl)
    (hsw : swapsWith (.ListComp elt [⟨tg, it, [cnd], 0⟩] sc pos) (some (.Name y p2)) p3.line X.env = pure true := by exact sw_true rfl rfl rfl (by decide +kernel)) (hs : ∀ x, foldedSetIterable it X.env x = pure x := by intro _; rfl) : sW X (.Assign [.Name y p2] (.ListComp elt [⟨tg, it, [cnd], 0⟩] sc pos) p3) D σ H :=
  s_setLcI ok (lcG_h (R := fun l H' => D.nx (σ.set i (some (.ref l))) H') h) hyl hsw hs
theorem e_lcQ {sc : Scope} {N : List Str} {own : List (Str × Nat)} [cc : CxC X] [cn : CxN X N] [nd : NdN N] (ok : BlkOk N X.env.scope sc own)
    (h : jW X tg it σ H fun J H1 => ∃ Pr : Nat → V → Prop, ∃ n G Y, Walk J n G Y ∧ n ≤ 100000 ∧ (∀ H', Same H1 H' → G H') ∧
      (∀ i x H' H2, i < n → Same H1 H' → Y i H' x H2 → Same H' H2 ∧ gB X sc tg x (wipe σ (own.map (·.2))) H2 fun σ3 H3 => wipe σ3 (own.map (·.2)) = wipe σ (own.map (·.2)) ∧ Same H2 H3 ∧ eB X sc elt σ3 H3 fun y H4 => Pr i y ∧ Same H3 H4) ∧
      ∀ l H' ys, Same H1 H' → H1 l = none → H' l = some (.lst ys) → ys.length = n → (∀ i y, ys[i]? = some y → Pr i y) → Q (.ref l) H') (hs : ∀ x, foldedSetIterable it X.env x = pure x := by intro _; rfl) : eW X (.ListComp elt [⟨tg, it, [], 0⟩] sc pos) σ H Q := by
  refine e_lc ok ⟨fun pins s I => wpAny_mono (h.run pins s I) (fun v s1 q => wpAny_mono q (fun u s2 ⟨i, fp, tn, J, H2, e, I2, T, t0, f2, Pr, n, G, Y, w, hn, q1, q2, q3⟩ => ⟨i, fp, tn, J, H2, e, I2, T, t0, f2, n, G, Y, w, fun D' hD => ⟨fun i H' => Same H2 H' ∧ ∃ acc, H' D' = some (.lst acc) ∧ acc.length = i ∧ ∀ j z, acc[j]? = some z → Pr j z, ⟨fun b o e => by rw [upd_ne (ne_of_none e hD)]; exact e, [], upd_same, rfl, by simp⟩, fun _ _ _ p => q1 _ p.1, fun i x H' H3 hi p y s0 H0 C cl fp => ?_, fun H' p => by
    obtain ⟨p1, acc, p2, p3, p4⟩ := p
    exact q3 D' H' acc p1 hD p2 p3 p4⟩⟩) fun _ _ z => z) fun _ _ z => z⟩ hs
  obtain ⟨k1, k2⟩ := q2 i x H' H3 hi p.1 y
  obtain ⟨p1, acc, p2, p3, p4⟩ := p
  refine ⟨fun pins s' u I r => wpAny_mono ((k2 s0 H0 C cl fp).run pins s' u I r) (fun _ s'' ⟨σ', H'', I'', e1, e2, e3⟩ => ⟨σ', H'', I'', e1, fun s0 H0 C cl fp => ⟨fun pins s' I => wpAny_mono ((e3 s0 H0 C cl fp).run pins s' I) (fun u s4 ⟨v4, H4, I4, r4, ev, e4⟩ => ⟨v4, H4, I4, r4, acc, e4 _ _ (e2 _ _ (k1 _ _ p2)), ?_, ?_, acc ++ [v4], upd_same, ?_, ?_⟩) fun _ _ z => z⟩⟩) fun _ _ z => z⟩
  · rw [p3]
    exact Nat.lt_of_lt_of_le (Nat.lt_of_lt_of_le hi hn) (by decide)
  · intro b o e
    rw [upd_ne (ne_of_none e hD)]
    exact e4 _ _ (e2 _ _ (k1 _ _ (p1 _ _ e)))
  · rw [List.length_append, p3]; rfl
  · intro j z hz
    by_cases hj : j < i
    · rw [List.getElem?_append_left (by omega)] at hz
      exact p4 j z hz
    · rw [List.getElem?_append_right (by omega), p3] at hz
      have hj2 : j = i := by
        have := (List.getElem?_eq_some_iff.mp hz).1
        simp at this
        omega
      subst hj2
      simp at hz
      rw [← hz]
      exact ev
theorem s_setLcQ {sc : Scope} {N : List Str} {own : List (Str × Nat)} {y : Str} {i : Nat} [cc : CxC X] [cn : CxN X N] [sl : Slt N y i] [nd : NdN N] (ok : BlkOk N X.env.scope sc own)
    (h : jW X tg it σ H fun J H1 => ∃ Pr : Nat → V → Prop, ∃ n G Y, Walk J n G Y ∧ n ≤ 100000 ∧ (∀ H', Same H1 H' → G H') ∧
      (∀ i x H' H2, i < n → Same H1 H' → Y i H' x H2 → Same H' H2 ∧ gB X sc tg x (wipe σ (own.map (·.2))) H2 fun σ3 H3 => wipe σ3 (own.map (·.2)) = wipe σ (own.map (·.2)) ∧ Same H2 H3 ∧ eB X sc elt σ3 H3 fun y H4 => Pr i y ∧ Same H3 H4) ∧
      ∀ l H' ys, Same H1 H' → H1 l = none → H' l = some (.lst ys) → ys.length = n → (∀ i y, ys[i]? = some y → Pr i y) → D.nx (σ.set i (some (.ref l))) H') (hyl : X.env.scope.names.lookup y = some .local := by rfl)
    (hsw : swapsWith (.ListComp elt [⟨tg, it, [], 0⟩] sc pos) (some (.Name y p2)) p3.line X.env = pure true := by exact sw_true rfl rfl rfl (by decide +kernel)) (hs : ∀ x, foldedSetIterable it X.env x = pure x := by intro _; rfl) : sW X (.Assign [.Name y p2] (.ListComp elt [⟨tg, it, [], 0⟩] sc pos) p3) D σ H := by
  refine s_setLc ok ⟨fun pins s I => wpAny_mono (h.run pins s I) (fun v s1 q => wpAny_mono q (fun u s2 ⟨i, fp, tn, J, H2, e, I2, T, t0, f2, Pr, n, G, Y, w, hn, q1, q2, q3⟩ => ⟨i, fp, tn, J, H2, e, I2, T, t0, f2, n, G, Y, w, fun D' hD => ⟨fun i H' => Same H2 H' ∧ ∃ acc, H' D' = some (.lst acc) ∧ acc.length = i ∧ ∀ j z, acc[j]? = some z → Pr j z, ⟨fun b o e => by rw [upd_ne (ne_of_none e hD)]; exact e, [], upd_same, rfl, by simp⟩, fun _ _ _ p => q1 _ p.1, fun i x H' H3 hi p y s0 H0 C cl fp => ?_, fun H' p => by
    obtain ⟨p1, acc, p2, p3, p4⟩ := p
    exact q3 D' H' acc p1 hD p2 p3 p4⟩⟩) fun _ _ z => z) fun _ _ z => z⟩ hyl hsw hs
  obtain ⟨k1, k2⟩ := q2 i x H' H3 hi p.1 y
  obtain ⟨p1, acc, p2, p3, p4⟩ := p
  refine ⟨fun pins s' u I r => wpAny_mono ((k2 s0 H0 C cl fp).run pins s' u I r) (fun _ s'' ⟨σ', H'', I'', e1, e2, e3⟩ => ⟨σ', H'', I'', e1, fun s0 H0 C cl fp => ⟨fun pins s' I => wpAny_mono ((e3 s0 H0 C cl fp).run pins s' I) (fun u s4 ⟨v4, H4, I4, r4, ev, e4⟩ => ⟨v4, H4, I4, r4, acc, e4 _ _ (e2 _ _ (k1 _ _ p2)), ?_, ?_, acc ++ [v4], upd_same, ?_, ?_⟩) fun _ _ z => z⟩⟩) fun _ _ z => z⟩
  · rw [p3]
    exact Nat.lt_of_lt_of_le (Nat.lt_of_lt_of_le hi hn) (by decide)
  · intro b o e
    rw [upd_ne (ne_of_none e hD)]
    exact e4 _ _ (e2 _ _ (k1 _ _ (p1 _ _ e)))
  · rw [List.length_append, p3]; rfl
  · intro j z hz
    by_cases hj : j < i
    · rw [List.getElem?_append_left (by omega)] at hz
      exact p4 j z hz
    · rw [List.getElem?_append_right (by omega), p3] at hz
      have hj2 : j = i := by
        have := (List.getElem?_eq_some_iff.mp hz).1
        simp at this
        omega
      subst hj2
      simp at hz
      rw [← hz]
      exact ev
end
theorem filter_ix {α : Type} (f : α → V) (p : α → Bool) (d : V) : ∀ (l : List α), ((List.range l.length).filter fun i => (l[i]?.map p).getD false).map (fun i => (l[i]?.map f).getD d) = (l.filter p).map f
  | [] => rfl
  | a :: l => by
    rw [List.length_cons, List.range_succ_eq_map, List.filter_cons, List.filter_map]
    have ih := filter_ix f p d l
    have e1 : ((fun i => ((a :: l)[i]?.map p).getD false) ∘ Nat.succ) = fun i => (l[i]?.map p).getD false := by
      funext i
      simp
    rw [e1]
    simp only [List.getElem?_cons_zero, Option.map_some, Option.getD_some]
    by_cases q : p a = true
    · rw [if_pos q, List.filter_cons_of_pos q, List.map_cons, List.map_cons, List.map_map, ← ih]
      simp [Function.comp_def]
    · rw [if_neg q, List.filter_cons_of_neg q, List.map_map, ← ih]
      simp [Function.comp_def]
/-! ### a dict that is walked is locked -/
def lockD (D : Ends) (d : Addr) (u : HO) (od : Obj) : Ends where
  nx := fun σ H => H d = some (.frz od u) ∧ ∀ H2, H2 d = some u → (∀ b, b ≠ d → H2 b = H b) → D.nx σ H2
  rt := fun v H => H d = some (.frz od u) ∧ ∀ H2, H2 d = some u → (∀ b, b ≠ d → H2 b = H b) → D.rt v H2
  bk := fun σ H => H d = some (.frz od u) ∧ ∀ H2, H2 d = some u → (∀ b, b ≠ d → H2 b = H b) → D.bk σ H2
  ct := fun σ H => H d = some (.frz od u) ∧ ∀ H2, H2 d = some u → (∀ b, b ≠ d → H2 b = H b) → D.ct σ H2
theorem s_lock {X : Cx} {st : Stmt} {D : Ends} {σ : L2.St} {H : Hp} {d : Addr} {u : HO} (hd : H d = some u) (mu : Mut (some u)) (h : ∀ od H1, H1 d = some (.frz od u) → (∀ b, b ≠ d → H1 b = H b) → sW X st (lockD D d u od) σ H1) : sW X st D σ H :=
  sI (ps_lock PSw) ⟨d, u, hd, mu, fun od => ⟨fun pins s I => wpAny_mono ((h od _ upd_same fun b hb => upd_ne hb).run pins s I) (fun f s1 q => by
    cases f with
    | next => obtain ⟨σ', H', a, e, c⟩ := q; exact ⟨σ', H', a, e, c _ upd_same fun b hb => upd_ne hb⟩
    | brk => obtain ⟨σ', H', a, e, c⟩ := q; exact ⟨σ', H', a, e, c _ upd_same fun b hb => upd_ne hb⟩
    | cont => obtain ⟨σ', H', a, e, c⟩ := q; exact ⟨σ', H', a, e, c _ upd_same fun b hb => upd_ne hb⟩
    | ret v => obtain ⟨x, σ', H', a, r, e, c⟩ := q; exact ⟨x, σ', H', a, r, e, c _ upd_same fun b hb => upd_ne hb⟩) fun _ _ z => z⟩⟩
/-! ### words that want that a token was given out; replace -/
structure eT (X : Cx) (e : Expr) (σ : L2.St) (H : Hp) (Q : VK) : Prop where
  run : ∀ pins s, 1 ≤ s.toks → Inv X pins σ H s → wpAny (model X.prog X.w) X.A (eval e X.env) (EP X pins σ Q) X.xe s
structure aT (X : Cx) (es : List Expr) (σ : L2.St) (H : Hp) (Q : List V → Hp → Prop) : Prop where
  run : ∀ pos pins s, 1 ≤ s.toks → Inv X pins σ H s → wpAny (model X.prog X.w) X.A (spliced (backTo pos (starEach es X.env))) (AP X pins σ Q) X.xe s
section
variable {X : Cx} {σ : L2.St} {H : Hp} {Q : VK} {R : List V → Hp → Prop} {pos p2 apos : Pos} {a o : Expr} {es : List Expr} {c y z : Str} {j k : Nat} {c0 c1 : Pos}
theorem eT_of (h : eW X a σ H Q) : eT X a σ H Q := ⟨fun pins s _ I => h.run pins s I⟩
theorem aT_of (h : aW X es σ H R) : aT X es σ H R := ⟨fun pos pins s _ I => h.run pos pins s I⟩
theorem aT_cons (h : eT X a σ H fun x H1 => aT X es σ H1 fun xs H2 => R (x :: xs) H2) (hs : starEach (a :: es) X.env = (false, eval a X.env) :: starEach es X.env := by rfl) : aT X (a :: es) σ H R := ⟨fun pos pins s ht I => by
  rw [hs]
  show wpAny _ _ (spliced ((false, eval a X.env) :: backTo pos (starEach es X.env))) _ _ s
  exact Calls.spliced_cons (wpAny_mono (PySem.wpAny_toks (h.run pins s ht I)) (fun u s1 ⟨hk, x, H1, I1, r1, q1⟩ => wpAny_mono (q1.run pos pins s1 (Nat.le_trans ht hk) I1) (fun us s2 ⟨xs, H2, I2, r2, q2⟩ => ⟨x :: xs, H2, I2, .cons r1 r2, q2⟩) fun _ _ w => w) fun _ _ w => w.2)⟩
theorem a_binS {op : Operator} (h : eW X a σ H fun x H1 => oW X (binaryOp op) x (.str c) H1 fun v H2 => aT X es σ H2 fun xs H3 => R (v :: xs) H3)
    (hs : starEach (.BinOp a op (.Constant (.str c) j p2) pos :: es) X.env = (false, eval (.BinOp a op (.Constant (.str c) j p2) pos) X.env) :: starEach es X.env := by rfl) : aW X (.BinOp a op (.Constant (.str c) j p2) pos :: es) σ H R := ⟨fun pos2 pins s I => by
  rw [hs]
  show wpAny _ _ (spliced ((false, eval _ X.env) :: backTo pos2 (starEach es X.env))) _ _ s
  exact Calls.spliced_cons (wpAny_BinOp (thn (h.run pins s I) fun v s1 ⟨x, H1, I1, r1, q1⟩ => Calls.Constant_str (wpAny_mono (PySem.wpAny_toks (q1.run pins _ σ v _ (I1.tok (s1.toks + 1)) r1 ⟨s1.toks, rfl⟩)) (fun u s3 ⟨hk, w, H3, I3, r3, q3⟩ =>
    wpAny_mono (q3.run pos2 pins s3 (Nat.le_trans (Nat.le_add_left 1 _) hk) I3) (fun us s4 ⟨xs, H4, I4, r4, q4⟩ => ⟨w :: xs, H4, I4, .cons r3 r4, q4⟩) fun _ _ w => w) fun _ _ w => w.2)))⟩
theorem eT_repl (h : eW X o σ H fun v H1 => ∃ x, v = .str x ∧ x.length + (x.length + 1) * z.length ≤ 16777216 ∧ Q (.str (Txt.replace x y z)) H1) (hyz : (y == z) = false := by decide)
    (hst : starEach [.Constant (.str y) j c0, .Constant (.str z) k c1] X.env = [(false, eval (.Constant (.str y) j c0) X.env), (false, eval (.Constant (.str z) k c1) X.env)] := by rfl)
    (hbase : attributeBase o "replace" X.env (eval o X.env) = eval o X.env := by rfl) (hline : (apos.endLine == pos.line) = true := by rfl) : eT X (.Call (.Attribute o "replace" apos) [.Constant (.str y) j c0, .Constant (.str z) k c1] [] pos) σ H Q :=
  ⟨fun pins s ht I => CwR.pet_replC PEw hyz hst hbase hline pins s σ H Q ht I h⟩
theorem e_lower (h : eW X o σ H fun v H1 => ∃ x, v = .str x ∧ x.length ≤ 5592405 ∧ Q (.str (Txt.lower x)) H1) (hbase : attributeBase o "lower" X.env (eval o X.env) = eval o X.env := by rfl) (hline : (apos.endLine == pos.line) = true := by rfl) : eW X (.Call (.Attribute o "lower" apos) [] [] pos) σ H Q :=
  eI (pe_lower PEw hbase hline) (eMono h fun v H1 ⟨x, e, hz, q⟩ => ⟨⟨x, e⟩, x, e, rfl, hz, q⟩)
end
/-! ### the longer walk: what stands in a heap, found by itself -/
theorem _root_.L2.Same.none {G H : Hp} {p : Addr} (s : Same G H) (h : H p = Option.none) : G p = Option.none := by
  cases e : G p with
  | none => rfl
  | some o => rw [s _ _ e] at h; cases h
theorem Same.at' {G H : Hp} {p : Addr} {o : HO} (s : Same G H) (h : G p = some o) : H p = some o := s _ _ h
theorem Same.seq' {K : PySem.W.Frag} {G H : Hp} {a : Addr} {xs : List V} (s : Same G H) (h : SqL K G a xs) : SqL K H a xs := s.seq h
theorem Same.seqT' {K : PySem.W.Frag} {G H : Hp} {a : Addr} {xs : List V} (s : Same G H) (h : SqT K G a xs) : SqT K H a xs := sq_more s h
theorem Same.th' {K : PySem.W.Frag} {G H : Hp} {v : V} {d : PyData} (s : Same G H) (h : Th K G v d) : Th K H v d := Th.more s d v h
theorem Same.thA' {K : PySem.W.Frag} {G H : Hp} {v : List V} {d : List PyData} (s : Same G H) (h : ThAll K G v d) : ThAll K H v d := ThAll.more s d v h
theorem Same.tr' {F G H : Hp} (s : Same G H) (h : Same F G) : Same F H := h.trans s
mutual
theorem Th.dp {K : PySem.W.Frag} {H : Hp} : ∀ (d : PyData) (v : V), Th K H v d → d.canLay0 = true → Dp K H v d
  | .none, _, h, _ => by cases h; exact .non
  | .bool _, _, h, _ => by cases h; exact .bl _
  | .int _, _, h, _ => by cases h; exact .int _
  | .str _, _, h, _ => by cases h; exact .str _
  | .list ds, _, h, c => by cases h with | lst hs ha => exact .lst hs (ThAll.dp ds _ ha c)
  | .tuple ds, _, h, c => by cases h with | tup hs ha => exact .tup hs (ThAll.dp ds _ ha c)
  | .dict _, _, _, c => by cases c
theorem ThAll.dp {K : PySem.W.Frag} {H : Hp} : ∀ (ds : List PyData) (vs : List V), ThAll K H vs ds → PyData.canLayAll0 ds = true → DpAll K H vs ds
  | [], _, h, _ => by cases h; exact .nil
  | d :: ds, _, h, c => by
    have c2 : (d.canLay0 && PyData.canLayAll0 ds) = true := c
    rw [Bool.and_eq_true] at c2
    cases h with | cons h1 h2 => exact .cons (Th.dp d _ h1 c2.1) (ThAll.dp ds _ h2 c2.2)
end
theorem Th.dpS {K : PySem.W.Frag} {H : Hp} {k : Nat} {d : PyData} {v : V} (h : Th K H v d) (s : Sh k d) : Dp K H v d := Th.dp d v h s.can
theorem vals_signs : ∀ (cs : List Nat) (vs : List Value), vs.length = cs.length → (∀ (j : Nat) (v : Value), vs[j]? = some v → ∃ c u, cs[j]? = some c ∧ v = Value.str ⟨#[c]⟩ u) → Vals (cs.map fun c => V.str ⟨#[c]⟩) vs
  | [], [], _, _ => .nil
  | c :: cs, v :: vs, h, k => by
    obtain ⟨c', u, e1, e2⟩ := k 0 v rfl
    cases e1
    exact .cons ⟨u, e2⟩ (vals_signs cs vs (by simpa using h) fun j w e => by simpa using k (j + 1) w (by simpa using e))
  | [], _ :: _, h, _ => by simp at h
  | _ :: _, [], h, _ => by simp at h
/-- list(s), s a text -/
theorem k_listS {X : Cx} {H : Hp} {Q : VK} {z : Str} [cc : CxC X] (hz : z.length ≤ 100000) (q : ∀ l H2, Same H H2 → H l = none → H2 l = some (.lst ((tl z).map fun c => V.str ⟨#[c]⟩)) → (∀ b, b ≠ l → H2 b = H b) → Q (.ref l) H2) : kW X (.type "list") [.str z] H Q := ⟨fun pins s σ us I r => by
  obtain ⟨u, rfl, rx⟩ := vals1 r
  obtain ⟨t, rfl⟩ := rx
  have hz2 : z.cps.size ≤ sizeLine := Nat.le_trans (show z.length ≤ 100000 from hz) (by decide)
  refine PySem.call_list_str (I.ok.hd cc.h) z t (fun h' tk acc' c' k e hit => ?_) hz2
  have hn := I.hok.fresh (Nat.le_refl s.heap.objs.size)
  refine ⟨.ref _, upd H s.heap.objs.size (.lst ((tl z).map fun c => V.str ⟨#[c]⟩)), I.laid (t' := tk) k (Nat.le_refl _) ⟨?_, acc'.toList, c', vals_signs _ _ ?_ fun j v hv => ?_, by simpa using e⟩, rfl, q _ _ (sameU hn) hn upd_same fun b hb => upd_ne hb⟩
  · rw [List.length_map]; exact hz2
  · rw [Array.length_toList, hit.1]
    rfl
  · obtain ⟨c, u, q1, q2⟩ := hit.2 j v (by simpa using hv)
    exact ⟨c, u, by simpa [tl] using q1, q2⟩⟩
/-! ### enumerate over a tuple, over a text -/
section
open PySem.Builtin PySem.W
set_option maxHeartbeats 2000000 in
theorem meets_enum1 {v : Value} {o : Obj} {H : Heap → Prop} (B : Begins v o H) :
    Meets (Builtin.«enumerate.__new__» ⟨[.type "enumerate", v], []⟩) (fun _ R s => H s.heap ∧
      R (.ok (.ret (.ref (s.heap.push o).objs.size))) { s with heap := (s.heap.push o).push { cls := .type "enumerate", data := .fields #[.none, .bool false, .ref s.heap.objs.size, rawInt 0, .none, .none] } }) :=
  .of_wp fun prog w A R s h => by
    obtain ⟨hp, g, d, tk, os⟩ := s; obtain ⟨h1, h⟩ := h
    have hsub := sub_enumerate
    have q1 : ∀ {A' : Around} {E : Value → Shared → Prop} {Q : Value → Shared → Prop}, Q (.ref hp.objs.size) ⟨hp.push o, g, d, tk, os⟩ → wpAny (model prog w) A' (pyIter v) Q E ⟨hp, g, d, tk, os⟩ :=
      fun q => B.iter prog w _ _ ⟨hp, g, d, tk, os⟩ _ h1 q
    wp_walk using q1
    refine wpAny_stack_any fun st => wpAny_pure ?_
    split
    · rename_i c _ _ _ _ _
      cases (c == Value.type "enumerate")
      · wp_walk using q1
        exact ⟨_, rfl, h⟩
      · wp_walk using q1
        exact ⟨_, rfl, h⟩
    · wp_walk using q1
      exact ⟨_, rfl, h⟩
theorem enum_begins1 {prog : Program} {w : World} {A : Around} {E : Value → Shared → Prop} {s : Shared} {v : Value} {o : Obj} {H : Heap → Prop} {Q : Value → Shared → Prop} (B : Begins v o H) (h1 : H s.heap)
    (h : ∀ h', IsEnum h' (s.heap.objs.size + 1) s.heap.objs.size 0 .none → h'.get? s.heap.objs.size = some o → h'.objs.size = s.heap.objs.size + 2 →
      (∀ b o, s.heap.get? b = some o → h'.get? b = some o) → Q (.ref (s.heap.objs.size + 1)) { s with heap := h' }) :
    wpAny (model prog w) A (call (.type "enumerate") [v]) Q E s := by
  refine callType_new F.called_enumerate (by decide) (F.typeCall_enumerate_1 _) (F.newCall_enumerate_1 _) (fun obj => F.args_object_init_2 obj _) F.entry_enumerate_new
    (meets_enum1 B) ⟨h1, ?_⟩
  have hz : (s.heap.push o).objs.size = s.heap.objs.size + 1 := Heap.size_push ..
  show _ ∧ _
  rw [hz]
  have he : IsEnum ((s.heap.push o).push { cls := .type "enumerate", data := .fields #[.none, .bool false, .ref s.heap.objs.size, rawInt 0, .none, .none] }) (s.heap.objs.size + 1) s.heap.objs.size 0 .none := by
    have := Heap.get?_push_size (s.heap.push o) (o := { cls := .type "enumerate", data := .fields #[.none, .bool false, .ref s.heap.objs.size, rawInt 0, .none, .none] }) rfl
    rw [hz] at this; exact this
  refine ⟨⟨_, he, rfl⟩, h _ he (Heap.get?_push_of_some _ (Heap.get?_push_size _ B.free)) (by rw [Heap.size_push, hz]) fun b o x => Heap.get?_push_of_some _ (Heap.get?_push_of_some _ x)⟩
def IteT (K : PySem.W.Frag) (a : Addr) : It :=
  ⟨fun i H => ∃ (xs : List V) (x : V), SqT K H a xs ∧ xs[i]? = some x, fun i H v H' => ∃ T x, v = .ref T ∧ H T = none ∧ H' = upd H T (.tup [.int (i : Nat), x]) ∧ ∀ xs, SqT K H a xs → xs[i]? = some x, fun i H => ∃ xs : List V, SqT K H a xs ∧ xs.length = i⟩
def IteS (z : Str) : It :=
  ⟨fun i _ => i < z.cps.size, fun i H v H' => ∃ T c, v = .ref T ∧ H T = none ∧ H' = upd H T (.tup [.int (i : Nat), .str ⟨#[c]⟩]) ∧ z.cps[i]? = some c, fun i _ => i = z.cps.size⟩
theorem enum_turn {X : Cx} {pins : List (Addr × Obj)} {s : Shared} {σ : L2.St} {H : Hp} {E : Value → Shared → Prop} {elts : List Expr} {kk : Nat} {tpos : Pos} {e it : Addr} {fp : List Addr} {n i : Nat} {Pu : Nat → Value → Prop} {St : Nat → Heap → Prop} {PV : V → Prop} {old : Value}
    (I : Inv X pins σ H s) (hf : ∀ b ∈ [e, it], FpOk X pins H b) (D : Draws X.prog X.w X.A.in1 it fp n Pu St) (he : IsEnum s.heap e it ((i : Nat) : Int) old) (hst : St i s.heap) (hlt : i < n) (hne : e ≠ it) (hef : e ∉ fp)
    (hPV : ∀ u, Pu i u → ∃ x, RelV x u ∧ PV x) :
    wpAny (model X.prog X.w) X.A (pyNext (.ref e)) (fun r s1 => ∃ u, r = some u ∧ wpAny (model X.prog X.w) X.A (letOwnedTupleGo (.Tuple elts kk tpos) (.ref e) u) (fun _ s2 => ∃ x H', Inv X pins σ H' s2 ∧ RelV x u ∧
      (∃ T y, x = .ref T ∧ H T = none ∧ H' = upd H T (.tup [.int (i : Nat), y]) ∧ PV y) ∧ ((∃ old, IsEnum s2.heap e it ((i + 1 : Nat) : Int) old) ∧ St (i + 1) s2.heap) ∧ ∀ b ∈ [e, it], H' b = none) E s1) E s := by
  have hel : e < s.heap.objs.size := Heap.lt_size he
  have hil : it < s.heap.objs.size := by obtain ⟨_, q⟩ := D.live _ _ hst; exact Heap.lt_size q
  refine wpAny_pyNext_enum_itemD D he hst hlt hne hef fun u h' tk hPu ho hst' hT hsz hk => ?_
  obtain ⟨x, ru, px⟩ := hPV u hPu
  refine ⟨_, rfl, wpAny_letOwnedTupleGo_enum (s := { s with heap := h', toks := tk + 1 }) ho fun h'' he' sb => ?_⟩
  have hT2 : h''.get? s.heap.objs.size = some { cls := .type "tuple", data := .seq #[.int i tk, u] } := (sb.2 _ (Nat.ne_of_gt hel)).trans hT
  have new : ObjOk X.prog X.w (upd H s.heap.objs.size (.tup [.int (i : Nat), x])) h'' s.heap.objs.size (.tup [.int (i : Nat), x]) :=
    ⟨by show 2 ≤ sizeLine; decide, [.int i tk, u], .cons ⟨_, rfl⟩ (.cons ru .nil), ⟨_, hT2, rfl, _, rfl⟩⟩
  have I1 : Inv X pins σ (upd H s.heap.objs.size (.tup [.int (i : Nat), x])) { s with heap := h'', toks := tk + 1 } :=
    I.turnedNew (ch := [e, it]) (fun b ob hb q => (sb.2 b (fun z => hb (by simp [z]))).trans (hk b ob (fun z => hb (by simp [z])) (fun z => hb (by simp [z])) q)) hf (Nat.le_refl _) new
  refine ⟨.ref s.heap.objs.size, _, I1, rfl, ⟨_, x, rfl, I.hok.fresh (Nat.le_refl _), rfl, px⟩, ⟨⟨u, ?_⟩, D.frame _ _ _ hst' fun b hb o q => (sb.2 b fun z => hef (z ▸ hb)).trans q⟩, fun b hb => ?_⟩
  · have e1 : ((i + 1 : Nat) : Int) = (i : Int) + 1 := by omega
    rw [e1]; exact he'
  · have hb' : b < s.heap.objs.size := by
      have e' : b = e ∨ b = it := by simpa using hb
      rcases e' with z | z
      · rw [z]; exact hel
      · rw [z]; exact hil
    rw [upd_ne (Nat.ne_of_lt hb')]
    exact (hf b hb).1
theorem turn_enumT {P : Program} {w : World} {K : PySem.W.Frag} {elts : List Expr} {kk : Nat} {tpos : Pos} (a e it : Addr) :
    Turn P w K (.Tuple elts kk tpos) (IteT K a) [e, it] e (fun i h => (∃ old, IsEnum h e it ((i : Nat) : Int) old) ∧ h.IsTupleIter it a i ∧ e ≠ it ∧ a ≠ it ∧ a ≠ e) where
  mem := by simp
  obj := fun i h st b hb => by
    obtain ⟨⟨old, he⟩, ⟨o, ho, hc, hd⟩, _⟩ := st
    have e' : b = e ∨ b = it := by simpa using hb
    rcases e' with z | z
    · rw [z]; exact ⟨_, he, fun v q => nomatch q⟩
    · rw [z]; exact ⟨o, ho, fun v q => by rw [hd] at q; cases q⟩
  keep := fun i h h' st k => let ⟨⟨old, he⟩, hi, hne⟩ := st; ⟨⟨old, k e (by simp) _ he⟩, hi.at fun o q => k it (by simp) o q, hne⟩
  item := by
    intro X hP hw hK hc i pins s σ H E I hf st hg
    subst hP hw hK
    obtain ⟨⟨old, he⟩, hit, hne, hai, hae⟩ := st
    obtain ⟨xs, x, hq, hx⟩ := hg
    obtain ⟨its, rv, p, hz⟩ := I.tuple hq
    obtain ⟨u, hu, ru⟩ := rv.get hx
    have hli : i < its.toArray.size := by
      have := (List.getElem?_eq_some_iff.mp hu).1
      simpa using this
    refine wpAny_mono (enum_turn (PV := fun y => ∀ xs, SqT X.K H a xs → xs[i]? = some y) I hf (Draws.tuple (A := X.A.in1) (show X.A.in1.handled = Option.none from I.ok.hd hc) it a hai its.toArray) he ⟨hit, p⟩ hli hne (by simp only [List.mem_cons, List.not_mem_nil, or_false, not_or]; exact ⟨hne, hae.symm⟩) fun u' hu' => ?_) (fun r s1 ⟨u1, e1, h1⟩ => ⟨u1, e1, wpAny_mono h1 (fun _ s2 ⟨x2, H', I2, r2, y2, ⟨q1, q2, _⟩, q3⟩ => ⟨x2, H', I2, r2, y2, ⟨q1, q2, hne, hai, hae⟩, q3⟩) fun _ _ z => z⟩) fun _ _ z => z
    have e2 : u' = u := by
      have hu' : its.toArray[i]? = some u' := hu'
      rw [List.getElem?_toArray, hu] at hu'
      exact (Option.some.inj hu').symm
    subst e2
    exact ⟨x, ru, fun ys hy => by rw [I.tuple_inj hy hq]; exact hx⟩
  done := by
    intro X hP hw hK hc i pins s σ H E I hf st hg
    subst hP hw hK
    obtain ⟨⟨old, he⟩, hit, hne, hai, hae⟩ := st
    obtain ⟨xs, hq, hx⟩ := hg
    obtain ⟨its, rv, p, hz⟩ := I.tuple hq
    obtain ⟨f0, f1, f2, f3, f4, f5⟩ := hf it (by simp)
    have hl := rv.length
    refine wpAny_pyNext_enum_endD (Draws.tuple (A := X.A.in1) (show X.A.in1.handled = Option.none from I.ok.hd hc) it a hai its.toArray) he (St := fun i h => h.IsTupleIter it a i ∧ h.IsTuple a its.toArray) ⟨?_, p⟩ fun h' eb => ⟨rfl, I.turned (t' := s.toks) (fun b o hb q => eb b o hb q) f0 f1 f3 f4 f5⟩
    rw [List.size_toArray, ← hl, hx]
    exact hit
  self := fun A i s Q E st h => let ⟨⟨_, he⟩, _⟩ := st; wpAny_pyIter_enum he h
theorem j_enumT {X : Cx} {σ : L2.St} {H : Hp} {R : It → Hp → Prop} {a : Expr} {p2 p3 pos : Pos} {mg : Str → Option Value} {elts : List Expr} {kk : Nat} [cm : CxM X mg] [g : Gn mg "enumerate" none] (h : eW X a σ H fun v H1 => ∃ (p : Addr) (xs : List V), v = .ref p ∧ SqT X.K H1 p xs ∧ R (IteT X.K p) H1) (hg : Gl X "enumerate" := by rfl) (hs : starEach [a] X.env = (false, eval a X.env) :: starEach [] X.env := by rfl) :
    jW X (.Tuple elts kk p3) (.Call (.Name "enumerate" p2) [a] [] pos) σ H R := ⟨fun pins s I => by
  have hm : X.mg "enumerate" = none := by rw [cm.h]; exact g.h
  refine Call_ (ld_blt I hg hm boot_enumerate (PyProof.Rows.callWith_type1 (args_cons (thn (h.run pins s I) fun u s1 ⟨v, H1, I1, r1, q1⟩ => args_nil ?_) hs) hs rfl))
  obtain ⟨p, xs, ev, hq, q⟩ := q1
  subst ev
  obtain rfl : u = Value.ref p := r1
  obtain ⟨its, rv, p', hz⟩ := I1.tuple hq
  refine enum_begins1 (begins_tuple p its.toArray) p' fun h' he hit hsz hk => wpAny_pyIter_enum he ?_
  have I2 : Inv X pins σ H1 { s1 with heap := h' } := I1.kept (t' := s1.toks) hk
  have hpl : p < s1.heap.objs.size := by obtain ⟨o, ho, _⟩ := p'; exact Heap.lt_size ho
  refine ⟨s1.heap.objs.size + 1, [s1.heap.objs.size + 1, s1.heap.objs.size], _, _, H1, rfl, I2, turn_enumT p (s1.heap.objs.size + 1) s1.heap.objs.size, ⟨⟨.none, he⟩, ⟨_, hit, rfl, rfl⟩, Nat.succ_ne_self _, Nat.ne_of_lt hpl, Nat.ne_of_lt (Nat.lt_succ_of_lt hpl)⟩, fun b hb => ?_, q⟩
  have e' : b = s1.heap.objs.size + 1 ∨ b = s1.heap.objs.size := by simpa using hb
  have hle : s1.heap.objs.size ≤ b := by
    rcases e' with z | z
    · rw [z]; exact Nat.le_add_right _ _
    · rw [z]; exact Nat.le_refl _
  exact I1.fpOk hle (I1.hok.fresh hle)⟩
theorem walk_enumT {K : PySem.W.Frag} {a : Addr} {xs : List V} : Walk (IteT K a) xs.length (fun H => SqT K H a xs) (fun i H v H' => ∃ T x, v = .ref T ∧ H T = none ∧ H' = upd H T (.tup [.int (i : Nat), x]) ∧ xs[i]? = some x) :=
  ⟨fun i _ hi q => ⟨xs, xs[i], q, by simp [hi]⟩, fun _ q => ⟨xs, q, rfl⟩, fun _ _ _ _ _ q ⟨T, x, e1, e2, e3, e4⟩ => ⟨T, x, e1, e2, e3, e4 xs q⟩⟩
theorem walk_enumL {K : PySem.W.Frag} {a : Addr} {xs : List V} : Walk (Ite K a) xs.length (fun H => SqL K H a xs) (fun i H v H' => ∃ T x, v = .ref T ∧ H T = none ∧ H' = upd H T (.tup [.int (i : Nat), x]) ∧ xs[i]? = some x) :=
  ⟨fun i _ hi q => ⟨xs, xs[i], q, by simp [hi]⟩, fun _ q => ⟨xs, q, Nat.le_refl _⟩, fun _ _ _ _ _ q ⟨T, x, e1, e2, e3, e4⟩ => ⟨T, x, e1, e2, e3, e4 xs q⟩⟩
theorem turn_enumS {P : Program} {w : World} {K : PySem.W.Frag} {elts : List Expr} {kk : Nat} {tpos : Pos} (z : Str) (t : Tok) (e it : Addr) :
    Turn P w K (.Tuple elts kk tpos) (IteS z) [e, it] e (fun i h => (∃ old, IsEnum h e it ((i : Nat) : Int) old) ∧ h.IsStrIter it (strIterType z) z t i ∧ e ≠ it) where
  mem := by simp
  obj := fun i h st b hb => by
    obtain ⟨⟨old, he⟩, ⟨o, ho, hc, hd⟩, _⟩ := st
    have e' : b = e ∨ b = it := by simpa using hb
    rcases e' with z | z
    · rw [z]; exact ⟨_, he, fun v q => nomatch q⟩
    · rw [z]; exact ⟨o, ho, fun v q => by rw [hd] at q; cases q⟩
  keep := fun i h h' st k => let ⟨⟨old, he⟩, ⟨o, ho, r⟩, hne⟩ := st; ⟨⟨old, k e (by simp) _ he⟩, ⟨o, k it (by simp) o ho, r⟩, hne⟩
  item := by
    intro X hP hw hK hc i pins s σ H E I hf st hg
    subst hP hw hK
    obtain ⟨⟨old, he⟩, hit, hne⟩ := st
    have hg : i < z.cps.size := hg
    refine wpAny_mono (enum_turn (PV := fun y => ∃ c, z.cps[i]? = some c ∧ y = V.str ⟨#[c]⟩) I hf (Draws.text (A := X.A.in1) (show X.A.in1.handled = Option.none from I.ok.hd hc) it z t) he hit hg hne (by simp only [List.mem_cons, List.not_mem_nil, or_false]; exact hne) fun u' hu' => ?_) (fun r s1 ⟨u1, e1, h1⟩ => ⟨u1, e1, wpAny_mono h1 (fun _ s2 ⟨x2, H', I2, r2, ⟨T, y, y1, y2, y3, c, y4, y5⟩, ⟨q1, q2⟩, q3⟩ => ⟨x2, H', I2, r2, ⟨T, c, y1, y2, by rw [y3, y5], y4⟩, ⟨q1, q2, hne⟩, q3⟩) fun _ _ z => z⟩) fun _ _ z => z
    obtain ⟨c, u, q1, rfl⟩ := hu'
    exact ⟨.str ⟨#[c]⟩, ⟨u, rfl⟩, c, q1, rfl⟩
  done := by
    intro X hP hw hK hc i pins s σ H E I hf st hg
    subst hP hw hK
    obtain ⟨⟨old, he⟩, hit, hne⟩ := st
    have hg : i = z.cps.size := hg
    obtain ⟨f0, f1, f2, f3, f4, f5⟩ := hf it (by simp)
    exact wpAny_pyNext_enum_endD (Draws.text (A := X.A.in1) (show X.A.in1.handled = Option.none from I.ok.hd hc) it z t) he (by rw [← hg]; exact hit) fun h' eb => ⟨rfl, I.turned (t' := s.toks) (fun b o hb q => eb b o hb q) f0 f1 f3 f4 f5⟩
  self := fun A i s Q E st h => let ⟨⟨_, he⟩, _⟩ := st; wpAny_pyIter_enum he h
theorem j_enumS {X : Cx} {σ : L2.St} {H : Hp} {R : It → Hp → Prop} {a : Expr} {p2 p3 pos : Pos} {mg : Str → Option Value} {elts : List Expr} {kk : Nat} [cm : CxM X mg] [g : Gn mg "enumerate" none] (h : eW X a σ H fun v H1 => ∃ (z : Str), v = .str z ∧ R (IteS z) H1) (hg : Gl X "enumerate" := by rfl) (hs : starEach [a] X.env = (false, eval a X.env) :: starEach [] X.env := by rfl) :
    jW X (.Tuple elts kk p3) (.Call (.Name "enumerate" p2) [a] [] pos) σ H R := ⟨fun pins s I => by
  have hm : X.mg "enumerate" = none := by rw [cm.h]; exact g.h
  refine Call_ (ld_blt I hg hm boot_enumerate (PyProof.Rows.callWith_type1 (args_cons (thn (h.run pins s I) fun u s1 ⟨v, H1, I1, r1, q1⟩ => args_nil ?_) hs) hs rfl))
  obtain ⟨z, ev, q⟩ := q1
  subst ev
  obtain ⟨t, rfl⟩ := r1
  refine enum_begins1 (begins_text z t) trivial fun h' he hit hsz hk => wpAny_pyIter_enum he ?_
  have I2 : Inv X pins σ H1 { s1 with heap := h' } := I1.kept (t' := s1.toks) hk
  refine ⟨s1.heap.objs.size + 1, [s1.heap.objs.size + 1, s1.heap.objs.size], _, _, H1, rfl, I2, turn_enumS z t (s1.heap.objs.size + 1) s1.heap.objs.size, ⟨⟨.none, he⟩, ⟨_, hit, rfl, rfl⟩, Nat.succ_ne_self _⟩, fun b hb => ?_, q⟩
  have e' : b = s1.heap.objs.size + 1 ∨ b = s1.heap.objs.size := by simpa using hb
  have hle : s1.heap.objs.size ≤ b := by
    rcases e' with z | z
    · rw [z]; exact Nat.le_add_right _ _
    · rw [z]; exact Nat.le_refl _
  exact I1.fpOk hle (I1.hok.fresh hle)⟩
theorem walk_enumS {z : Str} : Walk (IteS z) z.cps.size (fun _ => True) (fun i H v H' => ∃ T c, v = .ref T ∧ H T = none ∧ H' = upd H T (.tup [.int (i : Nat), .str ⟨#[c]⟩]) ∧ z.cps[i]? = some c) :=
  ⟨fun i _ hi _ => hi, fun _ _ => rfl, fun _ _ _ _ _ _ y => y⟩
end
/-! ### a part's first sign -/
def isSg (p : Str) : Bool := (tl p).head? == some 39
section
variable {X : Cx} {σ : L2.St} {H : Hp} {R : Bool → Hp → Prop} {p1 p2 p3 p4 : Pos} {e : Expr} {j1 j2 : Nat}
theorem isq (a : Nat) : decide ((⟨#[a]⟩ : Str) = Str.ofString "'") = decide (a = 39) := decide_eq_decide.mpr (by
  have h : tl (Str.ofString "'") = [39] := by decide +kernel
  constructor
  · intro e
    have : tl (⟨#[a]⟩ : Str) = [39] := by rw [e, h]
    exact (List.cons.inj this).1
  · intro e
    exact ext_tl (by rw [h, e]))
theorem isq_sg {p : Str} {c : Nat} {l : List Nat} (h : tl p = c :: l) : isSg p = decide (c = 39) := by
  unfold isSg
  rw [h]
  show (some c == some 39) = _
  by_cases q : c = 39
  · rw [q]; rfl
  · rw [decide_eq_false q]; simp [q]
theorem o_sgN {p : Str} {c : Nat} {l : List Nat} (h : tl p = c :: l) {Q : VK} (q : Q (.bl (!isSg p)) H) : oW X (compareOp .NotEq) (.str ⟨#[c]⟩) (.str (Str.ofString "'")) H Q := o_neS (by rw [isq, ← isq_sg h]; exact q)
theorem o_sgE {p : Str} {c : Nat} {l : List Nat} (h : tl p = c :: l) {Q : VK} (q : Q (.bl (isSg p)) H) : oW X (compareOp .Eq) (.str ⟨#[c]⟩) (.str (Str.ofString "'")) H Q := o_eqS (by rw [isq, ← isq_sg h]; exact q)
/-- e[0] != "'" -/
theorem t_sg (h : eW X e σ H fun x H1 => ∃ p, x = .str p ∧ ((∃ c l, tl p = c :: l) ∧ p.length ≤ 1000000) ∧ R (!isSg p) H1) : tW X (.Compare (.Subscript e (.Constant (.int 0) j1 p1) p2) [.NotEq] [.Constant (.str (Str.ofString "'")) j2 p3] p4) σ H R :=
  t_cmp (e_ix (eMono h fun x H1 ⟨p, ex, ⟨⟨c, l, hc⟩, hl⟩, q⟩ => by
    subst ex
    exact e_int (i_str (sz1m hl) (c := c) (by rw [show p.cps.toList = c :: l from hc]; exact atI_nat (by decide) rfl) (e_str (o_sgN hc ⟨_, rfl, q⟩)))))
theorem t_sgE (h : eW X e σ H fun x H1 => ∃ p, x = .str p ∧ ((∃ c l, tl p = c :: l) ∧ p.length ≤ 1000000) ∧ R (isSg p) H1) : tW X (.Compare (.Subscript e (.Constant (.int 0) j1 p1) p2) [.Eq] [.Constant (.str (Str.ofString "'")) j2 p3] p4) σ H R :=
  t_cmp (e_ix (eMono h fun x H1 ⟨p, ex, ⟨⟨c, l, hc⟩, hl⟩, q⟩ => by
    subst ex
    exact e_int (i_str (sz1m hl) (c := c) (by rw [show p.cps.toList = c :: l from hc]; exact atI_nat (by decide) rfl) (e_str (o_sgE hc ⟨_, rfl, q⟩)))))
end
/-! ### dicts by values: what stands at a key -/
theorem subTail {M : Model} {A : Around} {E : Value → Shared → Prop} {s : Shared} {prog : Program} {w : World} {value slice : Expr} {o i : Value} {T id : String} {Q : Value → Shared → Prop} (hT : s.TypeIs o T)
    (hl : typeLookup (.type T) "__getitem__" = pure (some (.builtin id))) (h : wpAny (model prog w) A (getItem o i) Q E s)
    (hs : subscripted slice false o i = operate [o, i] (getItem o i)) : wpAny (model prog w) A (subscriptTail value slice o i) Q E s := by
  unfold subscriptTail
  refine wpAny_bind ?_
  rw [getitemInPython_of_ne hT.not_modules]
  refine wpAny_bind (wpAny_specialOf hT hl ?_)
  have fin : wpAny (model prog w) A (subscripted slice false o i) (fun r s₃ => wpAny (model prog w) A (letTemporaryGo value o r >>= fun _ => pure r) Q E s₃) E s := by
    rw [hs]
    exact wpAny_operating (wpAny_mono h (fun r s₃ h₃ => wpAny_bind (wpAny_letTemporaryGo (wpAny_pure h₃))) fun _ _ x => x)
  first
    | exact wpAny_pure (wpAny_bind fin)
    | exact wpAny_bind (wpAny_pure (wpAny_bind fin))
    | exact wpAny_bind fin
section
variable {X : Cx} {σ : L2.St} {H : Hp} {Q : VK} {a b : Addr} {y v : V} {r : Option V} {pos p2 apos : Pos} {o e f : Expr}
theorem i_dget (hu : X.A.units + 1 < cLine) (g : DGet H a y (some v)) (q : Q v H) : iW X (.ref a) y H Q := ⟨fun value slice pins s σ u' u I rx ry hs => by
  obtain rfl : u' = Value.ref a := rx
  exact subTail (M := model X.prog X.w) (dict_typeIs I g) PySem.F.slot_dict_getitem.lookup (d_getItem hu I g ry fun w' s3 I3 rw' => ⟨v, H, I3, rw', q⟩) hs⟩
theorem o_din (hu : X.A.units + 1 < cLine) (g : DGet H a y r) (q : Q (.bl r.isSome) H) : oW X (compareOp .In) y (.ref a) H Q := ⟨fun pins s σ u u' I ry rx => by
  obtain rfl : u' = Value.ref a := rx
  exact d_in hu I g ry fun s3 I3 => ⟨.bl r.isSome, H, I3, rfl, q⟩⟩
theorem o_dni (hu : X.A.units + 1 < cLine) (g : DGet H a y r) (q : Q (.bl (!r.isSome)) H) : oW X (compareOp .NotIn) y (.ref a) H Q := ⟨fun pins s σ u u' I ry rx => by
  obtain rfl : u' = Value.ref a := rx
  exact d_notIn hu I g ry fun s3 I3 => ⟨.bl (!r.isSome), H, I3, rfl, q⟩⟩
theorem e_dget1 (hu : X.A.units + 1 < cLine) (h : eW X o σ H fun x H1 => ∃ a, x = .ref a ∧ IsD H1 a ∧ eW X e σ H1 fun y H2 => ∃ r, DGet H2 a y r ∧ Q (r.getD .non) H2) (hb : attributeBase o "get" X.env (eval o X.env) = eval o X.env := by rfl)
    (hf : ((backTo pos (starEach [e] X.env)).all (fun x => !x.1) && (backToKw pos (keywordEach [] X.env)).all (fun x => x.1.isSome) && decide (([e] : List Expr).length + ([] : List Keyword).length + (if ([] : List Keyword).isEmpty then 0 else 1) < 30)) = true := by rfl)
    (hl : (apos.endLine == pos.line) = true := by rfl) (ht : backTo pos (starEach [e] X.env) = [(false, eval e X.env)] := by rfl) : eW X (.Call (.Attribute o "get" apos) [e] [] pos) σ H Q := eI (pe_dget1 hu PEw PEw ⟨hb, hf, hl, ht⟩) h
theorem e_dget2 (hu : X.A.units + 1 < cLine) (h : eW X o σ H fun x H1 => ∃ a, x = .ref a ∧ IsD H1 a ∧ eW X e σ H1 fun y H2 => eW X f σ H2 fun z H3 => ∃ r, DGet H3 a y r ∧ Q (r.getD z) H3) (hb : attributeBase o "get" X.env (eval o X.env) = eval o X.env := by rfl)
    (hf : ((backTo pos (starEach [e, f] X.env)).all (fun x => !x.1) && (backToKw pos (keywordEach [] X.env)).all (fun x => x.1.isSome) && decide (([e, f] : List Expr).length + ([] : List Keyword).length + (if ([] : List Keyword).isEmpty then 0 else 1) < 30)) = true := by rfl)
    (hl : (apos.endLine == pos.line) = true := by rfl) (ht : backTo pos (starEach [e, f] X.env) = [(false, eval e X.env), (false, eval f X.env)] := by rfl) : eW X (.Call (.Attribute o "get" apos) [e, f] [] pos) σ H Q := eI (pe_dget2 hu PEw PEw PEw ⟨hb, hf, hl, ht⟩) h
theorem e_dsetd (h : eW X o σ H fun x H1 => ∃ a, x = .ref a ∧ IsD H1 a ∧ eW X e σ H1 fun y H2 => eW X f σ H2 fun z H3 => ∃ (kvs : List (Key × V)) (k : Key), H3 a = some (.dK kvs) ∧ y = kV k ∧ kvs.length ≤ 100000 ∧ (∀ v, valV kvs k = some v → Q v H3) ∧ (valV kvs k = none → ∀ H4, H4 a = some (.dK (putK kvs k z)) → (∀ b, b ≠ a → H4 b = H3 b) → Q z H4)) (hb : attributeBase o "setdefault" X.env (eval o X.env) = eval o X.env := by rfl)
    (hf : ((backTo pos (starEach [e, f] X.env)).all (fun x => !x.1) && (backToKw pos (keywordEach [] X.env)).all (fun x => x.1.isSome) && decide (([e, f] : List Expr).length + ([] : List Keyword).length + (if ([] : List Keyword).isEmpty then 0 else 1) < 30)) = true := by rfl)
    (hl : (apos.endLine == pos.line) = true := by rfl) (ht : backTo pos (starEach [e, f] X.env) = [(false, eval e X.env), (false, eval f X.env)] := by rfl) : eW X (.Call (.Attribute o "setdefault" apos) [e, f] [] pos) σ H Q :=
  eI (pe_dsetd PEw PEw PEw ⟨hb, hf, hl, ht⟩) (eMono h fun x H1 ⟨a, ea, d, h1⟩ => ⟨a, ea, d, eMono h1 fun y H2 h2 => eMono h2 fun z H3 ⟨kvs, k, e1, e2, e3, q1, q2⟩ => ⟨kvs, k, e1, e2, Nat.lt_of_le_of_lt e3 (by decide), q1, fun hn => q2 hn _ upd_same fun b hb => upd_ne hb⟩⟩)
/-- o[i] = v, o a dict whose keys are tuples -/
theorem g_setT {i : Expr} {R : L2.St → Hp → Prop} (hu : X.A.units + 1 < cLine) (h : eW X o σ H fun x H1 => eW X i σ H1 fun y H2 => ∃ (d : Addr) (kvs : List (List Key × V)) (k : List Key) (b : Addr), x = .ref d ∧ H2 d = some (.dT kvs) ∧ y = .ref b ∧ H2 b = some (.tup (k.map kV)) ∧ kvs.length ≤ 10000000 ∧ ∀ H3, H3 d = some (.dT (putK kvs k v)) → (∀ b, b ≠ d → H3 b = H2 b) → R σ H3)
    (ha : ∀ v, assign (.Subscript o i pos) X.env v = (holding [v] (eval o X.env) >>= fun ov => holding [v, ov] (eval i X.env) >>= fun iv => standAt pos >>= fun _ => holding [v, ov, iv] (setItem ov iv v) >>= fun _ => release [v, ov, iv] []) := by intro _; rfl) : gW X (.Subscript o i pos) v σ H R :=
  gI (pg_sub PEw PEw (set_dict hu) ha) (eMono h fun x H1 h1 => eMono h1 fun y H2 ⟨d, kvs, k, b, e1, e2, e3, e4, e5, q⟩ => ⟨d, _, e1, by rw [e3]; exact .t e2 e4 (Nat.lt_of_le_of_lt e5 (by decide)), q _ upd_same fun b hb => upd_ne hb⟩)
theorem e_dctT (h : ∀ p H2, Same H H2 → H p = none → H2 p = some (.dT []) → (∀ b, b ≠ p → H2 b = H b) → Q (.ref p) H2) : eW X (.Dict [] [] pos) σ H Q :=
  eI pe_dnewT fun p hp => h p _ (sameU hp) hp upd_same fun _ hb => upd_ne hb
end
theorem rm1 {k : Nat} {A : Around} (hr : Room k A) : A.units + 1 < cLine := by have := hr.units; omega
/-! ### two lists, one by one -/
inductive All2 {α β : Type} (R : α → β → Prop) : List α → List β → Prop
  | nil : All2 R [] []
  | cons {a : α} {b : β} {as : List α} {bs : List β} : R a b → All2 R as bs → All2 R (a :: as) (b :: bs)
section
variable {α β : Type} {R S : α → β → Prop}
theorem All2.len : ∀ {as : List α} {bs : List β}, All2 R as bs → as.length = bs.length
  | _, _, .nil => rfl
  | _, _, .cons _ h => congrArg (· + 1) h.len
theorem All2.mono (i : ∀ a b, R a b → S a b) : ∀ {as : List α} {bs : List β}, All2 R as bs → All2 S as bs
  | _, _, .nil => .nil
  | _, _, .cons h t => .cons (i _ _ h) (t.mono i)
theorem All2.get : ∀ {as : List α} {bs : List β} {i : Nat} {a : α}, All2 R as bs → as[i]? = some a → ∃ b, bs[i]? = some b ∧ R a b
  | _, _, _, _, .nil, e => by simp at e
  | _, _, 0, _, .cons h _, e => by simp at e; subst e; exact ⟨_, rfl, h⟩
  | _, _, i + 1, a, .cons _ t, e => by
    obtain ⟨d, h1, h2⟩ := All2.get (i := i) (a := a) t (by simpa using e)
    exact ⟨d, by simpa using h1, h2⟩
theorem All2.get' : ∀ {as : List α} {bs : List β} {i : Nat} {b : β}, All2 R as bs → bs[i]? = some b → ∃ a, as[i]? = some a ∧ R a b
  | _, _, _, _, .nil, e => by simp at e
  | _, _, 0, _, .cons h _, e => by simp at e; subst e; exact ⟨_, rfl, h⟩
  | _, _, i + 1, a, .cons _ t, e => by
    obtain ⟨d, h1, h2⟩ := All2.get' (i := i) (b := a) t (by simpa using e)
    exact ⟨d, by simpa using h1, h2⟩
theorem All2.app : ∀ {as : List α} {bs : List β} {cs : List α} {ds : List β}, All2 R as bs → All2 R cs ds → All2 R (as ++ cs) (bs ++ ds)
  | _, _, _, _, .nil, k => k
  | _, _, _, _, .cons h t, k => .cons h (t.app k)
theorem All2.snoc {as : List α} {bs : List β} {a : α} {b : β} (h : All2 R as bs) (k : R a b) : All2 R (as ++ [a]) (bs ++ [b]) := h.app (.cons k .nil)
theorem All2.take : ∀ {as : List α} {bs : List β} (n : Nat), All2 R as bs → All2 R (as.take n) (bs.take n)
  | _, _, 0, _ => by simp; exact .nil
  | _, _, _ + 1, .nil => by simp; exact .nil
  | _, _, n + 1, .cons h t => .cons h (t.take n)
theorem All2.drop : ∀ {as : List α} {bs : List β} (n : Nat), All2 R as bs → All2 R (as.drop n) (bs.drop n)
  | _, _, 0, h => by simpa using h
  | _, _, _ + 1, .nil => by simp; exact .nil
  | _, _, n + 1, .cons _ t => t.drop n
theorem All2.rev : ∀ {as : List α} {bs : List β}, All2 R as bs → All2 R as.reverse bs.reverse
  | _, _, .nil => .nil
  | _, _, .cons h t => by simp only [List.reverse_cons]; exact t.rev.snoc h
theorem All2.ex {P : α → Prop} (h : ∀ a, P a → ∃ b, R a b) : ∀ {as : List α}, (∀ a ∈ as, P a) → ∃ bs, All2 R as bs
  | [], _ => ⟨[], .nil⟩
  | a :: as, k => by
    obtain ⟨b, hb⟩ := h a (k a (List.mem_cons_self ..))
    obtain ⟨bs, hbs⟩ := All2.ex h (as := as) fun x hx => k x (List.mem_cons_of_mem _ hx)
    exact ⟨b :: bs, .cons hb hbs⟩
end
theorem thAll_of {K : PySem.W.Frag} {H : Hp} : ∀ {vs : List V} {ds : List PyData}, All2 (Th K H) vs ds → ThAll K H vs ds
  | _, _, .nil => .nil
  | _, _, .cons h t => .cons h (thAll_of t)
theorem thAll_to {K : PySem.W.Frag} {H : Hp} : ∀ {vs : List V} {ds : List PyData}, ThAll K H vs ds → All2 (Th K H) vs ds
  | _, _, .nil => .nil
  | _, _, .cons h t => .cons h (thAll_to t)
theorem ThAll.app {K : PySem.W.Frag} {H : Hp} {xs ys : List V} {ds es : List PyData} (h : ThAll K H xs ds) (k : ThAll K H ys es) : ThAll K H (xs ++ ys) (ds ++ es) := thAll_of ((thAll_to h).app (thAll_to k))
theorem ThAll.take {K : PySem.W.Frag} {H : Hp} {xs : List V} {ds : List PyData} (n : Nat) (h : ThAll K H xs ds) : ThAll K H (xs.take n) (ds.take n) := thAll_of ((thAll_to h).take n)
theorem ThAll.drop {K : PySem.W.Frag} {H : Hp} {xs : List V} {ds : List PyData} (n : Nat) (h : ThAll K H xs ds) : ThAll K H (xs.drop n) (ds.drop n) := thAll_of ((thAll_to h).drop n)
theorem walk_range0 {n : Nat} : Walk (Itr 0 n) n (fun _ => True) (fun i H v H' => H' = H ∧ v = .int ((i : Nat) : Int)) :=
  ⟨fun _ _ hi _ => hi, fun _ _ => Nat.le_refl _, fun i H x H' _ _ y => ⟨y.1, y.2.trans (by show V.int (0 + (i : Int)) = _; rw [Int.zero_add])⟩⟩
/-! ### a number in a list of numbers -/
theorem inV_int (h : Int) : ∀ hs : List Int, inV (.int h) (hs.map V.int) = decide (h ∈ hs)
  | [] => rfl
  | a :: hs => by
    have ih := inV_int h hs
    unfold inV at ih ⊢
    rw [List.map_cons, List.any_cons, ih]
    have e : eqV (.int a) (.int h) = decide (a = h) := by
      by_cases q : a = h
      · subst q
        rw [decide_eq_true rfl]
        simp [eqV]
      · rw [decide_eq_false q]
        simp [eqV, q]
    rw [e]
    by_cases q : a = h
    · subst q; simp
    · have q2 : ¬ h = a := fun z => q z.symm
      simp [q, q2]
theorem inV_nat (h : Nat) (hs : List Nat) : inV (.int (h : Nat)) (hs.map fun k => V.int (k : Nat)) = decide (h ∈ hs) := by
  have e : (hs.map fun k => V.int ((k : Nat) : Int)) = (hs.map fun k => ((k : Nat) : Int)).map V.int := by rw [List.map_map]; rfl
  rw [e, inV_int]
  refine decide_eq_decide.mpr ⟨fun q => ?_, fun q => List.mem_map.mpr ⟨h, q, rfl⟩⟩
  obtain ⟨x, hx, ex⟩ := List.mem_map.mp q
  have : x = h := by omega
  rw [← this]
  exact hx
theorem flat_nats (hs : List Nat) : (hs.map fun k => V.int ((k : Nat) : Int)).all flatV = true := by
  rw [List.all_map]
  exact List.all_eq_true.mpr fun _ _ => rfl
theorem o_inN {X : Cx} {H : Hp} {Q : VK} {p : Addr} {h : Nat} {hs : List Nat} (k : SqL X.K H p (hs.map fun k => V.int ((k : Nat) : Int))) (q : Q (.bl (decide (h ∈ hs))) H) : oW X (compareOp .In) (.int (h : Nat)) (.ref p) H Q :=
  oI op_in_seq ⟨p, _, rfl, .inl k, rfl, flat_nats hs, by rw [if_neg Bool.false_ne_true, inV_nat]; exact q⟩
theorem o_niN {X : Cx} {H : Hp} {Q : VK} {p : Addr} {h : Nat} {hs : List Nat} (k : SqL X.K H p (hs.map fun k => V.int ((k : Nat) : Int))) (q : Q (.bl (!decide (h ∈ hs))) H) : oW X (compareOp .NotIn) (.int (h : Nat)) (.ref p) H Q :=
  oI op_notIn_seq ⟨p, _, rfl, .inl k, rfl, flat_nats hs, by rw [if_pos rfl, inV_nat]; exact q⟩
theorem dp_nats {K : PySem.W.Frag} {H : Hp} : ∀ (l : List Nat), DpAll K H (l.map fun k => V.int ((k : Nat) : Int)) (l.map fun k => PyData.int ((k : Nat) : Int))
  | [] => .nil
  | z :: l => .cons (.int _) (dp_nats l)
theorem th_nats {K : PySem.W.Frag} {H : Hp} : ∀ (l : List Nat), ThAll K H (l.map fun k => V.int ((k : Nat) : Int)) (l.map fun k => PyData.int ((k : Nat) : Int))
  | [] => .nil
  | z :: l => .cons (.int _) (th_nats l)
theorem nat_get {ks : List Nat} {i : Nat} {k : Nat} (h : ks[i]? = some k) {j : Int} (hj : j = (i : Nat)) : atI (ks.map fun k => V.int ((k : Nat) : Int)) j = some (.int ((k : Nat) : Int)) := by
  subst hj
  exact atI_nat (by omega) (by rw [show ((i : Nat) : Int).toNat = i by omega, List.getElem?_map, h]; rfl)
theorem nats_sh (l : List Nat) : Sh 1 (.list (l.map fun k => PyData.int ((k : Nat) : Int))) := .lst fun d hd => by
  obtain ⟨k, _, rfl⟩ := List.mem_map.mp hd
  exact .int _
theorem eqvAll_nats : ∀ (l m : List Nat), PyData.eqvAll (l.map fun k => PyData.int ((k : Nat) : Int)) (m.map fun k => PyData.int ((k : Nat) : Int)) = decide (l = m)
  | [], [] => rfl
  | [], _ :: _ => by rw [decide_eq_false (by simp)]; rfl
  | _ :: _, [] => by rw [decide_eq_false (by simp)]; rfl
  | a :: l, b :: m => by
    show (((a : Int) == (b : Int)) && PyData.eqvAll (l.map fun k => PyData.int ((k : Nat) : Int)) (m.map fun k => PyData.int ((k : Nat) : Int))) = _
    rw [eqvAll_nats l m]
    by_cases e : a = b
    · subst e
      by_cases e2 : l = m
      · subst e2; simp
      · rw [decide_eq_false e2, decide_eq_false fun z => e2 (List.cons.inj z).2]; simp
    · rw [decide_eq_false fun z => e (List.cons.inj z).1]
      have : ((a : Int) == (b : Int)) = false := by rw [beq_eq_false_iff_ne]; omega
      rw [this]; rfl
theorem eqv_nats (l m : List Nat) : PyData.eqv (.list (l.map fun k => PyData.int ((k : Nat) : Int))) (.list (m.map fun k => PyData.int ((k : Nat) : Int))) = decide (l = m) := eqvAll_nats l m
/-! ### existences whose first word is an equation of values -/
section
theorem xV1 {A1 : Type} {v : V} {f : A1 → V} {p : A1 → Prop} (h : ∃ x1, v = f x1 ∧ p x1) : ∃ x1, v = f x1 ∧ p x1 := h
theorem xL1 {A1 : Type} {v : List V} {f : A1 → List V} {p : A1 → Prop} (h : ∃ x1, v = f x1 ∧ p x1) : ∃ x1, v = f x1 ∧ p x1 := h
theorem xV2 {A1 : Type} {A2 : Type} {v : V} {f : A1 → A2 → V} {p : A1 → A2 → Prop} (h : ∃ x1 x2, v = f x1 x2 ∧ p x1 x2) : ∃ x1 x2, v = f x1 x2 ∧ p x1 x2 := h
theorem xL2 {A1 : Type} {A2 : Type} {v : List V} {f : A1 → A2 → List V} {p : A1 → A2 → Prop} (h : ∃ x1 x2, v = f x1 x2 ∧ p x1 x2) : ∃ x1 x2, v = f x1 x2 ∧ p x1 x2 := h
theorem xV3 {A1 : Type} {A2 : Type} {A3 : Type} {v : V} {f : A1 → A2 → A3 → V} {p : A1 → A2 → A3 → Prop} (h : ∃ x1 x2 x3, v = f x1 x2 x3 ∧ p x1 x2 x3) : ∃ x1 x2 x3, v = f x1 x2 x3 ∧ p x1 x2 x3 := h
theorem xL3 {A1 : Type} {A2 : Type} {A3 : Type} {v : List V} {f : A1 → A2 → A3 → List V} {p : A1 → A2 → A3 → Prop} (h : ∃ x1 x2 x3, v = f x1 x2 x3 ∧ p x1 x2 x3) : ∃ x1 x2 x3, v = f x1 x2 x3 ∧ p x1 x2 x3 := h
theorem xV4 {A1 : Type} {A2 : Type} {A3 : Type} {A4 : Type} {v : V} {f : A1 → A2 → A3 → A4 → V} {p : A1 → A2 → A3 → A4 → Prop} (h : ∃ x1 x2 x3 x4, v = f x1 x2 x3 x4 ∧ p x1 x2 x3 x4) : ∃ x1 x2 x3 x4, v = f x1 x2 x3 x4 ∧ p x1 x2 x3 x4 := h
theorem xL4 {A1 : Type} {A2 : Type} {A3 : Type} {A4 : Type} {v : List V} {f : A1 → A2 → A3 → A4 → List V} {p : A1 → A2 → A3 → A4 → Prop} (h : ∃ x1 x2 x3 x4, v = f x1 x2 x3 x4 ∧ p x1 x2 x3 x4) : ∃ x1 x2 x3 x4, v = f x1 x2 x3 x4 ∧ p x1 x2 x3 x4 := h
theorem xV5 {A1 : Type} {A2 : Type} {A3 : Type} {A4 : Type} {A5 : Type} {v : V} {f : A1 → A2 → A3 → A4 → A5 → V} {p : A1 → A2 → A3 → A4 → A5 → Prop} (h : ∃ x1 x2 x3 x4 x5, v = f x1 x2 x3 x4 x5 ∧ p x1 x2 x3 x4 x5) : ∃ x1 x2 x3 x4 x5, v = f x1 x2 x3 x4 x5 ∧ p x1 x2 x3 x4 x5 := h
theorem xL5 {A1 : Type} {A2 : Type} {A3 : Type} {A4 : Type} {A5 : Type} {v : List V} {f : A1 → A2 → A3 → A4 → A5 → List V} {p : A1 → A2 → A3 → A4 → A5 → Prop} (h : ∃ x1 x2 x3 x4 x5, v = f x1 x2 x3 x4 x5 ∧ p x1 x2 x3 x4 x5) : ∃ x1 x2 x3 x4 x5, v = f x1 x2 x3 x4 x5 ∧ p x1 x2 x3 x4 x5 := h
theorem xV6 {A1 : Type} {A2 : Type} {A3 : Type} {A4 : Type} {A5 : Type} {A6 : Type} {v : V} {f : A1 → A2 → A3 → A4 → A5 → A6 → V} {p : A1 → A2 → A3 → A4 → A5 → A6 → Prop} (h : ∃ x1 x2 x3 x4 x5 x6, v = f x1 x2 x3 x4 x5 x6 ∧ p x1 x2 x3 x4 x5 x6) : ∃ x1 x2 x3 x4 x5 x6, v = f x1 x2 x3 x4 x5 x6 ∧ p x1 x2 x3 x4 x5 x6 := h
theorem xL6 {A1 : Type} {A2 : Type} {A3 : Type} {A4 : Type} {A5 : Type} {A6 : Type} {v : List V} {f : A1 → A2 → A3 → A4 → A5 → A6 → List V} {p : A1 → A2 → A3 → A4 → A5 → A6 → Prop} (h : ∃ x1 x2 x3 x4 x5 x6, v = f x1 x2 x3 x4 x5 x6 ∧ p x1 x2 x3 x4 x5 x6) : ∃ x1 x2 x3 x4 x5 x6, v = f x1 x2 x3 x4 x5 x6 ∧ p x1 x2 x3 x4 x5 x6 := h
theorem xV7 {A1 : Type} {A2 : Type} {A3 : Type} {A4 : Type} {A5 : Type} {A6 : Type} {A7 : Type} {v : V} {f : A1 → A2 → A3 → A4 → A5 → A6 → A7 → V} {p : A1 → A2 → A3 → A4 → A5 → A6 → A7 → Prop} (h : ∃ x1 x2 x3 x4 x5 x6 x7, v = f x1 x2 x3 x4 x5 x6 x7 ∧ p x1 x2 x3 x4 x5 x6 x7) : ∃ x1 x2 x3 x4 x5 x6 x7, v = f x1 x2 x3 x4 x5 x6 x7 ∧ p x1 x2 x3 x4 x5 x6 x7 := h
theorem xL7 {A1 : Type} {A2 : Type} {A3 : Type} {A4 : Type} {A5 : Type} {A6 : Type} {A7 : Type} {v : List V} {f : A1 → A2 → A3 → A4 → A5 → A6 → A7 → List V} {p : A1 → A2 → A3 → A4 → A5 → A6 → A7 → Prop} (h : ∃ x1 x2 x3 x4 x5 x6 x7, v = f x1 x2 x3 x4 x5 x6 x7 ∧ p x1 x2 x3 x4 x5 x6 x7) : ∃ x1 x2 x3 x4 x5 x6 x7, v = f x1 x2 x3 x4 x5 x6 x7 ∧ p x1 x2 x3 x4 x5 x6 x7 := h
theorem iteBT {b : Bool} {A B : Prop} (hb : b = true) (h : A) : if b = true then A else B := by subst hb; exact iteT h
theorem iteBF {b : Bool} {A B : Prop} (hb : b = false) (h : B) : if b = true then A else B := by subst hb; exact iteF h
theorem xA {v u : V} {p : Prop} (h : v = u ∧ p) : v = u ∧ p := h
theorem xC {v u : Bool} {p : Prop} (h : v = u ∧ p) : v = u ∧ p := h
theorem xB {v u : List V} {p : Prop} (h : v = u ∧ p) : v = u ∧ p := h
end
section
variable {X : Cx} {σ : L2.St} {H : Hp} {Q : VK} {D : Ends} {e : Expr} {es : List Expr} {st : Stmt} {b : List Stmt} {R : Bool → Hp → Prop} {U : List V → Hp → Prop} {x y : V} {f : Value → Value → Sem Value} {g : Value} {xs : List V}
theorem is_e (h : eW X e σ H Q) : eW X e σ H Q := h
theorem is_call {n : Str} {p2 pos : Pos} {ks : List Keyword} (h : eW X (.Call (.Name n p2) es ks pos) σ H Q) : eW X (.Call (.Name n p2) es ks pos) σ H Q := h
theorem is_raise {e o : Option Expr} {pos : Pos} (h : sW X (.Raise e o pos) D σ H) : sW X (.Raise e o pos) D σ H := h
theorem is_ex {α : Type} {p : α → Prop} (h : ∃ x, p x) : ∃ x, p x := h
theorem is_and {α : Type} {a b : α} {p : Prop} (h : a = b ∧ p) : a = b ∧ p := h
theorem is_bo {op : Operator} (h : oW X (binaryOp op) x y H Q) : oW X (binaryOp op) x y H Q := h
theorem is_ixP {n : Nat} {o : OfNat Int n} (h : iW X x (.int (@OfNat.ofNat Int n o)) H Q) : iW X x (.int (@OfNat.ofNat Int n o)) H Q := h
theorem is_ixN {n : Nat} {o : OfNat Int n} (h : iW X x (.int (-(@OfNat.ofNat Int n o))) H Q) : iW X x (.int (-(@OfNat.ofNat Int n o))) H Q := h
theorem is_o (h : oW X f x y H Q) : oW X f x y H Q := h
theorem is_k (h : kW X g xs H Q) : kW X g xs H Q := h
theorem is_i (h : iW X x y H Q) : iW X x y H Q := h
theorem is_a (h : aW X es σ H U) : aW X es σ H U := h
theorem is_s (h : sW X st D σ H) : sW X st D σ H := h
theorem is_b (h : bW X b D σ H) : bW X b D σ H := h
theorem is_t (h : tW X e σ H R) : tW X e σ H R := h
theorem is_c (h : cW X e σ H R) : cW X e σ H R := h
theorem is_p {e : Option Expr} {q : Option Int → Hp → Prop} (h : pW X e σ H q) : pW X e σ H q := h
theorem is_g {v : V} {q : L2.St → Hp → Prop} (h : gW X e v σ H q) : gW X e v σ H q := h
theorem is_iteD {p : Prop} {d : Decidable p} {e : Decidable (decide p = true)} {A B : Prop} (h : @ite Prop (decide p = true) e A B) : @ite Prop (decide p = true) e A B := h
theorem is_iteND {p : Prop} {d : Decidable p} {e : Decidable ((!decide p) = true)} {A B : Prop} (h : @ite Prop ((!decide p) = true) e A B) : @ite Prop ((!decide p) = true) e A B := h
theorem iteDT {p : Prop} [Decidable p] {A B : Prop} (hp : p) (h : A) : if decide p = true then A else B := by rw [decide_eq_true hp]; exact iteT h
theorem iteDF {p : Prop} [Decidable p] {A B : Prop} (hp : ¬ p) (h : B) : if decide p = true then A else B := by rw [decide_eq_false hp]; exact iteF h
theorem iteNDT {p : Prop} [Decidable p] {A B : Prop} (hp : ¬ p) (h : A) : if (!decide p) = true then A else B := by rw [decide_eq_false hp]; exact iteT h
theorem iteNDF {p : Prop} [Decidable p] {A B : Prop} (hp : p) (h : B) : if (!decide p) = true then A else B := by rw [decide_eq_true hp]; exact iteF h
theorem ref_ne_non {a : Addr} : ¬ V.ref a = V.non := fun z => nomatch z
theorem int_ne_non {a : Int} : ¬ V.int a = V.non := fun z => nomatch z
theorem str_ne_non {a : Str} : ¬ V.str a = V.non := fun z => nomatch z
theorem bl_ne_non {a : Bool} : ¬ V.bl a = V.non := fun z => nomatch z
theorem is_ite {p : Prop} {d : Decidable p} {A B : Prop} (h : @ite Prop p d A B) : @ite Prop p d A B := h
end
end G

namespace G
open PySem PySem.Spec PyProof.Rows L2 TL
/-! ### attributes -/
section
variable {X : Cx} {σ : L2.St} {H : Hp} {Q : VK} {D : Ends} {pos p2 p3 : Pos} {o e : Expr} {f : Str}
theorem e_fld (h : eW X e σ H fun x H1 => ∃ a C dx fs v, x = .ref a ∧ H1 a = some (.ins C dx fs) ∧ Cls X.K C ∧ NoAttr X.K C f ∧ fs.lookup f = some v ∧ Q v H1) (hb : attributeBase e f X.env (eval e X.env) = eval e X.env := by rfl) : eW X (.Attribute e f pos) σ H Q := eI (pe_fld PEw hb) h
theorem s_fld (h : eW X e σ H fun y H1 => eW X o σ H1 fun x H2 => ∃ a C dx fs, x = .ref a ∧ H2 a = some (.ins C dx fs) ∧ Cls X.K C ∧ NoAttr X.K C f ∧ fs.length < 1000 ∧ ∀ H3, H3 a = some (.ins C dx (putF f y fs)) → (∀ b, b ≠ a → H3 b = H2 b) → D.nx σ H3)
    (hs : swapsWith e (some (.Attribute o f p2)) pos.line X.env = pure false := by rfl) : sW X (.Assign [.Attribute o f p2] e pos) D σ H :=
  sI (ps_fld PEw PEw hs) (eMono h fun y H1 q => eMono q fun x H2 ⟨a, C, dx, fs, e1, e2, e3, e4, e5, q⟩ => ⟨a, C, dx, fs, e1, e2, e3, e4, e5, q _ upd_same fun b hb => upd_ne hb⟩)
/-- o.f += e, numbers -/
theorem s_fldaug (h : eW X o σ H fun x H1 => ∃ a C dx fs i, x = .ref a ∧ H1 a = some (.ins C dx fs) ∧ Cls X.K C ∧ NoAttr X.K C f ∧ fs.lookup f = some (.int i) ∧ eW X e σ H1 fun y H2 => ∃ j dx' fs', y = .int j ∧ H2 a = some (.ins C dx' fs') ∧ fs'.length < 1000 ∧ ∀ H3, H3 a = some (.ins C dx' (putF f (.int (i + j)) fs')) → (∀ b, b ≠ a → H3 b = H2 b) → D.nx σ H3) : sW X (.AugAssign (.Attribute o f p2) .Add e pos) D σ H :=
  sI (ps_fldaug PEw PEw in_add) (eMono h fun x H1 ⟨a, C, dx, fs, i, e1, e2, e3, e4, e5, q⟩ => ⟨a, C, dx, fs, .int i, e1, e2, e3, e4, e5, eMono q fun y H2 ⟨j, dx', fs', w1, w2, w3, w4⟩ => ⟨i, j, rfl, w1, dx', fs', w2, w3, w4 _ upd_same fun b hb => upd_ne hb⟩⟩)
end
/-- facts of the classes by instances -/
class NoA (K : PySem.W.Frag) (C : Addr) (f : Str) : Prop where h : NoAttr K C f
class ClsI (K : PySem.W.Frag) (C : Addr) : Prop where h : Cls K C
section
variable {X : Cx} {σ : L2.St} {H : Hp} {Q : VK} {D : Ends} {pos p2 p3 : Pos} {e : Expr} {f x : Str} {N : List Str} {K : PySem.W.Frag} {i : Nat} {a C dx : Addr} {fs : List (Str × V)} {v : V}
/-- x.f, x a name -/
theorem is_attr (h : eW X (.Attribute (.Name x p2) f pos) σ H Q) : eW X (.Attribute (.Name x p2) f pos) σ H Q := h
theorem e_fldV [cn : CxN X N] [ck : CxK X K] [sl : Slt N x i] (hs : σ[i]? = some (some (.ref a))) (hi : H a = some (.ins C dx fs)) [na : NoA K C f] [cl : ClsI K C] (hl : fs.lookup f = some v) (q : Q v H)
    (hv : Vis X.env.scope x := by first | exact Or.inl rfl | exact Or.inr (Or.inl rfl) | exact Or.inr (Or.inr rfl)) (hd : (x == ("__debug__" : Str)) = false := by decide) (hcd : (x == ("__classdict__" : Str)) = false := by decide)
    (hb : attributeBase (.Name x p2) f X.env (eval (.Name x p2) X.env) = eval (.Name x p2) X.env := by rfl) : eW X (.Attribute (.Name x p2) f pos) σ H Q :=
  e_fld (e_var hs ⟨a, C, dx, fs, v, rfl, hi, by rw [ck.h]; exact cl.h, by rw [ck.h]; exact na.h, hl, q⟩ hv hd hcd) hb
/-- x.f = e, x a name -/
theorem s_fldV [cn : CxN X N] [ck : CxK X K] [sl : Slt N x i] (h : eW X e σ H fun y H1 => ∃ a C dx fs, σ[i]? = some (some (.ref a)) ∧ H1 a = some (.ins C dx fs) ∧ NoA K C f ∧ ClsI K C ∧ fs.length < 1000 ∧ ∀ H3, H3 a = some (.ins C dx (putF f y fs)) → (∀ b, b ≠ a → H3 b = H1 b) → D.nx σ H3)
    (hv : Vis X.env.scope x := by first | exact Or.inl rfl | exact Or.inr (Or.inl rfl) | exact Or.inr (Or.inr rfl)) (hd : (x == ("__debug__" : Str)) = false := by decide) (hcd : (x == ("__classdict__" : Str)) = false := by decide)
    (hs : swapsWith e (some (.Attribute (.Name x p3) f p2)) pos.line X.env = pure false := by rfl) : sW X (.Assign [.Attribute (.Name x p3) f p2] e pos) D σ H :=
  s_fld (eMono h fun y H1 ⟨a, C, dx, fs, w1, w2, w3, w4, w5, w6⟩ => e_var w1 ⟨a, C, dx, fs, rfl, w2, by rw [ck.h]; exact w4.h, by rw [ck.h]; exact w3.h, w5, w6⟩ hv hd hcd) hs
end
/-! ### classes with __init__ -/
structure Ini (P : Program) (w : World) (K : PySem.W.Frag) (mg : Str → Option Value) (base : Heap) (C : Addr) (k : Nat) (ps : List Str) (sp : Sp) : Prop where
  ex : ∃ (f : Addr) (fd : FuncData), Mk K C f ∧ Binds K fd ps [] ∧ FnOk P w K mg base (L2.CX P w) k f fd ps sp
section
variable {X : Cx} {σ : L2.St} {H : Hp} {Q : VK} {pos p2 apos : Pos} {e o : Expr} {es : List Expr} {mg : Str → Option Value} {C : Addr} {x m : Str} {k : Nat} {ps : List Str} {sp : Sp} {W : WX}
theorem run_makeS {CX : CXT} {f : Addr} {fd : FuncData} {E : XK} {pins : List (Addr × Obj)} {s : Shared} {us : List Value} {vs : List V} (M : Mk X.K C f) (F : FnOk X.prog X.w X.K X.mg X.base CX k f fd ps sp) (hr : Room (k + 1) X.A) (hb : Binds X.K fd ps [])
    (hx : PassesAt CX X σ E) (I : Inv X pins σ H s) (r : Vals vs us)
    (h : ∀ x dx, H x = none → H dx = none → dx ≠ x → sp (.ref x :: vs) (upd (upd H dx (.own x)) x (.ins C dx [])) (fun v H2 => v = .non ∧ Q (.ref x) H2) E) :
    wpAny (model X.prog X.w) X.A (call (.ref C) us) (EP X pins σ Q) X.xe s := by
  have hq := h (s.heap.objs.size + 1) s.heap.objs.size (I.hok.fresh (Nat.le_succ _)) (I.hok.fresh (Nat.le_refl _)) (Nat.ne_of_lt (Nat.lt_succ_self _))
  have I2 := Inv.made (C := C) I
  have r2 : Vals (V.ref (s.heap.objs.size + 1) :: vs) (Value.ref (s.heap.objs.size + 1) :: us) := .cons rfl r
  have hl : (Value.ref (s.heap.objs.size + 1) :: us ++ []).length = ps.length := by
    have e := r2.length
    rw [F.len _ _ _ _ hq] at e
    rw [List.append_nil]
    exact e.symm
  have b := hb _ (Value.ref (s.heap.objs.size + 1) :: us) I2.kIn hl
  rw [List.append_nil] at b
  refine wpAny_call (make_map (f := f) I.kIn M.makes M.init (beq_iff_eq.mp M.fn) (codeAny_mono (F.run _ X.stack _ _ ⟨Value.ref (s.heap.objs.size + 1) :: us, []⟩ (Value.ref (s.heap.objs.size + 1) :: us) _ _ E (hr.make C us [])
    (I2.env0.make C us []) b r2 hq) fun r s' hq' => ?_))
  cases r with
  | error e => exact hx pins _ _ e s' I2 hq'
  | ok fl =>
    cases fl with
    | ret u =>
      obtain ⟨v, H', I3, rv, ev, q3⟩ := I2.after hq'
      subst ev
      exact ⟨rv, ⟨V.ref (s.heap.objs.size + 1), H', I3, rfl, q3⟩⟩
    | next => exact False.elim hq'
    | brk => exact False.elim hq'
    | cont => exact False.elim hq'
theorem e_make [ct : CxT X W] [cm : CxM X mg] [g : Gn mg x (some (.ref C))] (F : Ini X.prog X.w X.K X.mg X.base C k ps sp) (hr : Room (k + 1) X.A)
    (h : aW X (e :: es) σ H fun vs H1 => ∀ p dx H2, Same H1 H2 → H1 p = none → H1 dx = none → dx ≠ p → H2 p = some (.ins C dx []) → H2 dx = some (.own p) → (∀ b, b ≠ p → b ≠ dx → H2 b = H1 b) → sp (.ref p :: vs) H2 (fun v H3 => v = .non ∧ Q (.ref p) H3) fun cls d H' => W cls d σ H')
    (hg : Gl X x := by rfl) (hdb : (x == ("__debug__" : Str)) = false := by decide) (he : starEach (e :: es) X.env = (false, eval e X.env) :: starEach es X.env := by rfl) (hpl : (backTo pos (starEach es X.env)).any (·.1) = false := by rfl) : eW X (.Call (.Name x p2) (e :: es) [] pos) σ H Q := by
  obtain ⟨f, fd, h1, h2, h3⟩ := F.ex
  refine ⟨fun pins s I => wpAny_Call_Name_kw (ld_glob I hg (by rw [cm.h]; exact g.h) ?_ hdb)⟩
  refine PySem.W.callWith_K (h₀ := X.base) I.ok.mod.kin h1.kp (thn (h.run pos pins s I) fun us s1 ⟨vs, H1, I1, r, q⟩ => ⟨I1.kIn, ?_⟩) he hpl
  exact run_makeS h1 h3 hr h2 (passAt ct.h σ) I1 r fun p dx hp hdx hne => q p dx _ (Same.made' hp hdx) hp hdx hne upd_same (by rw [upd_ne hne]; exact upd_same) fun b hb hb2 => by rw [upd_ne hb, upd_ne hb2]
/-- o.m(e, ..), that may raise -/
theorem e_methR [ct : CxT X W] (c : Cls X.K C) (F : Md X.prog X.w X.K X.mg X.base C m k ps sp) (hr : Room k X.A)
    (h : eW X o σ H fun x H1 => ∃ a dx fs, x = .ref a ∧ H1 a = some (.ins C dx fs) ∧ fs.lookup m = none ∧ aW X (e :: es) σ H1 fun vs H2 => sp (x :: vs) H2 Q fun cls d H' => W cls d σ H') {pl : Sem Bool}
    (hst : starEach (e :: es) X.env = (false, eval e X.env) :: starEach es X.env := by rfl) (hpl : (backTo pos (starEach es X.env)).any (·.1) = false := by rfl)
    (ht : eval (.Call (.Attribute o m apos) (e :: es) [] pos) X.env = (do
      let ov ← eval o X.env
      standAt apos.atName
      let (f, first) ← holding [ov] (getMethod ov m pl)
      callWith pos f first (backTo pos (starEach (e :: es) X.env)) (backToKw pos (keywordEach [] X.env))) := by rfl) : eW X (.Call (.Attribute o m apos) (e :: es) [] pos) σ H Q := by
  obtain ⟨f, fd, h1, h2, h3⟩ := F.ex
  refine ⟨fun pins s I => PySem.W.methodCall_KW (pl := pl) (thn (h.run pins s I) fun u s1 ⟨x, H1, I1, rx, a, dx, fs, ex, ea, l, q⟩ => ?_) ht⟩
  subst ex
  obtain rfl : u = Value.ref a := rx
  refine getmeth_ok I1 ea c h1 l ?_
  refine PySem.W.callWith_K (first := [.ref a]) (h₀ := X.base) I.ok.mod.kin h1.kp (thn (q.run pos pins s1 I1) fun us s2 ⟨vs, H2, I2, r, q2⟩ => ⟨I2.kIn, ?_⟩) hst hpl
  exact run_fnS (E := WE W) (us := .ref a :: us) (vs := .ref a :: vs) h3 hr h2 (passAt ct.h σ) I2 (.cons rfl r) q2
/-- x.m(e, ..), x.m(), x a name -/
theorem is_meth {ks : List Keyword} {y : Str} {p3 : Pos} (h : eW X (.Call (.Attribute (.Name y p3) m apos) es ks pos) σ H Q) : eW X (.Call (.Attribute (.Name y p3) m apos) es ks pos) σ H Q := h
theorem e_methV {N : List Str} {y : Str} {i : Nat} {a dx : Addr} {fs : List (Str × V)} {p3 : Pos} [ct : CxT X W] [cn : CxN X N] [sl : Slt N y i] (c : Cls X.K C) (F : Md X.prog X.w X.K X.mg X.base C m k ps sp) (hr : Room k X.A) (hs : σ[i]? = some (some (.ref a))) (hi : H a = some (.ins C dx fs)) (hl : fs.lookup m = none)
    (h : aW X (e :: es) σ H fun vs H2 => sp (.ref a :: vs) H2 Q fun cls d H' => W cls d σ H') {pl : Sem Bool}
    (hv : Vis X.env.scope y := by first | exact Or.inl rfl | exact Or.inr (Or.inl rfl) | exact Or.inr (Or.inr rfl)) (hd : (y == ("__debug__" : Str)) = false := by decide) (hcd : (y == ("__classdict__" : Str)) = false := by decide)
    (hst : starEach (e :: es) X.env = (false, eval e X.env) :: starEach es X.env := by rfl) (hpl : (backTo pos (starEach es X.env)).any (·.1) = false := by rfl)
    (ht : eval (.Call (.Attribute (.Name y p3) m apos) (e :: es) [] pos) X.env = (do
      let ov ← eval (.Name y p3) X.env
      standAt apos.atName
      let (f, first) ← holding [ov] (getMethod ov m pl)
      callWith pos f first (backTo pos (starEach (e :: es) X.env)) (backToKw pos (keywordEach [] X.env))) := by rfl) : eW X (.Call (.Attribute (.Name y p3) m apos) (e :: es) [] pos) σ H Q :=
  e_methR c F hr (e_var hs ⟨a, dx, fs, rfl, hi, hl, h⟩ hv hd hcd) hst hpl ht
theorem e_methR0 [ct : CxT X W] (c : Cls X.K C) (F : Md X.prog X.w X.K X.mg X.base C m k ps sp) (hr : Room k X.A)
    (h : eW X o σ H fun x H1 => ∃ a dx fs, x = .ref a ∧ H1 a = some (.ins C dx fs) ∧ fs.lookup m = none ∧ sp [x] H1 Q fun cls d H' => W cls d σ H') {pl : Sem Bool}
    (ht : eval (.Call (.Attribute o m apos) [] [] pos) X.env = (do
      let ov ← eval o X.env
      standAt apos.atName
      let (f, first) ← holding [ov] (getMethod ov m pl)
      callWith pos f first (backTo pos (starEach [] X.env)) (backToKw pos (keywordEach [] X.env))) := by rfl) : eW X (.Call (.Attribute o m apos) [] [] pos) σ H Q := by
  obtain ⟨f, fd, h1, h2, h3⟩ := F.ex
  refine ⟨fun pins s I => PySem.W.methodCall_KW (pl := pl) (thn (h.run pins s I) fun u s1 ⟨x, H1, I1, rx, a, dx, fs, ex, ea, l, q⟩ => ?_) ht⟩
  subst ex
  obtain rfl : u = Value.ref a := rx
  refine getmeth_ok I1 ea c h1 l ?_
  exact PySem.W.callWith_K0 (first := [.ref a]) I1.kIn h1.kp (run_fnS (E := WE W) (us := [.ref a]) (vs := [.ref a]) h3 hr h2 (passAt ct.h σ) I1 (.cons rfl .nil) q)
theorem e_methV0 {N : List Str} {y : Str} {i : Nat} {a dx : Addr} {fs : List (Str × V)} {p3 : Pos} [ct : CxT X W] [cn : CxN X N] [sl : Slt N y i] (c : Cls X.K C) (F : Md X.prog X.w X.K X.mg X.base C m k ps sp) (hr : Room k X.A) (hs : σ[i]? = some (some (.ref a))) (hi : H a = some (.ins C dx fs)) (hl : fs.lookup m = none)
    (h : sp [.ref a] H Q fun cls d H' => W cls d σ H') {pl : Sem Bool}
    (hv : Vis X.env.scope y := by first | exact Or.inl rfl | exact Or.inr (Or.inl rfl) | exact Or.inr (Or.inr rfl)) (hd : (y == ("__debug__" : Str)) = false := by decide) (hcd : (y == ("__classdict__" : Str)) = false := by decide)
    (ht : eval (.Call (.Attribute (.Name y p3) m apos) [] [] pos) X.env = (do
      let ov ← eval (.Name y p3) X.env
      standAt apos.atName
      let (f, first) ← holding [ov] (getMethod ov m pl)
      callWith pos f first (backTo pos (starEach [] X.env)) (backToKw pos (keywordEach [] X.env))) := by rfl) : eW X (.Call (.Attribute (.Name y p3) m apos) [] [] pos) σ H Q :=
  e_methR0 c F hr (e_var hs ⟨a, dx, fs, rfl, hi, hl, h⟩ hv hd hcd) ht
end
/-! ### dicts with tuple keys -/
section
variable {X : Cx} {pins : List (Addr × Obj)} {σ : L2.St} {H : Hp} {s : Shared} {a b : Addr} {r : Value} {d : V} {k : List Key} {A : Around} {E : Value → Shared → Prop}
theorem d_setdT {kvs : List (List Key × V)} {Q : Value → Shared → Prop} (hu : A.units + 1 < cLine) (I : Inv X pins σ H s) (e : H a = some (.dT kvs)) (eb : H b = some (.tup (k.map kV))) (rd : RelV d r) (hl : kvs.length < sizeLine)
    (h1 : ∀ v, valV kvs k = some v → ∀ (w' : Value) (s' : Shared), Inv X pins σ H s' → RelV v w' → Q w' s') (h2 : valV kvs k = none → ∀ (w' : Value) (s' : Shared), Inv X pins σ (upd H a (.dT (putK kvs k d))) s' → RelV d w' → Q w' s') :
    wpAny (model X.prog X.w) A (call (.builtin "dict.setdefault") [.ref a, .ref b, r]) Q E s := by
  obtain ⟨z, hd, xs, rel, dd⟩ := dt_of I.hok e
  have hz : xs.length ≤ sizeLine := by rw [← Paired.length rel]; exact z
  have hl2 : (putK kvs k d).length ≤ sizeLine := by have := length_putK kvs k d; omega
  refine call_setdefault_heap (hsz := hz) (tupleKind_room_in1 hu) (key_of I.hok eb) hd dd (fun p hp => ?_) fun hn h' dd' hs => ?_
  · have q := rel.val k
    rw [hp] at q
    cases q0 : valV kvs k with
    | none => rw [q0] at q; exact (show False from q).elim
    | some v0 => rw [q0] at q; exact h1 v0 q0 _ _ (I.tok _) q
  · have q := rel.val k
    rw [hn] at q
    cases q0 : valV kvs k with
    | some v0 => rw [q0] at q; exact (show False from q).elim
    | none =>
      refine h2 q0 _ _ ?_ rd
      obtain ⟨q, es, ep, hq, h2, h3, h4, _, h5⟩ := dd'
      refine d_write I (by rw [e]; exact True.intro) hs ⟨q, hq⟩ ⟨hl2, hd, _, (rel.put k eb rd).keeps fun c ys ec => ?_, q, es, ep, hq, h2, h3, h4, h5⟩
      rw [upd_ne (ne_of ec e (fun z => nomatch z))]
      exact ec
end
section
variable {X : Cx} {σ : L2.St} {H : Hp} {Q : VK} {o e f : Expr} {apos cpos : Pos} {R : It → Hp → Prop}
theorem e_dsetdT (hu : X.A.units + 1 < cLine) (h : eW X o σ H fun x H1 => ∃ a, x = .ref a ∧ IsD H1 a ∧ eW X e σ H1 fun y H2 => eW X f σ H2 fun z H3 => ∃ (kvs : List (List Key × V)) (k : List Key) (b : Addr), H3 a = some (.dT kvs) ∧ y = .ref b ∧ H3 b = some (.tup (k.map kV)) ∧ kvs.length ≤ 10000000 ∧ (∀ v, valV kvs k = some v → Q v H3) ∧ (valV kvs k = none → ∀ H4, H4 a = some (.dT (putK kvs k z)) → (∀ b, b ≠ a → H4 b = H3 b) → Q z H4))
    (m : M2 X o "setdefault" apos e f cpos := by exact ⟨rfl, rfl, rfl, rfl⟩) : eW X (.Call (.Attribute o "setdefault" apos) [e, f] [] cpos) σ H Q := by
  refine ⟨fun pins s I => ?_⟩
  refine wpAny_Call_method m.base m.few m.line PySem.F.plainAttrs_dict PySem.F.slot_dict_setdefault PySem.F.type_dict_setdefault (thn (h.run pins s I) fun u s1 ⟨x, H1, I1, rx, a, ex, d, q1⟩ => ?_)
  subst ex
  obtain rfl : u = Value.ref a := rx
  obtain ⟨t1, t2, _⟩ := isD_at I1 d
  refine ⟨t1, t2, ?_⟩
  rw [m.trees]
  refine Calls.callWith_builtin rfl (Calls.evalArgs_plain (Calls.spliced_cons (thn (q1.run pins s1 I1) fun iv s2 ⟨y, H2, I2, ry, q2⟩ =>
    Calls.spliced_cons (thn (q2.run pins s2 I2) fun fv s3 ⟨z, H3, I3, rz, kvs, k, b, ea, ey, eb, hl, q3, q4⟩ => Calls.spliced_nil ?_))))
  subst ey
  obtain rfl : iv = Value.ref b := ry
  exact d_setdT hu I3 ea eb rz (by rw [sizeLine_eq]; omega) (fun v hv w' s4 I4 rw' => ⟨v, _, I4, rw', q3 v hv⟩) fun hn w' s4 I4 rw' => ⟨z, _, I4, rw', q4 hn _ upd_same fun c hc => upd_ne hc⟩
/-- the entries of the locked dict at d, tuple keys -/
def ItiT (d : Addr) (o : Obj) (kvs : List (List Key × V)) : It :=
  ⟨fun i H => H d = some (.frz o (.dT kvs)) ∧ i < kvs.length, fun i H x H' => ∃ T k v q, kvs[i]? = some (k, v) ∧ x = .ref T ∧ H T = none ∧ H q = some (.tup (k.map kV)) ∧ H' = upd H T (.tup [.ref q, v]), fun i H => H d = some (.frz o (.dT kvs)) ∧ kvs.length ≤ i⟩
end
theorem Inv.frzT2 {X : Cx} {pins : List (Addr × Obj)} {σ : L2.St} {H : Hp} {s : Shared} {d : Addr} {o : Obj} {kvs : List (List Key × V)} (I : Inv X pins σ H s) (h : H d = some (.frz o (.dT kvs))) :
    (d == sysModules) = false ∧ s.heap.get? d = some o ∧ o.ExactDict ∧ ∃ (es : Array DictEntry) (ep : Nat), o.data = .dict es ep ∧ es.size = kvs.length ∧
      ∀ (i : Nat) (k : List Key) (v : V), kvs[i]? = some (k, v) → ∃ (en : DictEntry) (q : Addr), es[i]? = some en ∧ en.key = .ref q ∧ H q = some (.tup (k.map kV)) ∧ RelV v en.val := by
  obtain ⟨hd, z, hs, xs, pr, o', es, ep, ho, hx, hdt, he, _⟩ := I.hok d _ h
  rw [hd] at ho
  cases ho
  refine ⟨hs, hd, hx, es, ep, hdt, ?_, fun i k v e => ?_⟩
  · have l1 : es.size = xs.length := size_of_entries he
    have l2 : kvs.length = xs.length := Paired.length pr
    omega
  · obtain ⟨b, hb, e1, e2, e3⟩ := paired_get pr e
    have q := entry_at he i
    rw [hb] at q
    exact ⟨_, b.2.1, q, rfl, e2, e3⟩
section
variable {P : Program} {w : World} {K : PySem.W.Frag} {tg : Expr} {d : Addr} {o : Obj} {es : Array DictEntry} {ep : Nat}
theorem turn_itemsT {kvs : List (List Key × V)} {elts : List Expr} {kk : Nat} {tpos : Pos} (it : Addr) (hod : o.data = .dict es ep) :
    Turn P w K (.Tuple elts kk tpos) (ItiT d o kvs) [it] it (fun i h => ∃ ok ov, IsItemIter h it d i kvs.length ep ok ov) where
  mem := by simp
  obj := fun i h st b hb => by
    have e : b = it := by simpa using hb
    subst e
    obtain ⟨ok, ov, e⟩ := st
    exact ⟨_, e, fun v z => nomatch z⟩
  keep := fun i h h' st k => let ⟨ok, ov, e⟩ := st; ⟨ok, ov, k it (by simp) _ e⟩
  item := by
    intro X hP hw hK hc i pins s σ H E I hf st hg
    subst hP hw hK
    obtain ⟨hd, hi⟩ := hg
    obtain ⟨hs, hgd, hx, es', ep', hdt, hsz, ent⟩ := Inv.frzT2 I hd
    obtain ⟨rfl, rfl⟩ := dict_ep hod hdt
    obtain ⟨⟨k, v⟩, hkv⟩ : ∃ p, kvs[i]? = some p := ⟨kvs[i], List.getElem?_eq_getElem hi⟩
    obtain ⟨en, q, hen, hkey, hq, ru⟩ := ent i k v hkv
    obtain ⟨ok, ov, he⟩ := st
    rw [← hsz] at he
    have hlt : it < s.heap.objs.size := Heap.lt_size he
    have hi2 : i < es'.size := by omega
    have een : es'[i] = en := by
      have := Array.getElem?_eq_getElem hi2
      rw [this] at hen
      exact Option.some.inj hen
    refine wpAny_pyNext_items_item_raw he ⟨o, hgd, hx, hdt⟩ hi2 fun h' ho hT hz hk => ?_
    rw [een, hkey] at ho hT
    refine ⟨_, rfl, wpAny_letOwnedTupleGo_items (s := { s with heap := h' }) ho fun h'' he' sb => ?_⟩
    have hT2 : h''.get? s.heap.objs.size = some { cls := .type "tuple", data := .seq #[.ref q, en.val] } := (sb.2 _ (Nat.ne_of_gt hlt)).trans hT
    have new : ObjOk X.prog X.w (upd H s.heap.objs.size (.tup [.ref q, v])) h'' s.heap.objs.size (.tup [.ref q, v]) :=
      ⟨by show 2 ≤ sizeLine; decide, [.ref q, en.val], .cons rfl (.cons ru .nil), ⟨_, hT2, rfl, _, rfl⟩⟩
    have I1 : Inv X pins σ (upd H s.heap.objs.size (.tup [.ref q, v])) { s with heap := h'' } :=
      I.turnedNew (t' := s.toks) (ch := [it]) (fun b ob hb e => (sb.2 b (by simpa using hb)).trans (hk b ob (by simpa using hb) e)) hf (Nat.le_refl _) new
    refine ⟨.ref s.heap.objs.size, _, I1, rfl, ⟨_, k, v, q, hkv, rfl, I.hok.fresh (Nat.le_refl _), hq, rfl⟩, ⟨.ref q, en.val, ?_⟩, fun b hb => ?_⟩
    · rw [← hsz]; exact he'
    · have e : b = it := by simpa using hb
      rw [e, upd_ne (Nat.ne_of_lt hlt)]
      exact (hf it (by simp)).1
  done := by
    intro X hP hw hK hc i pins s σ H E I hf st hg
    subst hP hw hK
    obtain ⟨hd, hi⟩ := hg
    obtain ⟨f0, f1, f2, f3, f4, f5⟩ := hf it (by simp)
    obtain ⟨hs, hgd, hx, es', ep', hdt, hsz, ent⟩ := Inv.frzT2 I hd
    obtain ⟨rfl, rfl⟩ := dict_ep hod hdt
    obtain ⟨ok, ov, he⟩ := st
    rw [← hsz] at he
    exact wpAny_pyNext_items_end_raw (I.ok.hd hc) he ⟨o, hgd, hx, hdt⟩ (by omega) fun h' eb => ⟨rfl, I.turned (t' := s.toks) (fun b ob hb e => eb b ob hb e) f0 f1 f3 f4 f5⟩
  self := fun A i s Q E st h => let ⟨_, _, e⟩ := st; PySem.W.kcp_self e h
end
theorem j_itemsT {X : Cx} {σ : L2.St} {H : Hp} {R : It → Hp → Prop} {e : Expr} {elts : List Expr} {kk : Nat} {p3 apos cpos : Pos} (h : eW X e σ H fun x H1 => ∃ d o kvs, x = .ref d ∧ H1 d = some (.frz o (.dT kvs)) ∧ R (ItiT d o kvs) H1)
    (hbase : attributeBase e "items" X.env (eval e X.env) = eval e X.env := by rfl) (hline : (apos.endLine == cpos.line) = true := by rfl) : jW X (.Tuple elts kk p3) (.Call (.Attribute e "items" apos) [] [] cpos) σ H R := by
  refine ⟨fun pins s I => ?_⟩
  refine wpAny_Call_method (T := "dict") (id := "dict.items") hbase rfl hline F.plainAttrs_dict F.slot_dict_items F.type_dict_items (thn (h.run pins s I) fun u s1 ⟨x, H1, I1, rx, d, o, kvs, ex, hd, q⟩ => ?_)
  subst ex
  obtain rfl : u = Value.ref d := rx
  obtain ⟨hs, hgd, hx, es, ep, hdt, hsz, ent⟩ := Inv.frzT2 I1 hd
  have hr : s1.heap.DictRaw d es ep := ⟨o, hgd, hx, hdt⟩
  refine ⟨hr.typeIs, fun b q => by cases q; exact ⟨o, hgd, hx.2.1⟩, ?_⟩
  have I2 : Inv X pins σ H1 { s1 with heap := s1.heap.push { cls := .type "dict_items", data := .fields #[.ref d] } } := I1.kept (t' := s1.toks) fun b ob q => Heap.get?_push_of_some _ q
  have fin : wpAny (model X.prog X.w) X.A (pyIter (.ref s1.heap.objs.size)) (PIE X pins σ (.Tuple elts kk p3) R) X.xe { s1 with heap := s1.heap.push { cls := .type "dict_items", data := .fields #[.ref d] } } := by
    refine wpAny_pyIter_items_raw (d := d) ⟨_, Heap.get?_push_size _ rfl, rfl, rfl⟩ (hr.at fun ob q => Heap.get?_push_of_some _ q) (pi_one (tk := s1.toks) I2 _ (turn_itemsT _ hdt) ⟨.none, .none, ?_⟩ q)
    rw [← hsz]
    exact Heap.get?_push_size _ rfl
  show wpAny _ _ (callWith cpos (.builtin "dict.items") [.ref d] [] []) _ X.xe s1
  exact method_meetsIn F.slot_dict_items F.entry_dict_items rfl (PySem.evalArgs_none ⟨rfl, hr.typeIs, F.args_dict_items_1 _, _, meets_dict_items_raw d hs, ⟨es, ep, hr⟩, fin⟩)
theorem walk_itemsT {d : Addr} {o : Obj} {kvs : List (List Key × V)} : Walk (ItiT d o kvs) kvs.length (fun H => H d = some (.frz o (.dT kvs))) (fun i H x H' => ∃ T k v q, kvs[i]? = some (k, v) ∧ x = .ref T ∧ H T = none ∧ H q = some (.tup (k.map kV)) ∧ H' = upd H T (.tup [.ref q, v])) :=
  ⟨fun _ _ hi q => ⟨q, hi⟩, fun _ q => ⟨q, Nat.le_refl _⟩, fun _ _ _ _ _ _ y => y⟩
/-! ### a list against the empty one -/
section
variable {X : Cx} {H : Hp} {Q : VK} {p q : Addr} {xs : List V}
theorem o_neNil (hu : X.A.units + 64 < cLine) (h1 : H p = some (.lst xs)) (h2 : H q = some (.lst [])) (qq : Q (.bl (!decide (xs = []))) H) : oW X (compareOp .NotEq) (.ref p) (.ref q) H Q := by
  refine ⟨fun pins s σ v u I rx ry => ?_⟩
  cases rx
  cases ry
  obtain ⟨z, its, n, r, hl, e⟩ := I.lstM h1
  obtain ⟨z2, its2, n2, r2, hl2, e2⟩ := I.lstM h2
  cases r2
  have L1 : s.heap.IsList p its.toArray := ⟨_, e, rfl, n, rfl⟩
  have L2 : s.heap.IsList q (#[] : Array Value) := ⟨_, e2, rfl, n2, rfl⟩
  cases r with
  | nil =>
    refine SeqAt.RcNeAt.lists (e := fun _ => true) L1 L2 rfl (by omega) (fun j h1 => by cases h1) X.prog X.w X.xe _ ?_
    exact ⟨.bl false, H, I, rfl, qq⟩
  | @cons x y xs ys a b =>
    refine SeqAt.RcNeAt.lists_lengths L1 L2 (by simp) (by omega) X.prog X.w X.xe _ ?_
    exact ⟨.bl true, H, I, rfl, by rw [decide_eq_false (by simp)] at qq; exact qq⟩
theorem o_eqNil (hu : X.A.units + 64 < cLine) (h1 : H p = some (.lst xs)) (h2 : H q = some (.lst [])) (qq : Q (.bl (decide (xs = []))) H) : oW X (compareOp .Eq) (.ref p) (.ref q) H Q := by
  refine ⟨fun pins s σ v u I rx ry => ?_⟩
  cases rx
  cases ry
  obtain ⟨z, its, n, r, hl, e⟩ := I.lstM h1
  obtain ⟨z2, its2, n2, r2, hl2, e2⟩ := I.lstM h2
  cases r2
  have L1 : s.heap.IsList p its.toArray := ⟨_, e, rfl, n, rfl⟩
  have L2 : s.heap.IsList q (#[] : Array Value) := ⟨_, e2, rfl, n2, rfl⟩
  cases r with
  | nil =>
    refine SeqAt.RcAt.lists (e := fun _ => true) L1 L2 rfl (by omega) (fun j h1 => by cases h1) X.prog X.w X.xe _ ?_
    exact ⟨.bl true, H, I, rfl, qq⟩
  | @cons x y xs ys a b =>
    refine SeqAt.RcAt.lists_lengths L1 L2 (by simp) (by omega) X.prog X.w X.xe _ ?_
    exact ⟨.bl false, H, I, rfl, by rw [decide_eq_false (by simp)] at qq; exact qq⟩
end
/-! ### a list is told more by a tuple; list(d) with tuple keys -/
section
open PySem.AutoSeq1
theorem list_extend_tupG (l : Addr) (items : Array Value) (n : Nat) (b : Addr) (items2 : Array Value) (hs0 : ¬(!items.isEmpty && Builtin.List.listTooLong (items.size + items2.size)) = true) (hs1 : items.size ≤ sizeLine) (hs2 : items.size + items2.size ≤ sizeLine + 1) :
    Meets (Builtin.«list.extend» ⟨[.ref l, .ref b], []⟩) (fun _ R s => s.heap.get? l = some { cls := .type "list", dict := none, data := .seq items n, slots := #[] } ∧ IsTup s.heap b items2 ∧ R (.ok (.ret Value.none)) { s with heap := s.heap.update l (Obj.mapSeq fun x => x ++ items2), toks := s.toks }) :=
  .of_wp fun prog w A R s h => by
    obtain ⟨hp, g, d, tk, os⟩ := s; obtain ⟨hl, ⟨⟨c, dd, da, sl⟩, hb, hc, n2, hd⟩, h⟩ := h
    cases hc
    cases hd
    have f1 := idx_int; have f2 := AutoSeq1.sub_tuple_tuple; have f3 := AutoSeq1.sub_list_list; have f4 := AutoSeq1.sub_tuple_list; have f5 := AutoSeq1.sub_list_tuple;
    have hz' : (items ++ items2).size ≤ sizeLine + 1 := by rw [Array.size_append]; exact hs2
    wp_walk using (wpAny_updateSeq hl rfl (hz := hs1) (_hz' := hz')), wpAny_loadPart' hl, wpAny_loadPart' hb; exact ⟨_, rfl, h⟩
end
theorem mt_extendT {X : Cx} : MtM X "list.extend" (fun x vs H Q => ∃ l b xs zs, x = .ref l ∧ vs = [.ref b] ∧ H l = some (.lst xs) ∧ SqT X.K H b zs ∧ xs.length + zs.length ≤ sizeLine ∧ Q .non (upd H l (.lst (xs ++ zs)))) := by
  intro pins s σ H x vs v us Q I rx rv h
  obtain ⟨l, b, xs, zs, rfl, rfl, hH, hB, hz, q⟩ := h
  cases rx
  obtain ⟨u, rfl, ru⟩ := rv.one
  cases ru
  obtain ⟨z, its, n, r, hl, e⟩ := I.lstM hH
  obtain ⟨its2, r2, e2, z2⟩ := I.tuple hB
  have hl2 := r2.length
  have hsz : its.toArray.size + its2.toArray.size ≤ sizeLine := by rw [List.size_toArray, List.size_toArray]; omega
  have hlong : ¬ (!its.toArray.isEmpty && Builtin.List.listTooLong (its.toArray.size + its2.toArray.size)) = true := by
    rw [notLongL hsz, Bool.and_false]
    exact Bool.false_ne_true
  refine call_meets F.slot_list_extend ⟨_, e, rfl⟩ F.entry_list_extend (F.args_list_extend_2 _ _)
    (list_extend_tupG l its.toArray n b its2.toArray hlong (by rw [List.size_toArray]; omega) (by omega)) ⟨e, e2, ?_⟩
  refine ⟨.non, _, I.lset (its' := its ++ its2) hH e (by simp) (r.append r2) ?_, rfl, q⟩
  rw [List.length_append]
  omega
theorem m_extendT {X : Cx} {H : Hp} {Q : VK} {l b : Addr} {xs zs : List V} (h : H l = some (.lst xs)) (h2 : SqT X.K H b zs) (hz : xs.length + zs.length ≤ 16000000) (q : ∀ H2, H2 l = some (.lst (xs ++ zs)) → (∀ b, b ≠ l → H2 b = H b) → Q .non H2) : mW X "list.extend" (.ref l) [.ref b] H Q :=
  mI mt_extendT ⟨l, b, xs, zs, rfl, rfl, h, h2, Nat.le_trans hz (by decide), q _ upd_same fun b hb => upd_ne hb⟩
theorem k_listDT {X : Cx} {H : Hp} {Q : VK} {d : Addr} {kvs : List (List Key × V)} [cc : CxC X] (h : H d = some (.dT kvs)) (q : ∀ l bs H2, Same H H2 → H l = none → H2 l = some (.lst (bs.map V.ref)) → IsKeys H kvs bs → (∀ b, b ≠ l → H2 b = H b) → Q (.ref l) H2) : kW X (.type "list") [.ref d] H Q :=
  kI (call_list_dT cc.h) ⟨d, kvs, rfl, .inl h, fun l bs hl hk => q l bs _ (sameU hl) hl upd_same hk fun b hb => upd_ne hb⟩
theorem length_putK_old {κ : Type} [DecidableEq κ] {kvs : List (κ × V)} {k : κ} {v : V} (h : (valV kvs k).isSome = true) : (putK kvs k v).length = kvs.length := by
  unfold putK
  rw [valV_any, h, if_pos rfl, List.length_map]
/-- d[k] -= e, keys that are tuples, numbers -/
theorem s_dsubT {X : Cx} {σ : L2.St} {H : Hp} {D : Ends} {o i e : Expr} {pos p2 : Pos} (hu : X.A.units + 1 < cLine) (h : eW X o σ H fun x H1 => eW X i σ H1 fun y H2 => ∃ (d : Addr) (kvs : List (List Key × V)) (k : List Key) (b : Addr) (n : Int), x = .ref d ∧ H2 d = some (.dT kvs) ∧ y = .ref b ∧ H2 b = some (.tup (k.map kV)) ∧ valV kvs k = some (.int n) ∧ kvs.length ≤ 10000000 ∧ eW X e σ H2 fun z H3 => ∃ j, z = .int j ∧ Same H2 H3 ∧ ∀ H4, H4 d = some (.dT (putK kvs k (.int (n - j)))) → (∀ b, b ≠ d → H4 b = H3 b) → D.nx σ H4)
    (ha : ∀ ov iv new, augStore i ov iv new = (do holding [new, ov, iv] (setItem ov iv new); release [new, ov, iv] []; pure .next) := by intro _ _ _; rfl) : sW X (.AugAssign (.Subscript o i p2) .Sub e pos) D σ H :=
  sI (ps_daug hu PEw PEw PEw in_sub ha) (eMono h fun x H1 h1 => eMono h1 fun y H2 ⟨d, kvs, k, b, n, e1, e2, e3, e4, e5, e6, q⟩ => ⟨d, .int n, e1, by rw [e3, ← e5]; exact DGet.t e2 e4, eMono q fun z H3 ⟨j, ej, s, q2⟩ => ⟨n, j, rfl, ej, _, by rw [e3]; exact DPut.t (s _ _ e2) (s _ _ e4) (Nat.lt_of_le_of_lt e6 (by decide)), q2 _ upd_same fun b hb => upd_ne hb⟩⟩)
/-- x in t, a tuple, as data -/
theorem o_inTD {X : Cx} {H : Hp} {Q : VK} {x y : V} {d : PyData} {ds : List PyData} (hu : X.A.units + 64 < cLine) (hx : Dp X.K H x d) (hy : Dp X.K H y (.tuple ds)) (sd : Sh 10 d) (se : Sh 10 (.tuple ds)) (q : Q (.bl (ds.any fun e => PyData.eqv e d)) H) : oW X (compareOp .In) x y H Q := ⟨fun pins s σ u u' I rx ry => by
  obtain ⟨as, r1⟩ := Dp.reads I d x u hx rx
  obtain ⟨bs, r2⟩ := Dp.reads I (.tuple ds) y u' hy ry
  have h1 := sd.dep
  have h2 : min (PyData.depthAll ds) d.depth ≤ d.depth := Nat.min_le_right _ _
  exact SeqAt.in_tuple_data r2 r1 (PySem.PyData.plain_of_canLay0 _ se.can) (PySem.PyData.plain_of_canLay0 _ sd.can) (by omega) ⟨.bl _, H, I, rfl, q⟩⟩
/-- x in xs, a list, as data -/
theorem o_inLD {X : Cx} {H : Hp} {Q : VK} {x y : V} {d : PyData} {ds : List PyData} (hu : X.A.units + 64 < cLine) (hx : Dp X.K H x d) (hy : Dp X.K H y (.list ds)) (sd : Sh 10 d) (se : Sh 10 (.list ds)) (q : Q (.bl (ds.any fun e => PyData.eqv e d)) H) : oW X (compareOp .In) x y H Q := ⟨fun pins s σ u u' I rx ry => by
  obtain ⟨as, r1⟩ := Dp.reads I d x u hx rx
  obtain ⟨bs, r2⟩ := Dp.reads I (.list ds) y u' hy ry
  have h1 := sd.dep
  have h2 : min (PyData.depthAll ds) d.depth ≤ d.depth := Nat.min_le_right _ _
  exact SeqAt.in_list_data r2 r1 (PySem.PyData.plain_of_canLay0 _ se.can) (PySem.PyData.plain_of_canLay0 _ sd.can) (by omega) ⟨.bl _, H, I, rfl, q⟩⟩
/-- x not in xs, a list, as data -/
theorem o_niLD {X : Cx} {H : Hp} {Q : VK} {x y : V} {d : PyData} {ds : List PyData} (hu : X.A.units + 64 < cLine) (hx : Dp X.K H x d) (hy : Dp X.K H y (.list ds)) (sd : Sh 10 d) (se : Sh 10 (.list ds)) (q : Q (.bl (!ds.any fun e => PyData.eqv e d)) H) : oW X (compareOp .NotIn) x y H Q := ⟨fun pins s σ u u' I rx ry => by
  obtain ⟨as, r1⟩ := Dp.reads I d x u hx rx
  obtain ⟨bs, r2⟩ := Dp.reads I (.list ds) y u' hy ry
  have h1 := sd.dep
  have h2 : min (PyData.depthAll ds) d.depth ≤ d.depth := Nat.min_le_right _ _
  exact SeqAt.notIn_list_data r2 r1 (PySem.PyData.plain_of_canLay0 _ se.can) (PySem.PyData.plain_of_canLay0 _ sd.can) (by omega) ⟨.bl _, H, I, rfl, q⟩⟩
theorem e_clear {X : Cx} {σ : L2.St} {H : Hp} {Q : VK} {o : Expr} {apos pos : Pos} (h : eW X o σ H fun x H1 => tyV X.K "list" x H1 ∧ mW X "list.clear" x [] H1 Q) (hbase : attributeBase o "clear" X.env (eval o X.env) = eval o X.env := by rfl) (hline : (apos.endLine == pos.line) = true := by rfl) : eW X (.Call (.Attribute o "clear" apos) [] [] pos) σ H Q :=
  e_bm0 PySem.F.plainAttrs_list PySem.F.slot_list_clear PySem.F.type_list_clear h hbase hline
theorem m_clear {X : Cx} {H : Hp} {Q : VK} {l : Addr} {xs : List V} (h : H l = some (.lst xs)) (q : ∀ H2, H2 l = some (.lst []) → (∀ b, b ≠ l → H2 b = H b) → Q .non H2) : mW X "list.clear" (.ref l) [] H Q :=
  mI mt_clear ⟨l, _, rfl, rfl, h, q _ upd_same fun b hb => upd_ne hb⟩
theorem j_keysT {X : Cx} {σ : L2.St} {H : Hp} {R : It → Hp → Prop} {it tg : Expr} (h : eW X it σ H fun x H1 => ∃ d o kvs, x = .ref d ∧ H1 d = some (.frz o (.dT kvs)) ∧ R (Itkt d o kvs) H1) : jW X tg it σ H R :=
  jI (pi_keys PEw) (eMono h fun x H1 ⟨d, o, kvs, e, k, q⟩ => ⟨d, o, e, .inr ⟨kvs, k, q⟩⟩)
theorem k_lenDT {X : Cx} {H : Hp} {Q : VK} {d : Addr} {kvs : List (List Key × V)} (h : H d = some (.dT kvs)) (q : Q (.int ((kvs.length : Nat) : Int)) H) : kW X (.builtin "len") [.ref d] H Q := kI call_len_dT ⟨_, _, rfl, h, q⟩
/-! ### max(xs, default=d) -/
theorem depthAll_ints : ∀ l : List Int, PyData.depthAll (l.map PyData.int) = 0
  | [] => rfl
  | _ :: l => by
    show max 0 (PyData.depthAll (l.map PyData.int)) = 0
    rw [depthAll_ints l]
    rfl
theorem alike_ints (l : List Int) : PySem.W.AlikeAll (l.map PyData.int) := ⟨fun x hx y hy => by
  obtain ⟨i, _, rfl⟩ := List.mem_map.mp hx
  obtain ⟨j, _, rfl⟩ := List.mem_map.mp hy
  rfl, fun x hx e => by
  obtain ⟨i, _, rfl⟩ := List.mem_map.mp hx
  cases e⟩
def rMaxDf (K : PySem.W.Frag) : List V → List V → Hp → VK → Prop := fun vs zs H Q => ∃ (p : Addr) (ns : List Int) (y : V), vs = [.ref p] ∧ zs = [y] ∧ SqL K H p (ns.map V.int) ∧ (ns = [] → Q y H) ∧ ∀ n ns', ns = n :: ns' → Q (.int (ns'.foldl max n)) H
theorem cr_maxDf {X : Cx} (hc : X.calm = true) (hu : X.A.units + 64 < cLine) : CallRK X (.builtin "max") [Str.ofString "default"] (rMaxDf X.K) := by
  intro pins s σ H vs zs us ws Q I r rz h
  obtain ⟨p, ns, y, rfl, rfl, hs, q0, q1⟩ := h
  obtain rfl := Vals.ref1 r
  obtain ⟨w1, rfl, e1⟩ := vals1 rz
  obtain ⟨its, rv, hl, hz⟩ := I.list hs
  obtain ⟨as, rs⟩ := Dp.readsAll I (ns.map .int) _ _ (dp_ints ns) rv
  show wpAny _ _ (call (.builtin "max") [.ref p] [(Str.ofString "default", w1)]) _ _ _
  refine PySem.W.max_list_default (vs := its.toArray) (I.ok.hd hc) hl.isList rs (alike_ints ns) (by rw [depthAll_ints]; omega) (fun e h' tk hk => ⟨y, H, I.kept (t' := tk) hk, e1, q0 (by cases ns with | nil => rfl | cons a l => cases e)⟩) fun z zs' i v h' tk bs e hv rd hk => ?_
  cases ns with
  | nil => cases e
  | cons n ns' =>
    cases e
    rw [PySem.W.maxD_ints] at rd
    cases rd
    exact ⟨.int (ns'.foldl max n), H, I.kept (t' := tk) hk, ⟨_, rfl⟩, q1 n ns' rfl⟩
theorem e_maxDf {X : Cx} {σ : L2.St} {H : Hp} {Q : VK} {mg : Str → Option Value} {e d : Expr} {pos p2 kpos : Pos} [cc : CxC X] [cm : CxM X mg] [g : Gn mg "max" none] (hu : X.A.units + 64 < cLine) (h : eW X e σ H fun x H1 => eW X d σ H1 fun y H2 => ∃ p ns, x = .ref p ∧ SqL X.K H2 p (ns.map V.int) ∧ (ns = [] → Q y H2) ∧ ∀ n ns', ns = n :: ns' → Q (.int (ns'.foldl max n)) H2) (hg : Gl X "max" := by rfl) (hs1 : starEach [e] X.env = (false, eval e X.env) :: starEach [] X.env := by rfl)
    (he : backTo pos (starEach [e] X.env) = (false, eval e X.env) :: backTo pos (starEach [] X.env) := by rfl) (hpl : (backTo pos (starEach [e] X.env)).any (·.1) = false := by rfl)
    (hall : (backToKw pos (keywordEach [⟨some (Str.ofString "default"), d, kpos⟩] X.env)).all (·.1.isSome) = true := by rfl) (hnone : (backToKw pos (keywordEach [⟨some (Str.ofString "default"), d, kpos⟩] X.env)).any (·.1.isNone) = false := by rfl) (hks : (backToKw pos (keywordEach [⟨some (Str.ofString "default"), d, kpos⟩] X.env)).filterMap (·.1) = [Str.ofString "default"] := by rfl) : eW X (.Call (.Name "max" p2) [e] [⟨some (Str.ofString "default"), d, kpos⟩] pos) σ H Q :=
  eI (pe_callBK (cr_maxDf cc.h hu) hg (by rw [cm.h]; exact g.h) (by decide +kernel) (pa_cons PEw pa_nil hs1) (pk_cons PEw pk_nil) (he := he) (hpl := hpl) (hall := hall) (hnone := hnone) (hks := hks)) (eMono h fun x H1 q => eMono q fun y H2 ⟨p, ns, e1, e2, e3, e4⟩ => ⟨p, ns, y, by rw [e1], rfl, e2, e3, e4⟩)
/-! ### a dict display of one pair, the key a tuple; list.pop(0) -/
section
open PySem PySem.Spec PyProof.Rows
theorem pe_dispT1 {X : Cx} {pos : Pos} {a b : Expr} {ta tb : TE} (hu : X.A.units + 1 < cLine) (ha : PE X a ta) (hb : PE X b tb) : PE X (.Dict [some a] [b] pos) (fun σ H Q => ∀ p, H p = none → tPairs [(ta, tb)] σ (upd H p (.dT [])) fun ps H2 => H2 p = some (.dT []) ∧ ∃ (k : List Key) (c : Addr) (y : V), ps = [(.ref c, y)] ∧ H2 c = some (.tup (k.map kV)) ∧ Q (.ref p) (upd H2 p (.dT (putK [] k y)))) := by
  refine ⟨fun pins s σ H Q I q => ?_⟩
  have hn := I.hok.fresh (Nat.le_refl s.heap.objs.size)
  have I1 := I.laid (a := s.heap.objs.size) (o := .dT []) (h' := s.heap.push { cls := .type "dict", data := .dict #[] }) (t' := s.toks) (fun _ _ q => Heap.get?_push_of_some _ q) (Nat.le_refl _) (dt_empty s.heap I.big)
  rw [arm_eval_Dict, zip_pairTrees [some a] [b] X.env pos rfl rfl, dictDisplay_pairs (pairTrees [some a] [b] X.env pos) (fun z => nomatch z) (by show 1 < 17; decide)]
  refine wpAny_bind (wpAny_standAt (wpAny_bind (wpAny_subDictH (knd := tupleKind (mixKind X.prog X.w)) (Q := fun d s' => wpAny (model X.prog X.w) X.A (pure (Value.ref d)) _ X.xe s') (by show X.A.units < cLine; omega) (by show 1 ≤ 15; decide) ?_)))
  refine thn ((pps_cons ha hb pps_nil).run pins _ σ _ (fun ps H2 => H2 s.heap.objs.size = some (.dT []) ∧ ∃ (k : List Key) (c : Addr) (y : V), ps = [(.ref c, y)] ∧ H2 c = some (.tup (k.map kV)) ∧ Q (.ref s.heap.objs.size) (upd H2 s.heap.objs.size (.dT (putK [] k y)))) I1 ?_) fun ws s2 ⟨ps, H2, I2, rel, e, k, c, y, ep, ec, q2⟩ => ?_
  · exact q _ hn
  subst ep
  obtain ⟨z, hd, xs, r0, dd⟩ := dt_of I2.hok e
  cases r0
  obtain ⟨u1, w1, rfl, r1, r2⟩ : ∃ u1 w1, ws = [(u1, w1)] ∧ RelV (.ref c) u1 ∧ RelV y w1 := by
    cases rel with
    | cons hq t => cases t; exact ⟨_, _, rfl, hq.1, hq.2⟩
  cases (show u1 = Value.ref c from r1)
  refine ⟨[(k, c, w1)], ⟨rfl, rfl, key_of I2.hok ec, trivial⟩, dd, fun h' tk dd' hs => wpAny_pure ?_⟩
  obtain ⟨q, es, ep, hq, h2, h3, h4, _, h5⟩ := dd'
  have hput : KT H2 (putK [] k y) (storedAllH [] [(k, c, w1)]) := KT.put (kvs := []) (xs := []) .nil k ec r2
  refine ⟨.ref s.heap.objs.size, _, d_write (ob := .dT (putK [] k y)) I2 (by rw [e]; exact True.intro) hs ⟨q, hq⟩ ⟨(by rw [sizeLine_eq]; show 1 ≤ _; decide), hd, _, hput.keeps fun c ys ec => ?_, q, es, ep, hq, h2, h3, h4, h5⟩, rfl, q2⟩
  rw [upd_ne (ne_of ec e (fun z => nomatch z))]
  exact ec
theorem e_dctT1 {X : Cx} {σ : L2.St} {H : Hp} {Q : VK} {pos : Pos} {a b : Expr} (hu : X.A.units + 1 < cLine) (h : ∀ p H', Same H H' → H p = none → H' p = some (.dT []) → (∀ b, b ≠ p → H' b = H b) → eW X a σ H' fun x H1 => eW X b σ H1 fun y H2 => H2 p = some (.dT []) ∧ ∃ (k : List Key) (c : Addr), x = .ref c ∧ H2 c = some (.tup (k.map kV)) ∧ ∀ H3, H3 p = some (.dT [(k, y)]) → (∀ b, b ≠ p → H3 b = H2 b) → Q (.ref p) H3) : eW X (.Dict [some a] [b] pos) σ H Q :=
  eI (pe_dispT1 hu PEw PEw) fun p hp => eMono (h p _ (sameU hp) hp upd_same fun _ hb => upd_ne hb) fun x H1 h1 => eMono h1 fun y H2 ⟨e, k, c, ek, ec, q⟩ => ⟨e, k, c, y, by rw [ek], ec, q _ upd_same fun _ hb => upd_ne hb⟩
theorem m_pop0 {X : Cx} {H : Hp} {Q : VK} {l : Addr} {x : V} {xs : List V} (h : H l = some (.lst (x :: xs))) (q : ∀ H2, H2 l = some (.lst xs) → (∀ b, b ≠ l → H2 b = H b) → Q x H2) : mW X "list.pop" (.ref l) [.int 0] H Q :=
  mI mt_popAt ⟨l, _, 0, 0, x, rfl, rfl, h, by decide, by decide, by unfold seqIndex?; simp, rfl, q _ (by rw [List.eraseIdx_cons_zero]; exact upd_same) fun b hb => upd_ne hb⟩
theorem e_popA {X : Cx} {σ : L2.St} {H : Hp} {Q : VK} {o e : Expr} {pos apos : Pos} (h : eW X o σ H fun x H1 => tyV X.K "list" x H1 ∧ aW X [e] σ H1 fun xs H2 => mW X "list.pop" x xs H2 Q) (hbase : attributeBase o "pop" X.env (eval o X.env) = eval o X.env := by rfl)
    (hfew : ((backTo pos (starEach [e] X.env)).all (fun x => !x.1) && (backToKw pos (keywordEach [] X.env)).all (fun x => x.1.isSome) && decide ([e].length + ([] : List Keyword).length + (if ([] : List Keyword).isEmpty then 0 else 1) < 30)) = true := by rfl)
    (hline : (apos.endLine == pos.line) = true := by rfl) (hs : starEach [e] X.env = (false, eval e X.env) :: starEach [] X.env := by rfl) : eW X (.Call (.Attribute o "pop" apos) [e] [] pos) σ H Q :=
  e_bm PySem.F.plainAttrs_list PySem.F.slot_list_pop PySem.F.type_list_pop h hbase hfew hline hs rfl
end
/-! int * tuple -/
theorem int_mul_tuple (a : Int) (t : Tok) (l : Addr) (items : Array Value) (n : Nat) (dd : Option Addr) (sl : Array (Option Value)) :
    Meets (Builtin.«int.__mul__» ⟨[.int a t, .ref l], []⟩) (fun _ R s => s.heap.get? l = some { cls := .type "tuple", dict := dd, data := .seq items n, slots := sl } ∧ R (.ok (.ret Value.notImplemented)) s) :=
  .of_wp fun prog w A R s h => by obtain ⟨hp, g, d, tk, os⟩ := s; obtain ⟨hl, h⟩ := h; wp_walk using wpAny_loadPart' hl; exact ⟨_, rfl, h⟩
theorem op_repTL {X : Cx} : OpR X (binaryOp .Mult) (fun x y H Q => rRepT X.K y x H Q) := by
  intro pins s σ H x y v u Q I rx ry h
  obtain ⟨l, k, xs, rfl, rfl, hT, hne, h1, h2, hz, q⟩ := h
  cases ry
  obtain ⟨t, rfl⟩ := rx
  obtain ⟨its, r, ⟨⟨cls, dd, data, sl⟩, ho, hc, n, hd⟩, hs⟩ := I.tuple hT
  simp only at hc hd
  subst hc hd
  have hle : its.length = xs.length := r.length.symm
  have hn : its ≠ [] := fun e => hne (by
    rw [e] at hle
    exact List.eq_nil_of_length_eq_zero hle.symm)
  have hi : its.toArray.isEmpty = false := by
    cases its with
    | nil => exact absurd rfl hn
    | cons a b => rfl
  have hsz0 : its.toArray.size = xs.length := by rw [List.size_toArray, hle]
  have hm : ((its.toArray.size : Nat) : Int) * k ≤ 1000000 := by
    rw [hsz0]
    have a1 : ((xs.length : Nat) : Int) * k ≤ 1000 * k := Int.mul_le_mul_of_nonneg_right (by omega) (by omega)
    omega
  have flen : (List.replicate k.toNat its).flatten.length ≤ sizeLine := by
    rw [PyProof.Rows.lm_len_rep_flat, hle, sizeLine_eq]
    have a1 : k.toNat * xs.length ≤ 1000 * 1000 := Nat.mul_le_mul (by omega) hz
    omega
  have c0 : (decide (k < -(2 ^ 63)) || decide (k ≥ 2 ^ 63)) = false := by
    rw [decide_eq_false (by omega), decide_eq_false (by omega)] <;> rfl
  have c1 : (its.toArray.isEmpty || k == 1) = false := by
    rw [hi, Bool.false_or]
    exact beq_eq_false_iff_ne.mpr (by omega)
  have c2 : (decide (k ≤ 0) || its.toArray.isEmpty) = false := by
    rw [hi, Bool.or_false]
    exact decide_eq_false (by omega)
  have c4 : Builtin.Tuple.tupleTooMany (((its.toArray.size : Nat) : Int) * k) = false := by
    unfold Builtin.Tuple.tupleTooMany
    rw [sizeLine_eq]
    exact decide_eq_false (by omega)
  refine lm_binaryOp_repeat_right (T := "tuple") (U := "int") (by decide) (fun s' => typeIs_int s' k t) ⟨_, ho, rfl⟩ F.fills_int_mul noFill_tuple_mul F.slot_int_mul lm_noRepeat_int repeat_tuple F.slot_int_index.lookup
    (call_meets F.slot_int_mul (typeIs_int s k t) F.entry_int_mul (F.args_int_mul_2 _ _) (int_mul_tuple k t l its.toArray n dd sl)
      ⟨ho, rfl, ⟨_, ho, rfl⟩, call_meets F.slot_tuple_mul ⟨_, ho, rfl⟩ F.entry_tuple_mul (F.args_tuple_mul_2 _ _) (tuple_mulW l its.toArray n dd sl k t c0 c1 c2 (by omega) c4 (by rw [size_rep, List.size_toArray]; exact flen)) ⟨ho, ?_⟩⟩)
  rw [size_rep]
  refine ⟨.ref s.heap.objs.size, _, I.laid (t' := s.toks) (o := .tup (List.replicate k.toNat xs).flatten) (fun b ob q => Heap.get?_push_of_some _ q) (Nat.le_refl _) ?_, rfl, q _ (I.hok.fresh (Nat.le_refl _))⟩
  exact ⟨by rw [PyProof.Rows.lm_len_rep_flat, sizeLine_eq]; have a1 : k.toNat * xs.length ≤ 1000 * 1000 := Nat.mul_le_mul (by omega) hz; omega, _, r.rep k.toNat, IsTup.new _ _⟩
theorem o_repTL {X : Cx} {H : Hp} {Q : VK} {p : Addr} {xs : List V} {k : Int} (h : H p = some (.tup xs)) (h0 : xs ≠ []) (h1 : 2 ≤ k) (h2 : k ≤ 1000) (hz : xs.length ≤ 1000) (q : ∀ t H2, Same H H2 → H t = none → H2 t = some (.tup (List.replicate k.toNat xs).flatten) → Q (.ref t) H2) : oW X (binaryOp .Mult) (.int k) (.ref p) H Q :=
  oI op_repTL ⟨p, k, xs, rfl, rfl, SqT.of h, h0, h1, h2, hz, fun t ht => q t _ (sameU ht) ht upd_same⟩
/-! partition; pop(i); len of a dict -/
theorem e_partition {X : Cx} {σ : L2.St} {H : Hp} {Q : VK} {o e : Expr} {pos apos : Pos} (h : eW X o σ H fun x H1 => (∃ a, x = .str a) ∧ eW X e σ H1 fun y H2 => mW X "str.partition" x [y] H2 Q) (hs : starEach [e] X.env = [(false, eval e X.env)] := by rfl) (hbase : attributeBase o "partition" X.env (eval o X.env) = eval o X.env := by rfl) (hline : (apos.endLine == pos.line) = true := by rfl) : eW X (.Call (.Attribute o "partition" apos) [e] [] pos) σ H Q :=
  eI (pe_m1 PySem.F.slot_str_partition PySem.F.type_str_partition MRw PEw PEw hs hbase hline) h
theorem m_partition {X : Cx} {H : Hp} {Q : VK} {a b : Str} (hb : (b.length == 0) = false) (ha : a.length ≤ 1000000) (q : ∀ p H2, Same H H2 → H p = none → H2 p = some (.tup [.str (Txt.partition a b).1, .str (Txt.partition a b).2.1, .str (Txt.partition a b).2.2]) → Q (.ref p) H2) : mW X "str.partition" (.str a) [.str b] H Q :=
  mI mt_partition ⟨_, _, rfl, rfl, hb, by rw [sizeLine_eq]; omega, fun l hl => q l _ (sameU hl) hl upd_same⟩
theorem m_popK {X : Cx} {H : Hp} {Q : VK} {l : Addr} {xs : List V} {k : Nat} {y : V} (h : H l = some (.lst xs)) (hk : xs[k]? = some y) (hz : xs.length ≤ 100000) (q : ∀ H2, H2 l = some (.lst (xs.eraseIdx k)) → (∀ b, b ≠ l → H2 b = H b) → Q y H2) : mW X "list.pop" (.ref l) [.int ((k : Nat) : Int)] H Q :=
  mI mt_popAt ⟨l, xs, (k : Nat), k, y, rfl, rfl, h, by omega, by have := (List.getElem?_eq_some_iff.mp hk).1; omega, by
    have := (List.getElem?_eq_some_iff.mp hk).1
    exact (ixN_seq (n := xs.length) (i := ((k : Nat) : Int)) (j := k) (by unfold ixN; rw [if_pos (by omega), if_pos (by omega)]; rfl)).1, hk, q _ upd_same fun b hb => upd_ne hb⟩
theorem k_lenD {X : Cx} {H : Hp} {Q : VK} {d : Addr} {kvs : List (Key × V)} (h : H d = some (.dK kvs)) (q : Q (.int ((kvs.length : Nat) : Int)) H) : kW X (.builtin "len") [.ref d] H Q := kI call_lenD ⟨_, _, rfl, h, q⟩
/-- C(), with an __init__ of one's own -/
theorem e_make0 {X : Cx} {σ : L2.St} {H : Hp} {Q : VK} {pos p2 : Pos} {mg : Str → Option Value} {C : Addr} {x : Str} {k : Nat} {ps : List Str} {sp : Sp} {W : WX} [ct : CxT X W] [cm : CxM X mg] [g : Gn mg x (some (.ref C))] (F : Ini X.prog X.w X.K X.mg X.base C k ps sp) (hr : Room (k + 1) X.A)
    (h : ∀ p dx H2, Same H H2 → H p = none → H dx = none → dx ≠ p → H2 p = some (.ins C dx []) → H2 dx = some (.own p) → (∀ b, b ≠ p → b ≠ dx → H2 b = H b) → sp [.ref p] H2 (fun v H3 => v = .non ∧ Q (.ref p) H3) fun cls d H' => W cls d σ H')
    (hg : Gl X x := by rfl) (hdb : (x == ("__debug__" : Str)) = false := by decide) : eW X (.Call (.Name x p2) [] [] pos) σ H Q := by
  obtain ⟨f, fd, h1, h2, h3⟩ := F.ex
  exact ⟨fun pins s I => wpAny_Call_Name_kw (ld_glob I hg (by rw [cm.h]; exact g.h) (PySem.W.callWith_K0 I.kIn h1.kp (run_makeS h1 h3 hr h2 (passAt ct.h σ) I .nil fun p dx hp hdx hne => h p dx _ (Same.made' hp hdx) hp hdx hne upd_same (by rw [upd_ne hne]; exact upd_same) fun b hb hb2 => by rw [upd_ne hb, upd_ne hb2])) hdb)⟩
/-! tuple * int, any number -/
section
open PySem PySem.Spec PyProof.Rows
theorem tuple_mul1 (l : Addr) (items : Array Value) (n : Nat) (dd : Option Addr) (sl : Array (Option Value)) (x : Int) (u : Tok) (c0 : (decide (x < -(2 ^ 63)) || decide (x ≥ 2 ^ 63)) = false) (c1 : (items.isEmpty || x == 1) = true) :
    Meets (Builtin.«tuple.__mul__» ⟨[.ref l, .int x u], []⟩) (fun _ R s => s.heap.get? l = some { cls := .type "tuple", dict := dd, data := .seq items n, slots := sl } ∧ R (.ok (.ret (Value.ref l))) s) :=
  .of_wp fun prog w A R s h => by
    obtain ⟨hp, g, d, tk, os⟩ := s
    obtain ⟨hl, h⟩ := h
    have f1 := AutoSeq1.idx_int
    wp_walk using wpAny_loadPart' hl
    repeat (first
      | (refine wpAny_ite_false (decide_eq_false (by rw [c0]; exact Bool.false_ne_true)) ?_; wp_walk using wpAny_loadPart' hl)
      | (refine wpAny_ite_true (decide_eq_true c1) ?_; wp_walk using wpAny_loadPart' hl))
    exact ⟨_, rfl, h⟩

theorem tuple_mul0 (l : Addr) (items : Array Value) (n : Nat) (dd : Option Addr) (sl : Array (Option Value)) (x : Int) (u : Tok) (c0 : (decide (x < -(2 ^ 63)) || decide (x ≥ 2 ^ 63)) = false) (c1 : (items.isEmpty || x == 1) = false) (c2 : (decide (x ≤ 0) || items.isEmpty) = true) :
    Meets (Builtin.«tuple.__mul__» ⟨[.ref l, .int x u], []⟩) (fun _ R s => s.heap.get? l = some { cls := .type "tuple", dict := dd, data := .seq items n, slots := sl } ∧
      R (.ok (.ret (Value.ref s.heap.objs.size))) { s with heap := s.heap.push { cls := Value.type "tuple", data := Data.seq #[] }, toks := s.toks }) :=
  .of_wp fun prog w A R s h => by
    obtain ⟨hp, g, d, tk, os⟩ := s
    obtain ⟨hl, h⟩ := h
    have f1 := AutoSeq1.idx_int
    wp_walk using wpAny_loadPart' hl
    repeat (first
      | (refine wpAny_ite_false (decide_eq_false (by rw [c0]; exact Bool.false_ne_true)) ?_; wp_walk using wpAny_loadPart' hl)
      | (refine wpAny_ite_false (decide_eq_false (by rw [c1]; exact Bool.false_ne_true)) ?_; wp_walk using wpAny_loadPart' hl)
      | (refine wpAny_ite_true (decide_eq_true c2) ?_; wp_walk using wpAny_loadPart' hl))
    exact ⟨_, rfl, h⟩
theorem op_repTA {X : Cx} : OpR X (binaryOp .Mult) (fun x y H Q => ∃ l k xs, x = .ref l ∧ y = .int k ∧ H l = some (.tup xs) ∧ xs ≠ [] ∧ 0 ≤ k ∧ k ≤ 1000 ∧ xs.length ≤ 1000 ∧ (k = 1 → Q (.ref l) H) ∧ ∀ p, H p = none → Q (.ref p) (upd H p (.tup (List.replicate k.toNat xs).flatten))) := by
  intro pins s σ H x y v u Q I rx ry h
  obtain ⟨l, k, xs, rfl, rfl, hH, hne, h1, h2, hz, q1, q⟩ := h
  have hT : SqT X.K H l xs := SqT.of hH
  by_cases c : 2 ≤ k
  · exact op_repT pins s σ H (.ref l) (.int k) v u Q I rx ry ⟨l, k, xs, rfl, rfl, hT, hne, c, h2, hz, q⟩
  cases rx
  obtain ⟨t, rfl⟩ := ry
  obtain ⟨its, r, ⟨⟨cls, dd, data, sl⟩, ho, hc, n, hd⟩, hs⟩ := I.tuple hT
  simp only at hc hd
  subst hc hd
  have hle : its.length = xs.length := r.length.symm
  have hn : its ≠ [] := fun e => hne (by
    rw [e] at hle
    exact List.eq_nil_of_length_eq_zero hle.symm)
  have hi : its.toArray.isEmpty = false := by
    cases its with
    | nil => exact absurd rfl hn
    | cons a b => rfl
  have c0 : (decide (k < -(2 ^ 63)) || decide (k ≥ 2 ^ 63)) = false := by
    rw [decide_eq_false (by omega), decide_eq_false (by omega)] <;> rfl
  by_cases e1 : k = 1
  · refine wpAny_binaryOp_repeat_ref (T := "tuple") (U := "int") (by decide) ⟨_, ho, rfl⟩ (fun s' => typeIs_int s' k t) noFill_tuple_mul F.fills_int_mul F.slot_int_rmul repeat_tuple F.slot_int_index.lookup
      (call_meets F.slot_int_rmul (typeIs_int s k t) F.entry_int_rmul (F.args_int_rmul_2 _ _) (int_rmul_tuple k t l its.toArray n dd sl)
        ⟨ho, rfl, ⟨_, ho, rfl⟩, call_meets F.slot_tuple_mul ⟨_, ho, rfl⟩ F.entry_tuple_mul (F.args_tuple_mul_2 _ _) (tuple_mul1 l its.toArray n dd sl k t c0 (by rw [e1]; simp)) ⟨ho, ?_⟩⟩)
    exact ⟨.ref l, H, I.tok _, rfl, q1 e1⟩
  · have e0 : k = 0 := by omega
    refine wpAny_binaryOp_repeat_ref (T := "tuple") (U := "int") (by decide) ⟨_, ho, rfl⟩ (fun s' => typeIs_int s' k t) noFill_tuple_mul F.fills_int_mul F.slot_int_rmul repeat_tuple F.slot_int_index.lookup
      (call_meets F.slot_int_rmul (typeIs_int s k t) F.entry_int_rmul (F.args_int_rmul_2 _ _) (int_rmul_tuple k t l its.toArray n dd sl)
        ⟨ho, rfl, ⟨_, ho, rfl⟩, call_meets F.slot_tuple_mul ⟨_, ho, rfl⟩ F.entry_tuple_mul (F.args_tuple_mul_2 _ _) (tuple_mul0 l its.toArray n dd sl k t c0 (by rw [hi, e0]; rfl) (by rw [e0]; rfl)) ⟨ho, ?_⟩⟩)
    refine ⟨.ref s.heap.objs.size, _, I.laid (t' := s.toks) (o := .tup (List.replicate k.toNat xs).flatten) (fun b ob q => Heap.get?_push_of_some _ q) (Nat.le_refl _) ?_, rfl, q _ (I.hok.fresh (Nat.le_refl _))⟩
    rw [e0]
    exact ⟨by show 0 ≤ sizeLine; exact Nat.zero_le _, [], .nil, IsTup.new _ _⟩
theorem o_repTA {X : Cx} {H : Hp} {Q : VK} {p : Addr} {xs : List V} {k : Int} (h : H p = some (.tup xs)) (h0 : xs ≠ []) (h1 : 0 ≤ k) (h2 : k ≤ 1000) (hz : xs.length ≤ 1000) (q : ∀ t H2, Same H H2 → H2 t = some (.tup (List.replicate k.toNat xs).flatten) → Q (.ref t) H2) : oW X (binaryOp .Mult) (.ref p) (.int k) H Q :=
  oI op_repTA ⟨p, k, xs, rfl, rfl, h, h0, h1, h2, hz, fun e => q p H (Same.refl _) (by rw [h, e]; show _ = some (HO.tup (List.replicate 1 xs).flatten); simp), fun t ht => q t _ (sameU ht) upd_same⟩
end
/-! ### defs with default arguments -/
structure AtD (K : PySem.W.Frag) (mg : Str → Option Value) (x q : Str) (st : Stmt) (ps : List Str) (dvs : List V) : Prop where
  ex : ∃ (f : Addr) (fd : FuncData), mg x = some (.ref f) ∧ FunD K x q (defArgs st) (defBody st) (defScope st) dvs [] f fd ∧ Binds K fd ps [] ∧ ∃ ds, Vals dvs ds ∧ Binds K fd ps ds
structure DfD (P : Program) (w : World) (K : PySem.W.Frag) (mg : Str → Option Value) (base : Heap) (x : Str) (k : Nat) (ps : List Str) (dvs : List V) (sp : Sp) : Prop where
  ex : ∃ (f : Addr) (fd : FuncData), mg x = some (.ref f) ∧ PySem.W.keepIn K (.ref f) = true ∧ (∃ ds, Vals dvs ds ∧ Binds K fd ps ds) ∧ FnOk P w K mg base (L2.CX P w) k f fd ps sp
theorem atD_mk {K : PySem.W.Frag} {mg : Str → Option Value} {x q : Str} {st : Stmt} {ps : List Str} {dvs : List V} {f T : Addr} {oc oc2 kV doc pm cdv ct : Value} {od an od2 : Option Addr} {osl osl2 : Array (Option Value)} {its : List Value} {n2 : Nat}
    (hm : mg x = some (.ref f)) (l : K.lookup f = some ⟨oc, od, .func (PySem.W.fnOf x q (defArgs st) (defBody st) (defScope st) (.ref T) kV doc pm an cdv ct), osl⟩) (c : PySem.W.codeIn K cdv q = true) (k : PySem.W.keepIn K (.ref f) = true)
    (lD : K.lookup T = some ⟨oc2, od2, .seq its.toArray n2, osl2⟩) (r : Vals dvs its) (hne : dvs ≠ []) (hle : dvs.length ≤ ps.length)
    (h1 : ∀ (T : Addr) (kV doc pm : Value) (an : Option Addr) (cdv ct : Value) (us its : List Value), us.length = ps.length → its.length = dvs.length → ∃ k, bindArgs (PySem.W.fnOf x q (defArgs st) (defBody st) (defScope st) (.ref T) kV doc pm an cdv ct) ⟨us, []⟩ = seqItems? (.ref T) >>= k ∧ k (some its.toArray) = pure (ps.zip (us ++ its.drop dvs.length)))
    (h2 : ∀ (T : Addr) (kV doc pm : Value) (an : Option Addr) (cdv ct : Value) (us its : List Value), us.length = ps.length - dvs.length → its.length = dvs.length → ∃ k, bindArgs (PySem.W.fnOf x q (defArgs st) (defBody st) (defScope st) (.ref T) kV doc pm an cdv ct) ⟨us, []⟩ = seqItems? (.ref T) >>= k ∧ k (some its.toArray) = pure (ps.zip (us ++ its.drop 0))) : AtD K mg x q st ps dvs := by
  have F : FunD K x q (defArgs st) (defBody st) (defScope st) dvs [] f _ := ⟨⟨oc, od, .ref T, kV, doc, pm, an, cdv, ct, osl, rfl, l, c, .inr ⟨hne, T, _, its, n2, rfl, lD, rfl, r⟩, .inl rfl⟩, k⟩
  refine ⟨f, _, hm, F, ?_, ?_⟩
  · obtain ⟨ds, v, b⟩ := F.binds1 ps.length dvs.length hne (by omega) h1
    rw [List.drop_length] at v
    cases v
    exact b
  · obtain ⟨ds, v, b⟩ := F.binds1 (ps.length - dvs.length) 0 hne (by omega) h2
    exact ⟨ds, v, b⟩
theorem e_callD {X : Cx} {σ : L2.St} {H : Hp} {Q : VK} {e : Expr} {es : List Expr} {pos p2 : Pos} {x : Str} {k : Nat} {ps : List Str} {dvs : List V} {sp : Sp} {W : WX} [ct : CxT X W] (F : DfD X.prog X.w X.K X.mg X.base x k ps dvs sp) (hr : Room k X.A) (h : aW X (e :: es) σ H fun vs H1 => sp (vs ++ dvs) H1 Q fun cls d H' => W cls d σ H')
    (hg : Gl X x := by rfl) (hdb : (x == ("__debug__" : Str)) = false := by decide) (he : starEach (e :: es) X.env = (false, eval e X.env) :: starEach es X.env := by rfl) (hpl : (backTo pos (starEach es X.env)).any (·.1) = false := by rfl) : eW X (.Call (.Name x p2) (e :: es) [] pos) σ H Q := by
  obtain ⟨f, fd, h1, h2, ⟨ds, v, b⟩, h4⟩ := F.ex
  exact eI (pe_callSD (E := WE W) h4 hr hg h1 h2 b v (fun σ => passAt ct.h σ) PAw hdb he hpl) h
end G

namespace Lw
open PySem PySem.Spec PyProof.Rows L2 TL G
local macro_rules | `(tactic| kby_none) => `(tactic| first | exact Same.refl _ | assumption | exact Same.tr' (by assumption) (by kby_none))
local macro_rules | `(tactic| ki_room) => `(tactic| first | assumption | exact Same.at' (by assumption) (by ki_room))
local macro_rules | `(tactic| kt_chr) => `(tactic| first | assumption | exact Th.non | exact Th.int _ | exact Th.bl _ | exact Same.th' (by assumption) (by kt_chr) | exact Same.thA' (by assumption) (by kt_chr))
local macro_rules | `(tactic| kpc_check) => `(tactic| first | decide +kernel | (simp only [sizeLine_eq]; omega) | omega)
local macro_rules | `(tactic| kl_some) => `(tactic| first | assumption | exact SqL.of (by ki_room) | exact Same.seq' (by assumption) (by kl_some))
local macro_rules | `(tactic| k_units) => `(tactic| first | assumption | exact SqT.of (by ki_room) | exact Same.seqT' (by assumption) (by k_units))
local macro_rules | `(tactic| kl_room) => `(tactic| first | assumption | exact SqT.of (by ki_room) | exact SqL.of (by ki_room) | kl_some | k_units)
local macro_rules | `(tactic| units_room1) => `(tactic| first | assumption | grind [Same])
local macro_rules | `(tactic| wrow_post) => `(tactic| first | assumption | (intro b9 o9 h9; grind [Same]))
local macro_rules | `(tactic| tupd_mem) => `(tactic| first | assumption | (intro h9; grind [Same]))
local macro_rules | `(tactic| wp_step) => `(tactic| repeat first | ((with_reducible refine is_ite ?_); first | (with_reducible refine iteT ?_) | (with_reducible refine iteF ?_) | ((with_reducible refine is_iteD ?_); first | refine iteDT (by first | with_reducible rfl | decide +kernel) ?_ | refine iteDF (by first | exact ref_ne_non | exact int_ne_non | exact str_ne_non | exact bl_ne_non | decide +kernel) ?_) | ((with_reducible refine is_iteND ?_); first | refine iteNDF (by first | with_reducible rfl | decide +kernel) ?_ | refine iteNDT (by first | exact ref_ne_non | exact int_ne_non | exact str_ne_non | exact bl_ne_non | decide +kernel) ?_) | ((fail_if_success (with_reducible refine is_iteD ?_)); (fail_if_success (with_reducible refine is_iteND ?_)); first | refine iteT ?_ | refine iteF ?_)) | ((fail_if_success (with_reducible refine is_ite ?_)); first | (refine is_e ?_; first | refine e_var rfl ?_ | refine e_int ?_ | refine e_str ?_ | refine e_bl ?_ | refine e_non ?_ | refine e_bin ?_ | refine e_slice ?_ | refine e_ix ?_ | refine e_isN ?_ | refine e_notN ?_ | refine e_cmp ?_ | refine e_callB ?_ | refine e_listRev ?_ | refine e_callTy ?_ | refine e_globR ?_ | refine e_globI ?_ | refine e_globS ?_ | refine e_ty ?_ | refine e_neg ?_ | refine e_not ?_ | refine e_one ?_ | refine e_ifE ?_ | refine e_tupN ?_ | refine e_lstN ?_ | refine e_dct0 ?_) | (refine is_o ?_; first | (with_reducible refine o_add ?_) | (with_reducible refine o_sub ?_) | ((with_reducible refine is_bo (op := .Mod) ?_); refine o_mod (by decide) ?_) | ((with_reducible refine is_bo (op := .FloorDiv) ?_); refine o_div ⟨by decide, by decide⟩ ?_) | (with_reducible refine o_eqI ?_) | (with_reducible refine o_neI ?_) | (with_reducible refine o_eqS ?_) | (with_reducible refine o_neS ?_) | (with_reducible refine o_lt ?_) | (with_reducible refine o_le ?_) | (with_reducible refine o_gt ?_) | (with_reducible refine o_ge ?_) | (with_reducible refine o_p60 ?_) | (with_reducible refine o_p30 ?_) | ((with_reducible refine is_bo (op := .Pow) ?_); refine o_pow ⟨by decide, by decide, by decide⟩ ?_) | (with_reducible refine o_leS ?_) | (with_reducible refine o_ltS ?_) | (with_reducible refine o_inC ?_) | (with_reducible refine o_niC ?_) | (with_reducible refine o_eqB ?_) | (with_reducible refine o_neB ?_)) | (refine is_a ?_; first | refine a_cons ?_ | refine a_nil ?_) | (refine is_b ?_; first | refine b_cons ?_ | refine b_nil ?_) | (refine is_p ?_; first | refine p_none ?_ | refine p_some ?_) | (refine is_s ?_; first | refine s_set ?_ | refine s_if ?_ | refine s_ret ?_ | refine s_expr ?_ | refine s_retN ?_ | refine s_brk ?_ | refine s_cont ?_ | refine s_pass ?_ | refine s_augA rfl ?_) | (refine is_t ?_; first | refine t_isN ?_ | refine t_notN ?_ | refine t_cmp ?_ | refine t_chain ?_ | refine t_not ?_ | refine t_and ?_ | refine t_or ?_ | refine t_val ?_) | (refine is_c ?_; first | refine c_and1 ?_ | refine c_or1 ?_ | refine c_and ?_ | refine c_or ?_) | (refine is_g ?_; first | refine g_name ?_ | refine g_tup ⟨_, _, rfl, (by k_units), (by rfl), ?_⟩ | refine g_lst ⟨_, _, rfl, (by kl_some), (by rfl), ?_⟩) | (refine is_h ?_; first | refine h_cons ?_ | refine h_nil ?_) | (refine is_k ?_; first | refine k_min ?_ | refine k_max ?_ | refine k_ordC ?_) | (refine is_and ?_; refine ⟨rfl, ?_⟩) | (refine is_ex ?_; first | refine ⟨_, rfl, ?_⟩ | refine ⟨_, _, rfl, ?_⟩ | refine ⟨_, _, _, rfl, ?_⟩ | refine ⟨_, _, rfl, rfl, ?_⟩ | refine ⟨_, _, _, rfl, rfl, rfl, ?_⟩ | refine ⟨_, _, _, _, rfl, ?_⟩ | refine ⟨_, _, _, _, _, rfl, ?_⟩ | refine ⟨_, _, _, _, _, _, rfl, ?_⟩)))
local macro_rules | `(tactic| tm_side) => `(tactic| repeat first | ((with_reducible refine is_ite ?_); first | (with_reducible refine iteT ?_) | (with_reducible refine iteF ?_) | ((with_reducible refine is_iteD ?_); first | refine iteDT (by first | with_reducible rfl | decide +kernel) ?_ | refine iteDF (by first | exact ref_ne_non | exact int_ne_non | exact str_ne_non | exact bl_ne_non | decide +kernel) ?_) | ((with_reducible refine is_iteND ?_); first | refine iteNDF (by first | with_reducible rfl | decide +kernel) ?_ | refine iteNDT (by first | exact ref_ne_non | exact int_ne_non | exact str_ne_non | exact bl_ne_non | decide +kernel) ?_) | ((fail_if_success (with_reducible refine is_iteD ?_)); (fail_if_success (with_reducible refine is_iteND ?_)); first | refine iteT ?_ | refine iteF ?_)) | ((fail_if_success (with_reducible refine is_ite ?_)); first | (refine is_e ?_; first | refine e_var rfl ?_ | refine e_int ?_ | refine e_str ?_ | refine e_bl ?_ | refine e_non ?_ | refine e_bin ?_ | refine e_slice ?_ | refine e_ix ?_ | refine e_isN ?_ | refine e_notN ?_ | refine e_cmp ?_ | refine e_callB ?_ | refine e_listRev ?_ | refine e_callTy ?_ | refine e_globR ?_ | refine e_globI ?_ | refine e_globS ?_ | refine e_ty ?_ | refine e_neg ?_ | refine e_not ?_ | refine e_one ?_ | refine e_ifE ?_ | refine e_tupN ?_ | refine e_lstN ?_ | refine e_dct0 ?_ | (refine is_call ?_; top_name) | (refine is_meth ?_; kpc_turns) | refine e_append ?_ | refine e_and ?_ | refine e_or ?_ | (refine is_attr ?_; refine e_fldV rfl (by ki_room) rfl ?_)) | (refine is_o ?_; first | (with_reducible refine o_add ?_) | (with_reducible refine o_sub ?_) | ((with_reducible refine is_bo (op := .Mod) ?_); refine o_mod (by decide) ?_) | ((with_reducible refine is_bo (op := .FloorDiv) ?_); refine o_div ⟨by decide, by decide⟩ ?_) | (with_reducible refine o_eqI ?_) | (with_reducible refine o_neI ?_) | (with_reducible refine o_eqS ?_) | (with_reducible refine o_neS ?_) | (with_reducible refine o_lt ?_) | (with_reducible refine o_le ?_) | (with_reducible refine o_gt ?_) | (with_reducible refine o_ge ?_) | (with_reducible refine o_p60 ?_) | (with_reducible refine o_p30 ?_) | ((with_reducible refine is_bo (op := .Pow) ?_); refine o_pow ⟨by decide, by decide, by decide⟩ ?_) | (with_reducible refine o_leS ?_) | (with_reducible refine o_ltS ?_) | (with_reducible refine o_inC ?_) | (with_reducible refine o_niC ?_) | (with_reducible refine o_eqB ?_) | (with_reducible refine o_neB ?_)) | (refine is_a ?_; first | refine a_cons ?_ | refine a_nil ?_) | (refine is_b ?_; first | refine b_cons ?_ | refine b_nil ?_) | (refine is_p ?_; first | refine p_none ?_ | refine p_some ?_) | (refine is_s ?_; first | refine s_set ?_ | refine s_if ?_ | refine s_ret ?_ | refine s_expr ?_ | refine s_retN ?_ | refine s_brk ?_ | refine s_cont ?_ | refine s_pass ?_ | refine s_augA rfl ?_ | refine s_asgT ?_ | (refine is_raise ?_; top_raise)) | (refine is_t ?_; first | refine t_isN ?_ | refine t_notN ?_ | refine t_cmp ?_ | refine t_chain ?_ | refine t_not ?_ | refine t_and ?_ | refine t_or ?_ | refine t_val ?_) | (refine is_c ?_; first | refine c_and1 ?_ | refine c_or1 ?_ | refine c_and ?_ | refine c_or ?_) | (refine is_g ?_; first | refine g_name ?_ | refine g_tup ⟨_, _, rfl, (by k_units), (by rfl), ?_⟩ | refine g_lst ⟨_, _, rfl, (by kl_some), (by rfl), ?_⟩) | (refine is_h ?_; first | refine h_cons ?_ | refine h_nil ?_) | (refine is_k ?_; first | refine k_min ?_ | refine k_max ?_ | refine k_ordC ?_ | refine k_lenL (by kl_some) ?_ | refine k_lenT (by k_units) ?_ | refine k_lenS (by kpc_check) ?_) | (refine is_and ?_; refine ⟨rfl, ?_⟩) | (refine is_ex ?_; first | refine ⟨_, rfl, ?_⟩ | refine ⟨_, _, rfl, ?_⟩ | refine ⟨_, _, _, rfl, ?_⟩ | refine ⟨_, _, rfl, rfl, ?_⟩ | refine ⟨_, _, _, rfl, rfl, rfl, ?_⟩ | refine ⟨_, _, _, _, rfl, ?_⟩ | refine ⟨_, _, _, _, _, rfl, ?_⟩ | refine ⟨_, _, _, _, _, _, rfl, ?_⟩) | ((first | (with_reducible refine is_ixP ?_) | (with_reducible refine is_ixN ?_)); first | refine i_tup (by k_units) rfl ?_ | refine i_lst (by kl_some) rfl ?_ | refine i_tup (by k_units) (atI_nat (by decide) rfl) ?_ | refine i_lst (by kl_some) (atI_nat (by decide) rfl) ?_) | intro (_ : Addr) _ _ _ _ _))
local macro_rules | `(tactic| kxs_still) => `(tactic| repeat first | ((with_reducible refine is_ite ?_); first | (with_reducible refine iteT ?_) | (with_reducible refine iteF ?_) | ((with_reducible refine is_iteD ?_); first | refine iteDT (by first | with_reducible rfl | decide +kernel) ?_ | refine iteDF (by first | exact ref_ne_non | exact int_ne_non | exact str_ne_non | exact bl_ne_non | decide +kernel) ?_ | refine iteDT (by omega) ?_ | refine iteDF (by omega) ?_) | ((with_reducible refine is_iteND ?_); first | refine iteNDF (by first | with_reducible rfl | decide +kernel) ?_ | refine iteNDT (by first | exact ref_ne_non | exact int_ne_non | exact str_ne_non | exact bl_ne_non | decide +kernel) ?_ | refine iteNDF (by omega) ?_ | refine iteNDT (by omega) ?_) | ((fail_if_success (with_reducible refine is_iteD ?_)); (fail_if_success (with_reducible refine is_iteND ?_)); first | refine iteBT rfl ?_ | refine iteBF rfl ?_)) | ((fail_if_success (with_reducible refine is_ite ?_)); first | (refine is_e ?_; first | refine e_var rfl ?_ | refine e_int ?_ | refine e_str ?_ | refine e_bl ?_ | refine e_non ?_ | refine e_bin ?_ | refine e_slice ?_ | refine e_ix ?_ | refine e_isN ?_ | refine e_notN ?_ | refine e_cmp ?_ | refine e_callB ?_ | refine e_listRev ?_ | refine e_callTy ?_ | refine e_globR ?_ | refine e_globI ?_ | refine e_globS ?_ | refine e_ty ?_ | refine e_neg ?_ | refine e_not ?_ | refine e_one ?_ | refine e_ifE ?_ | refine e_tupN ?_ | refine e_lstN ?_ | refine e_dct0 ?_ | (refine is_call ?_; top_name) | (refine is_meth ?_; kpc_turns) | refine e_append ?_ | refine e_and ?_ | refine e_or ?_ | (refine is_attr ?_; refine e_fldV rfl (by ki_room) rfl ?_)) | (refine is_o ?_; first | (with_reducible refine o_add ?_) | (with_reducible refine o_sub ?_) | ((with_reducible refine is_bo (op := .Mod) ?_); refine o_mod (by decide) ?_) | ((with_reducible refine is_bo (op := .FloorDiv) ?_); refine o_div ⟨by decide, by decide⟩ ?_) | (with_reducible refine o_eqI ?_) | (with_reducible refine o_neI ?_) | (with_reducible refine o_eqS ?_) | (with_reducible refine o_neS ?_) | (with_reducible refine o_lt ?_) | (with_reducible refine o_le ?_) | (with_reducible refine o_gt ?_) | (with_reducible refine o_ge ?_) | (with_reducible refine o_p60 ?_) | (with_reducible refine o_p30 ?_) | ((with_reducible refine is_bo (op := .Pow) ?_); refine o_pow ⟨by decide, by decide, by decide⟩ ?_) | (with_reducible refine o_leS ?_) | (with_reducible refine o_ltS ?_) | (with_reducible refine o_inC ?_) | (with_reducible refine o_niC ?_) | (with_reducible refine o_eqB ?_) | (with_reducible refine o_neB ?_)) | (refine is_a ?_; first | refine a_cons ?_ | refine a_nil ?_) | (refine is_b ?_; first | refine b_cons ?_ | refine b_nil ?_) | (refine is_p ?_; first | refine p_none ?_ | refine p_some ?_) | (refine is_s ?_; first | refine s_set ?_ | refine s_if ?_ | refine s_ret ?_ | refine s_expr ?_ | refine s_retN ?_ | refine s_brk ?_ | refine s_cont ?_ | refine s_pass ?_ | refine s_augA rfl ?_ | refine s_asgT ?_ | (refine is_raise ?_; top_raise)) | (refine is_t ?_; first | refine t_sg ?_ | refine t_sgE ?_ | refine t_isN ?_ | refine t_notN ?_ | refine t_cmp ?_ | refine t_chain ?_ | refine t_not ?_ | refine t_and ?_ | refine t_or ?_ | refine t_val ?_) | (refine is_c ?_; first | refine c_and1 ?_ | refine c_or1 ?_ | refine c_and ?_ | refine c_or ?_) | (refine is_g ?_; first | refine g_name ?_ | refine g_tup ⟨_, _, rfl, (by k_units), (by rfl), ?_⟩ | refine g_lst ⟨_, _, rfl, (by kl_some), (by rfl), ?_⟩) | (refine is_h ?_; first | refine h_cons ?_ | refine h_nil ?_) | (refine is_k ?_; first | refine k_min ?_ | refine k_max ?_ | refine k_ordC ?_ | refine k_lenL (by kl_some) ?_ | refine k_lenT (by k_units) ?_ | refine k_lenS (by kpc_check) ?_) | ((first | (with_reducible refine xA ?_) | (with_reducible refine xB ?_) | (with_reducible refine xC ?_)); refine ⟨rfl, ?_⟩) | (refine xV1 ?_; refine ⟨_, rfl, ?_⟩) | (refine xL1 ?_; refine ⟨_, rfl, ?_⟩) | (refine xL2 ?_; refine ⟨_, _, rfl, ?_⟩) | (refine xL3 ?_; refine ⟨_, _, _, rfl, ?_⟩) | (refine xL4 ?_; refine ⟨_, _, _, _, rfl, ?_⟩) | (refine xL5 ?_; refine ⟨_, _, _, _, _, rfl, ?_⟩) | (refine xL6 ?_; refine ⟨_, _, _, _, _, _, rfl, ?_⟩) | (refine xL7 ?_; refine ⟨_, _, _, _, _, _, _, rfl, ?_⟩) | ((first | (with_reducible refine is_ixP ?_) | (with_reducible refine is_ixN ?_)); first | refine i_tup (by k_units) rfl ?_ | refine i_lst (by kl_some) rfl ?_ | refine i_tup (by k_units) (atI_nat (by decide) rfl) ?_ | refine i_lst (by kl_some) (atI_nat (by decide) rfl) ?_) | (refine is_i ?_; first | refine i_lst (by kl_some) (atI_nat (by decide) (by assumption)) ?_ | refine i_tup (by k_units) (atI_nat (by decide) (by assumption)) ?_ | refine i_lst (by kl_some) (by assumption) ?_ | refine i_tup (by k_units) (by assumption) ?_)))
local macro_rules | `(tactic| kt_eqs) => `(tactic| repeat first | ((with_reducible refine is_ite ?_); first | (with_reducible refine iteT ?_) | (with_reducible refine iteF ?_) | ((with_reducible refine is_iteD ?_); first | refine iteDT (by first | with_reducible rfl | decide +kernel) ?_ | refine iteDF (by first | exact ref_ne_non | exact int_ne_non | exact str_ne_non | exact bl_ne_non | decide +kernel) ?_ | refine iteDT (by omega) ?_ | refine iteDF (by omega) ?_) | ((with_reducible refine is_iteND ?_); first | refine iteNDF (by first | with_reducible rfl | decide +kernel) ?_ | refine iteNDT (by first | exact ref_ne_non | exact int_ne_non | exact str_ne_non | exact bl_ne_non | decide +kernel) ?_ | refine iteNDF (by omega) ?_ | refine iteNDT (by omega) ?_) | ((fail_if_success (with_reducible refine is_iteD ?_)); (fail_if_success (with_reducible refine is_iteND ?_)); first | refine iteBT rfl ?_ | refine iteBF rfl ?_)) | ((fail_if_success (with_reducible refine is_ite ?_)); first | (refine is_e ?_; first | refine e_var rfl ?_ | refine e_int ?_ | refine e_str ?_ | refine e_bl ?_ | refine e_non ?_ | refine e_bin ?_ | refine e_slice ?_ | refine e_ix ?_ | refine e_isN ?_ | refine e_notN ?_ | refine e_cmp ?_ | refine e_callB ?_ | refine e_listRev ?_ | refine e_callTy ?_ | refine e_globR ?_ | refine e_globI ?_ | refine e_globS ?_ | refine e_ty ?_ | refine e_neg ?_ | refine e_not ?_ | refine e_one ?_ | refine e_ifE ?_ | refine e_tupN ?_ | refine e_lstN ?_ | (refine is_call ?_; top_name) | (refine is_meth ?_; kpc_turns) | refine e_append ?_ | refine e_and ?_ | refine e_or ?_ | (refine is_attr ?_; refine e_fldV rfl (by ki_room) rfl ?_)) | (refine is_o ?_; first | (with_reducible refine o_add ?_) | (with_reducible refine o_sub ?_) | ((with_reducible refine is_bo (op := .Mod) ?_); refine o_mod (by decide) ?_) | ((with_reducible refine is_bo (op := .FloorDiv) ?_); refine o_div ⟨by decide, by decide⟩ ?_) | (with_reducible refine o_eqI ?_) | (with_reducible refine o_neI ?_) | (with_reducible refine o_eqS ?_) | (with_reducible refine o_neS ?_) | (with_reducible refine o_lt ?_) | (with_reducible refine o_le ?_) | (with_reducible refine o_gt ?_) | (with_reducible refine o_ge ?_) | (with_reducible refine o_p60 ?_) | (with_reducible refine o_p30 ?_) | ((with_reducible refine is_bo (op := .Pow) ?_); refine o_pow ⟨by decide, by decide, by decide⟩ ?_) | (with_reducible refine o_leS ?_) | (with_reducible refine o_ltS ?_) | (with_reducible refine o_inC ?_) | (with_reducible refine o_niC ?_) | (with_reducible refine o_eqB ?_) | (with_reducible refine o_neB ?_)) | (refine is_a ?_; first | refine a_cons ?_ | refine a_nil ?_) | (refine is_b ?_; first | refine b_cons ?_ | refine b_nil ?_) | (refine is_p ?_; first | refine p_none ?_ | refine p_some ?_) | (refine is_s ?_; first | refine s_set ?_ | refine s_if ?_ | refine s_ret ?_ | refine s_expr ?_ | refine s_retN ?_ | refine s_brk ?_ | refine s_cont ?_ | refine s_pass ?_ | refine s_augA rfl ?_ | refine s_asgT ?_ | (refine is_raise ?_; top_raise)) | (refine is_t ?_; first | refine t_sg ?_ | refine t_sgE ?_ | refine t_isN ?_ | refine t_notN ?_ | refine t_cmp ?_ | refine t_chain ?_ | refine t_not ?_ | refine t_and ?_ | refine t_or ?_ | refine t_val ?_) | (refine is_c ?_; first | refine c_and1 ?_ | refine c_or1 ?_ | refine c_and ?_ | refine c_or ?_) | (refine is_g ?_; first | refine g_name ?_ | refine g_tup ⟨_, _, rfl, (by k_units), (by rfl), ?_⟩ | refine g_lst ⟨_, _, rfl, (by kl_some), (by rfl), ?_⟩) | (refine is_h ?_; first | refine h_cons ?_ | refine h_nil ?_) | (refine is_k ?_; first | refine k_min ?_ | refine k_max ?_ | refine k_ordC ?_ | refine k_lenL (by kl_some) ?_ | refine k_lenT (by k_units) ?_ | refine k_lenS (by kpc_check) ?_) | ((first | (with_reducible refine xA ?_) | (with_reducible refine xB ?_) | (with_reducible refine xC ?_)); refine ⟨rfl, ?_⟩) | (refine xV1 ?_; refine ⟨_, rfl, ?_⟩) | (refine xL1 ?_; refine ⟨_, rfl, ?_⟩) | (refine xL2 ?_; refine ⟨_, _, rfl, ?_⟩) | (refine xL3 ?_; refine ⟨_, _, _, rfl, ?_⟩) | (refine xL4 ?_; refine ⟨_, _, _, _, rfl, ?_⟩) | (refine xL5 ?_; refine ⟨_, _, _, _, _, rfl, ?_⟩) | (refine xL6 ?_; refine ⟨_, _, _, _, _, _, rfl, ?_⟩) | (refine xL7 ?_; refine ⟨_, _, _, _, _, _, _, rfl, ?_⟩) | ((first | (with_reducible refine is_ixP ?_) | (with_reducible refine is_ixN ?_)); first | refine i_tup (by k_units) rfl ?_ | refine i_lst (by kl_some) rfl ?_ | refine i_tup (by k_units) (atI_nat (by decide) rfl) ?_ | refine i_lst (by kl_some) (atI_nat (by decide) rfl) ?_) | (refine is_i ?_; first | refine i_lst (by kl_some) (atI_nat (by decide) (by assumption)) ?_ | refine i_tup (by k_units) (atI_nat (by decide) (by assumption)) ?_ | refine i_lst (by kl_some) (by assumption) ?_ | refine i_tup (by k_units) (by assumption) ?_)))
local macro_rules | `(tactic| k_here) => `(tactic| repeat first | ((with_reducible refine is_ite ?_); first | (with_reducible refine iteT ?_) | (with_reducible refine iteF ?_) | ((with_reducible refine is_iteD ?_); first | refine iteDT (by first | with_reducible rfl | decide +kernel) ?_ | refine iteDF (by first | exact ref_ne_non | exact int_ne_non | exact str_ne_non | exact bl_ne_non | decide +kernel) ?_ | refine iteDT (by omega) ?_ | refine iteDF (by omega) ?_) | ((with_reducible refine is_iteND ?_); first | refine iteNDF (by first | with_reducible rfl | decide +kernel) ?_ | refine iteNDT (by first | exact ref_ne_non | exact int_ne_non | exact str_ne_non | exact bl_ne_non | decide +kernel) ?_ | refine iteNDF (by omega) ?_ | refine iteNDT (by omega) ?_) | ((fail_if_success (with_reducible refine is_iteD ?_)); (fail_if_success (with_reducible refine is_iteND ?_)); first | refine iteBT rfl ?_ | refine iteBF rfl ?_)) | ((fail_if_success (with_reducible refine is_ite ?_)); first | (refine is_e ?_; first | refine e_var rfl ?_ | refine e_int ?_ | refine e_str ?_ | refine e_bl ?_ | refine e_non ?_ | refine e_bin ?_ | refine e_slice ?_ | refine e_ix ?_ | refine e_isN ?_ | refine e_notN ?_ | refine e_cmp ?_ | refine e_callB ?_ | refine e_listRev ?_ | refine e_callTy ?_ | refine e_globR ?_ | refine e_globI ?_ | refine e_globS ?_ | refine e_ty ?_ | refine e_neg ?_ | refine e_not ?_ | refine e_one ?_ | refine e_ifE ?_ | refine e_tupN ?_ | refine e_lstN ?_ | refine e_dct0 ?_ | (refine is_call ?_; top_name) | (refine is_meth ?_; kpc_turns) | refine e_append ?_ | refine e_and ?_ | refine e_or ?_ | (refine is_attr ?_; refine e_fldV rfl (by ki_room) rfl ?_)) | (refine is_o ?_; first | (with_reducible refine o_add ?_) | (with_reducible refine o_sub ?_) | ((with_reducible refine is_bo (op := .Mod) ?_); refine o_mod (by decide) ?_) | ((with_reducible refine is_bo (op := .FloorDiv) ?_); refine o_div ⟨by decide, by decide⟩ ?_) | (with_reducible refine o_eqI ?_) | (with_reducible refine o_neI ?_) | (with_reducible refine o_eqS ?_) | (with_reducible refine o_neS ?_) | (with_reducible refine o_lt ?_) | (with_reducible refine o_le ?_) | (with_reducible refine o_gt ?_) | (with_reducible refine o_ge ?_) | (with_reducible refine o_p60 ?_) | (with_reducible refine o_p30 ?_) | ((with_reducible refine is_bo (op := .Pow) ?_); refine o_pow ⟨by decide, by decide, by decide⟩ ?_) | (with_reducible refine o_leS ?_) | (with_reducible refine o_ltS ?_) | (with_reducible refine o_inC ?_) | (with_reducible refine o_niC ?_) | (with_reducible refine o_eqB ?_) | (with_reducible refine o_neB ?_)) | (refine is_a ?_; first | refine a_cons ?_ | refine a_nil ?_) | (refine is_b ?_; first | refine b_cons ?_ | refine b_nil ?_) | (refine is_p ?_; first | refine p_none ?_ | refine p_some ?_) | (refine is_s ?_; first | refine s_set ?_ | refine s_if ?_ | refine s_ret ?_ | refine s_expr ?_ | refine s_retN ?_ | refine s_brk ?_ | refine s_cont ?_ | refine s_pass ?_ | refine s_augA rfl ?_ | refine s_asgT ?_ | (refine is_raise ?_; top_raise)) | (refine is_t ?_; first | refine t_sg ?_ | refine t_sgE ?_ | refine t_isN ?_ | refine t_notN ?_ | refine t_cmp ?_ | refine t_chain ?_ | refine t_not ?_ | ((fail_if_success refine t_and ?_); (fail_if_success refine t_or ?_); refine t_val ?_)) | (refine is_c ?_; first | refine c_and1 ?_ | refine c_or1 ?_ | refine c_and ?_ | refine c_or ?_) | (refine is_g ?_; first | refine g_name ?_ | refine g_tup ⟨_, _, rfl, (by k_units), (by rfl), ?_⟩ | refine g_lst ⟨_, _, rfl, (by kl_some), (by rfl), ?_⟩) | (refine is_h ?_; first | refine h_cons ?_ | refine h_nil ?_) | (refine is_k ?_; first | refine k_min ?_ | refine k_max ?_ | refine k_ordC ?_ | refine k_lenL (by kl_some) ?_ | refine k_lenT (by k_units) ?_ | refine k_lenS (by kpc_check) ?_) | ((first | (with_reducible refine xA ?_) | (with_reducible refine xB ?_) | (with_reducible refine xC ?_)); refine ⟨rfl, ?_⟩) | (refine xV1 ?_; refine ⟨_, rfl, ?_⟩) | (refine xL1 ?_; refine ⟨_, rfl, ?_⟩) | (refine xL2 ?_; refine ⟨_, _, rfl, ?_⟩) | (refine xL3 ?_; refine ⟨_, _, _, rfl, ?_⟩) | (refine xL4 ?_; refine ⟨_, _, _, _, rfl, ?_⟩) | (refine xL5 ?_; refine ⟨_, _, _, _, _, rfl, ?_⟩) | (refine xL6 ?_; refine ⟨_, _, _, _, _, _, rfl, ?_⟩) | (refine xL7 ?_; refine ⟨_, _, _, _, _, _, _, rfl, ?_⟩) | ((first | (with_reducible refine is_ixP ?_) | (with_reducible refine is_ixN ?_)); first | refine i_tup (by k_units) rfl ?_ | refine i_lst (by kl_some) rfl ?_ | refine i_tup (by k_units) (atI_nat (by decide) rfl) ?_ | refine i_lst (by kl_some) (atI_nat (by decide) rfl) ?_) | (refine is_i ?_; first | refine i_lst (by kl_some) (atI_nat (by decide) (by assumption)) ?_ | refine i_tup (by k_units) (atI_nat (by decide) (by assumption)) ?_ | refine i_lst (by kl_some) (by assumption) ?_ | refine i_tup (by k_units) (by assumption) ?_)))
local macro_rules | `(tactic| kt_ktab) => `(tactic| repeat first | ((with_reducible refine is_ite ?_); first | (with_reducible refine iteT ?_) | (with_reducible refine iteF ?_) | ((with_reducible refine is_iteD ?_); first | refine iteDT (by first | with_reducible rfl | decide +kernel) ?_ | refine iteDF (by first | exact ref_ne_non | exact int_ne_non | exact str_ne_non | exact bl_ne_non | decide +kernel) ?_ | refine iteDT (by omega) ?_ | refine iteDF (by omega) ?_) | ((with_reducible refine is_iteND ?_); first | refine iteNDF (by first | with_reducible rfl | decide +kernel) ?_ | refine iteNDT (by first | exact ref_ne_non | exact int_ne_non | exact str_ne_non | exact bl_ne_non | decide +kernel) ?_ | refine iteNDF (by omega) ?_ | refine iteNDT (by omega) ?_) | ((fail_if_success (with_reducible refine is_iteD ?_)); (fail_if_success (with_reducible refine is_iteND ?_)); first | refine iteBT rfl ?_ | refine iteBF rfl ?_)) | ((fail_if_success (with_reducible refine is_ite ?_)); first | (refine is_e ?_; first | refine e_var rfl ?_ | refine e_int ?_ | refine e_str ?_ | refine e_bl ?_ | refine e_non ?_ | refine e_bin ?_ | refine e_slice ?_ | refine e_ix ?_ | refine e_isN ?_ | refine e_notN ?_ | refine e_cmp ?_ | refine e_callB ?_ | refine e_listRev ?_ | refine e_callTy ?_ | refine e_globR ?_ | refine e_globI ?_ | refine e_globS ?_ | refine e_ty ?_ | refine e_neg ?_ | refine e_not ?_ | refine e_one ?_ | refine e_ifE ?_ | refine e_tupN ?_ | refine e_lstN ?_ | refine e_dct0 ?_ | (refine is_call ?_; top_name) | (refine is_meth ?_; kpc_turns) | refine e_append ?_ | refine e_and ?_ | refine e_or ?_ | (refine is_attr ?_; refine e_fldV rfl (by ki_room) rfl ?_)) | (refine is_o ?_; first | (with_reducible refine o_add ?_) | (with_reducible refine o_sub ?_) | ((with_reducible refine is_bo (op := .Mod) ?_); refine o_mod (by decide) ?_) | ((with_reducible refine is_bo (op := .FloorDiv) ?_); refine o_div ⟨by decide, by decide⟩ ?_) | (with_reducible refine o_eqI ?_) | (with_reducible refine o_neI ?_) | (with_reducible refine o_eqS ?_) | (with_reducible refine o_neS ?_) | (with_reducible refine o_lt ?_) | (with_reducible refine o_le ?_) | (with_reducible refine o_gt ?_) | (with_reducible refine o_ge ?_) | (with_reducible refine o_p60 ?_) | (with_reducible refine o_p30 ?_) | ((with_reducible refine is_bo (op := .Pow) ?_); refine o_pow ⟨by decide, by decide, by decide⟩ ?_) | (with_reducible refine o_leS ?_) | (with_reducible refine o_ltS ?_) | (with_reducible refine o_inC ?_) | (with_reducible refine o_niC ?_) | (with_reducible refine o_eqB ?_) | (with_reducible refine o_neB ?_)) | (refine is_a ?_; first | refine a_cons ?_ | refine a_nil ?_) | (refine is_b ?_; first | refine b_cons ?_ | refine b_nil ?_) | (refine is_p ?_; first | refine p_none ?_ | refine p_some ?_) | (refine is_s ?_; first | refine s_set ?_ | refine s_if ?_ | refine s_ret ?_ | refine s_expr ?_ | refine s_retN ?_ | refine s_brk ?_ | refine s_cont ?_ | refine s_pass ?_ | refine s_augA rfl ?_ | refine s_asgT ?_ | (refine is_raise ?_; top_raise)) | (refine is_t ?_; first | refine t_sg ?_ | refine t_sgE ?_ | refine t_isN ?_ | refine t_notN ?_ | refine t_cmp ?_ | refine t_chain ?_ | refine t_not ?_ | refine t_and ?_ | refine t_or ?_ | refine t_val ?_) | (refine is_c ?_; first | refine c_and1 ?_ | refine c_or1 ?_ | refine c_and ?_ | refine c_or ?_) | (refine is_g ?_; first | refine g_name ?_ | refine g_tup ⟨_, _, rfl, (by k_units), (by rfl), ?_⟩ | refine g_lst ⟨_, _, rfl, (by kl_some), (by rfl), ?_⟩) | (refine is_h ?_; first | refine h_cons ?_ | refine h_nil ?_) | (refine is_k ?_; first | refine k_min ?_ | refine k_max ?_ | refine k_ordC ?_ | refine k_lenL (by kl_some) ?_ | refine k_lenT (by k_units) ?_ | refine k_lenS (by kpc_check) ?_) | ((first | (with_reducible refine xA ?_) | (with_reducible refine xB ?_) | (with_reducible refine xC ?_)); refine ⟨rfl, ?_⟩) | (refine xV1 ?_; refine ⟨_, rfl, ?_⟩) | (refine xL1 ?_; refine ⟨_, rfl, ?_⟩) | (refine xL2 ?_; refine ⟨_, _, rfl, ?_⟩) | (refine xL3 ?_; refine ⟨_, _, _, rfl, ?_⟩) | (refine xL4 ?_; refine ⟨_, _, _, _, rfl, ?_⟩) | (refine xL5 ?_; refine ⟨_, _, _, _, _, rfl, ?_⟩) | (refine xL6 ?_; refine ⟨_, _, _, _, _, _, rfl, ?_⟩) | (refine xL7 ?_; refine ⟨_, _, _, _, _, _, _, rfl, ?_⟩) | ((first | (with_reducible refine is_ixP ?_) | (with_reducible refine is_ixN ?_)); first | refine i_tup (by k_units) rfl ?_ | refine i_lst (by kl_some) rfl ?_ | refine i_tup (by k_units) (atI_nat (by decide) rfl) ?_ | refine i_lst (by kl_some) (atI_nat (by decide) rfl) ?_) | (refine is_i ?_; first | refine i_lst (by kl_some) (atI_nat (by decide) (by assumption)) ?_ | refine i_tup (by k_units) (atI_nat (by decide) (by assumption)) ?_ | refine i_lst (by kl_some) (by assumption) ?_ | refine i_tup (by k_units) (by assumption) ?_) | intro (_ : Addr) _ _ _ _ _))
local macro_rules | `(tactic| tm_run) => `(tactic| repeat first | ((with_reducible refine is_ite ?_); first | (with_reducible refine iteT ?_) | (with_reducible refine iteF ?_) | ((with_reducible refine is_iteD ?_); first | refine iteDT (by first | with_reducible rfl | decide +kernel) ?_ | refine iteDF (by first | exact ref_ne_non | exact int_ne_non | exact str_ne_non | exact bl_ne_non | decide +kernel) ?_) | ((with_reducible refine is_iteND ?_); first | refine iteNDF (by first | with_reducible rfl | decide +kernel) ?_ | refine iteNDT (by first | exact ref_ne_non | exact int_ne_non | exact str_ne_non | exact bl_ne_non | decide +kernel) ?_) | ((fail_if_success (with_reducible refine is_iteD ?_)); (fail_if_success (with_reducible refine is_iteND ?_)); first | refine iteT ?_ | refine iteF ?_)) | ((fail_if_success (with_reducible refine is_ite ?_)); first | (refine is_e ?_; first | refine e_var rfl ?_ | refine e_int ?_ | refine e_str ?_ | refine e_bl ?_ | refine e_non ?_ | refine e_bin ?_ | refine e_slice ?_ | refine e_ix ?_ | refine e_isN ?_ | refine e_notN ?_ | refine e_cmp ?_ | refine e_callB ?_ | refine e_listRev ?_ | refine e_callTy ?_ | refine e_globR ?_ | refine e_globI ?_ | refine e_globS ?_ | refine e_ty ?_ | refine e_neg ?_ | refine e_not ?_ | refine e_one ?_ | refine e_ifE ?_ | refine e_tupN ?_ | refine e_lstN ?_ | refine e_dct0 ?_ | (refine is_call ?_; top_name) | (refine is_meth ?_; kpc_turns) | refine e_append ?_ | refine e_and ?_ | refine e_or ?_ | (refine is_attr ?_; refine e_fldV rfl (by ki_room) rfl ?_)) | (refine is_o ?_; first | (with_reducible refine o_add ?_) | (with_reducible refine o_sub ?_) | ((with_reducible refine is_bo (op := .Mod) ?_); refine o_mod (by decide) ?_) | ((with_reducible refine is_bo (op := .FloorDiv) ?_); refine o_div ⟨by decide, by decide⟩ ?_) | (with_reducible refine o_eqI ?_) | (with_reducible refine o_neI ?_) | (with_reducible refine o_eqS ?_) | (with_reducible refine o_neS ?_) | (with_reducible refine o_lt ?_) | (with_reducible refine o_le ?_) | (with_reducible refine o_gt ?_) | (with_reducible refine o_ge ?_) | (with_reducible refine o_p60 ?_) | (with_reducible refine o_p30 ?_) | ((with_reducible refine is_bo (op := .Pow) ?_); refine o_pow ⟨by decide, by decide, by decide⟩ ?_) | (with_reducible refine o_leS ?_) | (with_reducible refine o_ltS ?_) | (with_reducible refine o_inC ?_) | (with_reducible refine o_niC ?_) | (with_reducible refine o_eqB ?_) | (with_reducible refine o_neB ?_)) | (refine is_a ?_; first | refine a_cons ?_ | refine a_nil ?_) | (refine is_b ?_; first | refine b_cons ?_ | refine b_nil ?_) | (refine is_p ?_; first | refine p_none ?_ | refine p_some ?_) | (refine is_s ?_; first | refine s_set ?_ | refine s_if ?_ | refine s_ret ?_ | refine s_expr ?_ | refine s_retN ?_ | refine s_brk ?_ | refine s_cont ?_ | refine s_pass ?_ | refine s_augA rfl ?_ | refine s_asgT ?_ | (refine is_raise ?_; top_raise)) | (refine is_t ?_; first | refine t_isN ?_ | refine t_notN ?_ | refine t_cmp ?_ | refine t_chain ?_ | refine t_not ?_ | refine t_and ?_ | refine t_or ?_ | refine t_val ?_) | (refine is_c ?_; first | refine c_and1 ?_ | refine c_or1 ?_ | refine c_and ?_ | refine c_or ?_) | (refine is_g ?_; first | refine g_name ?_ | refine g_tup ⟨_, _, rfl, (by k_units), (by rfl), ?_⟩ | refine g_lst ⟨_, _, rfl, (by kl_some), (by rfl), ?_⟩) | (refine is_h ?_; first | refine h_cons ?_ | refine h_nil ?_) | (refine is_k ?_; first | refine k_min ?_ | refine k_max ?_ | refine k_ordC ?_ | refine k_lenL (by kl_some) ?_ | refine k_lenT (by k_units) ?_ | refine k_lenS (by kpc_check) ?_) | (refine is_and ?_; refine ⟨rfl, ?_⟩) | (refine is_ex ?_; first | refine ⟨_, rfl, ?_⟩ | refine ⟨_, _, rfl, ?_⟩ | refine ⟨_, _, _, rfl, ?_⟩ | refine ⟨_, _, rfl, rfl, ?_⟩ | refine ⟨_, _, _, rfl, rfl, rfl, ?_⟩ | refine ⟨_, _, _, _, rfl, ?_⟩ | refine ⟨_, _, _, _, _, rfl, ?_⟩ | refine ⟨_, _, _, _, _, _, rfl, ?_⟩) | ((first | (with_reducible refine is_ixP ?_) | (with_reducible refine is_ixN ?_)); first | refine i_tup (by k_units) rfl ?_ | refine i_lst (by kl_some) rfl ?_ | refine i_tup (by k_units) (atI_nat (by decide) rfl) ?_ | refine i_lst (by kl_some) (atI_nat (by decide) rfl) ?_)))
def top (i : Nat) : Stmt := PySem.Challenge.pw_forestread_k65_many_rules.main.body.getD i (.Pass ⟨0, 0, 0, 0⟩)
abbrev s_wall : Stmt := top 0
theorem sc_wall : FnScope ["k"] ["k"] (defScope s_wall) := ⟨rfl, rfl, rfl, by decide +kernel, rfl, by decide +kernel, by decide +kernel⟩
instance : NdN ["k"] := ⟨sc_wall.nd⟩
abbrev X_wall (P : Program) (w : World) (K : PySem.W.Frag) (mg : Str → Option Value) (base : Heap) (f : Addr) (cdv : Value) (A : Around) (outer : List Env) (s : Shared) (H : Hp) (E : XK) : Cx := cxr P w K mg base ["k"] "_wall" s_wall f cdv A outer s H E
abbrev s_is_whole : Stmt := top 10
theorem sc_is_whole : FnScope ["thing"] ["thing"] (defScope s_is_whole) := ⟨rfl, rfl, rfl, by decide +kernel, rfl, by decide +kernel, by decide +kernel⟩
instance : NdN ["thing"] := ⟨sc_is_whole.nd⟩
abbrev X_is_whole (P : Program) (w : World) (K : PySem.W.Frag) (mg : Str → Option Value) (base : Heap) (f : Addr) (cdv : Value) (A : Around) (outer : List Env) (s : Shared) (H : Hp) (E : XK) : Cx := cxr P w K mg base ["thing"] "is_whole" s_is_whole f cdv A outer s H E
abbrev s_may_stand : Stmt := top 11
theorem sc_may_stand : FnScope ["sign"] ["sign"] (defScope s_may_stand) := ⟨rfl, rfl, rfl, by decide +kernel, rfl, by decide +kernel, by decide +kernel⟩
instance : NdN ["sign"] := ⟨sc_may_stand.nd⟩
abbrev X_may_stand (P : Program) (w : World) (K : PySem.W.Frag) (mg : Str → Option Value) (base : Heap) (f : Addr) (cdv : Value) (A : Around) (outer : List Env) (s : Shared) (H : Hp) (E : XK) : Cx := cxr P w K mg base ["sign"] "may_stand" s_may_stand f cdv A outer s H E
abbrev s_is_sign : Stmt := top 12
theorem sc_is_sign : FnScope ["thing"] ["thing"] (defScope s_is_sign) := ⟨rfl, rfl, rfl, by decide +kernel, rfl, by decide +kernel, by decide +kernel⟩
instance : NdN ["thing"] := ⟨sc_is_sign.nd⟩
abbrev X_is_sign (P : Program) (w : World) (K : PySem.W.Frag) (mg : Str → Option Value) (base : Heap) (f : Addr) (cdv : Value) (A : Around) (outer : List Env) (s : Shared) (H : Hp) (E : XK) : Cx := cxr P w K mg base ["thing"] "is_sign" s_is_sign f cdv A outer s H E
abbrev s_is_name : Stmt := top 13
theorem sc_is_name : FnScope ["thing", "sign"] ["thing"] (defScope s_is_name) := ⟨rfl, rfl, rfl, by decide +kernel, rfl, by decide +kernel, by decide +kernel⟩
instance : NdN ["thing", "sign"] := ⟨sc_is_name.nd⟩
abbrev X_is_name (P : Program) (w : World) (K : PySem.W.Frag) (mg : Str → Option Value) (base : Heap) (f : Addr) (cdv : Value) (A : Around) (outer : List Env) (s : Shared) (H : Hp) (E : XK) : Cx := cxr P w K mg base ["thing", "sign"] "is_name" s_is_name f cdv A outer s H E
abbrev s_checked_text : Stmt := top 14
theorem sc_checked_text : FnScope ["thing", "sign"] ["thing"] (defScope s_checked_text) := ⟨rfl, rfl, rfl, by decide +kernel, rfl, by decide +kernel, by decide +kernel⟩
instance : NdN ["thing", "sign"] := ⟨sc_checked_text.nd⟩
abbrev X_checked_text (P : Program) (w : World) (K : PySem.W.Frag) (mg : Str → Option Value) (base : Heap) (f : Addr) (cdv : Value) (A : Around) (outer : List Env) (s : Shared) (H : Hp) (E : XK) : Cx := cxr P w K mg base ["thing", "sign"] "checked_text" s_checked_text f cdv A outer s H E
abbrev s_owners : Stmt := top 16
theorem sc_owners : FnScope ["wood", "above", "node", "way", "beneath"] ["wood"] (defScope s_owners) := ⟨rfl, rfl, rfl, by decide +kernel, rfl, by decide +kernel, by decide +kernel⟩
instance : NdN ["wood", "above", "node", "way", "beneath"] := ⟨sc_owners.nd⟩
abbrev X_owners (P : Program) (w : World) (K : PySem.W.Frag) (mg : Str → Option Value) (base : Heap) (f : Addr) (cdv : Value) (A : Around) (outer : List Env) (s : Shared) (H : Hp) (E : XK) : Cx := cxr P w K mg base ["wood", "above", "node", "way", "beneath"] "owners" s_owners f cdv A outer s H E
abbrev s_settled : Stmt := top 17
theorem sc_settled : FnScope ["wood", "above", "wanted", "ready", "node", "way", "told", "owner"] ["wood"] (defScope s_settled) := ⟨rfl, rfl, rfl, by decide +kernel, rfl, by decide +kernel, by decide +kernel⟩
instance : NdN ["wood", "above", "wanted", "ready", "node", "way", "told", "owner"] := ⟨sc_settled.nd⟩
abbrev X_settled (P : Program) (w : World) (K : PySem.W.Frag) (mg : Str → Option Value) (base : Heap) (f : Addr) (cdv : Value) (A : Around) (outer : List Env) (s : Shared) (H : Hp) (E : XK) : Cx := cxr P w K mg base ["wood", "above", "wanted", "ready", "node", "way", "told", "owner"] "settled" s_settled f cdv A outer s H E
abbrev s_put_together : Stmt := top 21
theorem sc_put_together : FnScope ["one", "other", "many"] ["one", "other"] (defScope s_put_together) := ⟨rfl, rfl, rfl, by decide +kernel, rfl, by decide +kernel, by decide +kernel⟩
instance : NdN ["one", "other", "many"] := ⟨sc_put_together.nd⟩
abbrev X_put_together (P : Program) (w : World) (K : PySem.W.Frag) (mg : Str → Option Value) (base : Heap) (f : Addr) (cdv : Value) (A : Around) (outer : List Env) (s : Shared) (H : Hp) (E : XK) : Cx := cxr P w K mg base ["one", "other", "many"] "put_together" s_put_together f cdv A outer s H E
abbrev s_of_way : Stmt := top 22
theorem sc_of_way : FnScope ["known", "way", "many", "left", "right", "found", "k", "one"] ["known", "way", "many"] (defScope s_of_way) := ⟨rfl, rfl, rfl, by decide +kernel, rfl, by decide +kernel, by decide +kernel⟩
instance : NdN ["known", "way", "many", "left", "right", "found", "k", "one"] := ⟨sc_of_way.nd⟩
abbrev X_of_way (P : Program) (w : World) (K : PySem.W.Frag) (mg : Str → Option Value) (base : Heap) (f : Addr) (cdv : Value) (A : Around) (outer : List Env) (s : Shared) (H : Hp) (E : XK) : Cx := cxr P w K mg base ["known", "way", "many", "left", "right", "found", "k", "one"] "of_way" s_of_way f cdv A outer s H E
abbrev s_first_rows : Stmt := top 23
theorem sc_first_rows : FnScope ["rules", "known", "node", "ways", "many", "found", "way"] ["rules", "known", "node", "ways", "many"] (defScope s_first_rows) := ⟨rfl, rfl, rfl, by decide +kernel, rfl, by decide +kernel, by decide +kernel⟩
instance : NdN ["rules", "known", "node", "ways", "many", "found", "way"] := ⟨sc_first_rows.nd⟩
abbrev X_first_rows (P : Program) (w : World) (K : PySem.W.Frag) (mg : Str → Option Value) (base : Heap) (f : Addr) (cdv : Value) (A : Around) (outer : List Env) (s : Shared) (H : Hp) (E : XK) : Cx := cxr P w K mg base ["rules", "known", "node", "ways", "many", "found", "way"] "first_rows" s_first_rows f cdv A outer s H E
abbrev s_all_rows : Stmt := top 24
theorem sc_all_rows : FnScope ["wood", "many", "rules", "known", "node", "ways", "changed", "some", "found"] ["wood", "many"] (defScope s_all_rows) := ⟨rfl, rfl, rfl, by decide +kernel, rfl, by decide +kernel, by decide +kernel⟩
instance : NdN ["wood", "many", "rules", "known", "node", "ways", "changed", "some", "found"] := ⟨sc_all_rows.nd⟩
abbrev X_all_rows (P : Program) (w : World) (K : PySem.W.Frag) (mg : Str → Option Value) (base : Heap) (f : Addr) (cdv : Value) (A : Around) (outer : List Env) (s : Shared) (H : Hp) (E : XK) : Cx := cxr P w K mg base ["wood", "many", "rules", "known", "node", "ways", "changed", "some", "found"] "all_rows" s_all_rows f cdv A outer s H E
abbrev s_told : Stmt := top 25
theorem sc_told : FnScope ["wood", "many", "top", "rows", "worth", "size", "row"] ["wood", "many"] (defScope s_told) := ⟨rfl, rfl, rfl, by decide +kernel, rfl, by decide +kernel, by decide +kernel⟩
instance : NdN ["wood", "many", "top", "rows", "worth", "size", "row"] := ⟨sc_told.nd⟩
abbrev X_told (P : Program) (w : World) (K : PySem.W.Frag) (mg : Str → Option Value) (base : Heap) (f : Addr) (cdv : Value) (A : Around) (outer : List Env) (s : Shared) (H : Hp) (E : XK) : Cx := cxr P w K mg base ["wood", "many", "top", "rows", "worth", "size", "row"] "told" s_told f cdv A outer s H E
abbrev s_best : Stmt := top 26
theorem sc_best : FnScope ["wood", "rows"] ["wood"] (defScope s_best) := ⟨rfl, rfl, rfl, by decide +kernel, rfl, by decide +kernel, by decide +kernel⟩
instance : NdN ["wood", "rows"] := ⟨sc_best.nd⟩
abbrev X_best (P : Program) (w : World) (K : PySem.W.Frag) (mg : Str → Option Value) (base : Heap) (f : Addr) (cdv : Value) (A : Around) (outer : List Env) (s : Shared) (H : Hp) (E : XK) : Cx := cxr P w K mg base ["wood", "rows"] "best" s_best f cdv A outer s H E
abbrev s_prices : Stmt := top 27
theorem sc_prices : FnScope ["wood", "found", "node", "rows"] ["wood"] (defScope s_prices) := ⟨rfl, rfl, rfl, by decide +kernel, rfl, by decide +kernel, by decide +kernel⟩
instance : NdN ["wood", "found", "node", "rows"] := ⟨sc_prices.nd⟩
abbrev X_prices (P : Program) (w : World) (K : PySem.W.Frag) (mg : Str → Option Value) (base : Heap) (f : Addr) (cdv : Value) (A : Around) (outer : List Env) (s : Shared) (H : Hp) (E : XK) : Cx := cxr P w K mg base ["wood", "found", "node", "rows"] "prices" s_prices f cdv A outer s H E
abbrev s_are_parts : Stmt := top 32
theorem sc_are_parts : FnScope ["thing", "part"] ["thing"] (defScope s_are_parts) := ⟨rfl, rfl, rfl, by decide +kernel, rfl, by decide +kernel, by decide +kernel⟩
instance : NdN ["thing", "part"] := ⟨sc_are_parts.nd⟩
abbrev X_are_parts (P : Program) (w : World) (K : PySem.W.Frag) (mg : Str → Option Value) (base : Heap) (f : Addr) (cdv : Value) (A : Around) (outer : List Env) (s : Shared) (H : Hp) (E : XK) : Cx := cxr P w K mg base ["thing", "part"] "are_parts" s_are_parts f cdv A outer s H E
abbrev s_is_rule : Stmt := top 33
theorem sc_is_rule : FnScope ["thing"] ["thing"] (defScope s_is_rule) := ⟨rfl, rfl, rfl, by decide +kernel, rfl, by decide +kernel, by decide +kernel⟩
instance : NdN ["thing"] := ⟨sc_is_rule.nd⟩
abbrev X_is_rule (P : Program) (w : World) (K : PySem.W.Frag) (mg : Str → Option Value) (base : Heap) (f : Addr) (cdv : Value) (A : Around) (outer : List Env) (s : Shared) (H : Hp) (E : XK) : Cx := cxr P w K mg base ["thing"] "is_rule" s_is_rule f cdv A outer s H E
abbrev s_checked : Stmt := top 34
theorem sc_checked : FnScope ["thing", "rules", "rule"] ["thing"] (defScope s_checked) := ⟨rfl, rfl, rfl, by decide +kernel, rfl, by decide +kernel, by decide +kernel⟩
instance : NdN ["thing", "rules", "rule"] := ⟨sc_checked.nd⟩
abbrev X_checked (P : Program) (w : World) (K : PySem.W.Frag) (mg : Str → Option Value) (base : Heap) (f : Addr) (cdv : Value) (A : Around) (outer : List Env) (s : Shared) (H : Hp) (E : XK) : Cx := cxr P w K mg base ["thing", "rules", "rule"] "checked" s_checked f cdv A outer s H E
abbrev s_rules_by_head : Stmt := top 35
theorem sc_rules_by_head : FnScope ["rules", "by", "k", "rule"] ["rules"] (defScope s_rules_by_head) := ⟨rfl, rfl, rfl, by decide +kernel, rfl, by decide +kernel, by decide +kernel⟩
instance : NdN ["rules", "by", "k", "rule"] := ⟨sc_rules_by_head.nd⟩
abbrev X_rules_by_head (P : Program) (w : World) (K : PySem.W.Frag) (mg : Str → Option Value) (base : Heap) (f : Addr) (cdv : Value) (A : Around) (outer : List Env) (s : Shared) (H : Hp) (E : XK) : Cx := cxr P w K mg base ["rules", "by", "k", "rule"] "rules_by_head" s_rules_by_head f cdv A outer s H E
abbrev s_first_nodes : Stmt := top 37
theorem sc_first_nodes : FnScope ["rules", "signs", "nodes", "sign", "i", "r"] ["rules", "signs"] (defScope s_first_nodes) := ⟨rfl, rfl, rfl, by decide +kernel, rfl, by decide +kernel, by decide +kernel⟩
instance : NdN ["rules", "signs", "nodes", "sign", "i", "r"] := ⟨sc_first_nodes.nd⟩
abbrev X_first_nodes (P : Program) (w : World) (K : PySem.W.Frag) (mg : Str → Option Value) (base : Heap) (f : Addr) (cdv : Value) (A : Around) (outer : List Env) (s : Shared) (H : Hp) (E : XK) : Cx := cxr P w K mg base ["rules", "signs", "nodes", "sign", "i", "r"] "first_nodes" s_first_nodes f cdv A outer s H E
abbrev s_Chart_init : Stmt := inClass (top 38) 0
theorem sc_Chart_init : FnScope ["self", "rules"] ["self", "rules"] (defScope s_Chart_init) := ⟨rfl, rfl, rfl, by decide +kernel, rfl, by decide +kernel, by decide +kernel⟩
instance : NdN ["self", "rules"] := ⟨sc_Chart_init.nd⟩
abbrev X_Chart_init (P : Program) (w : World) (K : PySem.W.Frag) (mg : Str → Option Value) (base : Heap) (f : Addr) (cdv : Value) (A : Around) (outer : List Env) (s : Shared) (H : Hp) (E : XK) : Cx := cxr P w K mg base ["self", "rules"] "Chart.__init__" s_Chart_init f cdv A outer s H E
abbrev s_Chart_offer : Stmt := inClass (top 38) 1
theorem sc_Chart_offer : FnScope ["self", "node"] ["self", "node"] (defScope s_Chart_offer) := ⟨rfl, rfl, rfl, by decide +kernel, rfl, by decide +kernel, by decide +kernel⟩
instance : NdN ["self", "node"] := ⟨sc_Chart_offer.nd⟩
abbrev X_Chart_offer (P : Program) (w : World) (K : PySem.W.Frag) (mg : Str → Option Value) (base : Heap) (f : Addr) (cdv : Value) (A : Around) (outer : List Env) (s : Shared) (H : Hp) (E : XK) : Cx := cxr P w K mg base ["self", "node"] "Chart.offer" s_Chart_offer f cdv A outer s H E
abbrev s_Chart_take_part : Stmt := inClass (top 38) 2
theorem sc_Chart_take_part : FnScope ["self", "part", "i", "j", "r", "d", "begin"] ["self", "part", "i", "j"] (defScope s_Chart_take_part) := ⟨rfl, rfl, rfl, by decide +kernel, rfl, by decide +kernel, by decide +kernel⟩
instance : NdN ["self", "part", "i", "j", "r", "d", "begin"] := ⟨sc_Chart_take_part.nd⟩
abbrev X_Chart_take_part (P : Program) (w : World) (K : PySem.W.Frag) (mg : Str → Option Value) (base : Heap) (f : Addr) (cdv : Value) (A : Around) (outer : List Env) (s : Shared) (H : Hp) (E : XK) : Cx := cxr P w K mg base ["self", "part", "i", "j", "r", "d", "begin"] "Chart.take_part" s_Chart_take_part f cdv A outer s H E
abbrev s_Chart_take_parts : Stmt := inClass (top 38) 3
theorem sc_Chart_take_parts : FnScope ["self", "r", "d", "i", "j", "head", "parts", "worth", "end"] ["self", "r", "d", "i", "j"] (defScope s_Chart_take_parts) := ⟨rfl, rfl, rfl, by decide +kernel, rfl, by decide +kernel, by decide +kernel⟩
instance : NdN ["self", "r", "d", "i", "j", "head", "parts", "worth", "end"] := ⟨sc_Chart_take_parts.nd⟩
abbrev X_Chart_take_parts (P : Program) (w : World) (K : PySem.W.Frag) (mg : Str → Option Value) (base : Heap) (f : Addr) (cdv : Value) (A : Around) (outer : List Env) (s : Shared) (H : Hp) (E : XK) : Cx := cxr P w K mg base ["self", "r", "d", "i", "j", "head", "parts", "worth", "end"] "Chart.take_parts" s_Chart_take_parts f cdv A outer s H E
abbrev s_Chart_take_level : Stmt := inClass (top 38) 4
theorem sc_Chart_take_level : FnScope ["self", "node"] ["self"] (defScope s_Chart_take_level) := ⟨rfl, rfl, rfl, by decide +kernel, rfl, by decide +kernel, by decide +kernel⟩
instance : NdN ["self", "node"] := ⟨sc_Chart_take_level.nd⟩
abbrev X_Chart_take_level (P : Program) (w : World) (K : PySem.W.Frag) (mg : Str → Option Value) (base : Heap) (f : Addr) (cdv : Value) (A : Around) (outer : List Env) (s : Shared) (H : Hp) (E : XK) : Cx := cxr P w K mg base ["self", "node"] "Chart.take_level" s_Chart_take_level f cdv A outer s H E
abbrev s_Chart_rise : Stmt := inClass (top 38) 5
theorem sc_Chart_rise : FnScope ["self", "heads", "node"] ["self"] (defScope s_Chart_rise) := ⟨rfl, rfl, rfl, by decide +kernel, rfl, by decide +kernel, by decide +kernel⟩
instance : NdN ["self", "heads", "node"] := ⟨sc_Chart_rise.nd⟩
abbrev X_Chart_rise (P : Program) (w : World) (K : PySem.W.Frag) (mg : Str → Option Value) (base : Heap) (f : Addr) (cdv : Value) (A : Around) (outer : List Env) (s : Shared) (H : Hp) (E : XK) : Cx := cxr P w K mg base ["self", "heads", "node"] "Chart.rise" s_Chart_rise f cdv A outer s H E
abbrev s_heights_over : Stmt := top 39
theorem sc_heights_over : FnScope ["rules", "signs", "chart", "node"] ["rules", "signs"] (defScope s_heights_over) := ⟨rfl, rfl, rfl, by decide +kernel, rfl, by decide +kernel, by decide +kernel⟩
instance : NdN ["rules", "signs", "chart", "node"] := ⟨sc_heights_over.nd⟩
abbrev X_heights_over (P : Program) (w : World) (K : PySem.W.Frag) (mg : Str → Option Value) (base : Heap) (f : Addr) (cdv : Value) (A : Around) (outer : List Env) (s : Shared) (H : Hp) (E : XK) : Cx := cxr P w K mg base ["rules", "signs", "chart", "node"] "heights_over" s_heights_over f cdv A outer s H E
abbrev s_ways_of_parts : Stmt := top 41
theorem sc_ways_of_parts : FnScope ["rules", "heights", "node", "r", "d", "i", "j", "part", "ways", "k"] ["rules", "heights", "node"] (defScope s_ways_of_parts) := ⟨rfl, rfl, rfl, by decide +kernel, rfl, by decide +kernel, by decide +kernel⟩
instance : NdN ["rules", "heights", "node", "r", "d", "i", "j", "part", "ways", "k"] := ⟨sc_ways_of_parts.nd⟩
abbrev X_ways_of_parts (P : Program) (w : World) (K : PySem.W.Frag) (mg : Str → Option Value) (base : Heap) (f : Addr) (cdv : Value) (A : Around) (outer : List Env) (s : Shared) (H : Hp) (E : XK) : Cx := cxr P w K mg base ["rules", "heights", "node", "r", "d", "i", "j", "part", "ways", "k"] "ways_of_parts" s_ways_of_parts f cdv A outer s H E
abbrev s_ways_of_head : Stmt := top 42
theorem sc_ways_of_head : FnScope ["rules", "by", "heights", "node", "name", "i", "j", "ways", "r", "whole"] ["rules", "by", "heights", "node"] (defScope s_ways_of_head) := ⟨rfl, rfl, rfl, by decide +kernel, rfl, by decide +kernel, by decide +kernel⟩
instance : NdN ["rules", "by", "heights", "node", "name", "i", "j", "ways", "r", "whole"] := ⟨sc_ways_of_head.nd⟩
abbrev X_ways_of_head (P : Program) (w : World) (K : PySem.W.Frag) (mg : Str → Option Value) (base : Heap) (f : Addr) (cdv : Value) (A : Around) (outer : List Env) (s : Shared) (H : Hp) (E : XK) : Cx := cxr P w K mg base ["rules", "by", "heights", "node", "name", "i", "j", "ways", "r", "whole"] "ways_of_head" s_ways_of_head f cdv A outer s H E
abbrev s_ways_over : Stmt := top 43
theorem sc_ways_over : FnScope ["rules", "by", "heights", "node"] ["rules", "by", "heights", "node"] (defScope s_ways_over) := ⟨rfl, rfl, rfl, by decide +kernel, rfl, by decide +kernel, by decide +kernel⟩
instance : NdN ["rules", "by", "heights", "node"] := ⟨sc_ways_over.nd⟩
abbrev X_ways_over (P : Program) (w : World) (K : PySem.W.Frag) (mg : Str → Option Value) (base : Heap) (f : Addr) (cdv : Value) (A : Around) (outer : List Env) (s : Shared) (H : Hp) (E : XK) : Cx := cxr P w K mg base ["rules", "by", "heights", "node"] "ways_over" s_ways_over f cdv A outer s H E
abbrev s_Wood_init : Stmt := inClass (top 44) 0
theorem sc_Wood_init : FnScope ["self", "grammar", "text", "heights", "top"] ["self", "grammar", "text"] (defScope s_Wood_init) := ⟨rfl, rfl, rfl, by decide +kernel, rfl, by decide +kernel, by decide +kernel⟩
instance : NdN ["self", "grammar", "text", "heights", "top"] := ⟨sc_Wood_init.nd⟩
abbrev X_Wood_init (P : Program) (w : World) (K : PySem.W.Frag) (mg : Str → Option Value) (base : Heap) (f : Addr) (cdv : Value) (A : Around) (outer : List Env) (s : Shared) (H : Hp) (E : XK) : Cx := cxr P w K mg base ["self", "grammar", "text", "heights", "top"] "Wood.__init__" s_Wood_init f cdv A outer s H E
abbrev s_Wood_reach : Stmt := inClass (top 44) 1
theorem sc_Wood_reach : FnScope ["self", "heights", "by", "ahead", "node", "way"] ["self", "heights"] (defScope s_Wood_reach) := ⟨rfl, rfl, rfl, by decide +kernel, rfl, by decide +kernel, by decide +kernel⟩
instance : NdN ["self", "heights", "by", "ahead", "node", "way"] := ⟨sc_Wood_reach.nd⟩
abbrev X_Wood_reach (P : Program) (w : World) (K : PySem.W.Frag) (mg : Str → Option Value) (base : Heap) (f : Addr) (cdv : Value) (A : Around) (outer : List Env) (s : Shared) (H : Hp) (E : XK) : Cx := cxr P w K mg base ["self", "heights", "by", "ahead", "node", "way"] "Wood.reach" s_Wood_reach f cdv A outer s H E
abbrev s_Wood_told_grammar : Stmt := inClass (top 44) 2
theorem sc_Wood_told_grammar : FnScope ["self"] ["self"] (defScope s_Wood_told_grammar) := ⟨rfl, rfl, rfl, by decide +kernel, rfl, by decide +kernel, by decide +kernel⟩
instance : NdN ["self"] := ⟨sc_Wood_told_grammar.nd⟩
abbrev X_Wood_told_grammar (P : Program) (w : World) (K : PySem.W.Frag) (mg : Str → Option Value) (base : Heap) (f : Addr) (cdv : Value) (A : Around) (outer : List Env) (s : Shared) (H : Hp) (E : XK) : Cx := cxr P w K mg base ["self"] "Wood.told_grammar" s_Wood_told_grammar f cdv A outer s H E
abbrev s_Wood_told_text : Stmt := inClass (top 44) 3
theorem sc_Wood_told_text : FnScope ["self"] ["self"] (defScope s_Wood_told_text) := ⟨rfl, rfl, rfl, by decide +kernel, rfl, by decide +kernel, by decide +kernel⟩
instance : NdN ["self"] := ⟨sc_Wood_told_text.nd⟩
abbrev X_Wood_told_text (P : Program) (w : World) (K : PySem.W.Frag) (mg : Str → Option Value) (base : Heap) (f : Addr) (cdv : Value) (A : Around) (outer : List Env) (s : Shared) (H : Hp) (E : XK) : Cx := cxr P w K mg base ["self"] "Wood.told_text" s_Wood_told_text f cdv A outer s H E
abbrev s_Wood_top : Stmt := inClass (top 44) 4
theorem sc_Wood_top : FnScope ["self"] ["self"] (defScope s_Wood_top) := ⟨rfl, rfl, rfl, by decide +kernel, rfl, by decide +kernel, by decide +kernel⟩
instance : NdN ["self"] := ⟨sc_Wood_top.nd⟩
abbrev X_Wood_top (P : Program) (w : World) (K : PySem.W.Frag) (mg : Str → Option Value) (base : Heap) (f : Addr) (cdv : Value) (A : Around) (outer : List Env) (s : Shared) (H : Hp) (E : XK) : Cx := cxr P w K mg base ["self"] "Wood.top" s_Wood_top f cdv A outer s H E
abbrev s_Wood_nodes : Stmt := inClass (top 44) 5
theorem sc_Wood_nodes : FnScope ["self"] ["self"] (defScope s_Wood_nodes) := ⟨rfl, rfl, rfl, by decide +kernel, rfl, by decide +kernel, by decide +kernel⟩
instance : NdN ["self"] := ⟨sc_Wood_nodes.nd⟩
abbrev X_Wood_nodes (P : Program) (w : World) (K : PySem.W.Frag) (mg : Str → Option Value) (base : Heap) (f : Addr) (cdv : Value) (A : Around) (outer : List Env) (s : Shared) (H : Hp) (E : XK) : Cx := cxr P w K mg base ["self"] "Wood.nodes" s_Wood_nodes f cdv A outer s H E
abbrev s_Wood_ways : Stmt := inClass (top 44) 6
theorem sc_Wood_ways : FnScope ["self", "node"] ["self", "node"] (defScope s_Wood_ways) := ⟨rfl, rfl, rfl, by decide +kernel, rfl, by decide +kernel, by decide +kernel⟩
instance : NdN ["self", "node"] := ⟨sc_Wood_ways.nd⟩
abbrev X_Wood_ways (P : Program) (w : World) (K : PySem.W.Frag) (mg : Str → Option Value) (base : Heap) (f : Addr) (cdv : Value) (A : Around) (outer : List Env) (s : Shared) (H : Hp) (E : XK) : Cx := cxr P w K mg base ["self", "node"] "Wood.ways" s_Wood_ways f cdv A outer s H E
abbrev s_law_cell_at : Stmt := top 46
theorem sc_law_cell_at : FnScope ["_law_script", "_law_k"] ["_law_script", "_law_k"] (defScope s_law_cell_at) := ⟨rfl, rfl, rfl, by decide +kernel, rfl, by decide +kernel, by decide +kernel⟩
instance : NdN ["_law_script", "_law_k"] := ⟨sc_law_cell_at.nd⟩
abbrev X_law_cell_at (P : Program) (w : World) (K : PySem.W.Frag) (mg : Str → Option Value) (base : Heap) (f : Addr) (cdv : Value) (A : Around) (outer : List Env) (s : Shared) (H : Hp) (E : XK) : Cx := cxr P w K mg base ["_law_script", "_law_k"] "_law_cell_at" s_law_cell_at f cdv A outer s H E
abbrev s_law_mixed : Stmt := top 47
theorem sc_law_mixed : FnScope ["_law_script", "_law_k", "_law_cell"] ["_law_script", "_law_k"] (defScope s_law_mixed) := ⟨rfl, rfl, rfl, by decide +kernel, rfl, by decide +kernel, by decide +kernel⟩
instance : NdN ["_law_script", "_law_k", "_law_cell"] := ⟨sc_law_mixed.nd⟩
abbrev X_law_mixed (P : Program) (w : World) (K : PySem.W.Frag) (mg : Str → Option Value) (base : Heap) (f : Addr) (cdv : Value) (A : Around) (outer : List Env) (s : Shared) (H : Hp) (E : XK) : Cx := cxr P w K mg base ["_law_script", "_law_k", "_law_cell"] "_law_mixed" s_law_mixed f cdv A outer s H E
abbrev s_law_signs : Stmt := top 48
theorem sc_law_signs : FnScope ["_law_cell", "_law_some"] ["_law_cell"] (defScope s_law_signs) := ⟨rfl, rfl, rfl, by decide +kernel, rfl, by decide +kernel, by decide +kernel⟩
instance : NdN ["_law_cell", "_law_some"] := ⟨sc_law_signs.nd⟩
abbrev X_law_signs (P : Program) (w : World) (K : PySem.W.Frag) (mg : Str → Option Value) (base : Heap) (f : Addr) (cdv : Value) (A : Around) (outer : List Env) (s : Shared) (H : Hp) (E : XK) : Cx := cxr P w K mg base ["_law_cell", "_law_some"] "_law_signs" s_law_signs f cdv A outer s H E
abbrev s_law_names : Stmt := top 49
theorem sc_law_names : FnScope ["_law_cell", "_law_big", "_law_odd", "_law_k", "_law_base", "_law_at"] ["_law_cell"] (defScope s_law_names) := ⟨rfl, rfl, rfl, by decide +kernel, rfl, by decide +kernel, by decide +kernel⟩
instance : NdN ["_law_cell", "_law_big", "_law_odd", "_law_k", "_law_base", "_law_at"] := ⟨sc_law_names.nd⟩
abbrev X_law_names (P : Program) (w : World) (K : PySem.W.Frag) (mg : Str → Option Value) (base : Heap) (f : Addr) (cdv : Value) (A : Around) (outer : List Env) (s : Shared) (H : Hp) (E : XK) : Cx := cxr P w K mg base ["_law_cell", "_law_big", "_law_odd", "_law_k", "_law_base", "_law_at"] "_law_names" s_law_names f cdv A outer s H E
abbrev s_law_worths : Stmt := top 50
theorem sc_law_worths : FnScope ["_law_script", "_law_many", "_law_way", "_law_base", "_law_step", "_law_k"] ["_law_script", "_law_many", "_law_way"] (defScope s_law_worths) := ⟨rfl, rfl, rfl, by decide +kernel, rfl, by decide +kernel, by decide +kernel⟩
instance : NdN ["_law_script", "_law_many", "_law_way", "_law_base", "_law_step", "_law_k"] := ⟨sc_law_worths.nd⟩
abbrev X_law_worths (P : Program) (w : World) (K : PySem.W.Frag) (mg : Str → Option Value) (base : Heap) (f : Addr) (cdv : Value) (A : Around) (outer : List Env) (s : Shared) (H : Hp) (E : XK) : Cx := cxr P w K mg base ["_law_script", "_law_many", "_law_way", "_law_base", "_law_step", "_law_k"] "_law_worths" s_law_worths f cdv A outer s H E
abbrev s_law_keys : Stmt := top 51
theorem sc_law_keys : FnScope ["_law_rules", "_law_twice", "_law_k", "_law_keys_here", "_law_j"] ["_law_rules", "_law_twice"] (defScope s_law_keys) := ⟨rfl, rfl, rfl, by decide +kernel, rfl, by decide +kernel, by decide +kernel⟩
instance : NdN ["_law_rules", "_law_twice", "_law_k", "_law_keys_here", "_law_j"] := ⟨sc_law_keys.nd⟩
abbrev X_law_keys (P : Program) (w : World) (K : PySem.W.Frag) (mg : Str → Option Value) (base : Heap) (f : Addr) (cdv : Value) (A : Around) (outer : List Env) (s : Shared) (H : Hp) (E : XK) : Cx := cxr P w K mg base ["_law_rules", "_law_twice", "_law_k", "_law_keys_here", "_law_j"] "_law_keys" s_law_keys f cdv A outer s H E
abbrev s_law : Stmt := top 52
theorem sc_law : FnScope ["_law_script", "_law_way", "_law_names_here", "_law_sign", "_law_twice", "_law_size", "_law_rules", "_law_worth", "_law_keys_here", "_law_due", "_law_key", "_law_many", "_law_wood"] ["_law_script"] (defScope s_law) := ⟨rfl, rfl, rfl, by decide +kernel, rfl, by decide +kernel, by decide +kernel⟩
instance : NdN ["_law_script", "_law_way", "_law_names_here", "_law_sign", "_law_twice", "_law_size", "_law_rules", "_law_worth", "_law_keys_here", "_law_due", "_law_key", "_law_many", "_law_wood"] := ⟨sc_law.nd⟩
abbrev X_law (P : Program) (w : World) (K : PySem.W.Frag) (mg : Str → Option Value) (base : Heap) (f : Addr) (cdv : Value) (A : Around) (outer : List Env) (s : Shared) (H : Hp) (E : XK) : Cx := cxr P w K mg base ["_law_script", "_law_way", "_law_names_here", "_law_sign", "_law_twice", "_law_size", "_law_rules", "_law_worth", "_law_keys_here", "_law_due", "_law_key", "_law_many", "_law_wood"] "law" s_law f cdv A outer s H E
structure Cs where
  z : Addr := 0
  ForestError : Addr
  NoGrammar : Addr
  NoText : Addr
  NoRow : Addr
  NoNumber : Addr
  TooGreat : Addr
  Chart : Addr
  Wood : Addr
structure Txt (K : PySem.W.Frag) (mg : Str → Option Value) (cs : Cs) : Prop where
  b_bool : Gn mg "bool" none
  b_enumerate : Gn mg "enumerate" none
  b_int : Gn mg "int" none
  b_isinstance : Gn mg "isinstance" none
  b_len : Gn mg "len" none
  b_list : Gn mg "list" none
  b_ord : Gn mg "ord" none
  b_range : Gn mg "range" none
  b_reversed : Gn mg "reversed" none
  b_sorted : Gn mg "sorted" none
  b_str : Gn mg "str" none
  b_sum : Gn mg "sum" none
  b_tuple : Gn mg "tuple" none
  k_MOST_SIGNS : ∃ t, mg "MOST_SIGNS" = some (.int (60) t)
  k_MOST : ∃ t, mg "MOST" = some (.int (60) t)
  k_LONGEST : ∃ t, mg "LONGEST" = some (.int (1000) t)
  k_MOST_RULES : ∃ t, mg "MOST_RULES" = some (.int (60) t)
  k_MOST_PARTS : ∃ t, mg "MOST_PARTS" = some (.int (6) t)
  k_MOST_WORTH : ∃ t, mg "MOST_WORTH" = some (.int (1000000000000000000000000000000000000000000000000000000000000) t)
  c_Chart : ClsF K mg "Chart" cs.Chart
  n_Chart_rules : NoAttr K cs.Chart "rules"
  n_Chart_heights : NoAttr K cs.Chart "heights"
  n_Chart_level : NoAttr K cs.Chart "level"
  n_Chart_queue : NoAttr K cs.Chart "queue"
  n_Chart_higher : NoAttr K cs.Chart "higher"
  n_Chart_ends : NoAttr K cs.Chart "ends"
  n_Chart_behind : NoAttr K cs.Chart "behind"
  i_Chart : InitF K cs.Chart "Chart.__init__" s_Chart_init ["self", "rules"]
  m_Chart_offer : MAt K cs.Chart "offer" "Chart.offer" s_Chart_offer ["self", "node"]
  m_Chart_take_part : MAt K cs.Chart "take_part" "Chart.take_part" s_Chart_take_part ["self", "part", "i", "j"]
  m_Chart_take_parts : MAt K cs.Chart "take_parts" "Chart.take_parts" s_Chart_take_parts ["self", "r", "d", "i", "j"]
  m_Chart_take_level : MAt K cs.Chart "take_level" "Chart.take_level" s_Chart_take_level ["self"]
  m_Chart_rise : MAt K cs.Chart "rise" "Chart.rise" s_Chart_rise ["self"]
  c_Wood : ClsF K mg "Wood" cs.Wood
  n_Wood_rules : NoAttr K cs.Wood "rules"
  n_Wood_signs : NoAttr K cs.Wood "signs"
  n_Wood_peak : NoAttr K cs.Wood "peak"
  n_Wood_paths : NoAttr K cs.Wood "paths"
  i_Wood : InitF K cs.Wood "Wood.__init__" s_Wood_init ["self", "grammar", "text"]
  m_Wood_reach : MAt K cs.Wood "reach" "Wood.reach" s_Wood_reach ["self", "heights"]
  m_Wood_told_grammar : MAt K cs.Wood "told_grammar" "Wood.told_grammar" s_Wood_told_grammar ["self"]
  m_Wood_top : MAt K cs.Wood "top" "Wood.top" s_Wood_top ["self"]
  m_Wood_nodes : MAt K cs.Wood "nodes" "Wood.nodes" s_Wood_nodes ["self"]
  m_Wood_ways : MAt K cs.Wood "ways" "Wood.ways" s_Wood_ways ["self", "node"]
  x_ForestError : ExcF K mg "ForestError" cs.ForestError
  x_NoGrammar : ExcF K mg "NoGrammar" cs.NoGrammar
  x_NoText : ExcF K mg "NoText" cs.NoText
  x_NoRow : ExcF K mg "NoRow" cs.NoRow
  x_NoNumber : ExcF K mg "NoNumber" cs.NoNumber
  x_TooGreat : ExcF K mg "TooGreat" cs.TooGreat
  s_Chart_Chart : PySem.W.subIn K (.ref cs.Chart) (.ref cs.Chart) = some true
  s_Chart_Wood : PySem.W.subIn K (.ref cs.Chart) (.ref cs.Wood) = some false
  s_Wood_Chart : PySem.W.subIn K (.ref cs.Wood) (.ref cs.Chart) = some false
  s_Wood_Wood : PySem.W.subIn K (.ref cs.Wood) (.ref cs.Wood) = some true
  f_wall : At K mg "_wall" "_wall" s_wall ["k"]
  f_is_whole : At K mg "is_whole" "is_whole" s_is_whole ["thing"]
  f_may_stand : At K mg "may_stand" "may_stand" s_may_stand ["sign"]
  f_is_sign : At K mg "is_sign" "is_sign" s_is_sign ["thing"]
  f_is_name : At K mg "is_name" "is_name" s_is_name ["thing"]
  f_checked_text : At K mg "checked_text" "checked_text" s_checked_text ["thing"]
  f_owners : At K mg "owners" "owners" s_owners ["wood"]
  f_settled : At K mg "settled" "settled" s_settled ["wood"]
  f_put_together : At K mg "put_together" "put_together" s_put_together ["one", "other"]
  f_of_way : At K mg "of_way" "of_way" s_of_way ["known", "way", "many"]
  f_first_rows : At K mg "first_rows" "first_rows" s_first_rows ["rules", "known", "node", "ways", "many"]
  f_all_rows : At K mg "all_rows" "all_rows" s_all_rows ["wood", "many"]
  f_told : AtD K mg "told" "told" s_told ["wood", "many"] [V.int 60]
  f_best : At K mg "best" "best" s_best ["wood"]
  f_prices : At K mg "prices" "prices" s_prices ["wood"]
  f_are_parts : At K mg "are_parts" "are_parts" s_are_parts ["thing"]
  f_is_rule : At K mg "is_rule" "is_rule" s_is_rule ["thing"]
  f_checked : At K mg "checked" "checked" s_checked ["thing"]
  f_rules_by_head : At K mg "rules_by_head" "rules_by_head" s_rules_by_head ["rules"]
  f_first_nodes : At K mg "first_nodes" "first_nodes" s_first_nodes ["rules", "signs"]
  f_heights_over : At K mg "heights_over" "heights_over" s_heights_over ["rules", "signs"]
  f_ways_of_parts : At K mg "ways_of_parts" "ways_of_parts" s_ways_of_parts ["rules", "heights", "node"]
  f_ways_of_head : At K mg "ways_of_head" "ways_of_head" s_ways_of_head ["rules", "by", "heights", "node"]
  f_ways_over : At K mg "ways_over" "ways_over" s_ways_over ["rules", "by", "heights", "node"]
  f_law_cell_at : At K mg "_law_cell_at" "_law_cell_at" s_law_cell_at ["_law_script", "_law_k"]
  f_law_mixed : At K mg "_law_mixed" "_law_mixed" s_law_mixed ["_law_script", "_law_k"]
  f_law_signs : At K mg "_law_signs" "_law_signs" s_law_signs ["_law_cell"]
  f_law_names : At K mg "_law_names" "_law_names" s_law_names ["_law_cell"]
  f_law_worths : At K mg "_law_worths" "_law_worths" s_law_worths ["_law_script", "_law_many", "_law_way"]
  f_law_keys : At K mg "_law_keys" "_law_keys" s_law_keys ["_law_rules", "_law_twice"]
section
variable {P : Program} {w : World} {K : PySem.W.Frag} {mg : Str → Option Value} {base : Heap} {cs : Cs}
def okc (c : Nat) : Bool := decide (32 ≤ c) && (decide (c ≤ 126) && !decide (c = 37))
def isNameS (z : Str) : Bool := (decide (1 ≤ z.length) && decide (z.length ≤ 8)) && (tl z).all fun c => decide (65 ≤ c) && decide (c ≤ 90)
def isSignL : List Nat → Bool
  | [a, c] => decide (a = 39) && okc c
  | _ => false
def isSignS (z : Str) : Bool := isSignL (tl z)
def isNameD : PyData → Bool
  | .str z => isNameS z
  | _ => false
def isSignD : PyData → Bool
  | .str z => isSignS z
  | _ => false
def isWholeD (d : PyData) : Bool := isK d "int" && !isK d "bool"
theorem no_str {d : PyData} : (∃ z, d = .str z) ∨ (isK d "str" = false ∧ isNameD d = false ∧ isSignD d = false) := by
  cases d <;> first | exact .inl ⟨_, rfl⟩ | exact .inr ⟨rfl, rfl, rfl⟩
theorem tl_str (l : List Nat) : tl (⟨l.toArray⟩ : Str) = l := rfl
theorem str_tl (z : Str) : z = ⟨(tl z).toArray⟩ := (mk_tl z).symm
theorem lo_sp (c : Nat) : (!decide (tl (⟨#[c]⟩ : Str) < tl (Str.ofString " "))) = decide (32 ≤ c) := by
  have e : tl (Str.ofString " ") = [32] := by decide +kernel
  rw [e]
  by_cases h : 32 ≤ c
  · rw [decide_eq_true h, decide_eq_false (show ¬ ([c] < [32]) from fun q => by have := (lt1 c 32).mp q; omega)]; rfl
  · rw [decide_eq_false h, decide_eq_true (show ([c] < [32]) from (lt1 c 32).mpr (by omega))]; rfl
theorem hi_ti (c : Nat) : (!decide (tl (Str.ofString "~") < tl (⟨#[c]⟩ : Str))) = decide (c ≤ 126) := by
  have e : tl (Str.ofString "~") = [126] := by decide +kernel
  rw [e]
  by_cases h : c ≤ 126
  · rw [decide_eq_true h, decide_eq_false (show ¬ ([126] < [c]) from fun q => by have := (lt1 126 c).mp q; omega)]; rfl
  · rw [decide_eq_false h, decide_eq_true (show ([126] < [c]) from (lt1 126 c).mpr (by omega))]; rfl
theorem lo_A (c : Nat) : (!decide (tl (⟨#[c]⟩ : Str) < tl (Str.ofString "A"))) = decide (65 ≤ c) := by
  have e : tl (Str.ofString "A") = [65] := by decide +kernel
  rw [e]
  by_cases h : 65 ≤ c
  · rw [decide_eq_true h, decide_eq_false (show ¬ ([c] < [65]) from fun q => by have := (lt1 c 65).mp q; omega)]; rfl
  · rw [decide_eq_false h, decide_eq_true (show ([c] < [65]) from (lt1 c 65).mpr (by omega))]; rfl
theorem hi_Z (c : Nat) : (!decide (tl (Str.ofString "Z") < tl (⟨#[c]⟩ : Str))) = decide (c ≤ 90) := by
  have e : tl (Str.ofString "Z") = [90] := by decide +kernel
  rw [e]
  by_cases h : c ≤ 90
  · rw [decide_eq_true h, decide_eq_false (show ¬ ([90] < [c]) from fun q => by have := (lt1 90 c).mp q; omega)]; rfl
  · rw [decide_eq_false h, decide_eq_true (show ([90] < [c]) from (lt1 90 c).mpr (by omega))]; rfl
theorem one_eq (a : Nat) (l : List Nat) (t : String) (h : tl (Str.ofString t) = l) : ((⟨#[a]⟩ : Str) = Str.ofString t) ↔ [a] = l := by
  constructor
  · intro e
    rw [← h, ← e]
  · intro e
    exact ext_tl (by rw [h, ← e])
theorem is_quote (a : Nat) : decide ((⟨#[a]⟩ : Str) = Str.ofString "'") = decide (a = 39) := decide_eq_decide.mpr (by rw [one_eq a [39] "'" (by decide +kernel)]; simp)
def R_is_whole (K : PySem.W.Frag) : V → Hp → VK → XK → Prop := fun x H Q _ => ∃ d, Th K H x d ∧ Q (.bl (isWholeD d)) H
section
theorem ok_is_whole {f : Addr} {fd : FuncData} (F : Fun K "is_whole" "is_whole" s_is_whole f fd) (T : Txt K mg cs) : FnOk P w K mg base (L2.CX P w) 1 f fd ["thing"] (sp1 (R_is_whole K)) := by
  refine F.okX sc_is_whole (fun vs H Q E h => sp1_len h) (fun cdv A outer s H vs Q E hr h => ⟨_, PBw (X := X_is_whole P w K mg base f cdv A outer s H E), ?_⟩)
  obtain ⟨a0, rfl, h⟩ := h
  have ib_isinstance := T.b_isinstance
  have ib_int := T.b_int
  have ib_bool := T.b_bool
  have hr' : Room 0 (X_is_whole P w K mg base f cdv A outer s H E).A := hr
  replace hr := hr'
  clear hr'
  obtain ⟨d, hd, h⟩ := h
  wp_step
  refine e_andJ (d := !isK d "bool") ?_
  wp_step
  refine k_isInt hd ⟨_, rfl, fun _ Q' q => ?_, h⟩
  wp_step
  refine k_isBool hd ?_
  wp_step
  exact q
end
theorem df_is_whole (T : Txt K mg cs) : Df P w K mg base "is_whole" 1 ["thing"] (sp1 (R_is_whole K)) := by
  obtain ⟨f, fd, hm, F, hb⟩ := T.f_is_whole.ex
  exact ⟨f, fd, hm, F.kp, hb, ok_is_whole F T⟩
def R_may_stand : V → Hp → VK → XK → Prop := fun x H Q _ => ∃ c, x = .str ⟨#[c]⟩ ∧ Q (.bl (okc c)) H
section
theorem ok_may_stand {f : Addr} {fd : FuncData} (F : Fun K "may_stand" "may_stand" s_may_stand f fd) (T : Txt K mg cs) : FnOk P w K mg base (L2.CX P w) 1 f fd ["sign"] (sp1 (R_may_stand)) := by
  refine F.okX sc_may_stand (fun vs H Q E h => sp1_len h) (fun cdv A outer s H vs Q E hr h => ⟨_, PBw (X := X_may_stand P w K mg base f cdv A outer s H E), ?_⟩)
  obtain ⟨a0, rfl, h⟩ := h
  have ib_ord := T.b_ord
  have hr' : Room 0 (X_may_stand P w K mg base f cdv A outer s H E).A := hr
  replace hr := hr'
  clear hr'
  obtain ⟨c, rfl, h⟩ := h
  wp_step
  refine e_and ?_
  refine e_chain ?_
  wp_step
  rw [lo_sp]
  refine iteD (fun c1 => ?_) fun c1 => ?_
  · wp_step
    rw [hi_ti]
    refine iteD (fun c2 => ?_) fun c2 => ?_
    · wp_step
      have e : okc c = !decide ((c : Int) = 37) := by
        simp only [okc, decide_eq_true c1, decide_eq_true c2, Bool.true_and]
        congr 1
        exact decide_eq_decide.mpr (by omega)
      rw [e] at h
      exact h
    · have e : okc c = false := by simp only [okc, decide_eq_false c2, Bool.false_and, Bool.and_false]
      rw [e] at h
      exact h
  · wp_step
    have e : okc c = false := by simp only [okc, decide_eq_false c1, Bool.false_and]
    rw [e] at h
    exact h
end
theorem df_may_stand (T : Txt K mg cs) : Df P w K mg base "may_stand" 1 ["sign"] (sp1 (R_may_stand)) := by
  obtain ⟨f, fd, hm, F, hb⟩ := T.f_may_stand.ex
  exact ⟨f, fd, hm, F.kp, hb, ok_may_stand F T⟩
def R_is_sign (K : PySem.W.Frag) : V → Hp → VK → XK → Prop := fun x H Q _ => ∃ d, Th K H x d ∧ Q (.bl (isSignD d)) H
section
set_option hygiene false in
local macro_rules | `(tactic| top_name) => `(tactic| first | refine e_call (df_may_stand T) (hr.mono (by decide)) ?_)
theorem ok_is_sign {f : Addr} {fd : FuncData} (F : Fun K "is_sign" "is_sign" s_is_sign f fd) (T : Txt K mg cs) : FnOk P w K mg base (L2.CX P w) 2 f fd ["thing"] (sp1 (R_is_sign K)) := by
  refine F.okX sc_is_sign (fun vs H Q E h => sp1_len h) (fun cdv A outer s H vs Q E hr h => ⟨_, PBw (X := X_is_sign P w K mg base f cdv A outer s H E), ?_⟩)
  obtain ⟨a0, rfl, h⟩ := h
  have ib_isinstance := T.b_isinstance
  have ib_str := T.b_str
  have ib_len := T.b_len
  have hr' : Room 1 (X_is_sign P w K mg base f cdv A outer s H E).A := hr
  replace hr := hr'
  clear hr'
  obtain ⟨d, hd, h⟩ := h
  wp_step
  refine e_and ?_
  wp_step
  refine k_isStr hd ⟨_, rfl, ?_⟩
  rcases no_str (d := d) with ⟨z, rfl⟩ | ⟨e1, _, e2⟩
  · cases hd with
    | str _ hz =>
    wp_step
    refine e_and ?_
    wp_step
    refine k_lenS (sz1m hz) ?_
    wp_step
    generalize hl : tl z = l at *
    have hlen : z.length = l.length := by rw [len_tl, hl]
    have hs : isSignD (.str z) = isSignL l := by show isSignL (tl z) = _; rw [hl]
    rw [hs] at h
    refine iteD (fun c => ?_) fun c => ?_
    · match l, hl, hlen, h, hs with
      | [a, c'], hl, hlen, h, _ =>
        refine e_and ?_
        wp_step
        refine i_str (sz1m hz) (c := a) ?_ ?_
        · rw [show z.cps.toList = [a, c'] from hl]
          rfl
        wp_step
        rw [is_quote]
        refine iteD (fun c2 => ?_) fun c2 => ?_
        · wp_step
          refine e_call (df_may_stand T) (hr.mono (by decide)) ?_
          wp_step
          refine i_str (sz1m hz) (c := c') ?_ ?_
          · rw [show z.cps.toList = [a, c'] from hl]
            rfl
          wp_step
          have e : isSignL [a, c'] = okc c' := by simp only [isSignL, decide_eq_true c2, Bool.true_and]
          rw [e] at h
          exact h
        · have e : isSignL [a, c'] = false := by simp only [isSignL, decide_eq_false c2, Bool.false_and]
          rw [e] at h
          exact h
      | [], _, hlen, _, _ => simp at hlen; omega
      | [_], _, hlen, _, _ => simp at hlen; omega
      | _ :: _ :: _ :: _, _, hlen, _, _ => simp at hlen; omega
    · have e : isSignL l = false := by
        match l, hlen with
        | [], _ => rfl
        | [_], _ => rfl
        | [_, _], hlen => simp at hlen; omega
        | _ :: _ :: _ :: _, _ => rfl
      rw [e] at h
      exact h
  · rw [e1]
    rw [e2] at h
    exact iteF h
end
theorem df_is_sign (T : Txt K mg cs) : Df P w K mg base "is_sign" 2 ["thing"] (sp1 (R_is_sign K)) := by
  obtain ⟨f, fd, hm, F, hb⟩ := T.f_is_sign.ex
  exact ⟨f, fd, hm, F.kp, hb, ok_is_sign F T⟩
def R_is_name (K : PySem.W.Frag) : V → Hp → VK → XK → Prop := fun x H Q _ => ∃ d, Th K H x d ∧ Q (.bl (isNameD d)) H
section
theorem ok_is_name {f : Addr} {fd : FuncData} (F : Fun K "is_name" "is_name" s_is_name f fd) (T : Txt K mg cs) : FnOk P w K mg base (L2.CX P w) 1 f fd ["thing"] (sp1 (R_is_name K)) := by
  refine F.okX sc_is_name (fun vs H Q E h => sp1_len h) (fun cdv A outer s H vs Q E hr h => ⟨_, PBw (X := X_is_name P w K mg base f cdv A outer s H E), ?_⟩)
  obtain ⟨a0, rfl, h⟩ := h
  have ib_isinstance := T.b_isinstance
  have ib_str := T.b_str
  have ib_len := T.b_len
  have hr' : Room 0 (X_is_name P w K mg base f cdv A outer s H E).A := hr
  replace hr := hr'
  clear hr'
  obtain ⟨d, hd, h⟩ := h
  wp_step
  refine k_isStr hd ⟨_, rfl, ?_⟩
  rcases no_str (d := d) with ⟨z, rfl⟩ | ⟨e1, e2, _⟩
  · cases hd with
    | str _ hz =>
    wp_step
    refine k_lenS (sz1m hz) ?_
    wp_step
    have hlen : (tl z).length = z.length := (len_tl z).symm
    have hbad : ¬ (1 ≤ z.length ∧ z.length ≤ 8) → isNameD (.str z) = false := fun c => by
      show ((decide (1 ≤ z.length) && decide (z.length ≤ 8)) && _) = false
      by_cases c1 : 1 ≤ z.length <;> by_cases c2 : z.length ≤ 8 <;> simp [c1, c2]
      exact absurd ⟨c1, c2⟩ c
    refine iteD (fun c1 => ?_) fun c1 => ?_
    · wp_step
      refine iteND (fun c2 => ?_) fun c2 => ?_
      · wp_step
        rw [hbad (by omega)] at h
        exact h
      · have hgood : isNameD (.str z) = (tl z).all fun c => decide (65 ≤ c) && decide (c ≤ 90) := by
          show ((decide (1 ≤ z.length) && decide (z.length ≤ 8)) && _) = _
          rw [decide_eq_true (show 1 ≤ z.length by omega), decide_eq_true (show z.length ≤ 8 by omega)]
          rfl
        rw [hgood] at h
        wp_step
        refine s_for (j_str ?_)
        wp_step
        refine ⟨_, _, _, walk_str, fun i σ' H' => (∃ v, σ' = [some (.str z), v]) ∧ H' = H ∧ ((tl z).take i).all (fun c => decide (65 ≤ c) && decide (c ≤ 90)) = true, ⟨⟨_, rfl⟩, rfl, rfl⟩, fun _ _ _ _ _ => trivial, ?_, ?_⟩
        · rintro i x σ' H' H2 hi ⟨⟨v, rfl⟩, rfl, hall⟩ ⟨rfl, c, hc, rfl⟩
          have hc' : (tl z)[i]? = some c := by simpa [tl] using hc
          wp_step
          rw [lo_A]
          refine iteD (fun d1 => ?_) fun d1 => ?_
          · wp_step
            rw [hi_Z]
            refine iteND (fun d2 => ?_) fun d2 => ?_
            · wp_step
              rw [all_cut hc' (by simp [d2])] at h
              exact h
            · wp_step
              exact ⟨⟨_, rfl⟩, rfl, by rw [all_snoc hc', hall]; simp [d1, d2]⟩
          · wp_step
            rw [all_cut hc' (by simp [d1])] at h
            exact h
        · rintro σ' H' ⟨⟨v, rfl⟩, rfl, hall⟩
          wp_step
          rw [show z.cps.size = (tl z).length by simp [tl], List.take_length] at hall
          rw [hall] at h
          exact h
    · wp_step
      rw [hbad (by omega)] at h
      exact h
  · rw [e1]
    rw [e2] at h
    wp_step
    exact h

end
theorem df_is_name (T : Txt K mg cs) : Df P w K mg base "is_name" 1 ["thing"] (sp1 (R_is_name K)) := by
  obtain ⟨f, fd, hm, F, hb⟩ := T.f_is_name.ex
  exact ⟨f, fd, hm, F.kp, hb, ok_is_name F T⟩
abbrev top60 : Int := 1000000000000000000000000000000000000000000000000000000000000
def isPartD (d : PyData) : Bool := isSignD d || isNameD d
def arePartsD : PyData → Bool
  | .tuple ds => decide (ds.length ≤ 6) && ds.all isPartD
  | _ => false
def isWorthD : PyData → Bool
  | .int i => decide (0 ≤ i) && decide (i ≤ top60)
  | _ => false
def isRuleL : List PyData → Bool
  | [h, p, w] => (isNameD h && arePartsD p) && isWorthD w
  | _ => false
def isRuleD : PyData → Bool
  | .tuple ds => isRuleL ds
  | _ => false
theorem no_tup {d : PyData} : (∃ ds, d = .tuple ds) ∨ (isK d "tuple" = false ∧ arePartsD d = false ∧ isRuleD d = false) := by
  cases d <;> first | exact .inl ⟨_, rfl⟩ | exact .inr ⟨rfl, rfl, rfl⟩
theorem len3 {α : Type} {l : List α} (h : l.length = 3) : ∃ a b c, l = [a, b, c] := by
  match l, h with
  | [a, b, c], _ => exact ⟨a, b, c, rfl⟩
theorem rule_len {ds : List PyData} (h : ¬ ds.length = 3) : isRuleL ds = false := by
  match ds, h with
  | [], _ => rfl
  | [_], _ => rfl
  | [_, _], _ => rfl
  | [_, _, _], h => exact absurd rfl h
  | _ :: _ :: _ :: _ :: _, _ => rfl
theorem th3 {K : PySem.W.Frag} {H : Hp} {vs : List V} {a b c : PyData} (h : ThAll K H vs [a, b, c]) : ∃ x y z, vs = [x, y, z] ∧ Th K H x a ∧ Th K H y b ∧ Th K H z c := by
  cases h with
  | cons h0 h => cases h with
    | cons h1 h => cases h with
      | cons h2 h => cases h; exact ⟨_, _, _, rfl, h0, h1, h2⟩
theorem th_whole {K : PySem.W.Frag} {H : Hp} {v : V} {d : PyData} (h : Th K H v d) : (∃ n, d = .int n ∧ v = .int n) ∨ (isWholeD d = false ∧ isWorthD d = false) := by
  cases h <;> first | exact .inl ⟨_, rfl, rfl⟩ | exact .inr ⟨rfl, rfl⟩
def R_are_parts (K : PySem.W.Frag) : V → Hp → VK → XK → Prop := fun x H Q _ => ∃ d, Th K H x d ∧ Q (.bl (arePartsD d)) H
section
set_option hygiene false in
local macro_rules | `(tactic| top_name) => `(tactic| first | refine e_call (df_is_sign T) (hr.mono (by decide)) ?_ | refine e_call (df_is_name T) (hr.mono (by decide)) ?_)
theorem ok_are_parts {f : Addr} {fd : FuncData} (F : Fun K "are_parts" "are_parts" s_are_parts f fd) (T : Txt K mg cs) : FnOk P w K mg base (L2.CX P w) 3 f fd ["thing"] (sp1 (R_are_parts K)) := by
  refine F.okX sc_are_parts (fun vs H Q E h => sp1_len h) (fun cdv A outer s H vs Q E hr h => ⟨_, PBw (X := X_are_parts P w K mg base f cdv A outer s H E), ?_⟩)
  obtain ⟨a0, rfl, h⟩ := h
  obtain ⟨t_MOST_PARTS, h_MOST_PARTS⟩ := T.k_MOST_PARTS
  have ib_MOST_PARTS : Gn mg "MOST_PARTS" (some _) := ⟨h_MOST_PARTS⟩
  have ib_isinstance := T.b_isinstance
  have ib_tuple := T.b_tuple
  have ib_len := T.b_len
  have hr' : Room 2 (X_are_parts P w K mg base f cdv A outer s H E).A := hr
  replace hr := hr'
  clear hr'
  obtain ⟨d, hd, h⟩ := h
  wp_step
  refine k_isTuple hd ⟨_, rfl, ?_⟩
  rcases no_tup (d := d) with ⟨ds, rfl⟩ | ⟨e1, e2, _⟩
  · cases hd with
    | tup hs ha =>
    rename_i a vs
    wp_step
    refine k_lenT hs ?_
    wp_step
    have hlen := ha.len
    refine iteD (fun c => ?_) fun c => ?_
    · wp_step
      have e : arePartsD (.tuple ds) = false := by
        show (decide (ds.length ≤ 6) && _) = false
        rw [decide_eq_false (by omega), Bool.false_and]
      rw [e] at h
      exact h
    · wp_step
      have e : arePartsD (.tuple ds) = ds.all isPartD := by
        show (decide (ds.length ≤ 6) && _) = _
        rw [decide_eq_true (by omega), Bool.true_and]
      rw [e] at h
      refine s_for (j_tup ?_)
      wp_step
      refine ⟨⟨_, hs⟩, _, _, _, walk_tup (xs := vs), fun i σ' H' => (∃ v, σ' = [some (.ref a), v]) ∧ H' = H ∧ (ds.take i).all isPartD = true, ⟨⟨_, rfl⟩, rfl, rfl⟩, fun _ _ _ _ ⟨_, e, _⟩ => by rw [e]; exact hs, ?_, ?_⟩
      · rintro i x σ' H' H2 hi ⟨⟨v, rfl⟩, rfl, hall⟩ ⟨rfl, hx⟩
        obtain ⟨d, hd1, hd2⟩ := ha.get hx
        wp_step
        refine e_call (df_is_sign T) (hr.mono (by decide)) ?_
        wp_step
        refine ⟨d, hd2, ?_⟩
        wp_step
        cases c1 : isSignD d with
        | true =>
          wp_step
          exact ⟨⟨_, rfl⟩, rfl, by rw [all_snoc hd1, hall]; simp [isPartD, c1]⟩
        | false =>
          wp_step
          refine e_call (df_is_name T) (hr.mono (by decide)) ?_
          wp_step
          refine ⟨d, hd2, ?_⟩
          wp_step
          cases c2 : isNameD d with
          | true =>
            wp_step
            exact ⟨⟨_, rfl⟩, rfl, by rw [all_snoc hd1, hall]; simp [isPartD, c2]⟩
          | false =>
            wp_step
            rw [all_cut hd1 (by simp [isPartD, c1, c2])] at h
            exact h
      · rintro σ' H' ⟨⟨v, rfl⟩, rfl, hall⟩
        wp_step
        rw [hlen, List.take_length] at hall
        rw [hall] at h
        exact h
  · rw [e1]
    rw [e2] at h
    wp_step
    exact h
end
theorem df_are_parts (T : Txt K mg cs) : Df P w K mg base "are_parts" 3 ["thing"] (sp1 (R_are_parts K)) := by
  obtain ⟨f, fd, hm, F, hb⟩ := T.f_are_parts.ex
  exact ⟨f, fd, hm, F.kp, hb, ok_are_parts F T⟩
def R_is_rule (K : PySem.W.Frag) : V → Hp → VK → XK → Prop := fun x H Q _ => ∃ d, Th K H x d ∧ Q (.bl (isRuleD d)) H
section
set_option hygiene false in
local macro_rules | `(tactic| top_name) => `(tactic| first | refine e_call (df_is_whole T) (hr.mono (by decide)) ?_ | refine e_call (df_is_name T) (hr.mono (by decide)) ?_ | refine e_call (df_are_parts T) (hr.mono (by decide)) ?_)
theorem ok_is_rule {f : Addr} {fd : FuncData} (F : Fun K "is_rule" "is_rule" s_is_rule f fd) (T : Txt K mg cs) : FnOk P w K mg base (L2.CX P w) 4 f fd ["thing"] (sp1 (R_is_rule K)) := by
  refine F.okX sc_is_rule (fun vs H Q E h => sp1_len h) (fun cdv A outer s H vs Q E hr h => ⟨_, PBw (X := X_is_rule P w K mg base f cdv A outer s H E), ?_⟩)
  obtain ⟨a0, rfl, h⟩ := h
  obtain ⟨t_MOST_WORTH, h_MOST_WORTH⟩ := T.k_MOST_WORTH
  have ib_MOST_WORTH : Gn mg "MOST_WORTH" (some _) := ⟨h_MOST_WORTH⟩
  have ib_isinstance := T.b_isinstance
  have ib_tuple := T.b_tuple
  have ib_len := T.b_len
  have hr' : Room 3 (X_is_rule P w K mg base f cdv A outer s H E).A := hr
  replace hr := hr'
  clear hr'
  obtain ⟨d, hd, h⟩ := h
  wp_step
  refine k_isTuple hd ⟨_, rfl, ?_⟩
  rcases no_tup (d := d) with ⟨ds, rfl⟩ | ⟨e1, _, e2⟩
  · cases hd with
    | tup hs ha =>
    rename_i a vs
    wp_step
    refine k_lenT hs ?_
    wp_step
    have hlen := ha.len
    refine iteND (fun c => ?_) fun c => ?_
    · wp_step
      have e : isRuleD (.tuple ds) = false := rule_len (by omega)
      rw [e] at h
      exact h
    · obtain ⟨d0, d1, d2, rfl⟩ := len3 (l := ds) (by omega)
      obtain ⟨v0, v1, v2, rfl, h0, h1, h2⟩ := th3 ha
      wp_step
      refine e_call (df_is_name T) (hr.mono (by decide)) ?_
      wp_step
      refine i_tup hs (v := v0) rfl ?_
      wp_step
      refine ⟨d0, h0, ?_⟩
      wp_step
      cases c0 : isNameD d0 with
      | false =>
        wp_step
        have e : isRuleD (.tuple [d0, d1, d2]) = false := by simp [isRuleD, isRuleL, c0]
        rw [e] at h
        exact h
      | true =>
        wp_step
        refine e_call (df_are_parts T) (hr.mono (by decide)) ?_
        wp_step
        refine i_tup hs (v := v1) rfl ?_
        wp_step
        refine ⟨d1, h1, ?_⟩
        wp_step
        cases c1 : arePartsD d1 with
        | false =>
          wp_step
          have e : isRuleD (.tuple [d0, d1, d2]) = false := by simp [isRuleD, isRuleL, c1]
          rw [e] at h
          exact h
        | true =>
          wp_step
          have e : isRuleD (.tuple [d0, d1, d2]) = isWorthD d2 := by simp [isRuleD, isRuleL, c0, c1]
          rw [e] at h
          refine e_and ?_
          refine e_call (df_is_whole T) (hr.mono (by decide)) ?_
          wp_step
          refine i_tup hs (v := v2) rfl ?_
          wp_step
          refine ⟨d2, h2, ?_⟩
          wp_step
          rcases th_whole h2 with ⟨n, rfl, rfl⟩ | ⟨f1, f2⟩
          · wp_step
            refine e_chain ?_
            wp_step
            refine i_tup hs (v := .int n) rfl ?_
            wp_step
            refine iteD (fun c3 => ?_) fun c3 => ?_
            · wp_step
              have e : isWorthD (.int n) = decide (n ≤ top60) := by
                show (decide (0 ≤ n) && _) = _
                rw [decide_eq_true c3, Bool.true_and]
              rw [e] at h
              exact h
            · have e : isWorthD (.int n) = false := by
                show (decide (0 ≤ n) && _) = _
                rw [decide_eq_false c3, Bool.false_and]
              rw [e] at h
              exact h
          · rw [f1]
            rw [f2] at h
            exact iteF h
  · rw [e1]
    rw [e2] at h
    wp_step
    exact h

end
theorem df_is_rule (T : Txt K mg cs) : Df P w K mg base "is_rule" 4 ["thing"] (sp1 (R_is_rule K)) := by
  obtain ⟨f, fd, hm, F, hb⟩ := T.f_is_rule.ex
  exact ⟨f, fd, hm, F.kp, hb, ok_is_rule F T⟩
/-! ### rules as data; rules as texts -/
structure Rl where
  head : Str
  parts : List Str
  worth : Int
def isPartS (p : Str) : Bool := isSignS p || isNameS p
def goodR (r : Rl) : Bool := (isNameS r.head && (decide (r.parts.length ≤ 6) && r.parts.all isPartS)) && (decide (0 ≤ r.worth) && decide (r.worth ≤ top60))
def ruleD (r : Rl) : PyData := .tuple [.str r.head, .tuple (r.parts.map .str), .int r.worth]
theorem goodR_D (r : Rl) : isRuleD (ruleD r) = goodR r := by
  show ((isNameS r.head && (decide ((r.parts.map PyData.str).length ≤ 6) && (r.parts.map PyData.str).all isPartD)) && _) = _
  rw [List.length_map, List.all_map]
  rfl
/-- a rule stands at v -/
def RuleAt (H : Hp) (v : V) (r : Rl) : Prop := ∃ a b, v = .ref a ∧ H a = some (.tup [.str r.head, .ref b, .int r.worth]) ∧ H b = some (.tup (r.parts.map V.str))
theorem RuleAt.more {H H' : Hp} {v : V} {r : Rl} (s : Same H H') (h : RuleAt H v r) : RuleAt H' v r := by
  obtain ⟨a, b, e, h1, h2⟩ := h
  exact ⟨a, b, e, s _ _ h1, s _ _ h2⟩
theorem th_strs {K : PySem.W.Frag} {H : Hp} : ∀ {l : List Str}, (∀ z ∈ l, z.length ≤ 1000000) → ThAll K H (l.map V.str) (l.map PyData.str)
  | [], _ => .nil
  | z :: l, h => .cons (.str z (h z (List.mem_cons_self ..))) (th_strs fun y hy => h y (List.mem_cons_of_mem _ hy))
theorem RuleAt.th {K : PySem.W.Frag} {H : Hp} {v : V} {r : Rl} (h : RuleAt H v r) (h1 : r.head.length ≤ 1000000) (h2 : ∀ z ∈ r.parts, z.length ≤ 1000000) : Th K H v (ruleD r) := by
  obtain ⟨a, b, rfl, e1, e2⟩ := h
  exact .tup (SqT.of e1) (.cons (.str _ h1) (.cons (.tup (SqT.of e2) (th_strs h2)) (.cons (.int _) .nil)))
theorem name_len {z : Str} (h : isNameS z = true) : z.length ≤ 8 := by
  unfold isNameS at h
  simp only [Bool.and_eq_true, decide_eq_true_eq] at h
  exact h.1.2
theorem sign_len {z : Str} (h : isSignS z = true) : z.length = 2 := by
  unfold isSignS at h
  rw [len_tl]
  match tl z, h with
  | [_, _], _ => rfl
theorem part_len {z : Str} (h : isPartS z = true) : z.length ≤ 8 := by
  unfold isPartS at h
  rcases Bool.or_eq_true_iff.mp h with h | h
  · have := sign_len h
    omega
  · exact name_len h
structure GoodR (r : Rl) : Prop where
  head : isNameS r.head = true
  few : r.parts.length ≤ 6
  parts : ∀ p ∈ r.parts, isPartS p = true
  lo : 0 ≤ r.worth
  hi : r.worth ≤ top60
theorem goodR_iff {r : Rl} : goodR r = true ↔ GoodR r := by
  unfold goodR
  simp only [Bool.and_eq_true, decide_eq_true_eq, List.all_eq_true]
  exact ⟨fun ⟨⟨a, b, c⟩, d, e⟩ => ⟨a, b, c, d, e⟩, fun h => ⟨⟨h.head, h.few, h.parts⟩, h.lo, h.hi⟩⟩
theorem GoodR.th {K : PySem.W.Frag} {H : Hp} {v : V} {r : Rl} (g : GoodR r) (h : RuleAt H v r) : Th K H v (ruleD r) :=
  h.th (Nat.le_trans (name_len g.head) (by decide)) fun z hz => Nat.le_trans (part_len (g.parts z hz)) (by decide)
theorem name_free {z : Str} (h : isNameS z = true) {s : Nat} (hs : s < 65) : s ∉ tl z := fun hm => by
  unfold isNameS at h
  simp only [Bool.and_eq_true, List.all_eq_true, decide_eq_true_eq] at h
  have := h.2 s hm
  omega
theorem sign_is {z : Str} (h : isSignS z = true) : ∃ c, tl z = [39, c] ∧ okc c = true := by
  unfold isSignS at h
  match e : tl z, h with
  | [a, c], h =>
    simp only [isSignL, Bool.and_eq_true, decide_eq_true_eq] at h
    exact ⟨c, by rw [h.1], h.2⟩
theorem tl_qs : tl (Str.ofString "' ") = [39, 32] := by decide +kernel
theorem tl_q : tl (Str.ofString "'") = [39] := by decide +kernel
theorem RuleAt.dp {K : PySem.W.Frag} {H : Hp} {v : V} {r : Rl} (h : RuleAt H v r) : Dp K H v (ruleD r) := by
  obtain ⟨a, b, rfl, e1, e2⟩ := h
  exact .tup (SqT.of e1) (.cons (.str _) (.cons (.tup (SqT.of e2) (dp_strs r.parts)) (.cons (.int _) .nil)))
theorem name_codes {z : Str} (h : isNameS z = true) : ∀ c ∈ tl z, c < 1114112 := fun c hc => by
  unfold isNameS at h
  simp only [Bool.and_eq_true, List.all_eq_true, decide_eq_true_eq] at h
  have := h.2 c hc
  omega
theorem part_codes {z : Str} (h : isPartS z = true) : ∀ c ∈ tl z, c < 1114112 := by
  rcases Bool.or_eq_true_iff.mp h with h | h
  · obtain ⟨c, e, hc⟩ := sign_is h
    rw [e]
    intro d hd
    simp only [okc, Bool.and_eq_true, decide_eq_true_eq] at hc
    simp only [List.mem_cons, List.not_mem_nil, or_false] at hd
    omega
  · exact name_codes h
theorem GoodR.sh {r : Rl} (g : GoodR r) : Sh 2 (ruleD r) := .tup fun d hd => by
  simp only [List.mem_cons, List.not_mem_nil, or_false] at hd
  rcases hd with rfl | rfl | rfl
  · exact .str (name_codes g.head)
  · refine .tup fun d hd => ?_
    obtain ⟨p, hp, rfl⟩ := List.mem_map.mp hd
    exact .str (part_codes (g.parts p hp))
  · exact .int _

/-! ### grammars as data -/
structure RulesAt (H : Hp) (vs : List V) (rs : List Rl) : Prop where
  len : vs.length = rs.length
  get : ∀ (i : Nat) (v : V), vs[i]? = some v → ∃ r, rs[i]? = some r ∧ RuleAt H v r
structure GoodG (rs : List Rl) : Prop where
  few : rs.length ≤ 60
  good : ∀ r ∈ rs, GoodR r
def isGramD : PyData → Bool
  | .list ds => decide (ds.length ≤ 60) && ds.all isRuleD
  | _ => false
theorem RuleAt.ts {H H' : Hp} {v : V} {r : Rl} (s : TS H H') (h : RuleAt H v r) : RuleAt H' v r := by
  obtain ⟨a, b, e, h1, h2⟩ := h
  exact ⟨a, b, e, s _ _ h1, s _ _ h2⟩
theorem RulesAt.ts {H H' : Hp} {vs : List V} {rs : List Rl} (s : TS H H') (h : RulesAt H vs rs) : RulesAt H' vs rs := ⟨h.len, fun i v e => by
  obtain ⟨r, h1, h2⟩ := h.get i v e
  exact ⟨r, h1, h2.ts s⟩⟩
theorem RulesAt.nil {H : Hp} : RulesAt H [] [] := ⟨rfl, fun i v e => by simp at e⟩
theorem RulesAt.cons {H : Hp} {v : V} {r : Rl} {vs : List V} {rs : List Rl} (h : RuleAt H v r) (t : RulesAt H vs rs) : RulesAt H (v :: vs) (r :: rs) := ⟨by simp [t.len], fun i w e => by
  cases i with
  | zero => simp at e; subst e; exact ⟨r, rfl, h⟩
  | succ i => exact t.get i w (by simpa using e)⟩
theorem RulesAt.tail {H : Hp} {v : V} {r : Rl} {vs : List V} {rs : List Rl} (h : RulesAt H (v :: vs) (r :: rs)) : RuleAt H v r ∧ RulesAt H vs rs := by
  obtain ⟨q, h1, h2⟩ := h.get 0 v rfl
  refine ⟨?_, ⟨by have := h.len; simpa using this, fun i w e => h.get (i + 1) w (by simpa using e)⟩⟩
  have : r = q := by simpa using h1
  rw [this]
  exact h2
theorem RulesAt.app {H : Hp} : ∀ {vs ws : List V} {rs qs : List Rl}, RulesAt H vs rs → RulesAt H ws qs → RulesAt H (vs ++ ws) (rs ++ qs)
  | [], ws, rs, qs, h, t => by
    have : rs = [] := List.eq_nil_of_length_eq_zero h.len.symm
    rw [this]
    exact t
  | v :: vs, ws, [], qs, h, t => by have := h.len; simp at this
  | v :: vs, ws, r :: rs, qs, h, t => .cons h.tail.1 (RulesAt.app h.tail.2 t)
theorem RulesAt.take {H : Hp} {vs : List V} {rs : List Rl} (h : RulesAt H vs rs) (n : Nat) : RulesAt H (vs.take n) (rs.take n) := ⟨by simp [h.len], fun i v e => by
  have hi : i < n := by
    have := (List.getElem?_eq_some_iff.mp e).1
    simp at this
    omega
  rw [List.getElem?_take_of_lt hi] at e
  rw [List.getElem?_take_of_lt hi]
  exact h.get i v e⟩
theorem RulesAt.drop {H : Hp} {vs : List V} {rs : List Rl} (h : RulesAt H vs rs) (n : Nat) : RulesAt H (vs.drop n) (rs.drop n) := ⟨by simp [h.len], fun i v e => by
  rw [List.getElem?_drop] at e
  rw [List.getElem?_drop]
  exact h.get _ v e⟩
theorem RulesAt.rev {H : Hp} : ∀ {vs : List V} {rs : List Rl}, RulesAt H vs rs → RulesAt H vs.reverse rs.reverse
  | [], rs, h => by
    have : rs = [] := List.eq_nil_of_length_eq_zero h.len.symm
    rw [this]
    exact .nil
  | v :: vs, [], h => by have := h.len; simp at this
  | v :: vs, r :: rs, h => by
    rw [List.reverse_cons, List.reverse_cons]
    exact (RulesAt.rev h.tail.2).app (.cons h.tail.1 .nil)
theorem RulesAt.th {K : PySem.W.Frag} {H : Hp} : ∀ {vs : List V} {rs : List Rl}, RulesAt H vs rs → (∀ r ∈ rs, GoodR r) → ThAll K H vs (rs.map ruleD)
  | [], rs, h, _ => by
    have : rs = [] := List.eq_nil_of_length_eq_zero h.len.symm
    rw [this]
    exact .nil
  | v :: vs, [], h, _ => by have := h.len; simp at this
  | v :: vs, r :: rs, h, g => .cons ((g r (List.mem_cons_self ..)).th h.tail.1) (RulesAt.th h.tail.2 fun q hq => g q (List.mem_cons_of_mem _ hq))
theorem RulesAt.dp {K : PySem.W.Frag} {H : Hp} : ∀ {vs : List V} {rs : List Rl}, RulesAt H vs rs → DpAll K H vs (rs.map ruleD)
  | [], rs, h => by
    have : rs = [] := List.eq_nil_of_length_eq_zero h.len.symm
    rw [this]
    exact .nil
  | v :: vs, [], h => by have := h.len; simp at this
  | v :: vs, r :: rs, h => .cons h.tail.1.dp (RulesAt.dp h.tail.2)
theorem RulesAt.at' {H : Hp} {vs : List V} {rs : List Rl} {k : Nat} {r : Rl} (h : RulesAt H vs rs) (hk : rs[k]? = some r) : ∃ ra rb, vs[k]? = some (.ref ra) ∧ atI vs (k : Int) = some (.ref ra) ∧ H ra = some (.tup [.str r.head, .ref rb, .int r.worth]) ∧ H rb = some (.tup (r.parts.map V.str)) := by
  obtain ⟨v, hv⟩ : ∃ v, vs[k]? = some v := ⟨_, List.getElem?_eq_getElem (by have := (List.getElem?_eq_some_iff.mp hk).1; have := h.len; omega)⟩
  obtain ⟨r', q1, q2⟩ := h.get k v hv
  obtain rfl : r' = r := Option.some.inj (q1.symm.trans hk)
  obtain ⟨ra, rb, rfl, e1, e2⟩ := q2
  exact ⟨ra, rb, hv, atI_nat (by omega) (by rw [show ((k : Nat) : Int).toNat = k by omega]; exact hv), e1, e2⟩
def gramD (rs : List Rl) : PyData := .list (rs.map ruleD)
theorem gram_good {rs : List Rl} (g : GoodG rs) : isGramD (gramD rs) = true := by
  show (decide ((rs.map ruleD).length ≤ 60) && (rs.map ruleD).all isRuleD) = true
  rw [decide_eq_true (by rw [List.length_map]; exact g.few), Bool.true_and, List.all_map, List.all_eq_true]
  intro r hr
  show isRuleD (ruleD r) = true
  rw [goodR_D]
  exact goodR_iff.mpr (g.good r hr)
theorem gram_sh {rs : List Rl} (g : ∀ r ∈ rs, GoodR r) : Sh 3 (gramD rs) := .lst fun d hd => by
  obtain ⟨r, hr, rfl⟩ := List.mem_map.mp hd
  exact (g r hr).sh
/-- a grammar at v -/
structure GramAt (K : PySem.W.Frag) (H : Hp) (v : V) (a : Addr) (vs : List V) (rs : List Rl) : Prop where
  ref : v = .ref a
  sq : SqL K H a vs
  at_ : RulesAt H vs rs
  ok : GoodG rs
theorem GramAt.more {K : PySem.W.Frag} {H H' : Hp} {v : V} {a : Addr} {vs : List V} {rs : List Rl} (s : Same H H') (h : GramAt K H v a vs rs) : GramAt K H' v a vs rs := ⟨h.ref, s.seq h.sq, h.at_.ts (Same.ts s), h.ok⟩
theorem GramAt.dp {K : PySem.W.Frag} {H : Hp} {v : V} {a : Addr} {vs : List V} {rs : List Rl} (h : GramAt K H v a vs rs) : Dp K H v (gramD rs) := by
  rw [h.ref]
  exact .lst h.sq h.at_.dp
theorem GramAt.th {K : PySem.W.Frag} {H : Hp} {v : V} {a : Addr} {vs : List V} {rs : List Rl} (h : GramAt K H v a vs rs) : Th K H v (gramD rs) := by
  rw [h.ref]
  exact .lst h.sq (h.at_.th h.ok.good)
theorem gram_no {d : PyData} (h : isK d "list" = false) : isGramD d = false := by
  cases d <;> first | rfl | (exact Bool.noConfusion h)
theorem no_lst {K : PySem.W.Frag} {H : Hp} {v : V} {d : PyData} (h : Th K H v d) : (∃ a vs ds, v = .ref a ∧ d = .list ds ∧ SqL K H a vs ∧ ThAll K H vs ds) ∨ isK d "list" = false := by
  cases h <;> first | exact .inl ⟨_, _, _, rfl, rfl, ‹_›, ‹_›⟩ | exact .inr rfl
def R_checked (K : PySem.W.Frag) (cs : Cs) : V → Hp → VK → XK → Prop := fun x H Q E =>
  (∃ a vs rs, GramAt K H x a vs rs ∧ ∀ l H', Same H H' → H l = none → H' l = some (.lst vs) → Q (.ref l) H') ∨ (∃ d, Th K H x d ∧ isGramD d = false ∧ ∀ H', Same H H' → E (.ref cs.NoGrammar) none H')
section
set_option hygiene false in
local macro_rules | `(tactic| top_name) => `(tactic| first | refine e_call (df_is_rule T) (hr.mono (by decide)) ?_)
set_option hygiene false in
local macro_rules | `(tactic| top_raise) => `(tactic| first | refine s_raise T.x_NoGrammar ?_)
theorem ok_checked {f : Addr} {fd : FuncData} (F : Fun K "checked" "checked" s_checked f fd) (T : Txt K mg cs) : FnOk P w K mg base (L2.CX P w) 5 f fd ["thing"] (sp1 (R_checked K cs)) := by
  refine F.okX sc_checked (fun vs H Q E h => sp1_len h) (fun cdv A outer s H vs Q E hr h => ⟨_, PBw (X := X_checked P w K mg base f cdv A outer s H E), ?_⟩)
  obtain ⟨a0, rfl, h⟩ := h
  obtain ⟨t_MOST_RULES, h_MOST_RULES⟩ := T.k_MOST_RULES
  have ib_MOST_RULES : Gn mg "MOST_RULES" (some _) := ⟨h_MOST_RULES⟩
  have ib_NoGrammar : Gn mg "NoGrammar" (some _) := ⟨T.x_NoGrammar.mg⟩
  have ib_isinstance := T.b_isinstance
  have ib_list := T.b_list
  have ib_len := T.b_len
  have hr' : Room 4 (X_checked P w K mg base f cdv A outer s H E).A := hr
  replace hr := hr'
  clear hr'
  have key : (∃ a vs ds, a0 = .ref a ∧ SqL K H a vs ∧ ThAll K H vs ds ∧ (isGramD (.list ds) = true → ∀ l H', Same H H' → H l = none → H' l = some (.lst vs) → Q (.ref l) H') ∧ (isGramD (.list ds) = false → ∀ H', Same H H' → E (.ref cs.NoGrammar) none H')) ∨
      (∃ d, Th K H a0 d ∧ isK d "list" = false ∧ ∀ H', Same H H' → E (.ref cs.NoGrammar) none H') := by
    rcases h with ⟨a, vs, rs, g, q⟩ | ⟨d, hd, hb, q⟩
    · refine .inl ⟨a, vs, rs.map ruleD, g.ref, g.sq, g.at_.th g.ok.good, fun _ => q, fun z => ?_⟩
      exact absurd ((gram_good g.ok).symm.trans z) (by simp)
    · rcases no_lst hd with ⟨a, vs, ds, e1, e2, h1, h2⟩ | e
      · exact .inl ⟨a, vs, ds, e1, h1, h2, fun z => absurd (z.symm.trans (e2 ▸ hb)) (by simp), fun _ => q⟩
      · exact .inr ⟨d, hd, e, q⟩
  clear h
  wp_step
  rcases key with ⟨a, vs, ds, rfl, hs, ha, h1, h2⟩ | ⟨d, hd, hb, q⟩
  · refine k_isList (Th.lst hs ha) ⟨_, rfl, ?_⟩
    wp_step
    refine k_lenL hs ?_
    wp_step
    have hlen := ha.len
    refine iteD (fun c => ?_) fun c => ?_
    · wp_step
      refine s_raise T.x_NoGrammar ?_
      refine h2 ?_ _ (Same.refl _)
      show (decide (ds.length ≤ 60) && _) = false
      rw [decide_eq_false (by omega), Bool.false_and]
    · wp_step
      have hgood : isGramD (.list ds) = ds.all isRuleD := by
        show (decide (ds.length ≤ 60) && _) = _
        rw [decide_eq_true (by omega), Bool.true_and]
      rw [hgood] at h1 h2
      intro l H1 s1 n1 k1 e1
      wp_step
      have sam : ∀ {H' : Hp}, (∀ b, b ≠ l → H' b = H1 b) → Same H H' := fun k b o e => by
        rw [k b (ne_of_none e n1)]
        exact s1 _ _ e
      refine s_for (j_list ?_)
      wp_step
      refine ⟨⟨_, s1.seq hs⟩, _, _, _, walk_list (xs := vs), fun i σ' H' => (∃ v, σ' = [some (.ref a), some (.ref l), v]) ∧ H' l = some (.lst (vs.take i)) ∧ (∀ b, b ≠ l → H' b = H1 b) ∧ (ds.take i).all isRuleD = true, ⟨⟨_, rfl⟩, k1, fun _ _ => rfl, rfl⟩, fun _ _ _ _ ⟨_, _, e, _⟩ => (sam e).seq hs, ?_, ?_⟩
      · rintro i x σ' H' H2 hi ⟨⟨v, rfl⟩, k2, e2, hall⟩ ⟨rfl, hx⟩
        obtain ⟨d, hd1, hd2⟩ := ha.get hx
        wp_step
        refine e_call (df_is_rule T) (hr.mono (by decide)) ?_
        wp_step
        refine ⟨d, hd2.more (sam e2), ?_⟩
        wp_step
        cases c1 : isRuleD d with
        | true =>
          wp_step
          refine e_append ?_
          wp_step
          refine ⟨ty_l k2, ?_⟩
          wp_step
          refine m_append k2 (by rw [List.length_take]; omega) fun H3 k3 e3 => ?_
          wp_step
          refine ⟨⟨_, rfl⟩, ?_, fun b hb => (e3 b hb).trans (e2 b hb), by rw [all_snoc hd1, hall, c1]; rfl⟩
          rw [k3, List.take_add_one, hx]
          rfl
        | false =>
          wp_step
          refine s_raise T.x_NoGrammar ?_
          exact h2 (all_cut hd1 c1) _ (sam e2)
      · rintro σ' H' ⟨⟨v, rfl⟩, k2, e2, hall⟩
        wp_step
        rw [List.take_length] at k2
        rw [hlen, List.take_length] at hall
        exact h1 hall l _ (sam e2) n1 k2
  · refine k_isList hd ⟨_, rfl, ?_⟩
    rw [hb]
    wp_step
    refine s_raise T.x_NoGrammar ?_
    exact q _ (Same.refl _)

end
theorem df_checked (T : Txt K mg cs) : Df P w K mg base "checked" 5 ["thing"] (sp1 (R_checked K cs)) := by
  obtain ⟨f, fd, hm, F, hb⟩ := T.f_checked.ex
  exact ⟨f, fd, hm, F.kp, hb, ok_checked F T⟩
def startV : List Rl → V
  | [] => .non
  | r :: _ => .str r.head
theorem gram_nil : ∀ rs : List Rl, PyData.eqv (gramD rs) (.list []) = decide (rs = [])
  | [] => rfl
  | _ :: _ => rfl
/-- what a def of a grammar promises: the good way, or the refusal -/
def RG (K : PySem.W.Frag) (cs : Cs) (x : V) (H : Hp) (E : XK) (good : Addr → List V → List Rl → Prop) : Prop :=
  (∃ a vs rs, GramAt K H x a vs rs ∧ good a vs rs) ∨ (∃ d, Th K H x d ∧ isGramD d = false ∧ ∀ H', Same H H' → E (.ref cs.NoGrammar) none H')
def addHead (hs : List Str) (h : Str) : List Str := if h ∈ hs then hs else hs ++ [h]
def headsTo (rs : List Rl) (i : Nat) : List Str := (rs.take i).foldl (fun hs r => addHead hs r.head) []
def heads (rs : List Rl) : List Str := headsTo rs rs.length
theorem heads_step {rs : List Rl} {i : Nat} {r : Rl} (h : rs[i]? = some r) : headsTo rs (i + 1) = addHead (headsTo rs i) r.head := by
  unfold headsTo
  rw [List.take_add_one, h, Option.toList_some, List.foldl_append]
  rfl
theorem heads_le (rs : List Rl) : ∀ i, (headsTo rs i).length ≤ i
  | 0 => by simp [headsTo]
  | i + 1 => by
    cases h : rs[i]? with
    | none =>
      have e : headsTo rs (i + 1) = headsTo rs i := by
        unfold headsTo
        rw [List.take_add_one, h, Option.toList_none, List.append_nil]
      rw [e]
      exact Nat.le_succ_of_le (heads_le rs i)
    | some r =>
      rw [heads_step h]
      unfold addHead
      have := heads_le rs i
      split
      · omega
      · simp; omega
def flags (hs : List Str) : List (Key × V) := hs.map fun h => (.inr h, .bl true)
theorem flags_put (hs : List Str) (h : Str) : putK (flags hs) (.inr h) (.bl true) = flags (addHead hs h) := by
  have e : ((flags hs).any fun kv => decide (kv.1 = .inr h)) = decide (h ∈ hs) := by
    unfold flags
    rw [List.any_map, Bool.eq_iff_iff, List.any_eq_true, decide_eq_true_eq]
    constructor
    · rintro ⟨x, hx, q⟩
      have q2 : (Sum.inr x : Key) = .inr h := of_decide_eq_true q
      cases q2
      exact hx
    · intro hm
      exact ⟨h, hm, decide_eq_true rfl⟩
  unfold putK addHead
  rw [e]
  by_cases hm : h ∈ hs
  · rw [decide_eq_true hm, if_pos rfl, if_pos hm]
    unfold flags
    rw [List.map_map]
    apply List.map_congr_left
    intro x hx
    show (if (Sum.inr x : Key) = .inr h then ((Sum.inr x : Key), V.bl true) else ((Sum.inr x : Key), V.bl true)) = _
    rw [ite_self]
  · rw [decide_eq_false hm, if_neg Bool.false_ne_true, if_neg hm]
    unfold flags
    rw [List.map_append]
    rfl
theorem flags_keys (hs : List Str) : (flags hs).map (fun kv => kV kv.1) = hs.map V.str := by
  unfold flags
  rw [List.map_map]
  rfl
theorem flags_len (hs : List Str) : (flags hs).length = hs.length := List.length_map ..
/-- the numbers of a head's rules, below i -/
def numsTo (rs : List Rl) (h : Str) (i : Nat) : List Nat := (List.range i).filter fun k => decide (rs[k]?.map Rl.head = some h)
def nums (rs : List Rl) (h : Str) : List Nat := numsTo rs h rs.length
def numV (l : List Nat) : List V := l.map fun k => V.int (k : Nat)
theorem nums_step (rs : List Rl) (h : Str) (i : Nat) : numsTo rs h (i + 1) = numsTo rs h i ++ (if rs[i]?.map Rl.head = some h then [i] else []) := by
  unfold numsTo
  rw [List.range_succ, List.filter_append]
  congr 1
  by_cases q : rs[i]?.map Rl.head = some h
  · rw [if_pos q, List.filter_cons_of_pos (by rw [q]; simp), List.filter_nil]
  · rw [if_neg q, List.filter_cons_of_neg (by simpa using q), List.filter_nil]
theorem nums_le (rs : List Rl) (h : Str) (i : Nat) : (numsTo rs h i).length ≤ i := by
  have := List.length_filter_le (fun k => decide (rs[k]?.map Rl.head = some h)) (List.range i)
  rwa [List.length_range] at this
/-! ### least sizes: the plain law -/
abbrev Szs : Type := List (Str × Nat)
def szK (S : Szs) : List (Key × V) := S.map fun p => (.inr p.1, .int (p.2 : Nat))
def look : Szs → Str → Option Nat
  | [], _ => none
  | p :: S, h => if p.1 = h then some p.2 else look S h
def putS : Szs → Str → Nat → Szs
  | [], h, n => [(h, n)]
  | p :: S, h, n => if p.1 = h then (p.1, n) :: S.map (fun q => if q.1 = h then (q.1, n) else q) else p :: putS S h n
theorem valV_sz : ∀ (S : Szs) (h : Str), valV (szK S) (.inr h) = (look S h).map fun n => V.int (n : Nat)
  | [], _ => rfl
  | p :: S, h => by
    show valV ((Sum.inr p.1, V.int (p.2 : Nat)) :: szK S) (.inr h) = _
    unfold look
    by_cases e : p.1 = h
    · rw [if_pos e, valV_pos (by show (Sum.inr p.1 : Key) = .inr h; rw [e])]
      rfl
    · rw [if_neg e, valV_neg (fun q => e (Sum.inr.inj q)), valV_sz S h]
theorem any_sz (S : Szs) (h : Str) : ((szK S).any fun kv => decide (kv.1 = .inr h)) = (look S h).isSome := by
  rw [valV_any, valV_sz]
  cases look S h <;> rfl
theorem map_sz (S : Szs) (h : Str) (n : Nat) : (szK S).map (fun kv => if kv.1 = .inr h then (kv.1, V.int (n : Nat)) else kv) = szK (S.map fun q => if q.1 = h then (q.1, n) else q) := by
  unfold szK
  rw [List.map_map, List.map_map]
  apply List.map_congr_left
  intro p _
  show (if (Sum.inr p.1 : Key) = .inr h then ((Sum.inr p.1 : Key), V.int (n : Nat)) else ((Sum.inr p.1 : Key), V.int (p.2 : Nat))) = ((Sum.inr (if p.1 = h then (p.1, n) else p).1 : Key), V.int ((if p.1 = h then (p.1, n) else p).2 : Nat))
  by_cases e : p.1 = h
  · rw [if_pos e, if_pos (by rw [e])]
  · rw [if_neg e, if_neg (fun q => e (Sum.inr.inj q))]
theorem putS_some : ∀ {S : Szs} {h : Str} {n : Nat}, (look S h).isSome = true → putS S h n = S.map fun q => if q.1 = h then (q.1, n) else q
  | [], _, _, q => by cases q
  | p :: S, h, n, q => by
    unfold look at q
    unfold putS
    by_cases e : p.1 = h
    · rw [if_pos e, List.map_cons, if_pos e]
    · rw [if_neg e] at q
      rw [if_neg e, List.map_cons, if_neg e, putS_some q]
theorem putS_none : ∀ {S : Szs} {h : Str} {n : Nat}, look S h = none → putS S h n = S ++ [(h, n)]
  | [], _, _, _ => rfl
  | p :: S, h, n, q => by
    unfold look at q
    unfold putS
    by_cases e : p.1 = h
    · rw [if_pos e] at q; cases q
    · rw [if_neg e] at q
      rw [if_neg e, putS_none q]
      rfl
theorem putK_sz (S : Szs) (h : Str) (n : Nat) : putK (szK S) (.inr h) (.int (n : Nat)) = szK (putS S h n) := by
  unfold putK
  rw [any_sz]
  cases e : look S h with
  | none =>
    rw [putS_none e, if_neg (by simp)]
    unfold szK
    rw [List.map_append]
    rfl
  | some m => rw [putS_some (by rw [e]; rfl), if_pos (by simp), map_sz]
theorem look_map : ∀ (S : Szs) (h : Str) (n : Nat) (k : Str), look (S.map fun q => if q.1 = h then (q.1, n) else q) k = if k = h then (look S k).map (fun _ => n) else look S k
  | [], h, n, k => by simp [look]
  | p :: S, h, n, k => by
    rw [List.map_cons]
    by_cases e : p.1 = h
    · rw [if_pos e]
      unfold look
      by_cases e2 : p.1 = k
      · rw [if_pos e2, if_pos e2, if_pos (by rw [← e2, e])]; rfl
      · rw [if_neg e2, if_neg e2, look_map S h n k]
    · rw [if_neg e]
      unfold look
      by_cases e2 : p.1 = k
      · rw [if_pos e2, if_pos e2, if_neg (by rw [← e2]; exact e)]
      · rw [if_neg e2, if_neg e2, look_map S h n k]
theorem look_app : ∀ (S : Szs) (h : Str) (n : Nat) (k : Str), look S h = none → look (S ++ [(h, n)]) k = if k = h then some n else look S k
  | [], h, n, k, _ => by
    show (if h = k then some n else none) = _
    by_cases e : h = k
    · rw [if_pos e, if_pos e.symm]
    · rw [if_neg e, if_neg fun q => e q.symm]; rfl
  | p :: S, h, n, k, q => by
    unfold look at q
    by_cases e : p.1 = h
    · rw [if_pos e] at q; cases q
    · rw [if_neg e] at q
      rw [List.cons_append]
      unfold look
      by_cases e2 : p.1 = k
      · rw [if_pos e2, if_pos e2, if_neg (by rw [← e2]; exact e)]
      · rw [if_neg e2, if_neg e2, look_app S h n k q]
theorem look_put (S : Szs) (h : Str) (n : Nat) (k : Str) : look (putS S h n) k = if k = h then some n else look S k := by
  cases e : look S h with
  | none => rw [putS_none e, look_app S h n k e]
  | some m =>
    rw [putS_some (by rw [e]; rfl), look_map]
    by_cases e2 : k = h
    · rw [if_pos e2, if_pos e2, e2, e]; rfl
    · rw [if_neg e2, if_neg e2]
theorem look_mem : ∀ {S : Szs} {h : Str} {n : Nat}, look S h = some n → (h, n) ∈ S
  | [], _, _, q => by cases q
  | p :: S, h, n, q => by
    unfold look at q
    by_cases e : p.1 = h
    · rw [if_pos e] at q
      cases q
      rw [← e]
      exact List.mem_cons_self ..
    · rw [if_neg e] at q
      exact List.mem_cons_of_mem _ (look_mem q)
/-- the size beneath parts -/
def sizeP (S : Szs) : List Str → Option Nat
  | [] => some 0
  | p :: r => if isSg p = true then sizeP S r else (look S p).bind fun n => (sizeP S r).map (n + ·)
theorem sizeP_app (S : Szs) : ∀ (a b : List Str), sizeP S (a ++ b) = (sizeP S a).bind fun n => (sizeP S b).map (n + ·)
  | [], b => by
    show sizeP S b = _
    cases sizeP S b <;> simp [sizeP]
  | p :: a, b => by
    show (if isSg p = true then sizeP S (a ++ b) else (look S p).bind fun n => (sizeP S (a ++ b)).map (n + ·)) = (if isSg p = true then sizeP S a else (look S p).bind fun n => (sizeP S a).map (n + ·)).bind _
    rw [sizeP_app S a b]
    by_cases e : isSg p = true
    · rw [if_pos e, if_pos e]
    · rw [if_neg e, if_neg e]
      cases look S p <;> simp
      cases sizeP S a <;> simp
      cases sizeP S b <;> simp
      omega
theorem sizeP_bad {S : Szs} {ps : List Str} {p : Str} (hm : p ∈ ps) (hs : isSg p = false) (hl : look S p = none) : sizeP S ps = none := by
  obtain ⟨a, b, rfl⟩ := List.append_of_mem hm
  rw [sizeP_app]
  cases sizeP S a with
  | none => rfl
  | some n =>
    show (sizeP S (p :: b)).map _ = none
    have : sizeP S (p :: b) = none := by
      show (if isSg p = true then _ else (look S p).bind _) = none
      rw [hs, hl]
      rfl
    rw [this]
    rfl
/-- S is no worse than S' -/
def Le (S' S : Szs) : Prop := ∀ h n, look S h = some n → ∃ m, look S' h = some m ∧ m ≤ n
theorem Le.refl (S : Szs) : Le S S := fun _ n e => ⟨n, e, Nat.le_refl _⟩
theorem sizeP_le {S S' : Szs} (l : Le S' S) : ∀ {ps : List Str} {n : Nat}, sizeP S ps = some n → ∃ m, sizeP S' ps = some m ∧ m ≤ n
  | [], n, e => ⟨0, rfl, Nat.zero_le _⟩
  | p :: r, n, e => by
    have e : (if isSg p = true then sizeP S r else (look S p).bind fun n => (sizeP S r).map (n + ·)) = some n := e
    show ∃ m, (if isSg p = true then sizeP S' r else (look S' p).bind fun n => (sizeP S' r).map (n + ·)) = some m ∧ m ≤ n
    by_cases c : isSg p = true
    · rw [if_pos c] at e ⊢
      exact sizeP_le l e
    · rw [if_neg c] at e ⊢
      cases h1 : look S p with
      | none => rw [h1] at e; cases e
      | some a =>
        cases h2 : sizeP S r with
        | none => rw [h1, h2] at e; cases e
        | some b =>
          rw [h1, h2] at e
          have e : a + b = n := Option.some.inj e
          obtain ⟨a', q1, q2⟩ := l p a h1
          obtain ⟨b', q3, q4⟩ := sizeP_le l h2
          exact ⟨a' + b', by rw [q1, q3]; rfl, by omega⟩
/-- whether a rule betters a size -/
def betters (S : Szs) (r : Rl) : Option Nat :=
  match sizeP S r.parts with
  | none => none
  | some m => match look S r.head with
    | none => some (m + 1)
    | some n => if m + 1 < n then some (m + 1) else none
def stepS (S : Szs) (r : Rl) : Szs := match betters S r with
  | none => S
  | some n => putS S r.head n
def passS (rs : List Rl) (S : Szs) : Szs := rs.foldl stepS S
def iterS (rs : List Rl) : Nat → Szs
  | 0 => []
  | k + 1 => passS rs (iterS rs k)
theorem stepS_le (S : Szs) (r : Rl) : Le (stepS S r) S := by
  unfold stepS betters
  cases sizeP S r.parts with
  | none => exact Le.refl _
  | some m =>
    cases hl : look S r.head with
    | none =>
      intro h n e
      refine ⟨n, ?_, Nat.le_refl _⟩
      rw [look_put, if_neg (fun q => by rw [q, hl] at e; cases e)]
      exact e
    | some k =>
      show Le (match if m + 1 < k then some (m + 1) else none with | none => S | some n => putS S r.head n) S
      by_cases c : m + 1 < k
      · rw [if_pos c]
        intro h n e
        show ∃ x, look (putS S r.head (m + 1)) h = some x ∧ x ≤ n
        rw [look_put]
        by_cases q : h = r.head
        · rw [if_pos q]
          rw [q, hl] at e
          cases e
          exact ⟨_, rfl, by omega⟩
        · rw [if_neg q]
          exact ⟨n, e, Nat.le_refl _⟩
      · rw [if_neg c]
        exact Le.refl _
/-- what holds all along -/
structure Grow (rs : List Rl) (S : Szs) : Prop where
  nd : (S.map (·.1)).Nodup
  why : ∀ h n, look S h = some n → ∃ r ∈ rs, r.head = h ∧ ∃ m, sizeP S r.parts = some m ∧ m + 1 ≤ n
  cap : ∀ h n, look S h = some n → n ≤ 7 ^ S.length
theorem Grow.nil (rs : List Rl) : Grow rs [] := ⟨List.nodup_nil, (by intro h n e; cases e), (by intro h n e; cases e)⟩
theorem keys_put (S : Szs) (h : Str) (n : Nat) : (putS S h n).map (·.1) = if (look S h).isSome = true then S.map (·.1) else S.map (·.1) ++ [h] := by
  cases e : look S h with
  | none => rw [putS_none e, List.map_append, if_neg (by simp)]; rfl
  | some m =>
    rw [putS_some (by rw [e]; rfl), if_pos (by simp), List.map_map]
    apply List.map_congr_left
    intro p _
    show (if p.1 = h then (p.1, n) else p).1 = p.1
    split <;> rfl
theorem look_none {S : Szs} {h : Str} (e : look S h = none) : h ∉ S.map (·.1) := by
  induction S with
  | nil => simp
  | cons p S ih =>
    unfold look at e
    by_cases c : p.1 = h
    · rw [if_pos c] at e; cases e
    · rw [if_neg c] at e
      rw [List.map_cons, List.mem_cons]
      rintro (q | q)
      · exact c q.symm
      · exact ih e q
theorem mem_look {S : Szs} {h : Str} (e : h ∈ S.map (·.1)) : ∃ n, look S h = some n := by
  cases q : look S h with
  | none => exact absurd e (look_none q)
  | some n => exact ⟨n, rfl⟩
theorem sizeP_cap {S : Szs} {B : Nat} (c : ∀ h n, look S h = some n → n ≤ B) : ∀ {ps : List Str} {m : Nat}, sizeP S ps = some m → m ≤ ps.length * B
  | [], m, e => by cases e; exact Nat.zero_le _
  | p :: r, m, e => by
    have e : (if isSg p = true then sizeP S r else (look S p).bind fun n => (sizeP S r).map (n + ·)) = some m := e
    rw [List.length_cons, Nat.succ_mul]
    by_cases q : isSg p = true
    · rw [if_pos q] at e
      have := sizeP_cap c e
      omega
    · rw [if_neg q] at e
      cases h1 : look S p with
      | none => rw [h1] at e; cases e
      | some a =>
        cases h2 : sizeP S r with
        | none => rw [h1, h2] at e; cases e
        | some b =>
          rw [h1, h2] at e
          have e : a + b = m := Option.some.inj e
          have := sizeP_cap c h2
          have := c p a h1
          omega
theorem Grow.step {rs : List Rl} {S : Szs} {r : Rl} (g : Grow rs S) (hr : r ∈ rs) (h6 : r.parts.length ≤ 6) : Grow rs (stepS S r) := by
  have le := stepS_le S r
  cases hb : betters S r with
  | none =>
    have e : stepS S r = S := by unfold stepS; rw [hb]
    rw [e]
    exact g
  | some k =>
    have e : stepS S r = putS S r.head k := by unfold stepS; rw [hb]
    rw [e] at le ⊢
    obtain ⟨m, hm, hk, hlow⟩ : ∃ m, sizeP S r.parts = some m ∧ k = m + 1 ∧ ∀ n, look S r.head = some n → m + 1 < n := by
      unfold betters at hb
      cases hm : sizeP S r.parts with
      | none => rw [hm] at hb; cases hb
      | some m =>
        rw [hm] at hb
        cases hl : look S r.head with
        | none =>
          rw [hl] at hb
          cases hb
          exact ⟨m, rfl, rfl, fun n q => by cases q⟩
        | some n =>
          rw [hl] at hb
          have hb : (if m + 1 < n then some (m + 1) else none) = some k := hb
          by_cases c : m + 1 < n
          · rw [if_pos c] at hb
            cases hb
            exact ⟨m, rfl, rfl, fun n' q => by cases q; exact c⟩
          · rw [if_neg c] at hb; cases hb
    have hk7 : k ≤ 7 ^ (S.length + 1) ∧ (∀ n, look S r.head = some n → k ≤ 7 ^ S.length) := by
      refine ⟨?_, fun n q => ?_⟩
      · have h1 := sizeP_cap g.cap hm
        have h2 : r.parts.length * 7 ^ S.length ≤ 6 * 7 ^ S.length := Nat.mul_le_mul_right _ h6
        have h3 : 0 < 7 ^ S.length := Nat.pow_pos (by decide)
        rw [Nat.pow_succ]
        omega
      · have := g.cap _ _ q
        have := hlow n q
        omega
    have hlen : S.length ≤ (putS S r.head k).length ∧ (look S r.head = none → (putS S r.head k).length = S.length + 1) ∧ ((look S r.head).isSome = true → (putS S r.head k).length = S.length) := by
      have e := keys_put S r.head k
      have l1 : (putS S r.head k).length = ((putS S r.head k).map (·.1)).length := (List.length_map ..).symm
      rw [l1, e]
      cases look S r.head with
      | none => simp
      | some n => simp
    refine ⟨?_, fun h n q => ?_, fun h n q => ?_⟩
    · rw [keys_put]
      cases hl : look S r.head with
      | some n => rw [if_pos (by simp)]; exact g.nd
      | none =>
        rw [if_neg (by simp)]
        exact List.nodup_append.mpr ⟨g.nd, by simp, fun a ha b hb => by
          rw [List.mem_singleton.mp hb]
          exact fun z => look_none hl (by rw [← z]; exact ha)⟩
    · rw [look_put] at q
      by_cases c : h = r.head
      · rw [if_pos c] at q
        cases q
        obtain ⟨m', q1, q2⟩ := sizeP_le le hm
        exact ⟨r, hr, c.symm, m', q1, by omega⟩
      · rw [if_neg c] at q
        obtain ⟨r', h1, h2, m', h3, h4⟩ := g.why h n q
        obtain ⟨m'', q1, q2⟩ := sizeP_le le h3
        exact ⟨r', h1, h2, m'', q1, by omega⟩
    · rw [look_put] at q
      by_cases c : h = r.head
      · rw [if_pos c] at q
        cases q
        cases hl : look S r.head with
        | none => rw [hlen.2.1 hl]; exact hk7.1
        | some n' => rw [hlen.2.2 (by rw [hl]; rfl)]; exact hk7.2 n' hl
      · rw [if_neg c] at q
        exact Nat.le_trans (g.cap h n q) (Nat.pow_le_pow_right (by decide) hlen.1)
theorem nodup_len {α : Type} [DecidableEq α] : ∀ {l m : List α}, l.Nodup → (∀ x ∈ l, x ∈ m) → l.length ≤ m.length
  | [], _, _, _ => Nat.zero_le _
  | a :: l, m, nd, h => by
    have ha := h a (List.mem_cons_self ..)
    have nd' := List.nodup_cons.mp nd
    have := nodup_len (l := l) (m := m.erase a) nd'.2 fun x hx => (List.mem_erase_of_ne (fun z => nd'.1 (by rw [← z]; exact hx))).mpr (h x (List.mem_cons_of_mem _ hx))
    rw [List.length_erase_of_mem ha] at this
    have : 0 < m.length := List.length_pos_of_mem ha
    rw [List.length_cons]
    omega
theorem Grow.few {rs : List Rl} {S : Szs} (g : Grow rs S) : S.length ≤ rs.length := by
  have := nodup_len (m := rs.map Rl.head) g.nd fun x hx => by
    obtain ⟨n, hn⟩ := mem_look hx
    obtain ⟨r, h1, h2, _⟩ := g.why x n hn
    exact List.mem_map.mpr ⟨r, h1, h2⟩
  simpa using this
/-- what is left to better -/
def left (S : Szs) : Nat := (60 - S.length) * (7 ^ 60 + 1) + (S.map (·.2)).sum
theorem sum_put : ∀ {S : Szs} {h : Str} {n k : Nat}, (S.map (·.1)).Nodup → look S h = some n → k < n → ((putS S h k).map (·.2)).sum < (S.map (·.2)).sum
  | [], _, _, _, _, e, _ => by cases e
  | p :: S, h, n, k, nd, e, lt => by
    have nd' := List.nodup_cons.mp nd
    unfold look at e
    unfold putS
    by_cases c : p.1 = h
    · rw [if_pos c] at e ⊢
      cases e
      have same : (S.map fun q => if q.1 = h then (q.1, k) else q) = S := by
        have e2 : ∀ q ∈ S, (if q.1 = h then (q.1, k) else q) = id q := fun q hq => if_neg fun z => nd'.1 (by show p.1 ∈ _; rw [c, ← z]; exact List.mem_map.mpr ⟨q, hq, rfl⟩)
        rw [List.map_congr_left e2, List.map_id]
      rw [same]
      simp only [List.map_cons, List.sum_cons]
      omega
    · rw [if_neg c] at e ⊢
      have := sum_put nd'.2 e lt
      simp only [List.map_cons, List.sum_cons]
      omega
theorem left_step {rs : List Rl} {S : Szs} {r : Rl} {k : Nat} (g : Grow rs S) (hr : r ∈ rs) (h6 : r.parts.length ≤ 6) (h60 : rs.length ≤ 60) (hb : betters S r = some k) : left (stepS S r) < left S := by
  have g2 := g.step hr h6
  have e : stepS S r = putS S r.head k := by unfold stepS; rw [hb]
  have f2 := g2.few
  rw [e] at f2 g2 ⊢
  cases hl : look S r.head with
  | none =>
    have hp := putS_none (n := k) hl
    rw [hp] at f2 g2 ⊢
    have hk : k ≤ 7 ^ 60 := by
      have := g2.cap r.head k (by rw [← hp, look_put, if_pos rfl])
      exact Nat.le_trans this (Nat.pow_le_pow_right (by decide) (by omega))
    unfold left
    rw [List.map_append, List.sum_append, List.length_append]
    rw [List.length_append] at f2
    simp only [List.length_cons, List.length_nil, List.map_cons, List.map_nil, List.sum_cons, List.sum_nil] at f2 ⊢
    have : 60 - S.length = (60 - (S.length + 1)) + 1 := by omega
    rw [this, Nat.succ_mul]
    omega
  | some n =>
    have lt : k < n := by
      unfold betters at hb
      cases hm : sizeP S r.parts with
      | none => rw [hm] at hb; cases hb
      | some m =>
        rw [hm, hl] at hb
        have hb : (if m + 1 < n then some (m + 1) else none) = some k := hb
        by_cases c : m + 1 < n
        · rw [if_pos c] at hb; cases hb; exact c
        · rw [if_neg c] at hb; cases hb
    have s := sum_put g.nd hl lt
    have l1 : (putS S r.head k).length = S.length := by
      have e := keys_put S r.head k
      rw [hl, if_pos (by rfl)] at e
      have := congrArg List.length e
      simpa using this
    unfold left
    rw [l1]
    omega
/-- where no rule betters any more -/
structure Done (rs : List Rl) (S : Szs) : Prop where
  g : Grow rs S
  it : ∃ k, S = iterS rs k
  no : ∀ r ∈ rs, betters S r = none
theorem Done.low {rs : List Rl} {S : Szs} (d : Done rs S) {r : Rl} {m : Nat} (hr : r ∈ rs) (hm : sizeP S r.parts = some m) : ∃ n, look S r.head = some n ∧ n ≤ m + 1 := by
  have := d.no r hr
  unfold betters at this
  rw [hm] at this
  cases hl : look S r.head with
  | none => rw [hl] at this; cases this
  | some n =>
    rw [hl] at this
    have this : (if m + 1 < n then some (m + 1) else none) = none := this
    by_cases c : m + 1 < n
    · rw [if_pos c] at this; cases this
    · exact ⟨n, rfl, by omega⟩
theorem Done.pass {rs : List Rl} {S : Szs} (d : Done rs S) : passS rs S = S := by
  have : ∀ l : List Rl, (∀ r ∈ l, r ∈ rs) → l.foldl stepS S = S := by
    intro l
    induction l with
    | nil => intro _; rfl
    | cons r l ih =>
      intro h
      have e : stepS S r = S := by unfold stepS; rw [d.no r (h r (List.mem_cons_self ..))]
      rw [List.foldl_cons, e]
      exact ih fun x hx => h x (List.mem_cons_of_mem _ hx)
  exact this rs fun _ h => h
theorem Done.one {rs : List Rl} {S S' : Szs} (d : Done rs S) (d' : Done rs S') : S = S' := by
  obtain ⟨k, hk⟩ := d.it
  obtain ⟨k', hk'⟩ := d'.it
  have stay : ∀ {k : Nat} {S : Szs}, S = iterS rs k → passS rs S = S → ∀ j, iterS rs (k + j) = S := by
    intro k S e p j
    induction j with
    | zero => exact e.symm
    | succ j ih =>
      show passS rs (iterS rs (k + j)) = S
      rw [ih, p]
  have a := stay hk d.pass k'
  have b := stay hk' d'.pass k
  rw [Nat.add_comm] at b
  exact a.symm.trans b
/-- a size is the least one over the rules -/
theorem Done.why {rs : List Rl} {S : Szs} (d : Done rs S) {h : Str} {n : Nat} (e : look S h = some n) : ∃ r ∈ rs, r.head = h ∧ sizeP S r.parts = some (n - 1) ∧ 1 ≤ n := by
  obtain ⟨r, h1, h2, m, h3, h4⟩ := d.g.why h n e
  obtain ⟨n', q1, q2⟩ := d.low h1 h3
  rw [h2, e] at q1
  cases q1
  exact ⟨r, h1, h2, by rw [h3]; congr 1; omega, by omega⟩
def natV : Option Nat → V
  | none => .non
  | some n => .int (n : Nat)
theorem dget_sz {H : Hp} {d : Addr} {S : Szs} {h : Str} (e : H d = some (.dK (szK S))) : DGet H d (.str h) ((look S h).map fun n => V.int (n : Nat)) := by
  have := DGet.k (k := .inr h) e
  rw [valV_sz] at this
  exact this
theorem part_first {q : Str} (h : isPartS q = true) : ∃ c l, tl q = c :: l ∧ isSg q = decide (c = 39) := by
  rcases Bool.or_eq_true_iff.mp h with h | h
  · obtain ⟨c, e, _⟩ := sign_is h
    exact ⟨39, [c], e, by unfold isSg; rw [e]; rfl⟩
  · have hf := name_free h (s := 39) (by decide)
    cases e : tl q with
    | nil =>
      unfold isNameS at h
      simp only [Bool.and_eq_true, decide_eq_true_eq] at h
      have := h.1.1
      rw [len_tl, e] at this
      simp at this
    | cons c l =>
      refine ⟨c, l, rfl, ?_⟩
      unfold isSg
      rw [e]
      rw [e] at hf
      have : c ≠ 39 := fun z => hf (by rw [z]; exact List.mem_cons_self ..)
      rw [decide_eq_false this]
      simp [this]
theorem part_sg {p : Str} (h : isPartS p = true) : (∃ c l, tl p = c :: l) ∧ p.length ≤ 1000000 := by
  obtain ⟨c, l, e, _⟩ := part_first h
  exact ⟨⟨c, l, e⟩, Nat.le_trans (part_len h) (by decide)⟩
theorem take_snoc {α : Type} {l : List α} {i : Nat} {x : α} (h : l[i]? = some x) : l.take (i + 1) = l.take i ++ [x] := by
  have hl := (List.getElem?_eq_some_iff.mp h).1
  rw [← List.take_append_getElem hl, (List.getElem?_eq_some_iff.mp h).2]
theorem map_get {α : Type} {f : α → V} {l : List α} {i : Nat} {x : V} (h : (l.map f)[i]? = some x) : ∃ y, l[i]? = some y ∧ x = f y := by
  rw [List.getElem?_map] at h
  cases e : l[i]? with
  | none => rw [e] at h; cases h
  | some y => rw [e] at h; exact ⟨y, rfl, (Option.some.inj h).symm⟩
def abcL : List Nat := [65, 66, 67, 68, 69, 70, 71, 72, 73, 74, 75, 76, 77, 78, 79, 80, 81, 82, 83, 84, 85, 86, 87, 88, 89, 90]
theorem abc_at {i : Int} (h0 : 0 ≤ i) (h1 : i < 26) {L : List Nat} (hL : L = abcL) : ∃ c, atI L i = some c ∧ 65 ≤ c ∧ c ≤ 90 := by
  subst hL
  exact atI_all (P := fun c => 65 ≤ c ∧ c ≤ 90) h0 (by simpa [abcL] using h1) (by decide)
theorem abc_tl : tl (Str.ofString "ABCDEFGHIJKLMNOPQRSTUVWXYZ") = abcL := by decide +kernel
/-- n letters -/
structure Letters (n : Nat) (z : Str) : Prop where
  len : z.length = n
  all : ∀ c ∈ tl z, 65 ≤ c ∧ c ≤ 90
theorem Letters.name {n : Nat} {z : Str} (h : Letters n z) (h1 : 1 ≤ n) (h2 : n ≤ 8) : isNameS z = true := by
  unfold isNameS
  rw [h.len, decide_eq_true h1, decide_eq_true h2]
  simp only [Bool.and_self, Bool.true_and, List.all_eq_true, Bool.and_eq_true, decide_eq_true_eq]
  exact h.all
theorem Letters.snoc {n : Nat} {z : Str} {c : Nat} (h : Letters n z) (h1 : 65 ≤ c) (h2 : c ≤ 90) : Letters (n + 1) (z ++ ⟨#[c]⟩) := by
  refine ⟨?_, fun d hd => ?_⟩
  · rw [len_tl, tl_append, List.length_append, ← len_tl, h.len]
    rfl
  · rw [tl_append] at hd
    rcases List.mem_append.mp hd with q | q
    · exact h.all d q
    · have : d = c := by simpa [tl] using q
      rw [this]
      exact ⟨h1, h2⟩
theorem lenA (x y : Str) : (x ++ y).length = x.length + y.length := by rw [len_tl, tl_append, List.length_append, ← len_tl, ← len_tl]
theorem Letters.zero : Letters 0 (Str.ofString "") := ⟨by decide +kernel, by
  have e : tl (Str.ofString "") = [] := by decide +kernel
  rw [e]
  simp⟩
theorem Letters.one {c : Nat} (h1 : 65 ≤ c) (h2 : c ≤ 90) : Letters 1 ⟨#[c]⟩ := ⟨rfl, fun d hd => by
  have : d = c := by simpa [tl] using hd
  rw [this]
  exact ⟨h1, h2⟩⟩
theorem Letters.app {n m : Nat} {a b : Str} (h : Letters n a) (k : Letters m b) : Letters (n + m) (a ++ b) := ⟨by rw [lenA, h.len, k.len], fun c hc => by
  rw [tl_append] at hc
  rcases List.mem_append.mp hc with q | q
  · exact h.all c q
  · exact k.all c q⟩
theorem Letters.to {n : Nat} {z : Str} {i : Int} (h : Letters n z) (h0 : 0 ≤ i) (h1 : i ≤ n) : Letters i.toNat (cutS z none (some i)) := ⟨by
  rw [len_tl, cutS_to z h0, List.length_take, ← len_tl, h.len]
  omega, fun c hc => by
  rw [cutS_to z h0] at hc
  exact h.all c (List.mem_of_mem_take hc)⟩
theorem Letters.from {n : Nat} {z : Str} {i : Int} (h : Letters n z) (h0 : 0 ≤ i) (h1 : i ≤ n) : Letters (n - i.toNat) (cutS z (some i) none) := ⟨by
  rw [len_tl, cutS_from z h0, List.length_drop, ← len_tl, h.len], fun c hc => by
  rw [cutS_from z h0] at hc
  exact h.all c (List.mem_of_mem_drop hc)⟩
theorem Letters.rep {n k : Nat} {z y : Str} (h : Letters n z) (e : tl y = (List.replicate k (tl z)).flatten) : Letters (k * n) y := ⟨by
  rw [len_tl, e, List.length_flatten, List.map_replicate, List.sum_replicate_nat, ← len_tl, h.len], fun c hc => by
  rw [e] at hc
  obtain ⟨l, hl, hc2⟩ := List.mem_flatten.mp hc
  rw [List.eq_of_mem_replicate hl] at hc2
  exact h.all c hc2⟩
theorem strs_of {ys : List V} {P : Str → Prop} (h : ∀ y ∈ ys, ∃ p, y = .str p ∧ P p) : ∃ ps : List Str, ys = ps.map V.str ∧ ∀ p ∈ ps, P p := by
  induction ys with
  | nil => exact ⟨[], rfl, by simp⟩
  | cons y ys ih =>
    obtain ⟨p, rfl, hp⟩ := h y (List.mem_cons_self ..)
    obtain ⟨ps, rfl, hps⟩ := ih fun z hz => h z (List.mem_cons_of_mem _ hz)
    exact ⟨p :: ps, rfl, fun q hq => by
      rcases List.mem_cons.mp hq with rfl | hq
      · exact hp
      · exact hps q hq⟩
theorem ix_any {H : Hp} {p : Addr} {xs : List V} {i : Int} (k : H p = some (.lst xs)) (P : V → Prop) (hP : ∀ x ∈ xs, P x) (h0 : 0 ≤ i) (h1 : i < xs.length) : ∃ v, atI xs i = some v ∧ P v := atI_all (P := P) h0 h1 hP

def cellAt (ns : List Int) (i : Int) : Int := ns.getD i.toNat 0
theorem get_ints {ns : List Int} {i : Int} (h0 : 0 ≤ i) (h1 : i < ns.length) : atI (ns.map V.int) i = some (.int (cellAt ns i)) := by
  refine atI_nat h0 ?_
  rw [List.getElem?_map, List.getElem?_eq_getElem (by omega)]
  show some (V.int _) = _
  rw [show cellAt ns i = ns[i.toNat] from by unfold cellAt; rw [List.getD_eq_getElem?_getD, List.getElem?_eq_getElem (by omega)]; rfl]
def R_law_cell_at (K : PySem.W.Frag) : V → V → Hp → VK → XK → Prop := fun x y H Q _ => ∃ (a : Addr) (ns : List Int) (i : Int), x = .ref a ∧ SqL K H a (ns.map V.int) ∧ y = .int i ∧ 0 ≤ i ∧ Q (.int (cellAt ns i)) H
section
theorem ok_law_cell_at {f : Addr} {fd : FuncData} (F : Fun K "_law_cell_at" "_law_cell_at" s_law_cell_at f fd) (T : Txt K mg cs) : FnOk P w K mg base (L2.CX P w) 1 f fd ["_law_script", "_law_k"] (sp2 (R_law_cell_at K)) := by
  refine F.okX sc_law_cell_at (fun vs H Q E h => sp2_len h) (fun cdv A outer s H vs Q E hr h => ⟨_, PBw (X := X_law_cell_at P w K mg base f cdv A outer s H E), ?_⟩)
  obtain ⟨a0, a1, rfl, h⟩ := h
  have ib_len := T.b_len
  have hr' : Room 0 (X_law_cell_at P w K mg base f cdv A outer s H E).A := hr
  replace hr := hr'
  clear hr'
  obtain ⟨a, ns, i, rfl, hS, rfl, h0, h⟩ := h
  wp_step
  refine k_lenL hS ?_
  wp_step
  rw [List.length_map]
  refine iteD (fun c => ?_) fun c => ?_
  · wp_step
    refine i_lst hS (get_ints h0 c) ?_
    exact h
  · wp_step
    have e : cellAt ns i = 0 := by
      unfold cellAt
      rw [List.getD_eq_getElem?_getD, List.getElem?_eq_none (by omega)]
      rfl
    rw [e] at h
    exact h
end
theorem df_law_cell_at (T : Txt K mg cs) : Df P w K mg base "_law_cell_at" 1 ["_law_script", "_law_k"] (sp2 (R_law_cell_at K)) := by
  obtain ⟨f, fd, hm, F, hb⟩ := T.f_law_cell_at.ex
  exact ⟨f, fd, hm, F.kp, hb, ok_law_cell_at F T⟩
def someS : Str := (Str.ofString " !\"#$&'()*+,-./0123456789:;<=>?@ABCDEFGHIJKLMNOPQRSTUVWXYZ[\\]^_`") ++ (Str.ofString "abcdefghijklmnopqrstuvwxyz{|}~")
theorem some_len : someS.length = 94 := by decide +kernel
theorem some_ok : (tl someS).all okc = true := by decide +kernel
theorem some_at {i : Int} (h0 : 0 ≤ i) (h1 : i < 94) : ∃ c, atI (tl someS) i = some c ∧ okc c = true :=
  atI_all (P := fun c => okc c = true) h0 (by rw [← len_tl, some_len]; exact h1) fun c hc => List.all_eq_true.mp some_ok c hc
theorem mem_some (c : Nat) : decide (c ∈ tl someS) = okc c := by
  by_cases h : c < 127
  · exact (by decide +kernel : ∀ m : Fin 127, decide ((m : Nat) ∈ tl someS) = okc m) ⟨c, h⟩
  · have e1 : okc c = false := by
      show (decide (32 ≤ c) && (decide (c ≤ 126) && _)) = false
      rw [decide_eq_false (show ¬ c ≤ 126 by omega), Bool.false_and, Bool.and_false]
    rw [e1]
    exact decide_eq_false fun q => h ((by decide +kernel : ∀ x ∈ tl someS, x < 127) c q)
theorem one_len (c : Nat) : (⟨#[c]⟩ : Str).length = 1 := rfl
theorem cutS_to_len (z : Str) {i : Int} (h : 0 ≤ i) : (cutS z none (some i)).length ≤ z.length := by
  rw [len_tl, cutS_to z h, len_tl]
  exact List.length_take_le' ..
theorem cutS_from_len (z : Str) {i : Int} (h : 0 ≤ i) : (cutS z (some i) none).length ≤ z.length := by
  rw [len_tl, cutS_from z h, len_tl, List.length_drop]
  omega
def R_law_mixed (K : PySem.W.Frag) : V → V → Hp → VK → XK → Prop := fun x y H Q _ => ∃ (a : Addr) (ns : List Int) (i : Int), x = .ref a ∧ SqL K H a (ns.map V.int) ∧ y = .int i ∧ 0 ≤ i ∧ i ≤ 1000 ∧ ∀ j, 0 ≤ j → j < 2147483647 → Q (.int j) H
section
set_option hygiene false in
local macro_rules | `(tactic| top_name) => `(tactic| first | refine e_call (df_law_cell_at T) (hr.mono (by decide)) ?_)
theorem ok_law_mixed {f : Addr} {fd : FuncData} (F : Fun K "_law_mixed" "_law_mixed" s_law_mixed f fd) (T : Txt K mg cs) : FnOk P w K mg base (L2.CX P w) 2 f fd ["_law_script", "_law_k"] (sp2 (R_law_mixed K)) := by
  refine F.okX sc_law_mixed (fun vs H Q E h => sp2_len h) (fun cdv A outer s H vs Q E hr h => ⟨_, PBw (X := X_law_mixed P w K mg base f cdv A outer s H E), ?_⟩)
  obtain ⟨a0, a1, rfl, h⟩ := h
  have hr' : Room 1 (X_law_mixed P w K mg base f cdv A outer s H E).A := hr
  replace hr := hr'
  clear hr'
  obtain ⟨a, ns, i, rfl, hS, rfl, h0, h1, h⟩ := h
  tm_run
  refine ⟨_, _, _, rfl, hS, rfl, h0, ?_⟩
  generalize hj : cellAt ns i = j
  have m0 : 0 ≤ j % 2147483629 := Int.emod_nonneg _ (by decide)
  have m1 : j % 2147483629 < 2147483629 := Int.emod_lt_of_pos _ (by decide)
  tm_run
  refine o_mulS (.inl ⟨by omega, by omega⟩) ?_
  tm_run
  refine o_mulS (.inl ⟨by omega, by omega⟩) ?_
  tm_run
  refine o_mulS (.inl ⟨by omega, by omega⟩) ?_
  tm_run
  refine o_mulS (.inr ⟨by omega, by omega⟩) ?_
  tm_run
  exact h _ (Int.emod_nonneg _ (by decide)) (Int.emod_lt_of_pos _ (by decide))
end
theorem df_law_mixed (T : Txt K mg cs) : Df P w K mg base "_law_mixed" 2 ["_law_script", "_law_k"] (sp2 (R_law_mixed K)) := by
  obtain ⟨f, fd, hm, F, hb⟩ := T.f_law_mixed.ex
  exact ⟨f, fd, hm, F.kp, hb, ok_law_mixed F T⟩
theorem len_to (z : Str) {i : Int} (h : 0 ≤ i) : (cutS z none (some i)).length = min i.toNat z.length := by rw [len_tl, cutS_to z h, List.length_take, ← len_tl]
theorem len_from (z : Str) {i : Int} (h : 0 ≤ i) : (cutS z (some i) none).length = z.length - i.toNat := by rw [len_tl, cutS_from z h, List.length_drop, ← len_tl]

theorem abc_val {i : Int} {c : Nat} (e : atI (tl (Str.ofString "ABCDEFGHIJKLMNOPQRSTUVWXYZ")) i = some c) (h0 : 0 ≤ i) : c = (65 + i).toNat := by
  rw [abc_tl] at e
  unfold atI ixN at e
  rw [if_pos h0] at e
  by_cases h : i < (abcL.length : Nat)
  · rw [if_pos h] at e
    have e : abcL[i.toNat]? = some c := e
    have hl : abcL.length = 26 := rfl
    have : ∀ k : Fin 26, abcL[(k : Nat)]? = some (65 + (k : Nat)) := by decide
    have := this ⟨i.toNat, by omega⟩
    rw [e] at this
    have := Option.some.inj this
    have : c = 65 + i.toNat := this
    omega
  · rw [if_neg h] at e; cases e
def R_law_names (K : PySem.W.Frag) : V → Hp → VK → XK → Prop := fun x H Q _ => ∃ i, x = .int i ∧ 0 ≤ i ∧ i < 2147483647 ∧ ∀ (l : Addr) (H' : Hp) (ns : List Str), Same H H' → H' l = some (.lst (ns.map V.str)) → ns.length = 4 → (∀ z ∈ ns, isNameS z = true) → (∀ n0 n1, ns[0]? = some n0 → ns[1]? = some n1 → n0 ≠ n1) → Q (.ref l) H'
section
theorem ok_law_names {f : Addr} {fd : FuncData} (F : Fun K "_law_names" "_law_names" s_law_names f fd) (T : Txt K mg cs) : FnOk P w K mg base (L2.CX P w) 1 f fd ["_law_cell"] (sp1 (R_law_names K)) := by
  refine F.okX sc_law_names (fun vs H Q E h => sp1_len h) (fun cdv A outer s H vs Q E hr h => ⟨_, PBw (X := X_law_names P w K mg base f cdv A outer s H E), ?_⟩)
  obtain ⟨a0, rfl, h⟩ := h
  have ib_range := T.b_range
  have ib_len := T.b_len
  have hr' : Room 0 (X_law_names P w K mg base f cdv A outer s H E).A := hr
  replace hr := hr'
  clear hr'
  obtain ⟨i, rfl, h0, h1, h⟩ := h
  have fin : ∀ (D : Nat → Str → Prop), (∀ a b, D 0 a → D 1 b → a ≠ b) → ∀ (l : Addr) (H' : Hp) (ys : List V), Same H H' → H l = none → H' l = some (.lst ys) → ys.length = 4 → (∀ (i : Nat) (y : V), ys[i]? = some y → ∃ z, y = .str z ∧ isNameS z = true ∧ D i z) → Q (.ref l) H' := fun D hD l H' ys s n k e hy => by
    obtain ⟨ps, rfl, hps⟩ := strs_of (P := fun z => isNameS z = true) fun y hm => by
      obtain ⟨j, hj⟩ := List.mem_iff_getElem?.mp hm
      obtain ⟨z, q1, q2, _⟩ := hy j y hj
      exact ⟨z, q1, q2⟩
    rw [List.length_map] at e
    refine h l H' ps s k e hps fun n0 n1 e0 e1 => ?_
    obtain ⟨z0, q0, _, d0⟩ := hy 0 (.str n0) (by rw [List.getElem?_map, e0]; rfl)
    obtain ⟨z1, q1, _, d1⟩ := hy 1 (.str n1) (by rw [List.getElem?_map, e1]; rfl)
    obtain rfl := V.str.inj q0
    obtain rfl := V.str.inj q1
    exact hD _ _ d0 d1
  wp_step
  refine iteD (fun c => ?_) fun c => ?_
  · have hD1 : ∃ D : Nat → Str → Prop, D = fun (i : Nat) (z : Str) => ((z.length : Nat) : Int) = 2 * (i : Int) + 1 - (i : Int) / 3 := ⟨_, rfl⟩
    obtain ⟨D1, hD1⟩ := hD1
    wp_step
    refine e_lcP (blkOk_by (sc := defScope s_law_names) (own := [("_law_k", 3)]) (by decide +kernel)) (fun i y => ∃ z, y = .str z ∧ isNameS z = true ∧ D1 i z) (j_rng1 ?_)
    wp_step
    refine ⟨by decide, by decide, _, _, _, walk_range, by decide, fun _ _ => trivial, ?_, fin D1 (fun a b q0 q1 z => by rw [hD1] at q0 q1; rw [z] at q0; have q0 : (b.length : Int) = 1 := q0; have q1 : (b.length : Int) = 3 := q1; omega)⟩
    rintro n x H' H2 hn s' ⟨rfl, rfl⟩
    have hn4 : n < 4 := hn
    refine ⟨Same.refl _, fun _ _ _ _ _ => ?_⟩
    wp_step
    refine ⟨Same.refl _, fun _ _ _ _ _ => ?_⟩
    wp_step
    obtain ⟨ch, e1, e2, e3⟩ := abc_at (i := i % 23) (by omega) (by omega) abc_tl
    refine i_str (by decide +kernel) e1 ?_
    wp_step
    refine o_mulS (.inl ⟨by decide, by decide⟩) ?_
    wp_step
    refine o_repS (by omega) (by omega) (by show 1 ≤ 100; decide) fun y hy => ?_
    have L := (Letters.one e2 e3).rep hy
    rw [Nat.mul_one] at L
    exact ⟨⟨y, rfl, L.name (by omega) (by omega), by rw [hD1]; show (y.length : Int) = _; rw [L.len]; omega⟩, Same.refl _⟩
  · wp_step
    refine s_for (j_rng1 ?_)
    wp_step
    refine ⟨by omega, by omega, _, _, _, walk_range, fun n σ' H' => ∃ (z : Str) (v : Option V), σ' = [some (.int (i / 23)), some (.str "ABCDEFGHIJKLMNOPQRSTUVWXYZ"), some (.int (i % 23)), v, some (.str z), none] ∧ H' = H ∧ Letters n z, ⟨_, _, rfl, rfl, Letters.zero⟩, fun _ _ _ _ _ => trivial, ?_, ?_⟩
    · rintro n x σ' H' H2 hn ⟨z, v, rfl, rfl, hz⟩ ⟨rfl, rfl⟩
      wp_step
      refine o_mulS (.inl ⟨by omega, by omega⟩) ?_
      wp_step
      obtain ⟨ch, e1, e2, e3⟩ := abc_at (i := i / 23 * (0 + (n : Int) + 3) / 7 % 26) (by omega) (by omega) abc_tl
      refine i_str (by decide +kernel) e1 ?_
      refine o_cat (by
        have : (⟨#[ch]⟩ : Str).length = 1 := rfl
        rw [hz.len, this, sizeLine_eq]
        omega) ?_
      wp_step
      first | exact hz.snoc e2 e3 | exact ⟨_, _, rfl, rfl, hz.snoc e2 e3⟩
    · rintro σ' H' ⟨z, v, rfl, rfl, hz⟩
      have hzl := hz.len
      wp_step
      refine k_lenS (by rw [sizeLine_eq]; omega) ?_
      wp_step
      refine o_mod (by omega) ?_
      have a0 : 0 ≤ i / 23 / 32 % ((z.length : Int) + 1) := Int.emod_nonneg _ (by omega)
      have a1 : i / 23 / 32 % ((z.length : Int) + 1) < (z.length : Int) + 1 := Int.emod_lt_of_pos _ (by omega)
      generalize i / 23 / 32 % ((z.length : Int) + 1) = at' at *
      wp_step
      have hD2 : ∃ D : Nat → Str → Prop, D = fun (k : Nat) (u : Str) => tl u = tl (cutS z none (some at')) ++ [(65 + i % 23 + (k : Int)).toNat] ++ tl (cutS z (some at') none) := ⟨_, rfl⟩
      obtain ⟨D2, hD2⟩ := hD2
      refine e_lcP (blkOk_by (sc := defScope s_law_names) (own := [("_law_k", 3)]) (by decide +kernel)) (fun i y => ∃ z, y = .str z ∧ isNameS z = true ∧ D2 i z) (j_rng1 ?_)
      wp_step
      refine ⟨by decide, by decide, _, _, _, walk_range, by decide, fun _ _ => trivial, ?_, fin D2 (fun a b q0 q1 z => by
        rw [hD2] at q0 q1
        rw [z] at q0
        have e := q0.symm.trans q1
        have e := List.append_cancel_right e
        have e := List.append_cancel_left e
        have e := (List.cons.inj e).1
        omega)⟩
      rintro n x H' H2 hn s' ⟨rfl, rfl⟩
      have hn4 : n < 4 := hn
      refine ⟨Same.refl _, fun _ _ _ _ _ => ?_⟩
      wp_step
      refine ⟨Same.refl _, fun _ _ _ _ _ => ?_⟩
      wp_step
      refine n_str (by rw [sizeLine_eq]; omega) ?_
      wp_step
      obtain ⟨ch, e1, e2, e3⟩ := abc_at (i := i % 23 + (0 + (n : Int))) (by omega) (by omega) abc_tl
      refine i_str (by decide +kernel) e1 ?_
      have L1 := hz.to a0 (by omega)
      have L2 := L1.app (Letters.one e2 e3)
      have L3 := L2.app (hz.from a0 (by omega))
      refine o_cat (by
        have : (⟨#[ch]⟩ : Str).length = 1 := rfl
        rw [L1.len, this, sizeLine_eq]
        omega) ?_
      wp_step
      refine n_str (by rw [sizeLine_eq]; omega) ?_
      refine o_cat (by rw [L2.len, (hz.from a0 (by omega)).len, sizeLine_eq]; omega) ?_
      have ech := abc_val e1 (by omega)
      refine ⟨⟨_, rfl, L3.name (by omega) (by omega), ?_⟩, Same.refl _⟩
      rw [hD2]
      show tl _ = tl _ ++ [(65 + i % 23 + (n : Int)).toNat] ++ tl _
      rw [tl_append, tl_append]
      have : tl (⟨#[ch]⟩ : Str) = [(65 + i % 23 + (n : Int)).toNat] := by show [ch] = _; rw [ech, show 65 + (i % 23 + (0 + (n : Int))) = 65 + i % 23 + (n : Int) by omega]
      rw [this]

end
theorem df_law_names (T : Txt K mg cs) : Df P w K mg base "_law_names" 1 ["_law_cell"] (sp1 (R_law_names K)) := by
  obtain ⟨f, fd, hm, F, hb⟩ := T.f_law_names.ex
  exact ⟨f, fd, hm, F.kp, hb, ok_law_names F T⟩
theorem inV_str (h : Str) : ∀ hs : List Str, inV (.str h) (hs.map V.str) = decide (h ∈ hs)
  | [] => rfl
  | a :: hs => by
    have ih := inV_str h hs
    unfold inV at ih ⊢
    rw [List.map_cons, List.any_cons, ih]
    have e : eqV (.str a) (.str h) = decide (a = h) := by
      by_cases q : a = h
      · subst q
        rw [decide_eq_true rfl]
        simp [eqV]
      · rw [decide_eq_false q]
        simp [eqV, q]
    rw [e]
    by_cases q : a = h
    · subst q; simp
    · have q2 : ¬ h = a := fun z => q z.symm
      simp [q, q2]
theorem o_niL {X : Cx} {H : Hp} {Q : VK} {p : Addr} {h : Str} {hs : List Str} (k : SqL X.K H p (hs.map V.str)) (q : Q (.bl (!decide (h ∈ hs))) H) : oW X (compareOp .NotIn) (.str h) (.ref p) H Q :=
  oI op_notIn_seq ⟨p, _, rfl, .inl k, rfl, by
    rw [List.all_map]
    exact List.all_eq_true.mpr fun _ _ => rfl, by
    rw [if_pos rfl, inV_str]
    exact q⟩

def R_law_signs (K : PySem.W.Frag) : V → Hp → VK → XK → Prop := fun x H Q _ => ∃ i, x = .int i ∧ 0 ≤ i ∧ ∀ (l : Addr) (H' : Hp) (cs : List Nat), Same H H' → H l = none → H' l = some (.lst (cs.map fun c => V.str ⟨#[c]⟩)) → cs.length = 3 → (∀ c ∈ cs, okc c = true) → Q (.ref l) H'
section
theorem ok_law_signs {f : Addr} {fd : FuncData} (F : Fun K "_law_signs" "_law_signs" s_law_signs f fd) (T : Txt K mg cs) : FnOk P w K mg base (L2.CX P w) 1 f fd ["_law_cell"] (sp1 (R_law_signs K)) := by
  refine F.okX sc_law_signs (fun vs H Q E h => sp1_len h) (fun cdv A outer s H vs Q E hr h => ⟨_, PBw (X := X_law_signs P w K mg base f cdv A outer s H E), ?_⟩)
  obtain ⟨a0, rfl, h⟩ := h
  have hr' : Room 0 (X_law_signs P w K mg base f cdv A outer s H E).A := hr
  replace hr := hr'
  clear hr'
  obtain ⟨i, rfl, h0, h⟩ := h
  tm_run
  refine o_cat (by decide +kernel) ?_
  tm_run
  obtain ⟨c1, e1, q1⟩ := some_at (i := i % 94) (Int.emod_nonneg _ (by decide)) (Int.emod_lt_of_pos _ (by decide))
  refine i_str (z := someS) (by decide +kernel) e1 ?_
  tm_run
  obtain ⟨c2, e2, q2⟩ := some_at (i := (i + 1 + i / 94 % 46) % 94) (Int.emod_nonneg _ (by decide)) (Int.emod_lt_of_pos _ (by decide))
  refine i_str (z := someS) (by decide +kernel) e2 ?_
  tm_run
  obtain ⟨c3, e3, q3⟩ := some_at (i := (i + 47 + i / 4324 % 46) % 94) (Int.emod_nonneg _ (by decide)) (Int.emod_lt_of_pos _ (by decide))
  refine i_str (z := someS) (by decide +kernel) e3 ?_
  tm_run
  intro l H1 s1 n1 k1 _
  exact h l H1 [c1, c2, c3] s1 n1 k1 rfl (by simp [q1, q2, q3])
end
theorem df_law_signs (T : Txt K mg cs) : Df P w K mg base "_law_signs" 1 ["_law_cell"] (sp1 (R_law_signs K)) := by
  obtain ⟨f, fd, hm, F, hb⟩ := T.f_law_signs.ex
  exact ⟨f, fd, hm, F.kp, hb, ok_law_signs F T⟩
theorem rule_part {c : Nat} (h : okc c = true) : isPartS (Str.ofString "'" ++ ⟨#[c]⟩) = true := by
  have e : tl (Str.ofString "'" ++ ⟨#[c]⟩) = [39, c] := by rw [tl_append, tl_q]; rfl
  show (isSignL (tl _) || _) = true
  rw [e]
  simp [isSignL, h]
theorem q1len : (Str.ofString "'").length = 1 := by decide +kernel
def barren (S : Szs) (ps : List Str) : List Str := ps.filter fun p => !isSg p && (look S p).isNone
theorem barren_iff (S : Szs) : ∀ ps : List Str, barren S ps = [] ↔ (sizeP S ps).isSome = true
  | [] => by simp [barren, sizeP]
  | p :: r => by
    have ih := barren_iff S r
    unfold barren at ih ⊢
    show _ ↔ (if isSg p = true then sizeP S r else (look S p).bind fun n => (sizeP S r).map (n + ·)).isSome = true
    rw [List.filter_cons]
    by_cases c : isSg p = true
    · rw [if_pos c, c]
      simpa using ih
    · have c' : isSg p = false := by simpa using c
      rw [if_neg c, c']
      cases hl : look S p with
      | none => simp
      | some n =>
        simp only [Bool.not_false, Option.isNone_some, Bool.and_false, Bool.false_eq_true, if_false, Option.bind_some]
        rw [ih]
        cases sizeP S r <;> simp
theorem strs_nil : ∀ l : List Str, PyData.eqv (.list (l.map .str)) (.list []) = decide (l = [])
  | [] => rfl
  | _ :: _ => rfl
theorem strs_sh {l : List Str} (h : ∀ p ∈ l, ∀ c ∈ tl p, c < 1114112) : Sh 1 (.list (l.map .str)) := .lst fun d hd => by
  obtain ⟨p, hp, rfl⟩ := List.mem_map.mp hd
  exact .str (h p hp)
theorem size_sum {S : Szs} : ∀ {ps : List Str} {m : Nat}, sizeP S ps = some m → ((ps.filter fun p => !isSg p).map fun p => (((look S p).getD 0 : Nat) : Int)).sum = (m : Int)
  | [], m, e => by cases e; rfl
  | p :: r, m, e => by
    have e : (if isSg p = true then sizeP S r else (look S p).bind fun n => (sizeP S r).map (n + ·)) = some m := e
    by_cases c : isSg p = true
    · rw [if_pos c] at e
      rw [List.filter_cons_of_neg (by rw [c]; simp)]
      exact size_sum e
    · rw [if_neg c] at e
      have c' : isSg p = false := by simpa using c
      rw [List.filter_cons_of_pos (by rw [c']; rfl), List.map_cons, List.sum_cons]
      cases hl : look S p with
      | none => rw [hl] at e; cases e
      | some n =>
        cases hr : sizeP S r with
        | none => rw [hl, hr] at e; cases e
        | some k =>
          rw [hl, hr] at e
          have e : n + k = m := Option.some.inj e
          rw [size_sum hr]
          simp only [Option.getD_some]
          omega
theorem look_of : ∀ {S : Szs} {h : Str} {n : Nat}, (S.map (·.1)).Nodup → (h, n) ∈ S → look S h = some n
  | [], _, _, _, q => by cases q
  | p :: S, h, n, nd, q => by
    have nd' := List.nodup_cons.mp nd
    unfold look
    rcases List.mem_cons.mp q with q | q
    · rw [← q, if_pos rfl]
    · rw [if_neg fun z => nd'.1 (by show p.1 ∈ _; rw [z]; exact List.mem_map.mpr ⟨_, q, rfl⟩)]
      exact look_of nd'.2 q

/-! ### rows and the texts that they give: the plain side -/
theorem atI_last {α : Type} {xs : List α} {y : α} : atI (xs ++ [y]) (-1) = some y := by
  unfold atI ixN
  rw [if_neg (by decide), List.length_append]
  have e : (-1 + ((xs.length + [y].length : Nat) : Int)).toNat = xs.length := by simp only [List.length_cons, List.length_nil]; omega
  rw [if_pos (by simp only [List.length_cons, List.length_nil]; omega)]
  simp only [e]
  show (xs ++ [y])[xs.length]? = some y
  rw [List.getElem?_append_right (Nat.le_refl _), Nat.sub_self]
  rfl
theorem takeWhile_ok {α : Type} {p : α → Bool} : ∀ {l : List α} {x : α}, x ∈ l.takeWhile p → p x = true
  | a :: l, x, h => by
    by_cases c : p a = true
    · rw [List.takeWhile_cons_of_pos c] at h
      rcases List.mem_cons.mp h with h | h
      · rw [h]; exact c
      · exact takeWhile_ok h
    · rw [List.takeWhile_cons_of_neg c] at h
      cases h
  | [], x, h => by cases h
def codeOf (p : Str) : Nat := (tl p).getD 1 0
def sgV (c : Nat) : V := .str ⟨#[c]⟩
theorem sign_tl {p : Str} (h : isPartS p = true) (hs : isSg p = true) : tl p = [39, codeOf p] ∧ okc (codeOf p) = true := by
  rcases Bool.or_eq_true_iff.mp h with h | h
  · obtain ⟨c, e, hc⟩ := sign_is h
    unfold codeOf
    rw [e]
    exact ⟨rfl, hc⟩
  · have := name_free h (s := 39) (by decide)
    unfold isSg at hs
    cases q : tl p with
    | nil => rw [q] at hs; cases hs
    | cons x t =>
      rw [q] at hs this
      have hs : (some x == some 39) = true := hs
      have : x ≠ 39 := fun z => this (by rw [z]; exact List.mem_cons_self ..)
      simp [this] at hs
/-- a number takes the place of the name that waits first -/
def stp (rs : List Rl) (d : PyData) (ps : List Str) : Option (List Str) := match d, ps with
  | .int i, p :: ps => if 0 ≤ i then (rs[i.toNat]?).bind fun r => if r.head = p then some (r.parts ++ ps) else none else none
  | _, _ => none
structure Rst where
  ps : List Str
  cs : List Nat
  bg : List Nat
def rowStep (rs : List Rl) (s : Rst) (d : PyData) : Option Rst := (stp rs d s.ps).map fun q => ⟨q.dropWhile isSg, s.cs ++ (q.takeWhile isSg).map codeOf, s.bg ++ [s.cs.length]⟩
def rowGo (rs : List Rl) : List PyData → Rst → Option Rst
  | [], s => some s
  | d :: ds, s => (rowStep rs s d).bind (rowGo rs ds)
def rowEnd : Option Rst → Option (List Nat × List Nat)
  | some ⟨[], cs, bg⟩ => some (cs, bg)
  | _ => none
def rowRead (rs : List Rl) (ds : List PyData) : Option (List Nat × List Nat) := match rs[0]? with
  | none => none
  | some r => rowEnd (rowGo rs ds ⟨[r.head], [], []⟩)
theorem rowGo_app (rs : List Rl) : ∀ (a b : List PyData) (s : Rst), rowGo rs (a ++ b) s = (rowGo rs a s).bind (rowGo rs b)
  | [], b, s => rfl
  | d :: a, b, s => by
    show (rowStep rs s d).bind (rowGo rs (a ++ b)) = ((rowStep rs s d).bind (rowGo rs a)).bind (rowGo rs b)
    cases rowStep rs s d with
    | none => rfl
    | some s' => exact rowGo_app rs a b s'
/-- what holds of a state -/
structure RstOk (rs : List Rl) (n : Nat) (s : Rst) : Prop where
  parts : ∀ p ∈ s.ps, isPartS p = true
  room : s.ps.length + s.cs.length ≤ 1 + 6 * n
  bl : s.bg.length = n
  oks : ∀ c ∈ s.cs, okc c = true
theorem stp_parts {rs : List Rl} (g : GoodG rs) {d : PyData} {ps q : List Str} (h : stp rs d ps = some q) (hp : ∀ p ∈ ps, isPartS p = true) : (∀ p ∈ q, isPartS p = true) ∧ q.length + 1 ≤ ps.length + 6 := by
  unfold stp at h
  split at h
  · rename_i i p ps'
    by_cases c : 0 ≤ i
    · rw [if_pos c] at h
      cases e : rs[i.toNat]? with
      | none => rw [e] at h; cases h
      | some r =>
        rw [e] at h
        have h : (if r.head = p then some (r.parts ++ ps') else none) = some q := h
        by_cases c2 : r.head = p
        · rw [if_pos c2] at h
          cases h
          have hg := g.good r (List.mem_of_getElem? e)
          have := hg.few
          refine ⟨fun x hx => ?_, by rw [List.length_append, List.length_cons]; omega⟩
          rcases List.mem_append.mp hx with hx | hx
          · exact hg.parts x hx
          · exact hp x (List.mem_cons_of_mem _ hx)
        · rw [if_neg c2] at h; cases h
    · rw [if_neg c] at h; cases h
  · cases h
theorem RstOk.step {rs : List Rl} (g : GoodG rs) {n : Nat} {s s' : Rst} {d : PyData} (h : RstOk rs n s) (e : rowStep rs s d = some s') : RstOk rs (n + 1) s' := by
  unfold rowStep at e
  cases q : stp rs d s.ps with
  | none => rw [q] at e; cases e
  | some ps =>
    rw [q] at e
    have e : (⟨ps.dropWhile isSg, s.cs ++ (ps.takeWhile isSg).map codeOf, s.bg ++ [s.cs.length]⟩ : Rst) = s' := Option.some.inj e
    subst e
    obtain ⟨h1, h2⟩ := stp_parts g q h.parts
    have h3 : (ps.takeWhile isSg).length + (ps.dropWhile isSg).length = ps.length := by rw [← List.length_append, List.takeWhile_append_dropWhile]
    have := h.room
    refine ⟨fun p hp => h1 p ((List.dropWhile_suffix isSg).subset hp), ?_, by simp [h.bl], fun c hc => ?_⟩
    · show (ps.dropWhile isSg).length + (s.cs ++ (ps.takeWhile isSg).map codeOf).length ≤ _
      rw [List.length_append, List.length_map]
      omega
    · rcases List.mem_append.mp hc with hc | hc
      · exact h.oks c hc
      · obtain ⟨p, hp, rfl⟩ := List.mem_map.mp hc
        exact (sign_tl (h1 p ((List.takeWhile_prefix isSg).subset hp)) (takeWhile_ok hp)).2
def namesOf (r : Rl) : List Str := r.parts.filter fun p => !isSg p
theorem barren_names {S : Szs} {r : Rl} : barren S r.parts = [] ↔ ∀ p ∈ namesOf r, (look S p).isSome = true := by
  unfold barren namesOf
  rw [List.filter_eq_nil_iff]
  constructor
  · intro h p hp
    obtain ⟨h1, h2⟩ := List.mem_filter.mp hp
    have := h p h1
    cases e : look S p with
    | some n => rfl
    | none => exact absurd (by rw [e, h2]; rfl) this
  · intro h p hp q
    simp only [Bool.and_eq_true] at q
    have := h p (List.mem_filter.mpr ⟨hp, q.1⟩)
    cases e : look S p with
    | none => rw [e] at this; cases this
    | some n => rw [e] at q; cases q.2

/-! ### maps as lists; dicts whose values stand for data -/
section
variable {κ α : Type} [DecidableEq κ]
def lk : List (κ × α) → κ → Option α
  | [], _ => none
  | p :: F, k => if p.1 = k then some p.2 else lk F k
def pt (F : List (κ × α)) (k : κ) (a : α) : List (κ × α) := if (lk F k).isSome = true then F.map (fun q => if q.1 = k then (q.1, a) else q) else F ++ [(k, a)]
theorem lk_map : ∀ (F : List (κ × α)) (h : κ) (a : α) (k : κ), lk (F.map fun q => if q.1 = h then (q.1, a) else q) k = if k = h then (lk F k).map (fun _ => a) else lk F k
  | [], h, a, k => by simp [lk]
  | p :: F, h, a, k => by
    rw [List.map_cons]
    by_cases e : p.1 = h
    · rw [if_pos e]
      unfold lk
      by_cases e2 : p.1 = k
      · rw [if_pos e2, if_pos e2, if_pos (by rw [← e2, e])]; rfl
      · rw [if_neg e2, if_neg e2, lk_map F h a k]
    · rw [if_neg e]
      unfold lk
      by_cases e2 : p.1 = k
      · rw [if_pos e2, if_pos e2, if_neg (by rw [← e2]; exact e)]
      · rw [if_neg e2, if_neg e2, lk_map F h a k]
theorem lk_app : ∀ (F : List (κ × α)) (h : κ) (a : α) (k : κ), lk F h = none → lk (F ++ [(h, a)]) k = if k = h then some a else lk F k
  | [], h, a, k, _ => by
    show (if h = k then some a else none) = _
    by_cases e : h = k
    · rw [if_pos e, if_pos e.symm]
    · rw [if_neg e, if_neg fun q => e q.symm]; rfl
  | p :: F, h, a, k, q => by
    unfold lk at q
    by_cases e : p.1 = h
    · rw [if_pos e] at q; cases q
    · rw [if_neg e] at q
      rw [List.cons_append]
      unfold lk
      by_cases e2 : p.1 = k
      · rw [if_pos e2, if_pos e2, if_neg (by rw [← e2]; exact e)]
      · rw [if_neg e2, if_neg e2, lk_app F h a k q]
theorem lk_pt (F : List (κ × α)) (h : κ) (a : α) (k : κ) : lk (pt F h a) k = if k = h then some a else lk F k := by
  unfold pt
  cases e : lk F h with
  | none => rw [if_neg (by simp), lk_app F h a k e]
  | some m =>
    rw [if_pos (by rfl), lk_map]
    by_cases e2 : k = h
    · rw [if_pos e2, if_pos e2, e2, e]; rfl
    · rw [if_neg e2, if_neg e2]
theorem lk_mem : ∀ {F : List (κ × α)} {k : κ} {a : α}, lk F k = some a → (k, a) ∈ F
  | [], _, _, q => by cases q
  | p :: F, k, a, q => by
    unfold lk at q
    by_cases e : p.1 = k
    · rw [if_pos e] at q
      cases q
      rw [← e]
      exact List.mem_cons_self ..
    · rw [if_neg e] at q
      exact List.mem_cons_of_mem _ (lk_mem q)
theorem lk_none : ∀ {F : List (κ × α)} {k : κ}, lk F k = none ↔ k ∉ F.map (·.1)
  | [], k => by simp [lk]
  | p :: F, k => by
    unfold lk
    rw [List.map_cons, List.mem_cons]
    by_cases e : p.1 = k
    · rw [if_pos e]
      simp [e.symm]
    · rw [if_neg e, lk_none (F := F)]
      constructor
      · rintro h (q | q)
        · exact e q.symm
        · exact h q
      · intro h q
        exact h (.inr q)
theorem lk_some {F : List (κ × α)} {k : κ} (h : k ∈ F.map (·.1)) : ∃ a, lk F k = some a := by
  cases q : lk F k with
  | none => exact absurd h (lk_none.mp q)
  | some a => exact ⟨a, rfl⟩
theorem lk_isSome {F : List (κ × α)} {k : κ} : (lk F k).isSome = true ↔ k ∈ F.map (·.1) := by
  cases q : lk F k with
  | none => simp [lk_none.mp q]
  | some a => simp only [Option.isSome_some, true_iff]; exact List.mem_map.mpr ⟨_, lk_mem q, rfl⟩
theorem lk_of : ∀ {F : List (κ × α)} {p : κ × α}, (F.map (·.1)).Nodup → p ∈ F → lk F p.1 = some p.2
  | [], _, _, h => by cases h
  | q :: F, p, nd, h => by
    have nd' := List.nodup_cons.mp nd
    unfold lk
    rcases List.mem_cons.mp h with h | h
    · rw [← h, if_pos rfl]
    · rw [if_neg fun e => nd'.1 (by show q.1 ∈ _; rw [e]; exact List.mem_map.mpr ⟨p, h, rfl⟩)]
      exact lk_of nd'.2 h
theorem pt_keys (F : List (κ × α)) (k : κ) (a : α) : (pt F k a).map (·.1) = if (lk F k).isSome = true then F.map (·.1) else F.map (·.1) ++ [k] := by
  unfold pt
  cases e : lk F k with
  | none => rw [if_neg (by simp), if_neg (by simp), List.map_append]; rfl
  | some m =>
    rw [if_pos (by rfl), if_pos (by rfl), List.map_map]
    apply List.map_congr_left
    intro p _
    show (if p.1 = k then (p.1, a) else p).1 = p.1
    split <;> rfl
theorem pt_nd {F : List (κ × α)} {k : κ} {a : α} (nd : (F.map (·.1)).Nodup) : ((pt F k a).map (·.1)).Nodup := by
  rw [pt_keys]
  cases e : lk F k with
  | some m => rw [if_pos (by rfl)]; exact nd
  | none =>
    rw [if_neg (by simp)]
    exact List.nodup_append.mpr ⟨nd, by simp, fun x hx b hb => by
      rw [List.mem_singleton.mp hb]
      exact fun z => lk_none.mp e (by rw [← z]; exact hx)⟩
theorem pt_len (F : List (κ × α)) (k : κ) (a : α) : (pt F k a).length = if (lk F k).isSome = true then F.length else F.length + 1 := by
  have e := congrArg List.length (pt_keys F k a)
  rw [List.length_map] at e
  rw [e]
  split <;> simp
theorem pt_sum {f : α → Nat} {k : κ} {a b : α} : ∀ {F : List (κ × α)}, (F.map (·.1)).Nodup → lk F k = some b → f a < f b → ((F.map fun q => if q.1 = k then (q.1, a) else q).map fun q => f q.2).sum < (F.map fun q => f q.2).sum
  | [], _, e, _ => by cases e
  | p :: F, nd, e, lt => by
    have nd' := List.nodup_cons.mp nd
    unfold lk at e
    rw [List.map_cons]
    by_cases c : p.1 = k
    · rw [if_pos c] at e ⊢
      cases e
      have same : (F.map fun q => if q.1 = k then (q.1, a) else q) = F := by
        have e2 : ∀ q ∈ F, (if q.1 = k then (q.1, a) else q) = id q := fun q hq => if_neg fun z => nd'.1 (by show p.1 ∈ _; rw [c, ← z]; exact List.mem_map.mpr ⟨q, hq, rfl⟩)
        rw [List.map_congr_left e2, List.map_id]
      rw [same]
      simp only [List.map_cons, List.sum_cons]
      omega
    · rw [if_neg c] at e ⊢
      have := pt_sum nd'.2 e lt
      simp only [List.map_cons, List.sum_cons]
      omega
/-- a dict's rows stand for a map -/
def DAt (R : V → α → Prop) (kvs : List (κ × V)) (F : List (κ × α)) : Prop := All2 (fun kv f => kv.1 = f.1 ∧ R kv.2 f.2) kvs F
theorem DAt.mono {R R' : V → α → Prop} (i : ∀ v a, R v a → R' v a) {kvs : List (κ × V)} {F : List (κ × α)} (h : DAt R kvs F) : DAt R' kvs F := All2.mono (fun _ _ q => ⟨q.1, i _ _ q.2⟩) h
theorem DAt.val {R : V → α → Prop} : ∀ {kvs : List (κ × V)} {F : List (κ × α)} (k : κ), DAt R kvs F → (lk F k = none → valV kvs k = none) ∧ ∀ a, lk F k = some a → ∃ v, valV kvs k = some v ∧ R v a
  | _, _, k, .nil => ⟨fun _ => rfl, fun _ e => nomatch e⟩
  | kv :: kvs, f :: F, k, .cons h t => by
    have ih := DAt.val (R := R) k t
    unfold lk
    by_cases e : f.1 = k
    · rw [if_pos e, valV_pos (by rw [h.1]; exact e)]
      exact ⟨fun q => (nomatch q), fun a q => ⟨_, rfl, by cases q; exact h.2⟩⟩
    · rw [if_neg e, valV_neg (by rw [h.1]; exact e)]
      exact ih
theorem DAt.any {R : V → α → Prop} {kvs : List (κ × V)} {F : List (κ × α)} (k : κ) (h : DAt R kvs F) : (kvs.any fun kv => decide (kv.1 = k)) = (lk F k).isSome := by
  rw [valV_any]
  obtain ⟨h1, h2⟩ := h.val k
  cases e : lk F k with
  | none => rw [h1 e]; rfl
  | some a => obtain ⟨v, q, _⟩ := h2 a e; rw [q]; rfl
theorem DAt.put {R : V → α → Prop} {kvs : List (κ × V)} {F : List (κ × α)} {k : κ} {v : V} {a : α} (h : DAt R kvs F) (hv : R v a) : DAt R (putK kvs k v) (pt F k a) := by
  unfold putK pt
  rw [h.any k]
  split
  · have go : ∀ {kvs : List (κ × V)} {F : List (κ × α)}, DAt R kvs F → DAt R (kvs.map fun kv => if kv.1 = k then (kv.1, v) else kv) (F.map fun q => if q.1 = k then (q.1, a) else q) := by
      intro kvs F h
      induction h with
      | nil => exact .nil
      | @cons kv f kvs F q t ih =>
        rw [List.map_cons, List.map_cons]
        refine .cons ?_ ih
        by_cases e : f.1 = k
        · rw [if_pos e, if_pos (by rw [q.1]; exact e)]; exact ⟨q.1, hv⟩
        · rw [if_neg e, if_neg (by rw [q.1]; exact e)]; exact q
    exact go h
  · exact All2.snoc h ⟨rfl, hv⟩
theorem DAt.len {R : V → α → Prop} {kvs : List (κ × V)} {F : List (κ × α)} (h : DAt R kvs F) : kvs.length = F.length := All2.len h
end
theorem DAt.dget {α : Type} {R : V → α → Prop} {kvs : List (Key × V)} {F : List (Key × α)} {H : Hp} {d : Addr} (k : Key) (h : DAt R kvs F) (e : H d = some (.dK kvs)) : (lk F k = none → DGet H d (kV k) none) ∧ ∀ a, lk F k = some a → ∃ v, DGet H d (kV k) (some v) ∧ R v a := by
  have g := DGet.k (k := k) e
  obtain ⟨h1, h2⟩ := h.val k
  refine ⟨fun q => by rw [h1 q] at g; exact g, fun a q => ?_⟩
  obtain ⟨v, e1, e2⟩ := h2 a q
  rw [e1] at g
  exact ⟨v, g, e2⟩

def isTextD : PyData → Bool
  | .str z => decide (z.length ≤ 60) && (tl z).all okc
  | _ => false
theorem textD_no {d : PyData} (h : isK d "str" = false) : isTextD d = false := by
  cases d <;> first | rfl | (exact Bool.noConfusion h)
def R_checked_text (K : PySem.W.Frag) (cs : Cs) : V → Hp → VK → XK → Prop := fun x H Q E => ∃ d, Th K H x d ∧ (isTextD d = true → Q x H) ∧ (isTextD d = false → E (.ref cs.NoText) none H)
section
set_option hygiene false in
local macro_rules | `(tactic| top_name) => `(tactic| first | refine e_call (df_may_stand T) (hr.mono (by decide)) ?_)
set_option hygiene false in
local macro_rules | `(tactic| top_raise) => `(tactic| first | refine s_raise T.x_NoText ?_)
theorem ok_checked_text {f : Addr} {fd : FuncData} (F : Fun K "checked_text" "checked_text" s_checked_text f fd) (T : Txt K mg cs) : FnOk P w K mg base (L2.CX P w) 2 f fd ["thing"] (sp1 (R_checked_text K cs)) := by
  refine F.okX sc_checked_text (fun vs H Q E h => sp1_len h) (fun cdv A outer s H vs Q E hr h => ⟨_, PBw (X := X_checked_text P w K mg base f cdv A outer s H E), ?_⟩)
  obtain ⟨a0, rfl, h⟩ := h
  obtain ⟨t_MOST_SIGNS, h_MOST_SIGNS⟩ := T.k_MOST_SIGNS
  have ib_MOST_SIGNS : Gn mg "MOST_SIGNS" (some _) := ⟨h_MOST_SIGNS⟩
  have ib_NoText : Gn mg "NoText" (some _) := ⟨T.x_NoText.mg⟩
  have ib_isinstance := T.b_isinstance
  have ib_str := T.b_str
  have ib_len := T.b_len
  have hr' : Room 1 (X_checked_text P w K mg base f cdv A outer s H E).A := hr
  replace hr := hr'
  clear hr'
  obtain ⟨d, hd, h1, h2⟩ := h
  wp_step
  refine k_isStr hd ⟨_, rfl, ?_⟩
  rcases no_str (d := d) with ⟨z, rfl⟩ | ⟨e1, _, _⟩
  · cases hd with
    | str _ hz =>
    wp_step
    refine k_lenS (sz1m hz) ?_
    wp_step
    refine iteD (fun c => ?_) fun c => ?_
    · wp_step
      refine s_raise T.x_NoText ?_
      refine h2 ?_
      show (decide (z.length ≤ 60) && _) = false
      rw [decide_eq_false (by omega), Bool.false_and]
    · wp_step
      have hgood : isTextD (.str z) = (tl z).all okc := by
        show (decide (z.length ≤ 60) && _) = _
        rw [decide_eq_true (by omega), Bool.true_and]
      rw [hgood] at h1 h2
      refine s_for (j_str ?_)
      wp_step
      refine ⟨_, _, _, walk_str, fun i σ' H' => (∃ v, σ' = [some (.str z), v]) ∧ H' = H ∧ ((tl z).take i).all okc = true, ⟨⟨_, rfl⟩, rfl, rfl⟩, fun _ _ _ _ _ => trivial, ?_, ?_⟩
      · rintro i x σ' H' H2 hi ⟨⟨v, rfl⟩, rfl, hall⟩ ⟨rfl, c, hc, rfl⟩
        have hc' : (tl z)[i]? = some c := by simpa [tl] using hc
        wp_step
        refine e_call (df_may_stand T) (hr.mono (by decide)) ?_
        wp_step
        cases ho : okc c with
        | true =>
          wp_step
          exact ⟨⟨_, rfl⟩, rfl, by rw [all_snoc hc', hall, ho]; rfl⟩
        | false =>
          wp_step
          refine s_raise T.x_NoText ?_
          exact h2 (all_cut hc' ho)
      · rintro σ' H' ⟨⟨v, rfl⟩, rfl, hall⟩
        wp_step
        rw [show z.cps.size = (tl z).length by simp [tl], List.take_length] at hall
        exact h1 hall
  · rw [e1]
    wp_step
    refine s_raise T.x_NoText ?_
    exact h2 (textD_no e1)

end
theorem df_checked_text (T : Txt K mg cs) : Df P w K mg base "checked_text" 2 ["thing"] (sp1 (R_checked_text K cs)) := by
  obtain ⟨f, fd, hm, F, hb⟩ := T.f_checked_text.ex
  exact ⟨f, fd, hm, F.kp, hb, ok_checked_text F T⟩
/-! ### nodes, and what stands -/
inductive Nd where
  | pt (p : Str) (i j : Nat)
  | ru (r d i j : Nat)
deriving DecidableEq
def ndK : Nd → List Key
  | .pt p i j => [.inr p, .inl (i : Nat), .inl (j : Nat)]
  | .ru r d i j => [.inl (r : Nat), .inl (d : Nat), .inl (i : Nat), .inl (j : Nat)]
theorem inlN {a b : Nat} (h : (Sum.inl ((a : Nat) : Int) : Key) = .inl ((b : Nat) : Int)) : a = b := by
  have := Sum.inl.inj h
  omega
theorem ndK_inj : ∀ {a b : Nd}, ndK a = ndK b → a = b
  | .pt p i j, .pt p' i' j', h => by
    obtain ⟨h1, h⟩ := List.cons.inj h
    obtain ⟨h2, h⟩ := List.cons.inj h
    obtain ⟨h3, _⟩ := List.cons.inj h
    rw [Sum.inr.inj h1, inlN h2, inlN h3]
  | .ru r d i j, .ru r' d' i' j', h => by
    obtain ⟨h1, h⟩ := List.cons.inj h
    obtain ⟨h2, h⟩ := List.cons.inj h
    obtain ⟨h3, h⟩ := List.cons.inj h
    obtain ⟨h4, _⟩ := List.cons.inj h
    rw [inlN h1, inlN h2, inlN h3, inlN h4]
  | .pt p i j, .ru r d i' j', h => by cases (List.cons.inj h).1
  | .ru r d i' j', .pt p i j, h => by cases (List.cons.inj h).1
section
variable {κ μ α : Type} [DecidableEq κ] [DecidableEq μ] {f : κ → μ} {g : α → V}
theorem valV_inj (fi : ∀ a b, f a = f b → a = b) : ∀ (F : List (κ × α)) (k : κ), valV (F.map fun q => (f q.1, g q.2)) (f k) = (lk F k).map g
  | [], _ => rfl
  | p :: F, k => by
    rw [List.map_cons]
    show _ = (if p.1 = k then some p.2 else lk F k).map g
    by_cases e : p.1 = k
    · rw [if_pos e, valV_pos (by rw [e])]
      rfl
    · rw [if_neg e, valV_neg (fun q => e (fi _ _ q)), valV_inj fi F k]
theorem putK_new (fi : ∀ a b, f a = f b → a = b) {F : List (κ × α)} {k : κ} {v : α} (h : lk F k = none) : putK (F.map fun q => (f q.1, g q.2)) (f k) (g v) = (F ++ [(k, v)]).map fun q => (f q.1, g q.2) := by
  unfold putK
  rw [valV_any, valV_inj fi, h, List.map_append]
  rfl
end
/-- a node's tuple -/
def NdAt (H : Hp) (v : V) (n : Nd) : Prop := ∃ a, v = .ref a ∧ H a = some (.tup ((ndK n).map kV))
theorem NdAt.ts {H H' : Hp} (s : TS H H') {v : V} {n : Nd} (h : NdAt H v n) : NdAt H' v n := by
  obtain ⟨a, e, q⟩ := h
  exact ⟨a, e, s _ _ q⟩
theorem NdAt.one {H : Hp} {v : V} {n m : Nd} (h : NdAt H v n) (k : NdAt H v m) : n = m := by
  obtain ⟨a, rfl, e⟩ := h
  obtain ⟨b, e2, k⟩ := k
  cases e2
  rw [e] at k
  have := HO.tup.inj (Option.some.inj k)
  refine ndK_inj ?_
  have inj : ∀ (x y : List Key), x.map kV = y.map kV → x = y := by
    intro x
    induction x with
    | nil => intro y h; cases y with
      | nil => rfl
      | cons _ _ => cases h
    | cons a x ih =>
      intro y h
      cases y with
      | nil => cases h
      | cons b y =>
        obtain ⟨h1, h2⟩ := List.cons.inj h
        rw [ih y h2]
        congr 1
        cases a <;> cases b <;> first | (cases h1; rfl) | cases h1
  exact inj _ _ this
/-- the text of a sign as rules write it -/
def sgn (c : Nat) : Str := Str.ofString "'" ++ ⟨#[c]⟩
theorem tl_sgn (c : Nat) : tl (sgn c) = [39, c] := by
  unfold sgn
  rw [tl_append, tl_q]
  rfl
theorem sgn_inj {c d : Nat} (h : sgn c = sgn d) : c = d := by
  have := congrArg tl h
  rw [tl_sgn, tl_sgn] at this
  exact (List.cons.inj (List.cons.inj this).2).1
theorem isSg_sgn (c : Nat) : isSg (sgn c) = true := by
  unfold isSg
  rw [tl_sgn]
  rfl
/-- a derivation of a node, by its height -/
inductive Sd (rs : List Rl) (t : List Nat) : Nat → Nd → Prop
  | sign {i c : Nat} : t[i]? = some c → Sd rs t 0 (.pt (sgn c) i (i + 1))
  | zero {r i : Nat} : r < rs.length → i ≤ t.length → Sd rs t 0 (.ru r 0 i i)
  | step {h1 h2 r d i k j : Nat} {X : Str} {rl : Rl} : rs[r]? = some rl → rl.parts[d]? = some X → Sd rs t h1 (.ru r d i k) → Sd rs t h2 (.pt X k j) → Sd rs t (max h1 h2) (.ru r (d + 1) i j)
  | head {h r i j : Nat} {rl : Rl} : rs[r]? = some rl → Sd rs t h (.ru r rl.parts.length i j) → Sd rs t (h + 1) (.pt rl.head i j)
/-- the height of a node that stands -/
def Ht (rs : List Rl) (t : List Nat) (n : Nd) (h : Nat) : Prop := Sd rs t h n ∧ ∀ h', Sd rs t h' n → h ≤ h'
theorem Ht.one {rs : List Rl} {t : List Nat} {n : Nd} {h k : Nat} (a : Ht rs t n h) (b : Ht rs t n k) : h = k := by
  have := a.2 _ b.1
  have := b.2 _ a.1
  omega
theorem Sd.ex {rs : List Rl} {t : List Nat} {n : Nd} : ∀ (h : Nat), Sd rs t h n → ∃ k, Ht rs t n k := by
  intro h
  induction h using Nat.strongRecOn with
  | _ h ih =>
    intro d
    by_cases q : ∃ k, k < h ∧ Sd rs t k n
    · obtain ⟨k, hk, dk⟩ := q
      exact ih k hk dk
    · exact ⟨h, d, fun k dk => by
        by_cases c : k < h
        · exact absurd ⟨k, c, dk⟩ q
        · omega⟩
abbrev Hts : Type := List (Nd × Nat)
/-- all that stands, each with its height -/
structure Std (rs : List Rl) (t : List Nat) (F : Hts) : Prop where
  nd : (F.map (·.1)).Nodup
  ht : ∀ n h, lk F n = some h ↔ Ht rs t n h
theorem Std.same {rs : List Rl} {t : List Nat} {F F' : Hts} (a : Std rs t F) (b : Std rs t F') (n : Nd) : lk F n = lk F' n := by
  cases e : lk F n with
  | some h => exact ((b.ht n h).mpr ((a.ht n h).mp e)).symm
  | none =>
    cases e' : lk F' n with
    | none => rfl
    | some h => rw [(a.ht n h).mpr ((b.ht n h).mp e')] at e; cases e
def hK (F : Hts) : List (List Key × V) := F.map fun q => (ndK q.1, V.int ((q.2 : Nat) : Int))
theorem valV_hK (F : Hts) (n : Nd) : valV (hK F) (ndK n) = (lk F n).map fun h => V.int ((h : Nat) : Int) := valV_inj (g := fun h : Nat => V.int ((h : Nat) : Int)) (fun _ _ => ndK_inj) F n
theorem putK_hK {F : Hts} {n : Nd} {h : Nat} (e : lk F n = none) : putK (hK F) (ndK n) (.int (h : Nat)) = hK (F ++ [(n, h)]) := putK_new (g := fun h : Nat => V.int ((h : Nat) : Int)) (fun _ _ => ndK_inj) e
/-- the bounds of a node that stands -/
structure Wi (rs : List Rl) (t : List Nat) (n : Nd) : Prop where
  pt : ∀ p i j, n = .pt p i j → i ≤ j ∧ j ≤ t.length ∧ p ∈ rs.map Rl.head ++ t.map sgn
  ru : ∀ r d i j, n = .ru r d i j → i ≤ j ∧ j ≤ t.length ∧ ∃ rl, rs[r]? = some rl ∧ d ≤ rl.parts.length
theorem Sd.wi {rs : List Rl} {t : List Nat} {n : Nd} {h : Nat} (d : Sd rs t h n) : Wi rs t n := by
  induction d with
  | @sign i c e =>
    have := (List.getElem?_eq_some_iff.mp e).1
    refine ⟨fun p i' j q => ?_, fun _ _ _ _ q => ?_⟩
    · cases q
      exact ⟨by omega, by omega, List.mem_append_right _ (List.mem_map.mpr ⟨c, List.mem_of_getElem? e, rfl⟩)⟩
    · cases q
  | @zero r i h1 h2 =>
    refine ⟨fun _ _ _ q => ?_, fun r' d i' j q => ?_⟩
    · cases q
    · cases q
      exact ⟨Nat.le_refl _, h2, _, List.getElem?_eq_getElem h1, Nat.zero_le _⟩
  | @step h1 h2 r d i k j X rl e1 e2 _ _ ih1 ih2 =>
    refine ⟨fun _ _ _ q => (nomatch q), fun r' d' i' j' q => ?_⟩
    cases q
    obtain ⟨a1, a2, _⟩ := ih1.ru _ _ _ _ rfl
    obtain ⟨b1, b2, _⟩ := ih2.pt _ _ _ rfl
    have := (List.getElem?_eq_some_iff.mp e2).1
    exact ⟨by omega, by omega, rl, e1, by omega⟩
  | @head h r i j rl e1 _ ih =>
    refine ⟨fun p i' j' q => ?_, fun _ _ _ _ q => (nomatch q)⟩
    cases q
    obtain ⟨a1, a2, _⟩ := ih.ru _ _ _ _ rfl
    exact ⟨a1, a2, List.mem_append_left _ (List.mem_map.mpr ⟨rl, List.mem_of_getElem? e1, rfl⟩)⟩
def univ (rs : List Rl) (t : List Nat) : List Nd :=
  ((rs.map Rl.head ++ t.map sgn).flatMap fun p => (List.range (t.length + 1)).flatMap fun i => (List.range (t.length + 1)).map fun j => Nd.pt p i j) ++
  ((List.range rs.length).flatMap fun r => (List.range 7).flatMap fun d => (List.range (t.length + 1)).flatMap fun i => (List.range (t.length + 1)).map fun j => Nd.ru r d i j)
theorem flat_len {α β : Type} {f : α → List β} {c : Nat} : ∀ {l : List α}, (∀ x ∈ l, (f x).length = c) → (l.flatMap f).length = l.length * c
  | [], _ => by simp
  | a :: l, h => by
    rw [List.flatMap_cons, List.length_append, h a (List.mem_cons_self ..), flat_len fun x hx => h x (List.mem_cons_of_mem _ hx), List.length_cons, Nat.succ_mul]
    omega
theorem univ_len {rs : List Rl} {t : List Nat} (h1 : rs.length ≤ 60) (h2 : t.length ≤ 60) : (univ rs t).length ≤ 2009340 := by
  unfold univ
  rw [List.length_append]
  have a : ((rs.map Rl.head ++ t.map sgn).flatMap fun p => (List.range (t.length + 1)).flatMap fun i => (List.range (t.length + 1)).map fun j => Nd.pt p i j).length = (rs.length + t.length) * ((t.length + 1) * (t.length + 1)) := by
    rw [flat_len (c := (t.length + 1) * (t.length + 1))]
    · rw [List.length_append, List.length_map, List.length_map]
    · intro p _
      rw [flat_len (c := t.length + 1)]
      · rw [List.length_range]
      · intro i _; rw [List.length_map, List.length_range]
  have b : ((List.range rs.length).flatMap fun r => (List.range 7).flatMap fun d => (List.range (t.length + 1)).flatMap fun i => (List.range (t.length + 1)).map fun j => Nd.ru r d i j).length = rs.length * (7 * ((t.length + 1) * (t.length + 1))) := by
    rw [flat_len (c := 7 * ((t.length + 1) * (t.length + 1)))]
    · rw [List.length_range]
    · intro r _
      rw [flat_len (c := (t.length + 1) * (t.length + 1))]
      · rw [List.length_range]
      · intro d _
        rw [flat_len (c := t.length + 1)]
        · rw [List.length_range]
        · intro i _; rw [List.length_map, List.length_range]
  rw [a, b]
  have h3 : (t.length + 1) * (t.length + 1) ≤ 61 * 61 := Nat.mul_le_mul (by omega) (by omega)
  have h4 : (rs.length + t.length) * ((t.length + 1) * (t.length + 1)) ≤ 120 * (61 * 61) := Nat.mul_le_mul (by omega) h3
  have h5 : rs.length * (7 * ((t.length + 1) * (t.length + 1))) ≤ 60 * (7 * (61 * 61)) := Nat.mul_le_mul h1 (Nat.mul_le_mul (Nat.le_refl _) h3)
  omega
theorem Wi.univ {rs : List Rl} {t : List Nat} {n : Nd} (h6 : ∀ r ∈ rs, r.parts.length ≤ 6) (w : Wi rs t n) : n ∈ univ rs t := by
  unfold Lw.univ
  cases n with
  | pt p i j =>
    obtain ⟨a, b, c⟩ := w.pt _ _ _ rfl
    refine List.mem_append_left _ (List.mem_flatMap.mpr ⟨p, c, List.mem_flatMap.mpr ⟨i, List.mem_range.mpr (by omega), List.mem_map.mpr ⟨j, List.mem_range.mpr (by omega), rfl⟩⟩⟩)
  | ru r d i j =>
    obtain ⟨a, b, rl, c, e⟩ := w.ru _ _ _ _ rfl
    have := h6 rl (List.mem_of_getElem? c)
    refine List.mem_append_right _ (List.mem_flatMap.mpr ⟨r, List.mem_range.mpr (List.getElem?_eq_some_iff.mp c).1, List.mem_flatMap.mpr ⟨d, List.mem_range.mpr (by omega), List.mem_flatMap.mpr ⟨i, List.mem_range.mpr (by omega), List.mem_map.mpr ⟨j, List.mem_range.mpr (by omega), rfl⟩⟩⟩⟩)
theorem hts_len {rs : List Rl} {t : List Nat} {F : Hts} (h6 : ∀ r ∈ rs, r.parts.length ≤ 6) (h1 : rs.length ≤ 60) (h2 : t.length ≤ 60) (nd : (F.map (·.1)).Nodup) (w : ∀ n ∈ F.map (·.1), Wi rs t n) : F.length ≤ 2009340 := by
  have := nodup_len nd fun n hn => (w n hn).univ h6
  rw [List.length_map] at this
  exact Nat.le_trans this (univ_len h1 h2)

/-! ### the chart: a dict of lists by part and place -/
def pK (q : Str × Nat) : List Key := [.inr q.1, .inl ((q.2 : Nat) : Int)]
theorem pK_inj : ∀ a b : Str × Nat, pK a = pK b → a = b := fun a b h => by
  obtain ⟨h1, h⟩ := List.cons.inj h
  obtain ⟨h2, _⟩ := List.cons.inj h
  exact Prod.ext (Sum.inr.inj h1) (inlN h2)
abbrev Kys : Type := List ((Str × Nat) × Addr)
def kysK (ks : Kys) : List (List Key × V) := ks.map fun q => (pK q.1, V.ref q.2)
structure DLs (H : Hp) (d : Addr) (ks : Kys) (C : Str → Nat → List V) : Prop where
  at_ : H d = some (.dT (kysK ks))
  nd : (ks.map (·.1)).Nodup
  nd2 : (ks.map (·.2)).Nodup
  el : ∀ p i l, lk ks (p, i) = some l → H l = some (.lst (C p i))
  no : ∀ p i, lk ks (p, i) = none → C p i = []
theorem valV_kys (ks : Kys) (q : Str × Nat) : valV (kysK ks) (pK q) = (lk ks q).map V.ref := valV_inj (g := V.ref) pK_inj ks q
theorem putK_kys {ks : Kys} {q : Str × Nat} {l : Addr} (e : lk ks q = none) : putK (kysK ks) (pK q) (.ref l) = kysK (ks ++ [(q, l)]) := putK_new (g := V.ref) pK_inj e
/-- the value put behind -/
def addC {α : Type} (C : Str → Nat → List α) (p : Str) (i : Nat) (x : α) : Str → Nat → List α := fun p' i' => if p' = p ∧ i' = i then C p' i' ++ [x] else C p' i'
theorem lk_snd {κ α : Type} [DecidableEq κ] {ks : List (κ × α)} {q q' : κ} {l : α} (nd : (ks.map (·.2)).Nodup) (h : lk ks q = some l) (h' : lk ks q' = some l) : q = q' := by
  have a := lk_mem h
  have b := lk_mem h'
  induction ks with
  | nil => cases a
  | cons p ks ih =>
    rw [List.map_cons, List.nodup_cons] at nd
    rcases List.mem_cons.mp a with a | a <;> rcases List.mem_cons.mp b with b | b
    · rw [← a] at b; exact (Prod.mk.inj b).1.symm
    · exact absurd (List.mem_map.mpr ⟨_, b, by rw [← a]⟩) nd.1
    · exact absurd (List.mem_map.mpr ⟨_, a, by rw [← b]⟩) nd.1
    · have l1 : lk ks q = some l := by
        unfold lk at h
        by_cases c : p.1 = q
        · rw [if_pos c] at h
          exact absurd (List.mem_map.mpr ⟨_, a, (Option.some.inj h).symm⟩) nd.1
        · rw [if_neg c] at h; exact h
      have l2 : lk ks q' = some l := by
        unfold lk at h'
        by_cases c : p.1 = q'
        · rw [if_pos c] at h'
          exact absurd (List.mem_map.mpr ⟨_, b, (Option.some.inj h').symm⟩) nd.1
        · rw [if_neg c] at h'; exact h'
      exact ih nd.2 l1 l2 a b
theorem lk_app_ne {κ α : Type} [DecidableEq κ] {ks : List (κ × α)} {q : κ} {l : α} (e : lk ks q = none) (q' : κ) : lk (ks ++ [(q, l)]) q' = if q' = q then some l else lk ks q' := lk_app ks q l q' e
theorem DLs.put_old {H H' : Hp} {d : Addr} {ks : Kys} {C : Str → Nat → List V} {p : Str} {i : Nat} {l : Addr} {x : V} (h : DLs H d ks C) (e : lk ks (p, i) = some l) (hl : H' l = some (.lst (C p i ++ [x]))) (k : ∀ b, b ≠ l → H' b = H b) : DLs H' d ks (addC C p i x) := by
  have dl : d ≠ l := fun z => by have := h.at_; rw [z, h.el p i l e] at this; cases this
  refine ⟨(k d dl).trans h.at_, h.nd, h.nd2, fun p' i' l' e' => ?_, fun p' i' e' => ?_⟩
  · unfold addC
    by_cases c : p' = p ∧ i' = i
    · obtain ⟨rfl, rfl⟩ := c
      rw [if_pos ⟨rfl, rfl⟩]
      rw [e] at e'
      cases e'
      exact hl
    · rw [if_neg c, k l' fun z => c (by have := lk_snd h.nd2 e' (z ▸ e); exact ⟨(Prod.mk.inj this).1, (Prod.mk.inj this).2⟩)]
      exact h.el p' i' l' e'
  · unfold addC
    rw [if_neg fun c => by rw [c.1, c.2, e] at e'; cases e']
    exact h.no p' i' e'
theorem DLs.put_new {H H' : Hp} {d : Addr} {ks : Kys} {C : Str → Nat → List V} {p : Str} {i : Nat} {l : Addr} {x : V} (h : DLs H d ks C) (e : lk ks (p, i) = none) (nl : H l = none) (hd : H' d = some (.dT (kysK (ks ++ [((p, i), l)])))) (hl : H' l = some (.lst [x])) (k : ∀ b o, H b = some o → b ≠ l → b ≠ d → H' b = some o) : DLs H' d (ks ++ [((p, i), l)]) (addC C p i x) := by
  have nin : l ∉ ks.map (·.2) := fun m => by
    obtain ⟨q, hq, rfl⟩ := List.mem_map.mp m
    have := h.el q.1.1 q.1.2 q.2 (lk_of h.nd hq)
    rw [nl] at this; cases this
  refine ⟨hd, ?_, ?_, fun p' i' l' e' => ?_, fun p' i' e' => ?_⟩
  · rw [List.map_append]
    exact List.nodup_append.mpr ⟨h.nd, by simp, fun a ha b hb => by
      rw [List.mem_singleton.mp hb]
      intro z
      rw [z] at ha
      exact lk_none.mp e ha⟩
  · rw [List.map_append]
    exact List.nodup_append.mpr ⟨h.nd2, by simp, fun a ha b hb => by
      rw [List.mem_singleton.mp hb]
      intro z
      rw [z] at ha
      exact nin ha⟩
  · rw [lk_app_ne e] at e'
    unfold addC
    by_cases c : p' = p ∧ i' = i
    · obtain ⟨rfl, rfl⟩ := c
      rw [if_pos rfl] at e'
      cases e'
      rw [if_pos ⟨rfl, rfl⟩, h.no p' i' e]
      exact hl
    · rw [if_neg fun z => c ⟨(Prod.mk.inj z).1, (Prod.mk.inj z).2⟩] at e'
      have q := h.el p' i' l' e'
      rw [if_neg c]
      exact k l' _ q (fun z => by rw [z, nl] at q; cases q) fun z => by rw [z, h.at_] at q; cases q
  · rw [lk_app_ne e] at e'
    unfold addC
    by_cases c : p' = p ∧ i' = i
    · rw [if_pos (by rw [c.1, c.2])] at e'; cases e'
    · rw [if_neg fun z => c ⟨(Prod.mk.inj z).1, (Prod.mk.inj z).2⟩] at e'
      rw [if_neg c]
      exact h.no p' i' e'
theorem DLs.keep {H H' : Hp} {d : Addr} {ks : Kys} {C : Str → Nat → List V} (h : DLs H d ks C) (hd : H' d = H d) (k : ∀ l ∈ ks.map (·.2), H' l = H l) : DLs H' d ks C :=
  ⟨hd.trans h.at_, h.nd, h.nd2, fun p i l e => (k l (List.mem_map.mpr ⟨_, lk_mem e, rfl⟩)).trans (h.el p i l e), h.no⟩
/-- a row of parts that waits: rule, how many, from where -/
def TrAt (H : Hp) (v : V) (q : Nat × Nat × Nat) : Prop := ∃ t, v = .ref t ∧ H t = some (.tup [.int (q.1 : Nat), .int (q.2.1 : Nat), .int (q.2.2 : Nat)])
theorem TrAt.ts {H H' : Hp} (s : TS H H') {v : V} {q : Nat × Nat × Nat} (h : TrAt H v q) : TrAt H' v q := by
  obtain ⟨t, e, k⟩ := h
  exact ⟨t, e, s _ _ k⟩
structure ChS where
  dx : Addr
  a : Addr
  dh : Addr
  q : Addr
  g : Addr
  de : Addr
  db : Addr
  L : Nat
  F : Hts
  Q : List Nd
  G : List Nd
  ke : Kys
  kb : Kys
  E : Str → Nat → List Nat
  B : Str → Nat → List (Nat × Nat × Nat)
def chF (s : ChS) : List (Str × V) := [(Str.ofString "rules", .ref s.a), (Str.ofString "heights", .ref s.dh), (Str.ofString "level", .int (s.L : Nat)), (Str.ofString "queue", .ref s.q), (Str.ofString "higher", .ref s.g), (Str.ofString "ends", .ref s.de), (Str.ofString "behind", .ref s.db)]
def intsV (l : List Nat) : List V := l.map fun k => V.int ((k : Nat) : Int)
structure Ch (H0 : Hp) (C : Addr) (rs : List Rl) (vs : List V) (H : Hp) (c : Addr) (s : ChS) : Prop where
  sm : Same H0 H
  rl : H0 s.a = some (.lst vs)
  ra : RulesAt H0 vs rs
  ins : H c = some (.ins C s.dx (chF s))
  own : H s.dx = some (.own c)
  hF : H s.dh = some (.dT (hK s.F))
  hQ : ∃ qv, H s.q = some (.lst qv) ∧ All2 (NdAt H) qv s.Q
  hG : ∃ gv, H s.g = some (.lst gv) ∧ All2 (NdAt H) gv s.G
  hE : DLs H s.de s.ke (fun p i => intsV (s.E p i))
  hB : ∃ bv, DLs H s.db s.kb bv ∧ ∀ p i, All2 (TrAt H) (bv p i) (s.B p i)
  qg : s.q ≠ s.g
  ql : s.q ∉ s.ke.map (·.2) ∧ s.q ∉ s.kb.map (·.2) ∧ s.g ∉ s.ke.map (·.2) ∧ s.g ∉ s.kb.map (·.2)
  eb : ∀ l ∈ s.ke.map (·.2), l ∉ s.kb.map (·.2)
  dd : s.dh ≠ s.de ∧ s.dh ≠ s.db ∧ s.de ≠ s.db
  nw : H0 c = none ∧ H0 s.dx = none ∧ H0 s.dh = none ∧ H0 s.q = none ∧ H0 s.g = none ∧ H0 s.de = none ∧ H0 s.db = none ∧ (∀ l ∈ s.ke.map (·.2), H0 l = none) ∧ ∀ l ∈ s.kb.map (·.2), H0 l = none
/-- a node is offered -/
def offS (s : ChS) (n : Nd) : ChS := if (lk s.F n).isSome = true then s else { s with F := s.F ++ [(n, s.L)], Q := s.Q ++ [n] }
theorem DLs.con {H : Hp} {d : Addr} {ks : Kys} {C : Str → Nat → List V} (h : DLs H d ks C) {l : Addr} (m : l ∈ ks.map (·.2)) : ∃ xs, H l = some (.lst xs) := by
  obtain ⟨q, hq, rfl⟩ := List.mem_map.mp m
  exact ⟨_, h.el q.1.1 q.1.2 q.2 (lk_of h.nd hq)⟩
def Own (s : ChS) (c b : Addr) : Prop := b = c ∨ b = s.dx ∨ b = s.dh ∨ b = s.q ∨ b = s.g ∨ b = s.de ∨ b = s.db ∨ b ∈ s.ke.map (·.2) ∨ b ∈ s.kb.map (·.2)
section
variable {H0 : Hp} {C : Addr} {rs : List Rl} {vs : List V} {H H' : Hp} {c : Addr} {s : ChS}
theorem Ch.not_tup (h : Ch H0 C rs vs H c s) {b : Addr} {xs : List V} (e : H b = some (.tup xs)) : ¬ Own s c b := by
  rintro (rfl | rfl | rfl | rfl | rfl | rfl | rfl | m | m)
  · rw [h.ins] at e; cases e
  · rw [h.own] at e; cases e
  · rw [h.hF] at e; cases e
  · obtain ⟨_, q, _⟩ := h.hQ; rw [q] at e; cases e
  · obtain ⟨_, q, _⟩ := h.hG; rw [q] at e; cases e
  · rw [h.hE.at_] at e; cases e
  · obtain ⟨_, q, _⟩ := h.hB; rw [q.at_] at e; cases e
  · obtain ⟨_, q⟩ := h.hE.con m; rw [q] at e; cases e
  · obtain ⟨_, q, _⟩ := h.hB
    obtain ⟨_, q⟩ := q.con m; rw [q] at e; cases e
theorem Ch.not_old (h : Ch H0 C rs vs H c s) {b : Addr} {o : HO} (e : H0 b = some o) : ¬ Own s c b := by
  obtain ⟨n1, n2, n3, n4, n5, n6, n7, n8, n9⟩ := h.nw
  rintro (rfl | rfl | rfl | rfl | rfl | rfl | rfl | m | m)
  · rw [n1] at e; cases e
  · rw [n2] at e; cases e
  · rw [n3] at e; cases e
  · rw [n4] at e; cases e
  · rw [n5] at e; cases e
  · rw [n6] at e; cases e
  · rw [n7] at e; cases e
  · rw [n8 _ m] at e; cases e
  · rw [n9 _ m] at e; cases e
theorem Ch.frame (h : Ch H0 C rs vs H c s) (k : ∀ b o, H b = some o → ¬ Own s c b → H' b = some o) : TS H H' ∧ Same H0 H' :=
  ⟨fun b xs e => k b _ e (h.not_tup e), fun b o e => k b o (h.sm b o e) (h.not_old e)⟩
theorem _root_.Lw.DLs.more {H H' : Hp} {d : Addr} {ks : Kys} {C : Str → Nat → List V} (s : Same H H') (h : DLs H d ks C) : DLs H' d ks C := ⟨s _ _ h.at_, h.nd, h.nd2, fun p i l e => s _ _ (h.el p i l e), h.no⟩
theorem Ch.more (x : Same H H') (h : Ch H0 C rs vs H c s) : Ch H0 C rs vs H' c s := by
  obtain ⟨qv0, q0, aq0⟩ := h.hQ
  obtain ⟨gv0, g0, ag0⟩ := h.hG
  obtain ⟨bv, hB, aB⟩ := h.hB
  exact ⟨h.sm.trans x, h.rl, h.ra, x _ _ h.ins, x _ _ h.own, x _ _ h.hF, ⟨qv0, x _ _ q0, aq0.mono fun _ _ q => q.ts (Same.ts x)⟩, ⟨gv0, x _ _ g0, ag0.mono fun _ _ q => q.ts (Same.ts x)⟩, h.hE.more x, ⟨bv, hB.more x, fun p i => (aB p i).mono fun _ _ q => q.ts (Same.ts x)⟩, h.qg, h.ql, h.eb, h.dd, h.nw⟩
/-- heights and queue change -/
theorem Ch.chgQ (h : Ch H0 C rs vs H c s) {F' : Hts} {Q' : List Nd} (hF : H' s.dh = some (.dT (hK F'))) (hQ : ∃ qv, H' s.q = some (.lst qv) ∧ All2 (NdAt H) qv Q') (k : ∀ b, b ≠ s.dh → b ≠ s.q → H' b = H b) : Ch H0 C rs vs H' c { s with F := F', Q := Q' } := by
  obtain ⟨qv0, q0, _⟩ := h.hQ
  obtain ⟨gv0, g0, ag0⟩ := h.hG
  obtain ⟨bv, hB, aB⟩ := h.hB
  obtain ⟨ts, sm⟩ := h.frame (H' := H') fun b o e n => (k b (fun z => n (.inr (.inr (.inl z)))) fun z => n (.inr (.inr (.inr (.inl z))))).trans e
  have kc : ∀ b xs, H b = some (.lst xs) → b ≠ s.q → H' b = H b := fun b xs e n => k b (fun z => by rw [z, h.hF] at e; cases e) n
  obtain ⟨qv, q1, q2⟩ := hQ
  refine ⟨sm, h.rl, h.ra, ?_, ?_, hF, ⟨qv, q1, q2.mono fun _ _ x => x.ts ts⟩, ⟨gv0, ?_, ag0.mono fun _ _ x => x.ts ts⟩, h.hE.keep ?_ ?_, ⟨bv, hB.keep ?_ ?_, fun p i => (aB p i).mono fun _ _ x => x.ts ts⟩, h.qg, h.ql, h.eb, h.dd, h.nw⟩
  · rw [k c (fun z => by have := h.ins; rw [z, h.hF] at this; cases this) fun z => by have := h.ins; rw [z, q0] at this; cases this]; exact h.ins
  · show H' s.dx = _
    rw [k s.dx (fun z => by have := h.own; rw [z, h.hF] at this; cases this) fun z => by have := h.own; rw [z, q0] at this; cases this]; exact h.own
  · exact (kc _ _ g0 h.qg.symm).trans g0
  · exact k _ h.dd.1.symm fun z => by have := h.hE.at_; rw [z, q0] at this; cases this
  · intro l m
    obtain ⟨xs, e⟩ := h.hE.con m
    exact kc l xs e fun z => h.ql.1 (z ▸ m)
  · exact k _ h.dd.2.1.symm fun z => by have := hB.at_; rw [z, q0] at this; cases this
  · intro l m
    obtain ⟨xs, e⟩ := hB.con m
    exact kc l xs e fun z => h.ql.2.1 (z ▸ m)
/-- the list of heads of the next level changes -/
theorem Ch.chgG (h : Ch H0 C rs vs H c s) {G' : List Nd} (hG : ∃ gv, H' s.g = some (.lst gv) ∧ All2 (NdAt H) gv G') (k : ∀ b, b ≠ s.g → H' b = H b) : Ch H0 C rs vs H' c { s with G := G' } := by
  obtain ⟨qv0, q0, aq0⟩ := h.hQ
  obtain ⟨gv0, g0, ag0⟩ := h.hG
  obtain ⟨bv, hB, aB⟩ := h.hB
  obtain ⟨ts, sm⟩ := h.frame (H' := H') fun b o e n => (k b fun z => n (.inr (.inr (.inr (.inr (.inl z)))))).trans e
  obtain ⟨gv, q1, q2⟩ := hG
  have kd : ∀ b o, H b = some o → (∀ xs, o ≠ .lst xs) → H' b = H b := fun b o e n => k b fun z => by rw [z, g0] at e; cases e; exact n _ rfl
  refine ⟨sm, h.rl, h.ra, (kd _ _ h.ins fun _ z => nomatch z).trans h.ins, (kd _ _ h.own fun _ z => nomatch z).trans h.own, (kd _ _ h.hF fun _ z => nomatch z).trans h.hF, ⟨qv0, (k _ h.qg).trans q0, aq0.mono fun _ _ x => x.ts ts⟩, ⟨gv, q1, q2.mono fun _ _ x => x.ts ts⟩, h.hE.keep (kd _ _ h.hE.at_ fun _ z => nomatch z) ?_, ⟨bv, hB.keep (kd _ _ hB.at_ fun _ z => nomatch z) ?_, fun p i => (aB p i).mono fun _ _ x => x.ts ts⟩, h.qg, h.ql, h.eb, h.dd, h.nw⟩
  · intro l m
    exact k l fun z => h.ql.2.2.1 (z ▸ m)
  · intro l m
    exact k l fun z => h.ql.2.2.2 (z ▸ m)
/-- the ends of parts change: at the dict, at a list that may be new -/
theorem Ch.chgE (h : Ch H0 C rs vs H c s) {ke' : Kys} {E' : Str → Nat → List Nat} {l : Addr} (hE : DLs H' s.de ke' (fun p i => intsV (E' p i))) (hk : ∀ x ∈ ke'.map (·.2), x ∈ s.ke.map (·.2) ∨ (x = l ∧ H l = none)) (hl : l ∈ s.ke.map (·.2) ∨ H l = none) (k : ∀ b, b ≠ s.de → b ≠ l → H' b = H b) : Ch H0 C rs vs H' c { s with ke := ke', E := E' } := by
  obtain ⟨qv0, q0, aq0⟩ := h.hQ
  obtain ⟨gv0, g0, ag0⟩ := h.hG
  obtain ⟨bv, hB, aB⟩ := h.hB
  have kd : ∀ b o, H b = some o → b ≠ s.de → b ∉ s.ke.map (·.2) → H' b = some o := fun b o e n1 n2 => (k b n1 fun z => by
    rcases hl with hl | hl
    · exact n2 (z ▸ hl)
    · rw [z, hl] at e; cases e).trans e
  obtain ⟨ts, sm⟩ := h.frame (H' := H') fun b o e n => kd b o e (fun z => n (.inr (.inr (.inr (.inr (.inr (.inl z))))))) fun z => n (.inr (.inr (.inr (.inr (.inr (.inr (.inr (.inl z))))))))
  have nl : ∀ b o, H b = some o → (∀ xs, o ≠ .lst xs) → b ∉ s.ke.map (·.2) := fun b o e n m => by
    obtain ⟨xs, q⟩ := h.hE.con m
    rw [q] at e
    cases e
    exact n _ rfl
  have dE := h.hE.at_
  have nd : ∀ b o, H b = some o → (∀ xs, o ≠ .dT xs) → b ≠ s.de := fun b o e n z => by rw [z, dE] at e; cases e; exact n _ rfl
  have nk : ∀ x ∈ ke'.map (·.2), ∀ o, H x = some o → x ∈ s.ke.map (·.2) := fun x m o e => by
    rcases hk x m with q | ⟨rfl, q⟩
    · exact q
    · rw [q] at e; cases e
  refine ⟨sm, h.rl, h.ra, kd _ _ h.ins (nd _ _ h.ins fun _ z => nomatch z) (nl _ _ h.ins fun _ z => nomatch z), kd _ _ h.own (nd _ _ h.own fun _ z => nomatch z) (nl _ _ h.own fun _ z => nomatch z), kd _ _ h.hF h.dd.1 (nl _ _ h.hF fun _ z => nomatch z), ⟨qv0, kd _ _ q0 (nd _ _ q0 fun _ z => nomatch z) h.ql.1, aq0.mono fun _ _ x => x.ts ts⟩, ⟨gv0, kd _ _ g0 (nd _ _ g0 fun _ z => nomatch z) h.ql.2.2.1, ag0.mono fun _ _ x => x.ts ts⟩, hE, ⟨bv, hB.keep ((kd _ _ hB.at_ h.dd.2.2.symm (nl _ _ hB.at_ fun _ z => nomatch z)).trans hB.at_.symm) fun x m => ?_, fun p i => (aB p i).mono fun _ _ x => x.ts ts⟩, h.qg, ⟨fun m => h.ql.1 (nk _ m _ q0), h.ql.2.1, fun m => h.ql.2.2.1 (nk _ m _ g0), h.ql.2.2.2⟩, fun x m m2 => ?_, h.dd, ?_⟩
  · obtain ⟨xs, e⟩ := hB.con m
    exact (kd x _ e (nd _ _ e fun _ z => nomatch z) fun q => h.eb x q m).trans e.symm
  · obtain ⟨xs, e⟩ := hB.con m2
    exact h.eb x (nk x m _ e) m2
  · obtain ⟨n1, n2, n3, n4, n5, n6, n7, n8, n9⟩ := h.nw
    refine ⟨n1, n2, n3, n4, n5, n6, n7, fun x m => ?_, n9⟩
    rcases hk x m with q | ⟨rfl, q⟩
    · exact n8 x q
    · exact h.sm.none q
/-- the rows of parts that wait change -/
theorem Ch.chgB (h : Ch H0 C rs vs H c s) {kb' : Kys} {B' : Str → Nat → List (Nat × Nat × Nat)} {bv' : Str → Nat → List V} {l : Addr} (hB' : DLs H' s.db kb' bv') (aB' : ∀ p i, All2 (TrAt H') (bv' p i) (B' p i)) (hk : ∀ x ∈ kb'.map (·.2), x ∈ s.kb.map (·.2) ∨ (x = l ∧ H l = none)) (hl : l ∈ s.kb.map (·.2) ∨ H l = none) (k : ∀ b o, H b = some o → b ≠ s.db → b ≠ l → H' b = some o) : Ch H0 C rs vs H' c { s with kb := kb', B := B' } := by
  obtain ⟨qv0, q0, aq0⟩ := h.hQ
  obtain ⟨gv0, g0, ag0⟩ := h.hG
  obtain ⟨bv, hB, aB⟩ := h.hB
  have kd : ∀ b o, H b = some o → b ≠ s.db → b ∉ s.kb.map (·.2) → H' b = some o := fun b o e n1 n2 => k b o e n1 fun z => by
    rcases hl with hl | hl
    · exact n2 (z ▸ hl)
    · rw [z, hl] at e; cases e
  obtain ⟨ts, sm⟩ := h.frame (H' := H') fun b o e n => kd b o e (fun z => n (.inr (.inr (.inr (.inr (.inr (.inr (.inl z)))))))) fun z => n (.inr (.inr (.inr (.inr (.inr (.inr (.inr (.inr z))))))))
  have nl : ∀ b o, H b = some o → (∀ xs, o ≠ .lst xs) → b ∉ s.kb.map (·.2) := fun b o e n m => by
    obtain ⟨xs, q⟩ := hB.con m
    rw [q] at e
    cases e
    exact n _ rfl
  have dE := hB.at_
  have nd : ∀ b o, H b = some o → (∀ xs, o ≠ .dT xs) → b ≠ s.db := fun b o e n z => by rw [z, dE] at e; cases e; exact n _ rfl
  have nk : ∀ x ∈ kb'.map (·.2), ∀ o, H x = some o → x ∈ s.kb.map (·.2) := fun x m o e => by
    rcases hk x m with q | ⟨rfl, q⟩
    · exact q
    · rw [q] at e; cases e
  refine ⟨sm, h.rl, h.ra, kd _ _ h.ins (nd _ _ h.ins fun _ z => nomatch z) (nl _ _ h.ins fun _ z => nomatch z), kd _ _ h.own (nd _ _ h.own fun _ z => nomatch z) (nl _ _ h.own fun _ z => nomatch z), kd _ _ h.hF h.dd.2.1 (nl _ _ h.hF fun _ z => nomatch z), ⟨qv0, kd _ _ q0 (nd _ _ q0 fun _ z => nomatch z) h.ql.2.1, aq0.mono fun _ _ x => x.ts ts⟩, ⟨gv0, kd _ _ g0 (nd _ _ g0 fun _ z => nomatch z) h.ql.2.2.2, ag0.mono fun _ _ x => x.ts ts⟩, h.hE.keep ((kd _ _ h.hE.at_ h.dd.2.2 (nl _ _ h.hE.at_ fun _ z => nomatch z)).trans h.hE.at_.symm) (fun x m => ?_), ⟨bv', hB', aB'⟩, h.qg, ⟨h.ql.1, fun m => h.ql.2.1 (nk _ m _ q0), h.ql.2.2.1, fun m => h.ql.2.2.2 (nk _ m _ g0)⟩, fun x m m2 => ?_, h.dd, ?_⟩
  · obtain ⟨xs, e⟩ := h.hE.con m
    exact (kd x _ e (nd _ _ e fun _ z => nomatch z) fun q => h.eb x m q).trans e.symm
  · obtain ⟨xs, e⟩ := h.hE.con m
    exact h.eb x m (nk x m2 _ e)
  · obtain ⟨n1, n2, n3, n4, n5, n6, n7, n8, n9⟩ := h.nw
    refine ⟨n1, n2, n3, n4, n5, n6, n7, n8, fun x m => ?_⟩
    rcases hk x m with q | ⟨rfl, q⟩
    · exact n9 x q
    · exact h.sm.none q
end
def R_Chart_offer (K : PySem.W.Frag) (cs : Cs) : V → V → Hp → VK → XK → Prop := fun x y H Q _ => ∃ (H0 : Hp) (c : Addr) (rs : List Rl) (vs : List V) (s : ChS) (n : Nd), x = .ref c ∧ Ch H0 cs.Chart rs vs H c s ∧ NdAt H y n ∧ s.F.length ≤ 9000000 ∧ s.Q.length ≤ 9000000 ∧ ∀ H', Ch H0 cs.Chart rs vs H' c (offS s n) → (∀ b, b ≠ s.dh → b ≠ s.q → H' b = H b) → Q .non H'
section
theorem ok_Chart_offer {f : Addr} {fd : FuncData} (F : Fun K "offer" "Chart.offer" s_Chart_offer f fd) (T : Txt K mg cs) : FnOk P w K mg base (L2.CX P w) 1 f fd ["self", "node"] (sp2 (R_Chart_offer K cs)) := by
  refine F.okX sc_Chart_offer (fun vs H Q E h => sp2_len h) (fun cdv A outer s H vs Q E hr h => ⟨_, PBw (X := X_Chart_offer P w K mg base f cdv A outer s H E), ?_⟩)
  obtain ⟨a0, a1, rfl, h⟩ := h
  have icl_Chart : ClsI K cs.Chart := ⟨T.c_Chart.cl⟩
  have ifl_Chart_heights : NoA K cs.Chart "heights" := ⟨T.n_Chart_heights⟩
  have ifl_Chart_level : NoA K cs.Chart "level" := ⟨T.n_Chart_level⟩
  have ifl_Chart_queue : NoA K cs.Chart "queue" := ⟨T.n_Chart_queue⟩
  have hr' : Room 0 (X_Chart_offer P w K mg base f cdv A outer s H E).A := hr
  replace hr := hr'
  clear hr'
  obtain ⟨H0, c, rs, vs, s, n, rfl, hc, ⟨b, rfl, hb⟩, h1, h2, h⟩ := h
  have kI := hc.ins
  have kF := hc.hF
  obtain ⟨qv, kQ, aQ⟩ := hc.hQ
  have gk := DGet.t kF hb
  rw [valV_hK] at gk
  kxs_still
  refine o_dni (rm1 hr) gk ?_
  kxs_still
  cases e : lk s.F n with
  | some hh =>
    kxs_still
    have e2 : offS s n = s := by unfold offS; rw [e]; rfl
    rw [e2] at h
    exact h H hc fun _ _ _ => rfl
  | none =>
    have e2 : offS s n = { s with F := s.F ++ [(n, s.L)], Q := s.Q ++ [n] } := by unfold offS; rw [e]; rfl
    rw [e2] at h
    refine b_cons (s_asg ?_)
    kxs_still
    refine g_setT (rm1 hr) ?_
    kxs_still
    refine ⟨_, _, _, _, rfl, kF, rfl, hb, by unfold hK; rw [List.length_map]; omega, fun H1 k1 f1 => ?_⟩
    rw [putK_hK e] at k1
    have n1 : c ≠ s.dh := fun z => by rw [z, kF] at kI; cases kI
    have n2 : s.q ≠ s.dh := fun z => by rw [z, kF] at kQ; cases kQ
    have n3 : c ≠ s.q := fun z => by rw [z, kQ] at kI; cases kI
    have kI1 := (f1 c n1).trans kI
    have kQ1 := (f1 _ n2).trans kQ
    kxs_still
    refine ⟨ty_l kQ1, ?_⟩
    kxs_still
    refine m_append kQ1 (by have := aQ.len; omega) fun H2 k2 f2 => ?_
    kxs_still
    have fr : ∀ b, b ≠ s.dh → b ≠ s.q → H2 b = H b := fun b p q => (f2 b q).trans (f1 b p)
    exact h H2 (hc.chgQ ((f2 _ n2.symm).trans k1) ⟨_, k2, aQ.snoc ⟨_, rfl, hb⟩⟩ fr) fr
end
theorem md_Chart_offer (T : Txt K mg cs) : Md P w K mg base cs.Chart "offer" 1 ["self", "node"] (sp2 (R_Chart_offer K cs)) := by
  obtain ⟨f, fd, hm, F, hb⟩ := T.m_Chart_offer.ex
  exact ⟨f, fd, hm, hb, ok_Chart_offer F T⟩
def offs (s : ChS) (ns : List Nd) : ChS := ns.foldl offS s
theorem offs_snoc (s : ChS) (ns : List Nd) (n : Nd) : offs s (ns ++ [n]) = offS (offs s ns) n := by unfold offs; rw [List.foldl_append]; rfl
theorem offS_keep (s : ChS) (n : Nd) : (offS s n).dx = s.dx ∧ (offS s n).a = s.a ∧ (offS s n).dh = s.dh ∧ (offS s n).q = s.q ∧ (offS s n).g = s.g ∧ (offS s n).de = s.de ∧ (offS s n).db = s.db ∧ (offS s n).L = s.L ∧ (offS s n).G = s.G ∧ (offS s n).ke = s.ke ∧ (offS s n).kb = s.kb ∧ (offS s n).E = s.E ∧ (offS s n).B = s.B ∧ (offS s n).F.length ≤ s.F.length + 1 ∧ (offS s n).Q.length ≤ s.Q.length + 1 := by
  unfold offS
  by_cases c : (lk s.F n).isSome = true
  · rw [if_pos c]; exact ⟨rfl, rfl, rfl, rfl, rfl, rfl, rfl, rfl, rfl, rfl, rfl, rfl, rfl, by omega, by omega⟩
  · rw [if_neg c]; exact ⟨rfl, rfl, rfl, rfl, rfl, rfl, rfl, rfl, rfl, rfl, rfl, rfl, rfl, by simp, by simp⟩
theorem offs_keep (s : ChS) (ns : List Nd) : (offs s ns).dx = s.dx ∧ (offs s ns).a = s.a ∧ (offs s ns).dh = s.dh ∧ (offs s ns).q = s.q ∧ (offs s ns).g = s.g ∧ (offs s ns).de = s.de ∧ (offs s ns).db = s.db ∧ (offs s ns).L = s.L ∧ (offs s ns).G = s.G ∧ (offs s ns).ke = s.ke ∧ (offs s ns).kb = s.kb ∧ (offs s ns).E = s.E ∧ (offs s ns).B = s.B ∧ (offs s ns).F.length ≤ s.F.length + ns.length ∧ (offs s ns).Q.length ≤ s.Q.length + ns.length := by
  induction ns generalizing s with
  | nil => exact ⟨rfl, rfl, rfl, rfl, rfl, rfl, rfl, rfl, rfl, rfl, rfl, rfl, rfl, Nat.le_refl _, Nat.le_refl _⟩
  | cons n ns ih =>
    obtain ⟨a1, a2, a3, a4, a5, a6, a7, a8, a9, a10, a11, a12, a13, a14, a15⟩ := ih (offS s n)
    obtain ⟨b1, b2, b3, b4, b5, b6, b7, b8, b9, b10, b11, b12, b13, b14, b15⟩ := offS_keep s n
    have e : offs s (n :: ns) = offs (offS s n) ns := rfl
    rw [e]
    exact ⟨a1.trans b1, a2.trans b2, a3.trans b3, a4.trans b4, a5.trans b5, a6.trans b6, a7.trans b7, a8.trans b8, a9.trans b9, a10.trans b10, a11.trans b11, a12.trans b12, a13.trans b13, by simp only [List.length_cons]; omega, by simp only [List.length_cons]; omega⟩
theorem offS_E (s : ChS) (ke : Kys) (E : Str → Nat → List Nat) (n : Nd) : offS { s with ke := ke, E := E } n = { offS s n with ke := ke, E := E } := by
  unfold offS
  by_cases c : (lk s.F n).isSome = true
  · rw [if_pos c, if_pos c]
  · rw [if_neg c, if_neg c]
theorem offs_E (ke : Kys) (E : Str → Nat → List Nat) : ∀ (ns : List Nd) (s : ChS), offs { s with ke := ke, E := E } ns = { offs s ns with ke := ke, E := E }
  | [], _ => rfl
  | n :: ns, s => by
    show offs (offS { s with ke := ke, E := E } n) ns = _
    rw [offS_E, offs_E ke E ns]
    rfl
theorem offS_B (s : ChS) (kb : Kys) (B : Str → Nat → List (Nat × Nat × Nat)) (n : Nd) : offS { s with kb := kb, B := B } n = { offS s n with kb := kb, B := B } := by
  unfold offS
  by_cases c : (lk s.F n).isSome = true
  · rw [if_pos c, if_pos c]
  · rw [if_neg c, if_neg c]
theorem offs_B (kb : Kys) (B : Str → Nat → List (Nat × Nat × Nat)) : ∀ (ns : List Nd) (s : ChS), offs { s with kb := kb, B := B } ns = { offs s ns with kb := kb, B := B }
  | [], _ => rfl
  | n :: ns, s => by
    show offs (offS { s with kb := kb, B := B } n) ns = _
    rw [offS_B, offs_B kb B ns]
    rfl
theorem offs_hB {H : Hp} {s : ChS} {ns : List Nd} {bv : Str → Nat → List V} (h : DLs H (offs s ns).db (offs s ns).kb bv) : DLs H s.db s.kb bv := by
  obtain ⟨b1, b2, b3, b4, b5, b6, b7, b8, b9, b10, b11, b12, b13, b14, b15⟩ := offs_keep s ns
  rw [b7, b11] at h
  exact h
theorem intsV_add (E : Str → Nat → List Nat) (p : Str) (i j : Nat) : (fun p' i' => intsV (addC E p i j p' i')) = addC (fun p i => intsV (E p i)) p i (.int ((j : Nat) : Int)) := by
  funext p' i'
  unfold addC
  by_cases c : p' = p ∧ i' = i
  · rw [if_pos c, if_pos c]; unfold intsV; rw [List.map_append]; rfl
  · rw [if_neg c, if_neg c]
/-- the rows of parts that a part can follow, one part further -/
def nxtB (l : List (Nat × Nat × Nat)) (j : Nat) : List Nd := l.map fun q => .ru q.1 (q.2.1 + 1) q.2.2 j
def nxtE (l : List Nat) (r d i : Nat) : List Nd := l.map fun e => .ru r (d + 1) i e
def R_Chart_take_part (K : PySem.W.Frag) (cs : Cs) : V → V → V → V → Hp → VK → XK → Prop := fun x y z u H Q _ => ∃ (H0 : Hp) (c : Addr) (rs : List Rl) (vs : List V) (s : ChS) (p : Str) (i j : Nat), x = .ref c ∧ y = .str p ∧ z = .int (i : Nat) ∧ u = .int (j : Nat) ∧ Ch H0 cs.Chart rs vs H c s ∧ s.F.length ≤ 3000000 ∧ s.Q.length ≤ 3000000 ∧ s.ke.length ≤ 3000000 ∧ (s.E p i).length ≤ 3000000 ∧ (s.B p i).length ≤ 3000000 ∧
  ∀ ke' H', ke'.length ≤ s.ke.length + 1 → Ch H0 cs.Chart rs vs H' c { offs s (nxtB (s.B p i) j) with ke := ke', E := addC s.E p i j } → Q .non H'
section
set_option hygiene false in
local macro_rules | `(tactic| kpc_turns) => `(tactic| first | refine e_methV T.c_Chart.cl (md_Chart_offer T) (hr.mono (by decide)) rfl (by ki_room) rfl ?_)
theorem ok_Chart_take_part {f : Addr} {fd : FuncData} (F : Fun K "take_part" "Chart.take_part" s_Chart_take_part f fd) (T : Txt K mg cs) : FnOk P w K mg base (L2.CX P w) 2 f fd ["self", "part", "i", "j"] (sp4 (R_Chart_take_part K cs)) := by
  refine F.okX sc_Chart_take_part (fun vs H Q E h => sp4_len h) (fun cdv A outer s H vs Q E hr h => ⟨_, PBw (X := X_Chart_take_part P w K mg base f cdv A outer s H E), ?_⟩)
  obtain ⟨a0, a1, a2, a3, rfl, h⟩ := h
  have icl_Chart : ClsI K cs.Chart := ⟨T.c_Chart.cl⟩
  have ifl_Chart_behind : NoA K cs.Chart "behind" := ⟨T.n_Chart_behind⟩
  have ifl_Chart_ends : NoA K cs.Chart "ends" := ⟨T.n_Chart_ends⟩
  have hr' : Room 1 (X_Chart_take_part P w K mg base f cdv A outer s H E).A := hr
  replace hr := hr'
  clear hr'
  obtain ⟨H0, c, rs, vs, s, p, i, j, rfl, rfl, rfl, rfl, hc, h1, h2, h3, h4, h5, h⟩ := h
  have kI := hc.ins
  have kE := hc.hE.at_
  refine b_cons (sMono (fun σ' H' => ∃ ke', σ' = [some (.ref c), some (.str p), some (.int (i : Nat)), some (.int (j : Nat)), none, none, none] ∧ ke'.length ≤ s.ke.length + 1 ∧ Ch H0 cs.Chart rs vs H' c { s with ke := ke', E := addC s.E p i j }) (s_expr (e_append ?_)) ?_)
  · refine e_dsetdT (rm1 hr) ?_
    kxs_still
    refine ⟨.inr ⟨_, .inl kE⟩, ?_⟩
    kxs_still
    intro t1 H1 s1 n1 k1 f1
    kxs_still
    intro l2 H2 s2 n2 k2 f2
    have s12 := s1.trans s2
    have hc2 := hc.more s12
    refine ⟨kysK s.ke, pK (p, i), t1, s12 _ _ kE, rfl, s2 _ _ k1, by unfold kysK; rw [List.length_map]; omega, fun v hv => ?_, fun hn H4 k4 f4 => ?_⟩
    · rw [valV_kys] at hv
      obtain ⟨l, hl, rfl⟩ := Option.map_eq_some_iff.mp hv
      have kl := hc2.hE.el p i l hl
      refine ⟨ty_l kl, ?_⟩
      kxs_still
      refine m_append kl (by unfold intsV; rw [List.length_map]; omega) fun H3 k3 f3 => ?_
      have lm : l ∈ s.ke.map (·.2) := List.mem_map.mpr ⟨_, lk_mem hl, rfl⟩
      exact ⟨s.ke, rfl, Nat.le_succ _, hc2.chgE (l := l) (by rw [intsV_add]; exact hc2.hE.put_old hl k3 f3) (fun x m => .inl m) (.inl lm) fun b _ q => f3 b q⟩
    · rw [valV_kys] at hn
      have hn : lk s.ke (p, i) = none := by cases e : lk s.ke (p, i) with
        | none => rfl
        | some l => rw [e] at hn; cases hn
      rw [putK_kys hn] at k4
      have nd : l2 ≠ s.de := fun z => by have := hc2.hE.at_; rw [← z, k2] at this; cases this
      have kl := (f4 l2 nd).trans k2
      refine ⟨ty_l kl, ?_⟩
      kxs_still
      refine m_append kl (by decide) fun H3 k3 f3 => ?_
      have nl2 : H l2 = none := s1.none n2
      have hc1 := hc.more s1
      refine ⟨s.ke ++ [((p, i), l2)], rfl, by rw [List.length_append]; exact Nat.le_refl _, hc1.chgE (l := l2) (by rw [intsV_add]; exact hc1.hE.put_new hn n2 ((f3 _ nd.symm).trans k4) k3 fun b o e q1 q2 => ((f3 b q1).trans ((f4 b q2).trans (f2 b q1))).trans e) (fun x m => ?_) (.inr n2) fun b q1 q2 => (f3 b q2).trans ((f4 b q1).trans (f2 b q2))⟩
      rw [List.map_append] at m
      rcases List.mem_append.mp m with m | m
      · exact .inl m
      · exact .inr ⟨List.mem_singleton.mp m, n2⟩
  rintro σ' H1 ⟨ke', rfl, hke, hc1⟩
  have kI1 := hc1.ins
  obtain ⟨bv, hB, aB⟩ := hc1.hB
  have kB := hB.at_
  refine b_cons (s_for (j_list ?_))
  refine e_dget2 (rm1 hr) ?_
  kxs_still
  refine ⟨.inr ⟨_, .inl kB⟩, ?_⟩
  kxs_still
  intro t2 H2 s2 n2 k2 f2
  kxs_still
  intro l3 H3 s3 n3 k3 f3
  have s13 := s2.trans s3
  rw [show ([V.str p, V.int ((i : Nat) : Int)] : List V) = (pK (p, i)).map kV from rfl] at k2
  have gk := DGet.t (k := pK (p, i)) (s13 _ _ kB) (s3 _ _ k2)
  rw [valV_kys] at gk
  refine ⟨_, gk, ?_⟩
  have hc3 := hc1.more s13
  obtain ⟨lb, elb, klb⟩ : ∃ lb, ((lk s.kb (p, i)).map V.ref).getD (.ref l3) = .ref lb ∧ H3 lb = some (.lst (bv p i)) := by
    cases e : lk s.kb (p, i) with
    | none => exact ⟨l3, rfl, by rw [hB.no p i e]; exact k3⟩
    | some l => exact ⟨l, rfl, s13 _ _ (hB.el p i l e)⟩
  rw [elb]
  have aB3 : All2 (TrAt H3) (bv p i) (s.B p i) := (aB p i).mono fun _ _ q => q.ts (Same.ts s13)
  have hbl := aB3.len
  kxs_still
  refine ⟨⟨_, SqL.of klb⟩, _, _, _, walk_list (xs := bv p i), fun m σ' H' => ∃ v4 v5 v6, σ' = [some (.ref c), some (.str p), some (.int (i : Nat)), some (.int (j : Nat)), v4, v5, v6] ∧ Ch H0 cs.Chart rs vs H' c { offs s (nxtB ((s.B p i).take m) j) with ke := ke', E := addC s.E p i j } ∧ H' lb = some (.lst (bv p i)) ∧ TS H3 H', ⟨none, none, none, rfl, hc3, klb, TS.refl _⟩, fun m σ' H' _ ⟨_, _, _, _, _, k, _⟩ => SqL.of k, ?_, ?_⟩
  · rintro m x σ' H' H4 hm ⟨v4, v5, v6, rfl, hc4, kl4, ts4⟩ ⟨rfl, hx⟩
    obtain ⟨⟨r, d, b⟩, hb, ⟨tt, rfl, kt⟩⟩ := aB3.get hx
    have kt4 := ts4 _ _ kt
    have kI4 := hc4.ins
    kxs_still
    intro t5 H5 s5 n5 k5 f5
    have ho := offs_keep s (nxtB ((s.B p i).take m) j)
    have hl5 : (nxtB ((s.B p i).take m) j).length ≤ 3000000 := by unfold nxtB; rw [List.length_map, List.length_take]; omega
    have hc5 := hc4.more s5
    kxs_still
    refine ⟨H0, c, rs, vs, _, .ru r (d + 1) b j, rfl, hc5, ⟨t5, rfl, k5⟩, by show (offs s _).F.length ≤ _; omega, by show (offs s _).Q.length ≤ _; omega, fun H6 hc6 f6 => ?_⟩
    rw [offS_E, ← offs_snoc] at hc6
    have e6 : nxtB ((s.B p i).take m) j ++ [Nd.ru r (d + 1) b j] = nxtB ((s.B p i).take (m + 1)) j := by
      unfold nxtB
      rw [take_snoc hb, List.map_append]
      rfl
    rw [e6] at hc6
    have ts6 : TS H5 H6 := fun x xs e => (f6 x (fun z => hc5.not_tup e (.inr (.inr (.inl z)))) fun z => hc5.not_tup e (.inr (.inr (.inr (.inl z))))).trans e
    kxs_still
    refine ⟨_, _, _, rfl, hc6, ?_, ts4.trans ((Same.ts s5).trans ts6)⟩
    have hFq := hc5.hF
    obtain ⟨qv, hQq, _⟩ := hc5.hQ
    rw [f6 lb (fun z => by rw [← z, s5 _ _ kl4] at hFq; cases hFq) fun z => ?_]
    · exact s5 _ _ kl4
    · have z : lb = s.q := z.trans ho.2.2.2.1
      cases e : lk s.kb (p, i) with
      | none =>
        rw [e] at elb
        have : lb = l3 := (V.ref.inj elb).symm
        have nq : H1 s.q = none := s2.none (by rw [← z, this]; exact n3)
        obtain ⟨_, q1, _⟩ := hc1.hQ
        have q1 : H1 s.q = _ := q1
        rw [nq] at q1
        cases q1
      | some l =>
        rw [e] at elb
        have : lb = l := (V.ref.inj elb).symm
        exact hc.ql.2.1 (by rw [← z, this]; exact List.mem_map.mpr ⟨_, lk_mem e, rfl⟩)
  rintro σ' H4 ⟨v4, v5, v6, rfl, hc4, _, _⟩
  rw [List.take_of_length_le (by omega)] at hc4
  kxs_still
  exact h ke' H4 hke hc4
end
theorem md_Chart_take_part (T : Txt K mg cs) : Md P w K mg base cs.Chart "take_part" 2 ["self", "part", "i", "j"] (sp4 (R_Chart_take_part K cs)) := by
  obtain ⟨f, fd, hm, F, hb⟩ := T.m_Chart_take_part.ex
  exact ⟨f, fd, hm, hb, ok_Chart_take_part F T⟩
def R_Chart_take_parts (K : PySem.W.Frag) (cs : Cs) : V → V → V → V → V → Hp → VK → XK → Prop := fun x y z u v H Q _ => ∃ (H0 : Hp) (c : Addr) (rs : List Rl) (vs : List V) (s : ChS) (r d i j : Nat) (rl : Rl), x = .ref c ∧ y = .int (r : Nat) ∧ z = .int (d : Nat) ∧ u = .int (i : Nat) ∧ v = .int (j : Nat) ∧ Ch H0 cs.Chart rs vs H c s ∧ s.F.length ≤ 3000000 ∧ s.Q.length ≤ 3000000 ∧ s.kb.length ≤ 3000000 ∧ s.G.length ≤ 3000000 ∧ rs[r]? = some rl ∧ d ≤ rl.parts.length ∧ rl.parts.length ≤ 6 ∧
  (d = rl.parts.length → ∀ H', Ch H0 cs.Chart rs vs H' c { s with G := s.G ++ [.pt rl.head i j] } → Q .non H') ∧
  ∀ X, rl.parts[d]? = some X → (s.E X j).length ≤ 3000000 ∧ (s.B X j).length ≤ 3000000 ∧ ∀ kb' H', kb'.length ≤ s.kb.length + 1 → Ch H0 cs.Chart rs vs H' c { offs s (nxtE (s.E X j) r d i) with kb := kb', B := addC s.B X j (r, d, i) } → Q .non H'
section
set_option hygiene false in
local macro_rules | `(tactic| kpc_turns) => `(tactic| first | refine e_methV T.c_Chart.cl (md_Chart_offer T) (hr.mono (by decide)) rfl (by ki_room) rfl ?_)
theorem ok_Chart_take_parts {f : Addr} {fd : FuncData} (F : Fun K "take_parts" "Chart.take_parts" s_Chart_take_parts f fd) (T : Txt K mg cs) : FnOk P w K mg base (L2.CX P w) 2 f fd ["self", "r", "d", "i", "j"] (sp5 (R_Chart_take_parts K cs)) := by
  refine F.okX sc_Chart_take_parts (fun vs H Q E h => sp5_len h) (fun cdv A outer s H vs Q E hr h => ⟨_, PBw (X := X_Chart_take_parts P w K mg base f cdv A outer s H E), ?_⟩)
  obtain ⟨a0, a1, a2, a3, a4, rfl, h⟩ := h
  have ib_len := T.b_len
  have icl_Chart : ClsI K cs.Chart := ⟨T.c_Chart.cl⟩
  have icl_Wood : ClsI K cs.Wood := ⟨T.c_Wood.cl⟩
  have ifl_Chart_behind : NoA K cs.Chart "behind" := ⟨T.n_Chart_behind⟩
  have ifl_Chart_ends : NoA K cs.Chart "ends" := ⟨T.n_Chart_ends⟩
  have ifl_Chart_higher : NoA K cs.Chart "higher" := ⟨T.n_Chart_higher⟩
  have ifl_Chart_rules : NoA K cs.Chart "rules" := ⟨T.n_Chart_rules⟩
  have ifl_Wood_rules : NoA K cs.Wood "rules" := ⟨T.n_Wood_rules⟩
  have hr' : Room 1 (X_Chart_take_parts P w K mg base f cdv A outer s H E).A := hr
  replace hr := hr'
  clear hr'
  obtain ⟨H0, c, rs, vs, s, r, d, i, j, rl, rfl, rfl, rfl, rfl, rfl, hc, h1, h2, h3, h4, hr1, hd, h6, hA, hB0⟩ := h
  have kI := hc.ins
  obtain ⟨ra, rb, hv, hvk, e1, e2⟩ := hc.ra.at' hr1
  have kr := hc.sm _ _ hc.rl
  have e1 := hc.sm _ _ e1
  have e2 := hc.sm _ _ e2
  kxs_still
  refine iteD (fun hdl => ?_) fun hdl => ?_
  · have hdl : d = rl.parts.length := by rw [List.length_map] at hdl; omega
    obtain ⟨gv, kG, aG⟩ := hc.hG
    kxs_still
    refine ⟨ty_l kG, ?_⟩
    kxs_still
    intro t1 H1 s1 n1 k1 f1
    kxs_still
    have hc1 := hc.more s1
    refine m_append (s1 _ _ kG) (by have := aG.len; omega) fun H2 k2 f2 => ?_
    kxs_still
    exact hA hdl H2 (hc1.chgG ⟨_, k2, (aG.mono fun _ _ q => q.ts (Same.ts s1)).snoc ⟨t1, rfl, k1⟩⟩ fun b q => f2 b q)
  have hdl : d < rl.parts.length := by rw [List.length_map] at hdl; omega
  obtain ⟨X, hX⟩ : ∃ X, rl.parts[d]? = some X := ⟨_, List.getElem?_eq_getElem hdl⟩
  obtain ⟨hE1, hB1, h⟩ := hB0 X hX
  have hXk : atI (rl.parts.map V.str) (d : Int) = some (.str X) := atI_nat (Int.natCast_nonneg d) (by rw [Int.toNat_natCast, List.getElem?_map, hX]; rfl)
  obtain ⟨bv, hBd, aB⟩ := hc.hB
  have kB := hBd.at_
  refine b_nil ?_
  refine b_cons (sMono (fun σ' H' => ∃ kb', σ' = [some (.ref c), some (.int (r : Nat)), some (.int (d : Nat)), some (.int (i : Nat)), some (.int (j : Nat)), some (.str rl.head), some (.ref rb), some (.int rl.worth), none] ∧ kb'.length ≤ s.kb.length + 1 ∧ Ch H0 cs.Chart rs vs H' c { s with kb := kb', B := addC s.B X j (r, d, i) }) (s_expr (e_append ?_)) ?_)
  · refine e_dsetdT (rm1 hr) ?_
    kxs_still
    refine ⟨.inr ⟨_, .inl kB⟩, ?_⟩
    kxs_still
    intro t1 H1 s1 n1 k1 f1
    kxs_still
    intro l2 H2 s2 n2 k2 f2
    have s12 := s1.trans s2
    have hc2 := hc.more s12
    have hB2 := hBd.more s12
    have aB2 : ∀ p i, All2 (TrAt H2) (bv p i) (s.B p i) := fun p i => (aB p i).mono fun _ _ q => q.ts (Same.ts s12)
    have kI2 := hc2.ins
    refine ⟨kysK s.kb, pK (X, j), t1, s12 _ _ kB, rfl, s2 _ _ k1, by unfold kysK; rw [List.length_map]; omega, fun v hv => ?_, fun hn H4 k4 f4 => ?_⟩
    · rw [valV_kys] at hv
      obtain ⟨l, hl, rfl⟩ := Option.map_eq_some_iff.mp hv
      have kl := hB2.el X j l hl
      refine ⟨ty_l kl, ?_⟩
      kxs_still
      intro t3 H3 s3 n3 k3 f3
      kxs_still
      have hc3 := hc2.more s3
      have hB3 := hB2.more s3
      have kl3 := s3 _ _ kl
      refine m_append kl3 (by have := (aB2 X j).len; omega) fun H5 k5 f5 => ?_
      have lm : l ∈ s.kb.map (·.2) := List.mem_map.mpr ⟨_, lk_mem hl, rfl⟩
      have ts5 : TS H3 H5 := TS.butL kl3 f5
      refine ⟨s.kb, rfl, Nat.le_succ _, hc3.chgB (l := l) (hB3.put_old hl k5 f5) (fun p' i' => ?_) (fun x m => .inl m) (.inl lm) fun b o e _ q => (f5 b q).trans e⟩
      unfold addC
      have a5 : All2 (TrAt H5) (bv p' i') (s.B p' i') := (aB2 p' i').mono fun _ _ q => q.ts ((Same.ts s3).trans ts5)
      by_cases c' : p' = X ∧ i' = j
      · rw [if_pos c', if_pos c']
        exact a5.snoc ⟨t3, rfl, ts5 _ _ k3⟩
      · rw [if_neg c', if_neg c']
        exact a5
    · rw [valV_kys] at hn
      have hn : lk s.kb (X, j) = none := by cases e : lk s.kb (X, j) with
        | none => rfl
        | some l => rw [e] at hn; cases hn
      rw [putK_kys hn] at k4
      have nd : l2 ≠ s.db := fun z => by have := hB2.at_; rw [← z, k2] at this; cases this
      have kl := (f4 l2 nd).trans k2
      have hc1 := hc.more s1
      have hB1' := hBd.more s1
      have nI : c ≠ s.db := fun z => by have := hc2.ins; rw [z, hB2.at_] at this; cases this
      have kI4 := (f4 c nI).trans kI2
      refine ⟨ty_l kl, ?_⟩
      kxs_still
      intro t3 H3 s3 n3 k3 f3
      kxs_still
      have kl3 := s3 _ _ kl
      refine m_append kl3 (by decide) fun H5 k5 f5 => ?_
      have ts4 : TS H2 H4 := TS.but hB2.at_ (fun _ z => nomatch z) f4
      have ts5 : TS H3 H5 := TS.butL kl3 f5
      have ts15 : TS H1 H5 := (Same.ts s2).trans (ts4.trans ((Same.ts s3).trans ts5))
      have n4d : s.db ≠ l2 := nd.symm
      have k5d : H5 s.db = some (.dT (kysK (s.kb ++ [((X, j), l2)]))) := (f5 _ n4d).trans (s3 _ _ k4)
      have fr : ∀ b o, H1 b = some o → b ≠ l2 → b ≠ s.db → H5 b = some o := fun b o e q1 q2 => (f5 b q1).trans (s3 _ _ ((f4 b q2).trans ((f2 b q1).trans e)))
      refine ⟨s.kb ++ [((X, j), l2)], rfl, by rw [List.length_append]; exact Nat.le_refl _, hc1.chgB (l := l2) (hB1'.put_new hn n2 k5d k5 fr) (fun p' i' => ?_) (fun x m => ?_) (.inr n2) fun b o e q1 q2 => fr b o e q2 q1⟩
      · unfold addC
        have a5 : All2 (TrAt H5) (bv p' i') (s.B p' i') := (aB p' i').mono fun _ _ q => q.ts ((Same.ts s1).trans ts15)
        by_cases c' : p' = X ∧ i' = j
        · rw [if_pos c', if_pos c']
          exact a5.snoc ⟨t3, rfl, ts5 _ _ k3⟩
        · rw [if_neg c', if_neg c']
          exact a5
      · rw [List.map_append] at m
        rcases List.mem_append.mp m with m | m
        · exact .inl m
        · exact .inr ⟨List.mem_singleton.mp m, n2⟩
  rintro σ' H1 ⟨kb', rfl, hke, hc1⟩
  have kI1 := hc1.ins
  have kE := hc1.hE.at_
  have kr1 := hc1.sm _ _ hc1.rl
  obtain ⟨ra', rb', hv', hvk', e1', e2'⟩ := hc1.ra.at' hr1
  have hb : rb' = rb := by
    rw [hv] at hv'
    obtain rfl := V.ref.inj (Option.some.inj hv')
    have e1' := hc.sm _ _ e1'
    rw [e1] at e1'
    have := HO.tup.inj (Option.some.inj e1')
    have := (List.cons.inj (List.cons.inj this).2).1
    exact (V.ref.inj this).symm
  subst hb
  have e2 := hc1.sm _ _ e2'
  refine b_cons (s_for (j_list ?_))
  refine e_dget2 (rm1 hr) ?_
  kxs_still
  refine ⟨.inr ⟨_, .inl kE⟩, ?_⟩
  kxs_still
  intro t2 H2 s2 n2 k2 f2
  kxs_still
  intro l3 H3 s3 n3 k3 f3
  have s13 := s2.trans s3
  rw [show ([V.str X, V.int ((j : Nat) : Int)] : List V) = (pK (X, j)).map kV from rfl] at k2
  have gk := DGet.t (k := pK (X, j)) (s13 _ _ kE) (s3 _ _ k2)
  rw [valV_kys] at gk
  refine ⟨_, gk, ?_⟩
  have hc3 := hc1.more s13
  obtain ⟨le, ele, kle⟩ : ∃ le, ((lk s.ke (X, j)).map V.ref).getD (.ref l3) = .ref le ∧ H3 le = some (.lst (intsV (s.E X j))) := by
    cases e : lk s.ke (X, j) with
    | none => exact ⟨l3, rfl, by have := hc1.hE.no X j e; rw [show intsV (s.E X j) = [] from this]; exact k3⟩
    | some l => exact ⟨l, rfl, s13 _ _ (hc1.hE.el X j l e)⟩
  rw [ele]
  kxs_still
  refine ⟨⟨_, SqL.of kle⟩, _, _, _, walk_list (xs := intsV (s.E X j)), fun m σ' H' => ∃ v8, σ' = [some (.ref c), some (.int (r : Nat)), some (.int (d : Nat)), some (.int (i : Nat)), some (.int (j : Nat)), some (.str rl.head), some (.ref rb'), some (.int rl.worth), v8] ∧ Ch H0 cs.Chart rs vs H' c { offs s (nxtE ((s.E X j).take m) r d i) with kb := kb', B := addC s.B X j (r, d, i) } ∧ H' le = some (.lst (intsV (s.E X j))), ⟨none, rfl, hc3, kle⟩, fun m σ' H' _ ⟨_, _, _, k⟩ => SqL.of k, ?_, ?_⟩
  · rintro m x σ' H' H4 hm ⟨v8, rfl, hc4, kl4⟩ ⟨rfl, hx⟩
    obtain ⟨e, he, rfl⟩ := map_get hx
    have kI4 := hc4.ins
    kxs_still
    intro t5 H5 s5 n5 k5 f5
    have ho := offs_keep s (nxtE ((s.E X j).take m) r d i)
    have hl5 : (nxtE ((s.E X j).take m) r d i).length ≤ 3000000 := by unfold nxtE; rw [List.length_map, List.length_take]; omega
    have hc5 := hc4.more s5
    kxs_still
    refine ⟨H0, c, rs, vs, _, .ru r (d + 1) i e, rfl, hc5, ⟨t5, rfl, k5⟩, by show (offs s _).F.length ≤ _; omega, by show (offs s _).Q.length ≤ _; omega, fun H6 hc6 f6 => ?_⟩
    rw [offS_B, ← offs_snoc] at hc6
    have e6 : nxtE ((s.E X j).take m) r d i ++ [Nd.ru r (d + 1) i e] = nxtE ((s.E X j).take (m + 1)) r d i := by
      unfold nxtE
      rw [take_snoc he, List.map_append]
      rfl
    rw [e6] at hc6
    kxs_still
    refine ⟨_, rfl, hc6, ?_⟩
    have hFq := hc5.hF
    obtain ⟨qv, hQq, _⟩ := hc5.hQ
    rw [f6 le (fun z => by rw [← z, s5 _ _ kl4] at hFq; cases hFq) fun z => ?_]
    · exact s5 _ _ kl4
    · have z : le = s.q := z.trans ho.2.2.2.1
      cases e : lk s.ke (X, j) with
      | none =>
        rw [e] at ele
        have : le = l3 := (V.ref.inj ele).symm
        have nq : H1 s.q = none := s2.none (by rw [← z, this]; exact n3)
        obtain ⟨_, q1, _⟩ := hc1.hQ
        have q1 : H1 s.q = _ := q1
        rw [nq] at q1
        cases q1
      | some l =>
        rw [e] at ele
        have : le = l := (V.ref.inj ele).symm
        exact hc.ql.1 (by rw [← z, this]; exact List.mem_map.mpr ⟨_, lk_mem e, rfl⟩)
  rintro σ' H4 ⟨v8, rfl, hc4, _⟩
  rw [List.take_of_length_le (by unfold intsV; rw [List.length_map]; exact Nat.le_refl _)] at hc4
  kxs_still
  exact h kb' H4 hke hc4
end
theorem md_Chart_take_parts (T : Txt K mg cs) : Md P w K mg base cs.Chart "take_parts" 2 ["self", "r", "d", "i", "j"] (sp5 (R_Chart_take_parts K cs)) := by
  obtain ⟨f, fd, hm, F, hb⟩ := T.m_Chart_take_parts.ex
  exact ⟨f, fd, hm, hb, ok_Chart_take_parts F T⟩
theorem chF_G (s : ChS) (g' : Addr) : putF (Str.ofString "higher") (.ref g') (chF s) = chF { s with g := g' } := rfl
theorem chF_L (s : ChS) : putF (Str.ofString "level") (.int (((s.L : Nat) : Int) + 1)) (chF s) = chF { s with L := s.L + 1 } := by
  show [_, _, (Str.ofString "level", V.int (((s.L : Nat) : Int) + 1)), _, _, _, _] = [_, _, (Str.ofString "level", V.int ((s.L + 1 : Nat) : Int)), _, _, _, _]
  rw [Int.natCast_succ]
section
variable {H0 : Hp} {C : Addr} {rs : List Rl} {vs : List V} {Hp1 H H' : Hp} {c : Addr} {s : ChS}
theorem Ch.setI (h : Ch H0 C rs vs H c s) {s' : ChS} (hi : H' c = some (.ins C s'.dx (chF s'))) (k : ∀ b, b ≠ c → H' b = H b) (e : s' = { s with L := s'.L }) : Ch H0 C rs vs H' c s' := by
  obtain ⟨qv0, q0, aq0⟩ := h.hQ
  obtain ⟨gv0, g0, ag0⟩ := h.hG
  obtain ⟨bv, hB, aB⟩ := h.hB
  obtain ⟨ts, sm⟩ := h.frame (H' := H') fun b o e n => (k b fun z => n (.inl z)).trans e
  have kd : ∀ b o, H b = some o → (∀ C dx fs, o ≠ .ins C dx fs) → H' b = some o := fun b o e n => (k b fun z => by have := h.ins; rw [← z, e] at this; exact n _ _ _ (Option.some.inj this)).trans e
  have kl : ∀ b xs, H b = some (.lst xs) → H' b = H b := fun b xs e => (kd b _ e (fun _ _ _ z => nomatch z)).trans e.symm
  rw [e] at hi ⊢
  refine ⟨sm, h.rl, h.ra, hi, kd _ _ h.own (fun _ _ _ z => nomatch z), kd _ _ h.hF (fun _ _ _ z => nomatch z), ⟨qv0, kd _ _ q0 (fun _ _ _ z => nomatch z), aq0.mono fun _ _ x => x.ts ts⟩, ⟨gv0, kd _ _ g0 (fun _ _ _ z => nomatch z), ag0.mono fun _ _ x => x.ts ts⟩, h.hE.keep ((kd _ _ h.hE.at_ (fun _ _ _ z => nomatch z)).trans h.hE.at_.symm) (fun l m => ?_), ⟨bv, hB.keep ((kd _ _ hB.at_ (fun _ _ _ z => nomatch z)).trans hB.at_.symm) fun l m => ?_, fun p i => (aB p i).mono fun _ _ x => x.ts ts⟩, h.qg, h.ql, h.eb, h.dd, h.nw⟩
  · obtain ⟨xs, e⟩ := h.hE.con m; exact kl l xs e
  · obtain ⟨xs, e⟩ := hB.con m; exact kl l xs e
theorem Ch.setG (h : Ch H0 C rs vs Hp1 c s) {g' : Addr} (x : Same Hp1 H) (n : Hp1 g' = none) (hg : H g' = some (.lst [])) (hi : H' c = some (.ins C s.dx (chF { s with g := g' }))) (k : ∀ b, b ≠ c → H' b = H b) : Ch H0 C rs vs H' c { s with g := g', G := [] } := by
  obtain ⟨qv0, q0, aq0⟩ := h.hQ
  obtain ⟨bv, hB, aB⟩ := h.hB
  have h2 := h.more x
  obtain ⟨ts, sm⟩ := h2.frame (H' := H') fun b o e n => (k b fun z => n (.inl z)).trans e
  have kd : ∀ b o, Hp1 b = some o → (∀ C dx fs, o ≠ .ins C dx fs) → H' b = some o := fun b o e n => (k b fun z => by have := h.ins; rw [← z, e] at this; exact n _ _ _ (Option.some.inj this)).trans (x _ _ e)
  have gn : ∀ b o, Hp1 b = some o → g' ≠ b := fun b o e z => by rw [z, e] at n; cases n
  have hEm : g' ∉ s.ke.map (·.2) := fun m => by obtain ⟨xs, e⟩ := h.hE.con m; rw [n] at e; cases e
  have hBm : g' ∉ s.kb.map (·.2) := fun m => by obtain ⟨xs, e⟩ := hB.con m; rw [n] at e; cases e
  obtain ⟨n1, n2, n3, n4, n5, n6, n7, n8, n9⟩ := h.nw
  refine ⟨sm, h.rl, h.ra, hi, kd _ _ h.own (fun _ _ _ z => nomatch z), kd _ _ h.hF (fun _ _ _ z => nomatch z), ⟨qv0, kd _ _ q0 (fun _ _ _ z => nomatch z), aq0.mono fun _ _ y => y.ts ((Same.ts x).trans ts)⟩, ⟨[], (k g' fun z => gn _ _ h.ins z).trans hg, .nil⟩, (h2.hE).keep ((kd _ _ h.hE.at_ (fun _ _ _ z => nomatch z)).trans h2.hE.at_.symm) (fun l m => ?_), ⟨bv, (hB.more x).keep ((kd _ _ hB.at_ (fun _ _ _ z => nomatch z)).trans (hB.more x).at_.symm) fun l m => ?_, fun p i => (aB p i).mono fun _ _ y => y.ts ((Same.ts x).trans ts)⟩, (gn _ _ q0).symm, ⟨h.ql.1, h.ql.2.1, hEm, hBm⟩, h.eb, h.dd, ⟨n1, n2, n3, n4, h.sm.none n, n6, n7, n8, n9⟩⟩
  · obtain ⟨xs, e⟩ := h.hE.con m; exact (kd l _ e (fun _ _ _ z => nomatch z)).trans (x _ _ e).symm
  · obtain ⟨xs, e⟩ := hB.con m; exact (kd l _ e (fun _ _ _ z => nomatch z)).trans (x _ _ e).symm
end
def R_Chart_rise (K : PySem.W.Frag) (cs : Cs) : V → Hp → VK → XK → Prop := fun x H Q _ => ∃ (H0 : Hp) (c : Addr) (rs : List Rl) (vs : List V) (s : ChS), x = .ref c ∧ Ch H0 cs.Chart rs vs H c s ∧ s.F.length ≤ 3000000 ∧ s.Q.length ≤ 3000000 ∧ s.G.length ≤ 3000000 ∧ ∀ g' H', Ch H0 cs.Chart rs vs H' c (offs { s with L := s.L + 1, g := g', G := [] } s.G) → Q .non H'
section
set_option hygiene false in
local macro_rules | `(tactic| kpc_turns) => `(tactic| first | refine e_methV T.c_Chart.cl (md_Chart_offer T) (hr.mono (by decide)) rfl (by ki_room) rfl ?_)
theorem ok_Chart_rise {f : Addr} {fd : FuncData} (F : Fun K "rise" "Chart.rise" s_Chart_rise f fd) (T : Txt K mg cs) : FnOk P w K mg base (L2.CX P w) 2 f fd ["self"] (sp1 (R_Chart_rise K cs)) := by
  refine F.okX sc_Chart_rise (fun vs H Q E h => sp1_len h) (fun cdv A outer s H vs Q E hr h => ⟨_, PBw (X := X_Chart_rise P w K mg base f cdv A outer s H E), ?_⟩)
  obtain ⟨a0, rfl, h⟩ := h
  have icl_Chart : ClsI K cs.Chart := ⟨T.c_Chart.cl⟩
  have ifl_Chart_higher : NoA K cs.Chart "higher" := ⟨T.n_Chart_higher⟩
  have ifl_Chart_level : NoA K cs.Chart "level" := ⟨T.n_Chart_level⟩
  have hr' : Room 1 (X_Chart_rise P w K mg base f cdv A outer s H E).A := hr
  replace hr := hr'
  clear hr'
  obtain ⟨H0, c, rs, vs, s, rfl, hc, h1, h2, h3, h⟩ := h
  have kI := hc.ins
  obtain ⟨gv, kG, aG⟩ := hc.hG
  have hgl := aG.len
  kxs_still
  refine s_fldV ?_
  kxs_still
  intro l1 H1 s1 n1 k1 f1
  have kI1 := s1 _ _ kI
  refine ⟨c, cs.Chart, s.dx, chF s, rfl, kI1, inferInstance, inferInstance, (show 7 < 1000 by decide), fun H2 k2 f2 => ?_⟩
  rw [chF_G] at k2
  have hc2 := hc.setG s1 n1 k1 k2 f2
  have ng : c ≠ s.g := fun z => by rw [z, kG] at kI; cases kI
  have kG2 := (f2 _ ng.symm).trans (s1 _ _ kG)
  kxs_still
  refine s_fldaug ?_
  kxs_still
  refine ⟨c, cs.Chart, s.dx, _, _, rfl, k2, T.c_Chart.cl, T.n_Chart_level, rfl, ?_⟩
  kxs_still
  refine ⟨_, _, _, rfl, k2, (show 7 < 1000 by decide), fun H3 k3 f3 => ?_⟩
  rw [chF_L] at k3
  have hc3 := hc2.setI (s' := { s with L := s.L + 1, g := l1, G := [] }) k3 f3 rfl
  have kG3 := (f3 _ ng.symm).trans kG2
  have ts3 : TS H H3 := (Same.ts s1).trans ((TS.but kI1 (fun _ z => nomatch z) f2).trans (TS.but k2 (fun _ z => nomatch z) f3))
  have aG3 : All2 (NdAt H3) gv s.G := aG.mono fun _ _ q => q.ts ts3
  have n1g : l1 ≠ s.g := fun z => by rw [z, kG] at n1; cases n1
  refine b_cons (s_for (j_list ?_))
  kxs_still
  refine ⟨⟨_, SqL.of kG3⟩, _, _, _, walk_list (xs := gv), fun m σ' H' => ∃ v2, σ' = [some (.ref c), some (.ref s.g), v2] ∧ Ch H0 cs.Chart rs vs H' c (offs { s with L := s.L + 1, g := l1, G := [] } (s.G.take m)) ∧ H' s.g = some (.lst gv) ∧ TS H3 H', ⟨none, rfl, hc3, kG3, TS.refl _⟩, fun m σ' H' _ ⟨_, _, _, k, _⟩ => SqL.of k, ?_, ?_⟩
  · rintro m x σ' H' H4 hm ⟨v2, rfl, hc4, kl4, ts4⟩ ⟨rfl, hx⟩
    obtain ⟨n, hn, hnd⟩ := aG3.get hx
    have kI4 := hc4.ins
    have ho := offs_keep { s with L := s.L + 1, g := l1, G := [] } (s.G.take m)
    have hl4 : (s.G.take m).length ≤ 3000000 := by rw [List.length_take]; omega
    kxs_still
    refine ⟨H0, c, rs, vs, _, n, rfl, hc4, hnd.ts ts4, by have := ho.2.2.2.2.2.2.2.2.2.2.2.2.2.1; simp only at this ⊢; omega, by have := ho.2.2.2.2.2.2.2.2.2.2.2.2.2.2; simp only at this ⊢; omega, fun H6 hc6 f6 => ?_⟩
    rw [← offs_snoc, ← take_snoc hn] at hc6
    have hFq := hc4.hF
    have ts6 : TS H4 H6 := fun x xs e => (f6 x (fun z => hc4.not_tup e (.inr (.inr (.inl z)))) fun z => hc4.not_tup e (.inr (.inr (.inr (.inl z))))).trans e
    kxs_still
    refine ⟨_, rfl, hc6, ?_, ts4.trans ts6⟩
    rw [f6 s.g (fun z => by rw [← z, kl4] at hFq; cases hFq) fun z => hc.qg (z.trans ho.2.2.2.1).symm]
    exact kl4
  rintro σ' H4 ⟨v2, rfl, hc4, _, _⟩
  rw [List.take_of_length_le (by omega)] at hc4
  kxs_still
  exact h l1 H4 hc4

end
theorem md_Chart_rise (T : Txt K mg cs) : Md P w K mg base cs.Chart "rise" 2 ["self"] (sp1 (R_Chart_rise K cs)) := by
  obtain ⟨f, fd, hm, F, hb⟩ := T.m_Chart_rise.ex
  exact ⟨f, fd, hm, hb, ok_Chart_rise F T⟩
/-! ### the plain law of the levels -/
def bigN : Nat := 2009340
structure LC (rs : List Rl) (t : List Nat) (B0 : Prop) (s : ChS) (T : Nd → Prop) (P : List Nd) : Prop where
  nd : (s.F.map (·.1)).Nodup
  ht : ∀ n h, lk s.F n = some h → Ht rs t n h ∧ h ≤ s.L
  tq : ∀ n, (lk s.F n).isSome = true ↔ T n ∨ n ∈ s.Q ∨ n ∈ P
  qT : ∀ n, n ∈ s.Q ∨ n ∈ P → ¬ T n ∧ lk s.F n = some s.L
  qn : (s.Q ++ P).Nodup
  en : ∀ p i j, j ∈ s.E p i ↔ T (.pt p i j)
  be : ∀ p j r d i, (r, d, i) ∈ s.B p j ↔ T (.ru r d i j) ∧ ∃ rl, rs[r]? = some rl ∧ rl.parts[d]? = some p
  clo : ∀ r d i k j X rl, rs[r]? = some rl → rl.parts[d]? = some X → T (.ru r d i k) → T (.pt X k j) → (lk s.F (.ru r (d + 1) i j)).isSome = true
  low : ∀ n h, Sd rs t h n → h < s.L → (lk s.F n).isSome = true
  b1 : B0 → ∀ i c, t[i]? = some c → (lk s.F (.pt (sgn c) i (i + 1))).isSome = true
  b2 : B0 → ∀ r i, r < rs.length → i ≤ t.length → (lk s.F (.ru r 0 i i)).isSome = true
  sG : s.G.length + s.Q.length + P.length ≤ s.F.length
  sE : ∀ p i, (s.E p i).length + s.Q.length + P.length ≤ s.F.length
  sB : ∀ p i, (s.B p i).length + s.Q.length + P.length ≤ s.F.length
  sk : s.ke.length + s.Q.length + P.length ≤ s.F.length ∧ s.kb.length + s.Q.length + P.length ≤ s.F.length
def muS (s : ChS) : Nat := 2 * (bigN - s.F.length) + s.Q.length
section
variable {rs : List Rl} {t : List Nat} {s : ChS} {T : Nd → Prop} {P : List Nd} {B0 : Prop}
theorem LC.len (h6 : ∀ r ∈ rs, r.parts.length ≤ 6) (h1 : rs.length ≤ 60) (h2 : t.length ≤ 60) (l : LC rs t B0 s T P) : s.F.length ≤ bigN := hts_len h6 h1 h2 l.nd fun n hn => by
  obtain ⟨h, e⟩ := lk_some hn
  exact (l.ht n h e).1.1.wi
theorem LC.off (h6 : ∀ r ∈ rs, r.parts.length ≤ 6) (h1 : rs.length ≤ 60) (h2 : t.length ≤ 60) (l : LC rs t B0 s T P) {n : Nd} {h : Nat} (d : Sd rs t h n) (hL : h ≤ s.L) : LC rs t B0 (offS s n) T P ∧ muS (offS s n) ≤ muS s ∧ (lk (offS s n).F n).isSome = true ∧ ∀ m, (lk s.F m).isSome = true → lk (offS s n).F m = lk s.F m := by
  cases e : lk s.F n with
  | some k =>
    have : offS s n = s := by unfold offS; rw [e]; rfl
    rw [this]
    exact ⟨l, Nat.le_refl _, by rw [e]; rfl, fun _ _ => rfl⟩
  | none =>
    have eS : offS s n = { s with F := s.F ++ [(n, s.L)], Q := s.Q ++ [n] } := by unfold offS; rw [e]; rfl
    have hlow : ∀ h', Sd rs t h' n → s.L ≤ h' := fun h' d' => by
      by_cases c : h' < s.L
      · have := l.low n h' d' c; rw [e] at this; cases this
      · omega
    have hh : h = s.L := by have := hlow h d; omega
    subst hh
    have lkn : ∀ m, lk (s.F ++ [(n, s.L)]) m = if m = n then some s.L else lk s.F m := fun m => lk_app s.F n s.L m e
    have mono : ∀ m, (lk s.F m).isSome = true → lk (s.F ++ [(n, s.L)]) m = lk s.F m := fun m hm => by
      rw [lkn, if_neg fun z => by rw [z, e] at hm; cases hm]
    have monoS : ∀ m, (lk s.F m).isSome = true → (lk (s.F ++ [(n, s.L)]) m).isSome = true := fun m hm => by rw [mono m hm]; exact hm
    have nT : ¬ T n := fun z => by have := (l.tq n).mpr (.inl z); rw [e] at this; cases this
    have nQ : n ∉ s.Q ∧ n ∉ P := ⟨fun z => by { have := (l.tq n).mpr (.inr (.inl z)); rw [e] at this; cases this }, fun z => by { have := (l.tq n).mpr (.inr (.inr z)); rw [e] at this; cases this }⟩
    rw [eS]
    have nd' : ((s.F ++ [(n, s.L)]).map (·.1)).Nodup := by
      rw [List.map_append]
      exact List.nodup_append.mpr ⟨l.nd, by simp, fun a ha b hb => by
        rw [List.mem_singleton.mp hb]
        intro z
        rw [z] at ha
        exact lk_none.mp e ha⟩
    have ht' : ∀ m k, lk (s.F ++ [(n, s.L)]) m = some k → Ht rs t m k ∧ k ≤ s.L := fun m k q => by
      rw [lkn] at q
      by_cases c : m = n
      · rw [if_pos c] at q
        cases q
        rw [c]
        exact ⟨⟨d, hlow⟩, Nat.le_refl _⟩
      · rw [if_neg c] at q
        exact l.ht m k q
    have l' : LC rs t B0 { s with F := s.F ++ [(n, s.L)], Q := s.Q ++ [n] } T P := by
      refine ⟨nd', ht', fun m => ?_, fun m hm => ?_, ?_, l.en, l.be, fun r d i k j X rl q1 q2 q3 q4 => monoS _ (l.clo r d i k j X rl q1 q2 q3 q4), fun m k q1 q2 => monoS _ (l.low m k q1 q2), fun z i c q => monoS _ (l.b1 z i c q), fun z r i q1 q2 => monoS _ (l.b2 z r i q1 q2), ?_, fun p i => ?_, fun p i => ?_, ?_⟩
      · show (lk (s.F ++ [(n, s.L)]) m).isSome = true ↔ T m ∨ m ∈ s.Q ++ [n] ∨ m ∈ P
        rw [lkn]
        by_cases c : m = n
        · rw [if_pos c, c]
          exact ⟨fun _ => .inr (.inl (List.mem_append_right _ (List.mem_singleton_self _))), fun _ => rfl⟩
        · rw [if_neg c, l.tq]
          simp only [List.mem_append, List.mem_singleton]
          constructor
          · rintro (q | q | q)
            · exact .inl q
            · exact .inr (.inl (.inl q))
            · exact .inr (.inr q)
          · rintro (q | (q | q) | q)
            · exact .inl q
            · exact .inr (.inl q)
            · exact absurd q c
            · exact .inr (.inr q)
      · have hm : m ∈ s.Q ++ [n] ∨ m ∈ P := hm
        show ¬ T m ∧ lk (s.F ++ [(n, s.L)]) m = some s.L
        by_cases c : m = n
        · rw [c, lkn, if_pos rfl]
          exact ⟨nT, rfl⟩
        · have := l.qT m (by
            rcases hm with hm | hm
            · rcases List.mem_append.mp hm with hm | hm
              · exact .inl hm
              · exact absurd (List.mem_singleton.mp hm) c
            · exact .inr hm)
          rw [lkn, if_neg c]
          exact this
      · show ((s.Q ++ [n]) ++ P).Nodup
        have q := l.qn
        rw [List.nodup_append] at q
        rw [List.append_assoc, List.nodup_append]
        refine ⟨q.1, List.nodup_cons.mpr ⟨nQ.2, q.2.1⟩, fun a ha b hb => ?_⟩
        rcases List.mem_cons.mp hb with hb | hb
        · rw [hb]; exact fun z => nQ.1 (z ▸ ha)
        · exact q.2.2 a ha b hb
      · have := l.sG
        show s.G.length + (s.Q ++ [n]).length + P.length ≤ (s.F ++ [(n, s.L)]).length
        simp only [List.length_append, List.length_cons, List.length_nil]
        omega
      · have := l.sE p i
        show (s.E p i).length + (s.Q ++ [n]).length + P.length ≤ (s.F ++ [(n, s.L)]).length
        simp only [List.length_append, List.length_cons, List.length_nil]
        omega
      · have := l.sB p i
        show (s.B p i).length + (s.Q ++ [n]).length + P.length ≤ (s.F ++ [(n, s.L)]).length
        simp only [List.length_append, List.length_cons, List.length_nil]
        omega
      · have := l.sk
        show s.ke.length + (s.Q ++ [n]).length + P.length ≤ (s.F ++ [(n, s.L)]).length ∧ s.kb.length + (s.Q ++ [n]).length + P.length ≤ (s.F ++ [(n, s.L)]).length
        simp only [List.length_append, List.length_cons, List.length_nil]
        omega
    refine ⟨l', ?_, ?_, mono⟩
    · have := l'.len h6 h1 h2
      unfold muS
      show 2 * (bigN - (s.F ++ [(n, s.L)]).length) + (s.Q ++ [n]).length ≤ _
      have this : (s.F ++ [(n, s.L)]).length ≤ bigN := this
      rw [List.length_append, List.length_append] at *
      simp only [List.length_cons, List.length_nil] at *
      omega
    · show (lk (s.F ++ [(n, s.L)]) n).isSome = true
      rw [lkn, if_pos rfl]
      rfl
theorem LC.offs (h6 : ∀ r ∈ rs, r.parts.length ≤ 6) (h1 : rs.length ≤ 60) (h2 : t.length ≤ 60) : ∀ (ns : List Nd) {s : ChS}, LC rs t B0 s T P → (∀ n ∈ ns, ∃ h, Sd rs t h n ∧ h ≤ s.L) → LC rs t B0 (offs s ns) T P ∧ muS (offs s ns) ≤ muS s ∧ (∀ n ∈ ns, (lk (offs s ns).F n).isSome = true) ∧ ∀ m, (lk s.F m).isSome = true → lk (offs s ns).F m = lk s.F m
  | [], s, l, _ => ⟨l, Nat.le_refl _, fun _ h => (nomatch h), fun _ _ => rfl⟩
  | n :: ns, s, l, hn => by
    obtain ⟨h, d, hL⟩ := hn n (List.mem_cons_self ..)
    obtain ⟨l1, m1, e1, k1⟩ := l.off h6 h1 h2 d hL
    have eL : (offS s n).L = s.L := (offS_keep s n).2.2.2.2.2.2.2.1
    obtain ⟨l2, m2, e2, k2⟩ := LC.offs h6 h1 h2 ns l1 fun m hm => by
      obtain ⟨h, d, hL⟩ := hn m (List.mem_cons_of_mem _ hm)
      exact ⟨h, d, by rw [eL]; exact hL⟩
    refine ⟨l2, Nat.le_trans m2 m1, fun m hm => ?_, fun m hm => ?_⟩
    · show (lk (Lw.offs (offS s n) ns).F m).isSome = true
      rcases List.mem_cons.mp hm with rfl | hm
      · rw [k2 _ e1]; exact e1
      · exact e2 m hm
    · show lk (Lw.offs (offS s n) ns).F m = _
      rw [k2 m (by rw [k1 m hm]; exact hm), k1 m hm]
/-- .. with what is due of the rules that are filled -/
structure LI (rs : List Rl) (t : List Nat) (s : ChS) (T : Nd → Prop) (P : List Nd) : Prop where
  c : LC rs t True s T P
  fin : ∀ r i j rl, rs[r]? = some rl → T (.ru r rl.parts.length i j) → (lk s.F (.pt rl.head i j)).isSome = true ∨ Nd.pt rl.head i j ∈ s.G
  gs : ∀ n ∈ s.G, ∃ r i j rl, n = .pt rl.head i j ∧ rs[r]? = some rl ∧ T (.ru r rl.parts.length i j)
  fl : ∀ r i j rl h, rs[r]? = some rl → lk s.F (.ru r rl.parts.length i j) = some h → h < s.L → (lk s.F (.pt rl.head i j)).isSome = true
theorem LI.pop {Q' : List Nd} {n : Nd} (l : LI rs t s T []) (e : s.Q = Q' ++ [n]) : LI rs t { s with Q := Q' } T [n] ∧ muS { s with Q := Q' } < muS s := by
  have hm : ∀ m, m ∈ Q' ∨ m ∈ [n] ↔ m ∈ s.Q := fun m => by rw [e, List.mem_append]
  have hl : s.Q.length = Q'.length + 1 := by rw [e, List.length_append]; rfl
  have a := l.c.sG
  have b := l.c.sk
  simp only [List.length_nil] at a b
  refine ⟨⟨⟨l.c.nd, l.c.ht, fun m => ?_, fun m h => l.c.qT m (.inl ((hm m).mp h)), ?_, l.c.en, l.c.be, l.c.clo, l.c.low, l.c.b1, l.c.b2, ?_, fun p i => ?_, fun p i => ?_, ?_⟩, l.fin, l.gs, l.fl⟩, ?_⟩
  · rw [l.c.tq, ← hm]
    simp
  · have := l.c.qn
    rw [List.append_nil, e] at this
    exact this
  · show s.G.length + Q'.length + 1 ≤ s.F.length
    omega
  · have := l.c.sE p i
    simp only [List.length_nil] at this
    show (s.E p i).length + Q'.length + 1 ≤ s.F.length
    omega
  · have := l.c.sB p i
    simp only [List.length_nil] at this
    show (s.B p i).length + Q'.length + 1 ≤ s.F.length
    omega
  · show s.ke.length + Q'.length + 1 ≤ s.F.length ∧ s.kb.length + Q'.length + 1 ≤ s.F.length
    omega
  · unfold muS
    show 2 * (bigN - s.F.length) + Q'.length < 2 * (bigN - s.F.length) + s.Q.length
    omega
theorem addC_mem {α : Type} {C : Str → Nat → List α} {p : Str} {i : Nat} {x y : α} {p' : Str} {i' : Nat} : y ∈ addC C p i x p' i' ↔ y ∈ C p' i' ∨ (p' = p ∧ i' = i ∧ y = x) := by
  unfold addC
  by_cases c : p' = p ∧ i' = i
  · rw [if_pos c, List.mem_append, List.mem_singleton]
    exact ⟨fun h => h.imp id fun q => ⟨c.1, c.2, q⟩, fun h => h.imp id fun q => q.2.2⟩
  · rw [if_neg c]
    exact ⟨.inl, fun h => h.elim id fun q => absurd ⟨q.1, q.2.1⟩ c⟩
theorem addC_len {α : Type} (C : Str → Nat → List α) (p : Str) (i : Nat) (x : α) (p' : Str) (i' : Nat) : (addC C p i x p' i').length ≤ (C p' i').length + 1 := by
  unfold addC
  by_cases c : p' = p ∧ i' = i
  · rw [if_pos c, List.length_append]; exact Nat.le_refl _
  · rw [if_neg c]; exact Nat.le_succ _
/-- a node is put among the taken ones -/
theorem LC.take {n : Nd} (l : LC rs t B0 s T [n]) : (∀ m, (lk s.F m).isSome = true ↔ (T m ∨ m = n) ∨ m ∈ s.Q ∨ m ∈ ([] : List Nd)) ∧ (∀ m, m ∈ s.Q ∨ m ∈ ([] : List Nd) → ¬ (T m ∨ m = n) ∧ lk s.F m = some s.L) ∧ (s.Q ++ []).Nodup := by
  have q := l.qn
  rw [List.nodup_append] at q
  refine ⟨fun m => ?_, fun m hm => ?_, by rw [List.append_nil]; exact q.1⟩
  · rw [l.tq]
    simp only [List.mem_singleton, List.not_mem_nil, or_false]
    constructor
    · rintro (h | h | h)
      · exact .inl (.inl h)
      · exact .inr h
      · exact .inl (.inr h)
    · rintro ((h | h) | h)
      · exact .inl h
      · exact .inr (.inr h)
      · exact .inr (.inl h)
  · simp only [List.not_mem_nil, or_false] at hm
    obtain ⟨a, b⟩ := l.qT m (.inl hm)
    exact ⟨fun h => h.elim a fun z => q.2.2 m hm n (List.mem_singleton_self _) z, b⟩
theorem LI.part (h6 : ∀ r ∈ rs, r.parts.length ≤ 6) (h1 : rs.length ≤ 60) (h2 : t.length ≤ 60) {p : Str} {i j : Nat} {ke' : Kys} (l : LI rs t s T [.pt p i j]) (hk : ke'.length ≤ s.ke.length + 1) :
    LI rs t { offs s (nxtB (s.B p i) j) with ke := ke', E := addC s.E p i j } (fun n => T n ∨ n = .pt p i j) [] ∧ muS { offs s (nxtB (s.B p i) j) with ke := ke', E := addC s.E p i j } ≤ muS s := by
  have hpL := (l.c.qT _ (.inr (List.mem_singleton_self _))).2
  have dp := (l.c.ht _ _ hpL).1.1
  obtain ⟨l1, m1, e1, k1⟩ := LC.offs h6 h1 h2 (nxtB (s.B p i) j) l.c fun n hn => by
    obtain ⟨⟨r, d, b⟩, hq, rfl⟩ := List.mem_map.mp hn
    obtain ⟨q1, rl, q2, q3⟩ := (l.c.be p i r d b).mp hq
    obtain ⟨k, hk⟩ := Option.isSome_iff_exists.mp ((l.c.tq _).mpr (.inl q1))
    obtain ⟨w1, w2⟩ := l.c.ht _ _ hk
    exact ⟨_, Sd.step q2 q3 w1.1 dp, Nat.max_le.mpr ⟨w2, Nat.le_refl _⟩⟩
  obtain ⟨b1, b2, b3, b4, b5, b6, b7, b8, b9, b10, b11, b12, b13, b14, b15⟩ := offs_keep s (nxtB (s.B p i) j)
  obtain ⟨t1, t2, t3⟩ := l1.take
  have monoS : ∀ m, (lk s.F m).isSome = true → (lk (offs s (nxtB (s.B p i) j)).F m).isSome = true := fun m hm => by rw [k1 m hm]; exact hm
  refine ⟨⟨⟨l1.nd, l1.ht, t1, t2, t3, fun p' i' j' => ?_, fun p' j' r d i' => ?_, fun r d i' k j' X rl q1 q2 q3 q4 => ?_, l1.low, l1.b1, l1.b2, ?_, fun p' i' => ?_, fun p' i' => ?_, ?_⟩, fun r i' j' rl q1 q2 => ?_, fun n hn => ?_, fun r i' j' rl h q1 q2 q3 => ?_⟩, m1⟩
  · show j' ∈ addC s.E p i j p' i' ↔ _
    rw [addC_mem, l.c.en]
    constructor
    · rintro (h | ⟨rfl, rfl, rfl⟩)
      · exact .inl h
      · exact .inr rfl
    · rintro (h | h)
      · exact .inl h
      · cases h; exact .inr ⟨rfl, rfl, rfl⟩
  · have := l1.be p' j' r d i'
    show (r, d, i') ∈ (offs s (nxtB (s.B p i) j)).B p' j' ↔ _
    rw [this]
    constructor
    · rintro ⟨a, b⟩; exact ⟨.inl a, b⟩
    · rintro ⟨a, b⟩
      refine ⟨?_, b⟩
      rcases a with a | a
      · exact a
      · cases a
  · have q3 : T (.ru r d i' k) := by
      rcases q3 with a | a
      · exact a
      · cases a
    rcases q4 with a | a
    · exact l1.clo r d i' k j' X rl q1 q2 q3 a
    · cases a
      have := (l.c.be p i r d i').mpr ⟨q3, rl, q1, q2⟩
      exact e1 _ (List.mem_map.mpr ⟨_, this, rfl⟩)
  · have := l1.sG
    simp only [List.length_cons, List.length_nil] at this ⊢
    omega
  · have a := l1.sE p' i'
    have b := addC_len s.E p i j p' i'
    rw [b12] at a
    simp only [List.length_cons, List.length_nil] at a ⊢
    show (addC s.E p i j p' i').length + _ + 0 ≤ _
    omega
  · have a := l1.sB p' i'
    simp only [List.length_cons, List.length_nil] at a ⊢
    omega
  · have a := l1.sk
    rw [b10] at a
    simp only [List.length_cons, List.length_nil] at a ⊢
    omega
  · rcases q2 with a | a
    · rcases l.fin r i' j' rl q1 a with q | q
      · exact .inl (monoS _ q)
      · exact .inr (by show _ ∈ (offs s (nxtB (s.B p i) j)).G; rw [b9]; exact q)
    · cases a
  · have hn : n ∈ (offs s (nxtB (s.B p i) j)).G := hn
    rw [b9] at hn
    obtain ⟨r, i', j', rl, q1, q2, q3⟩ := l.gs n hn
    exact ⟨r, i', j', rl, q1, q2, .inl q3⟩
  · have q3 : h < (offs s (nxtB (s.B p i) j)).L := q3
    rw [b8] at q3
    have q2 : lk (offs s (nxtB (s.B p i) j)).F (.ru r rl.parts.length i' j') = some h := q2
    have : (lk s.F (.ru r rl.parts.length i' j')).isSome = true := l.c.low _ h (l1.ht _ _ q2).1.1 q3
    rw [k1 _ this] at q2
    exact monoS _ (l.fl r i' j' rl h q1 q2 q3)
theorem LI.partsA {r d i j : Nat} {rl : Rl} (l : LI rs t s T [.ru r d i j]) (hr : rs[r]? = some rl) (hd : d = rl.parts.length) :
    LI rs t { s with G := s.G ++ [.pt rl.head i j] } (fun n => T n ∨ n = .ru r d i j) [] ∧ muS { s with G := s.G ++ [.pt rl.head i j] } ≤ muS s := by
  obtain ⟨t1, t2, t3⟩ := l.c.take
  refine ⟨⟨⟨l.c.nd, l.c.ht, t1, t2, t3, fun p' i' j' => ?_, fun p' j' r' d' i' => ?_, fun r' d' i' k j' X rl' q1 q2 q3 q4 => ?_, l.c.low, l.c.b1, l.c.b2, ?_, fun p' i' => ?_, fun p' i' => ?_, ?_⟩, fun r' i' j' rl' q1 q2 => ?_, fun n hn => ?_, l.fl⟩, Nat.le_refl _⟩
  · rw [l.c.en]
    exact ⟨.inl, fun h => h.elim id fun z => by cases z⟩
  · rw [l.c.be]
    refine ⟨fun h => ⟨.inl h.1, h.2⟩, fun h => ⟨h.1.elim id fun z => ?_, h.2⟩⟩
    cases z
    obtain ⟨rl2, w1, w2⟩ := h.2
    rw [hr] at w1
    cases w1
    rw [hd] at w2
    simp at w2
  · have q4 : T (.pt X k j') := q4.elim id fun z => by cases z
    rcases q3 with q3 | q3
    · exact l.c.clo r' d' i' k j' X rl' q1 q2 q3 q4
    · cases q3
      rw [hr] at q1
      cases q1
      rw [hd] at q2
      simp at q2
  · have := l.c.sG
    simp only [List.length_cons, List.length_nil, List.length_append] at this ⊢
    omega
  · have := l.c.sE p' i'
    simp only [List.length_cons, List.length_nil] at this ⊢
    omega
  · have := l.c.sB p' i'
    simp only [List.length_cons, List.length_nil] at this ⊢
    omega
  · have := l.c.sk
    simp only [List.length_cons, List.length_nil] at this ⊢
    omega
  · rcases q2 with q2 | q2
    · rcases l.fin r' i' j' rl' q1 q2 with q | q
      · exact .inl q
      · exact .inr (List.mem_append_left _ q)
    · cases q2
      rw [hr] at q1
      cases q1
      exact .inr (List.mem_append_right _ (List.mem_singleton_self _))
  · have hn : n ∈ s.G ++ [.pt rl.head i j] := hn
    rcases List.mem_append.mp hn with hn | hn
    · obtain ⟨r', i', j', rl', q1, q2, q3⟩ := l.gs n hn
      exact ⟨r', i', j', rl', q1, q2, .inl q3⟩
    · exact ⟨r, i, j, rl, List.mem_singleton.mp hn, hr, .inr (by rw [hd])⟩
theorem LI.partsB (h6 : ∀ r ∈ rs, r.parts.length ≤ 6) (h1 : rs.length ≤ 60) (h2 : t.length ≤ 60) {r d i j : Nat} {rl : Rl} {X : Str} {kb' : Kys} (l : LI rs t s T [.ru r d i j]) (hr : rs[r]? = some rl) (hX : rl.parts[d]? = some X) (hk : kb'.length ≤ s.kb.length + 1) :
    LI rs t { offs s (nxtE (s.E X j) r d i) with kb := kb', B := addC s.B X j (r, d, i) } (fun n => T n ∨ n = .ru r d i j) [] ∧ muS { offs s (nxtE (s.E X j) r d i) with kb := kb', B := addC s.B X j (r, d, i) } ≤ muS s := by
  have hpL := (l.c.qT _ (.inr (List.mem_singleton_self _))).2
  have dp := (l.c.ht _ _ hpL).1.1
  have hdl := (List.getElem?_eq_some_iff.mp hX).1
  obtain ⟨l1, m1, e1, k1⟩ := LC.offs h6 h1 h2 (nxtE (s.E X j) r d i) l.c fun n hn => by
    obtain ⟨e, hq, rfl⟩ := List.mem_map.mp hn
    have q1 := (l.c.en X j e).mp hq
    obtain ⟨k, hk⟩ := Option.isSome_iff_exists.mp ((l.c.tq _).mpr (.inl q1))
    obtain ⟨w1, w2⟩ := l.c.ht _ _ hk
    exact ⟨_, Sd.step hr hX dp w1.1, Nat.max_le.mpr ⟨Nat.le_refl _, w2⟩⟩
  obtain ⟨b1, b2, b3, b4, b5, b6, b7, b8, b9, b10, b11, b12, b13, b14, b15⟩ := offs_keep s (nxtE (s.E X j) r d i)
  obtain ⟨t1, t2, t3⟩ := l1.take
  have monoS : ∀ m, (lk s.F m).isSome = true → (lk (offs s (nxtE (s.E X j) r d i)).F m).isSome = true := fun m hm => by rw [k1 m hm]; exact hm
  refine ⟨⟨⟨l1.nd, l1.ht, t1, t2, t3, fun p' i' j' => ?_, fun p' j' r' d' i' => ?_, fun r' d' i' k j' X' rl' q1 q2 q3 q4 => ?_, l1.low, l1.b1, l1.b2, ?_, fun p' i' => ?_, fun p' i' => ?_, ?_⟩, fun r' i' j' rl' q1 q2 => ?_, fun n hn => ?_, fun r' i' j' rl' h q1 q2 q3 => ?_⟩, m1⟩
  · rw [l1.en]
    exact ⟨.inl, fun h => h.elim id fun z => by cases z⟩
  · show (r', d', i') ∈ addC s.B X j (r, d, i) p' j' ↔ _
    rw [addC_mem, l.c.be]
    constructor
    · rintro (h | ⟨rfl, rfl, h⟩)
      · exact ⟨.inl h.1, h.2⟩
      · cases h; exact ⟨.inr rfl, rl, hr, hX⟩
    · rintro ⟨h | h, b⟩
      · exact .inl ⟨h, b⟩
      · cases h
        obtain ⟨rl2, w1, w2⟩ := b
        rw [hr] at w1
        cases w1
        rw [hX] at w2
        cases w2
        exact .inr ⟨rfl, rfl, rfl⟩
  · have q4 : T (.pt X' k j') := q4.elim id fun z => by cases z
    rcases q3 with q3 | q3
    · exact l1.clo r' d' i' k j' X' rl' q1 q2 q3 q4
    · cases q3
      rw [hr] at q1
      cases q1
      rw [hX] at q2
      cases q2
      exact e1 _ (List.mem_map.mpr ⟨j', (l.c.en X j j').mpr q4, rfl⟩)
  · have := l1.sG
    simp only [List.length_cons, List.length_nil] at this ⊢
    omega
  · have a := l1.sE p' i'
    simp only [List.length_cons, List.length_nil] at a ⊢
    omega
  · have a := l1.sB p' i'
    have b := addC_len s.B X j (r, d, i) p' i'
    rw [b13] at a
    simp only [List.length_cons, List.length_nil] at a ⊢
    show (addC s.B X j (r, d, i) p' i').length + _ + 0 ≤ _
    omega
  · have a := l1.sk
    rw [b11] at a
    simp only [List.length_cons, List.length_nil] at a ⊢
    omega
  · rcases q2 with a | a
    · rcases l.fin r' i' j' rl' q1 a with q | q
      · exact .inl (monoS _ q)
      · exact .inr (by show _ ∈ (offs s (nxtE (s.E X j) r d i)).G; rw [b9]; exact q)
    · have : d = rl'.parts.length := by cases a; rfl
      have : r' = r := by cases a; rfl
      subst this
      rw [hr] at q1
      cases q1
      omega
  · have hn : n ∈ (offs s (nxtE (s.E X j) r d i)).G := hn
    rw [b9] at hn
    obtain ⟨r', i', j', rl', q1, q2, q3⟩ := l.gs n hn
    exact ⟨r', i', j', rl', q1, q2, .inl q3⟩
  · have q3 : h < (offs s (nxtE (s.E X j) r d i)).L := q3
    rw [b8] at q3
    have q2 : lk (offs s (nxtE (s.E X j) r d i)).F (.ru r' rl'.parts.length i' j') = some h := q2
    have : (lk s.F (.ru r' rl'.parts.length i' j')).isSome = true := l.c.low _ h (l1.ht _ _ q2).1.1 q3
    rw [k1 _ this] at q2
    exact monoS _ (l.fl r' i' j' rl' h q1 q2 q3)
/-- a level is done: all up to its height stands -/
theorem LI.up (l : LI rs t s T []) (e : s.Q = []) : ∀ n h, Sd rs t h n → h < s.L + 1 → (lk s.F n).isSome = true := by
  have tT : ∀ n, (lk s.F n).isSome = true → T n := fun n q => by
    rcases (l.c.tq n).mp q with q | q | q
    · exact q
    · rw [e] at q; cases q
    · cases q
  intro n h d
  induction d with
  | sign q => intro _; exact l.c.b1 trivial _ _ q
  | zero q1 q2 => intro _; exact l.c.b2 trivial _ _ q1 q2
  | @step h1 h2 r d i k j X rl q1 q2 _ _ ih1 ih2 =>
    intro hl
    exact l.c.clo r d i k j X rl q1 q2 (tT _ (ih1 (by omega))) (tT _ (ih2 (by omega)))
  | @head h r i j rl q1 d ih =>
    intro hl
    obtain ⟨h0, hh⟩ := Option.isSome_iff_exists.mp (ih (by omega))
    have := (l.c.ht _ _ hh).1.2 _ d
    exact l.fl r i j rl h0 q1 hh (by omega)
theorem LI.rise (h6 : ∀ r ∈ rs, r.parts.length ≤ 6) (h1 : rs.length ≤ 60) (h2 : t.length ≤ 60) (l : LI rs t s T []) (e : s.Q = []) (g' : Addr) :
    LI rs t (offs { s with L := s.L + 1, g := g', G := [] } s.G) T [] ∧ (offs { s with L := s.L + 1, g := g', G := [] } s.G).G = [] ∧ muS (offs { s with L := s.L + 1, g := g', G := [] } s.G) ≤ muS s := by
  have hu := l.up e
  have tT : ∀ n, (lk s.F n).isSome = true → T n := fun n q => by
    rcases (l.c.tq n).mp q with q | q | q
    · exact q
    · rw [e] at q; cases q
    · cases q
  have c0 : LC rs t True { s with L := s.L + 1, g := g', G := [] } T [] := by
    refine ⟨l.c.nd, fun n h q => ⟨(l.c.ht n h q).1, Nat.le_succ_of_le (l.c.ht n h q).2⟩, l.c.tq, fun n hn => ?_, l.c.qn, l.c.en, l.c.be, l.c.clo, hu, l.c.b1, l.c.b2, ?_, l.c.sE, l.c.sB, l.c.sk⟩
    · rcases hn with hn | hn
      · have hn : n ∈ s.Q := hn
        rw [e] at hn; cases hn
      · cases hn
    · have := l.c.sG
      simp only [List.length_nil] at this ⊢
      omega
  obtain ⟨l1, m1, e1, k1⟩ := LC.offs h6 h1 h2 s.G c0 fun n hn => by
    obtain ⟨r, i, j, rl, rfl, q2, q3⟩ := l.gs n hn
    obtain ⟨k, hk⟩ := Option.isSome_iff_exists.mp ((l.c.tq _).mpr (.inl q3))
    obtain ⟨w1, w2⟩ := l.c.ht _ _ hk
    exact ⟨_, Sd.head q2 w1.1, Nat.succ_le_succ w2⟩
  obtain ⟨b1, b2, b3, b4, b5, b6, b7, b8, b9, b10, b11, b12, b13, b14, b15⟩ := offs_keep { s with L := s.L + 1, g := g', G := [] } s.G
  have monoS : ∀ m, (lk s.F m).isSome = true → (lk (offs { s with L := s.L + 1, g := g', G := [] } s.G).F m).isSome = true := fun m hm => by rw [k1 m hm]; exact hm
  have full : ∀ r i j rl, rs[r]? = some rl → T (.ru r rl.parts.length i j) → (lk (offs { s with L := s.L + 1, g := g', G := [] } s.G).F (.pt rl.head i j)).isSome = true := fun r i j rl q1 q2 => by
    rcases l.fin r i j rl q1 q2 with q | q
    · exact monoS _ q
    · exact e1 _ q
  refine ⟨⟨l1, fun r i j rl q1 q2 => .inl (full r i j rl q1 q2), fun n hn => ?_, fun r i j rl h q1 q2 q3 => ?_⟩, b9, m1⟩
  · rw [b9] at hn; cases hn
  · rw [b8] at q3
    have q3 : h < s.L + 1 := q3
    have := hu _ h (l1.ht _ _ q2).1.1 q3
    exact full r i j rl q1 (tT _ this)
/-- nothing rose: all stands -/
theorem LI.std (l : LI rs t s T []) (e : s.Q = []) (eG : s.G = []) : Std rs t s.F := by
  have tT : ∀ n, (lk s.F n).isSome = true → T n := fun n q => by
    rcases (l.c.tq n).mp q with q | q | q
    · exact q
    · rw [e] at q; cases q
    · cases q
  have all : ∀ n h, Sd rs t h n → (lk s.F n).isSome = true := by
    intro n h d
    induction d with
    | sign q => exact l.c.b1 trivial _ _ q
    | zero q1 q2 => exact l.c.b2 trivial _ _ q1 q2
    | @step h1 h2 r d i k j X rl q1 q2 _ _ ih1 ih2 => exact l.c.clo r d i k j X rl q1 q2 (tT _ ih1) (tT _ ih2)
    | @head h r i j rl q1 d ih =>
      rcases l.fin r i j rl q1 (tT _ ih) with q | q
      · exact q
      · rw [eG] at q; cases q
  refine ⟨l.c.nd, fun n h => ⟨fun q => (l.c.ht n h q).1, fun q => ?_⟩⟩
  obtain ⟨k, hk⟩ := Option.isSome_iff_exists.mp (all n h q.1)
  rw [hk, (l.c.ht n k hk).1.one q]
def firstN (n : Nat) (t : List Nat) : List Nd := (List.range t.length).map (fun i => .pt (sgn (t.getD i 0)) i (i + 1)) ++ (List.range n).flatMap fun r => (List.range (t.length + 1)).map fun i => .ru r 0 i i
theorem LI.first (h6 : ∀ r ∈ rs, r.parts.length ≤ 6) (h1 : rs.length ≤ 60) (h2 : t.length ≤ 60) (e : s.F = [] ∧ s.Q = [] ∧ s.G = [] ∧ s.ke = [] ∧ s.kb = [] ∧ s.L = 0 ∧ (∀ p i, s.E p i = []) ∧ ∀ p i, s.B p i = []) :
    LI rs t (offs s (firstN rs.length t)) (fun _ => False) [] ∧ (offs s (firstN rs.length t)).G = [] := by
  obtain ⟨e1, e2, e3, e4, e5, e6, e7, e8⟩ := e
  have c0 : LC rs t False s (fun _ => False) [] := by
    refine ⟨by rw [e1]; exact List.nodup_nil, fun n h q => ?_, fun n => ?_, fun n hn => ?_, by rw [e2]; exact List.nodup_nil, fun p i j => by rw [e7]; simp, fun p j r d i => by rw [e8]; simp, fun _ _ _ _ _ _ _ _ _ q => q.elim, fun n h _ q => by omega, fun z => z.elim, fun z => z.elim, by rw [e2, e3]; simp, fun p i => by rw [e7, e2]; simp, fun p i => by rw [e8, e2]; simp, by rw [e4, e5, e2]; simp⟩
    · rw [e1] at q; cases q
    · rw [e1, e2]
      simp [lk]
    · rw [e2] at hn
      rcases hn with hn | hn <;> cases hn
  obtain ⟨l1, m1, q1, k1⟩ := LC.offs h6 h1 h2 (firstN rs.length t) c0 fun n hn => by
    unfold firstN at hn
    rcases List.mem_append.mp hn with hn | hn
    · obtain ⟨i, hi, rfl⟩ := List.mem_map.mp hn
      have hi := List.mem_range.mp hi
      exact ⟨0, Sd.sign (by rw [List.getD_eq_getElem?_getD, List.getElem?_eq_getElem hi]; rfl), Nat.zero_le _⟩
    · obtain ⟨r, hr, hn⟩ := List.mem_flatMap.mp hn
      obtain ⟨i, hi, rfl⟩ := List.mem_map.mp hn
      have hi := List.mem_range.mp hi
      exact ⟨0, Sd.zero (List.mem_range.mp hr) (by omega), Nat.zero_le _⟩
  obtain ⟨b1, b2, b3, b4, b5, b6, b7, b8, b9, b10, b11, b12, b13, b14, b15⟩ := offs_keep s (firstN rs.length t)
  have hG : (offs s (firstN rs.length t)).G = [] := b9.trans e3
  have hL : (offs s (firstN rs.length t)).L = 0 := b8.trans e6
  refine ⟨⟨⟨l1.nd, l1.ht, l1.tq, l1.qT, l1.qn, l1.en, l1.be, l1.clo, l1.low, fun _ i c hc => q1 _ ?_, fun _ r i hr hi => q1 _ ?_, l1.sG, l1.sE, l1.sB, l1.sk⟩, fun _ _ _ _ _ q => q.elim, fun n hn => ?_, fun _ _ _ _ h _ _ q => ?_⟩, hG⟩
  · have hi := (List.getElem?_eq_some_iff.mp hc).1
    exact List.mem_append_left _ (List.mem_map.mpr ⟨i, List.mem_range.mpr hi, by rw [List.getD_eq_getElem?_getD, hc]; rfl⟩)
  · exact List.mem_append_right _ (List.mem_flatMap.mpr ⟨r, List.mem_range.mpr hr, List.mem_map.mpr ⟨i, List.mem_range.mpr (by omega), rfl⟩⟩)
  · rw [hG] at hn; cases hn
  · rw [hL] at q; omega
end

theorem all2_last {α β : Type} {R : α → β → Prop} {b : List β} {y : β} : ∀ {a : List α}, All2 R a (b ++ [y]) → ∃ a' x, a = a' ++ [x] ∧ All2 R a' b ∧ R x y := by
  induction b with
  | nil =>
    intro a h
    cases h with
    | cons r t => cases t; exact ⟨[], _, rfl, .nil, r⟩
  | cons z b ih =>
    intro a h
    cases h with
    | cons r t =>
      obtain ⟨a', x, rfl, h1, h2⟩ := ih t
      exact ⟨_ :: a', x, rfl, .cons r h1, h2⟩
theorem list_last {α : Type} {l : List α} (h : l ≠ []) : ∃ l' x, l = l' ++ [x] := by
  rcases List.eq_nil_or_concat l with q | ⟨l', x, q⟩
  · exact absurd q h
  · exact ⟨l', x, by rw [q, List.concat_eq_append]⟩
/-- a grammar and a text within their bounds -/
structure GB (rs : List Rl) (t : List Nat) : Prop where
  h6 : ∀ r ∈ rs, r.parts.length ≤ 6
  h1 : rs.length ≤ 60
  h2 : t.length ≤ 60
def R_Chart_take_level (K : PySem.W.Frag) (cs : Cs) : V → Hp → VK → XK → Prop := fun x H Q _ => ∃ (H0 : Hp) (c : Addr) (rs : List Rl) (t : List Nat) (vs : List V) (s : ChS) (T : Nd → Prop), x = .ref c ∧ Ch H0 cs.Chart rs vs H c s ∧ GB rs t ∧ LI rs t s T [] ∧ ∀ s' T' H', Ch H0 cs.Chart rs vs H' c s' → LI rs t s' T' [] → s'.Q = [] → (s.Q ≠ [] → muS s' < muS s) → Q .non H'
section
set_option hygiene false in
local macro_rules | `(tactic| kpc_turns) => `(tactic| first | refine e_methV T.c_Chart.cl (md_Chart_take_part T) (hr.mono (by decide)) rfl (by ki_room) rfl ?_ | refine e_methV T.c_Chart.cl (md_Chart_take_parts T) (hr.mono (by decide)) rfl (by ki_room) rfl ?_)
theorem ok_Chart_take_level {f : Addr} {fd : FuncData} (F : Fun K "take_level" "Chart.take_level" s_Chart_take_level f fd) (T : Txt K mg cs) : FnOk P w K mg base (L2.CX P w) 3 f fd ["self"] (sp1 (R_Chart_take_level K cs)) := by
  refine F.okX sc_Chart_take_level (fun vs H Q E h => sp1_len h) (fun cdv A outer s H vs Q E hr h => ⟨_, PBw (X := X_Chart_take_level P w K mg base f cdv A outer s H E), ?_⟩)
  obtain ⟨a0, rfl, h⟩ := h
  have ib_len := T.b_len
  have icl_Chart : ClsI K cs.Chart := ⟨T.c_Chart.cl⟩
  have ifl_Chart_queue : NoA K cs.Chart "queue" := ⟨T.n_Chart_queue⟩
  have hr' : Room 2 (X_Chart_take_level P w K mg base f cdv A outer s H E).A := hr
  replace hr := hr'
  clear hr'
  obtain ⟨H0, c, rs, t, vs, s, T0, rfl, hc, hb, hl, h⟩ := h
  refine b_cons (s_while (fun m σ' H' => ∃ v1 s' T', σ' = [some (.ref c), v1] ∧ Ch H0 cs.Chart rs vs H' c s' ∧ LI rs t s' T' [] ∧ m = muS s' ∧ (s' = s ∨ muS s' < muS s)) _ ⟨none, s, T0, rfl, hc, hl, rfl, .inl rfl⟩ ?_)
  rintro m σ' H1 ⟨v1, s1, T1, rfl, hc1, hl1, rfl, hm⟩
  have kI := hc1.ins
  obtain ⟨qv, kQ, aQ⟩ := hc1.hQ
  have hlen := hl1.c.len hb.h6 hb.h1 hb.h2
  kxs_still
  intro l2 H2 s2 n2 k2 f2
  have kQ2 := s2 _ _ kQ
  have hc2 := hc1.more s2
  refine o_neNil hr.units kQ2 k2 ?_
  kxs_still
  refine iteND (fun cn => ?_) fun cn => ?_
  · have hqn : s1.Q ≠ [] := fun z => by rw [z] at aQ; cases aQ; exact cn rfl
    obtain ⟨Q', n, eQ⟩ := list_last hqn
    rw [eQ] at aQ
    obtain ⟨qv', x, rfl, aQ', ⟨b, rfl, hbn⟩⟩ := all2_last aQ
    obtain ⟨hlp, hmu⟩ := hl1.pop eQ
    have kI2 := hc2.ins
    have hmus : muS { s1 with Q := Q' } < muS s := by
      rcases hm with rfl | hm
      · exact hmu
      · omega
    have hsz := hlp.c
    have hQl : Q'.length ≤ 2009340 := by have := hsz.sG; have : s1.F.length ≤ bigN := hlen; unfold bigN at this; simp only at *; omega
    kxs_still
    refine e_pop ?_
    kxs_still
    refine ⟨ty_l kQ2, ?_⟩
    refine m_pop kQ2 fun H3 k3 f3 => ?_
    have hF2 := hc2.hF
    have hc3 := hc2.chgQ (H' := H3) (F' := s1.F) (Q' := Q') ((f3 _ fun z => by rw [z, kQ2] at hF2; cases hF2).trans hF2) ⟨_, k3, aQ'.mono fun _ _ q => q.ts (Same.ts s2)⟩ fun b _ q => f3 b q
    have kI3 := hc3.ins
    have hb3 : H3 b = some (.tup ((ndK n).map kV)) := (f3 b fun z => by have := s2 _ _ hbn; rw [z, kQ2] at this; cases this).trans (s2 _ _ hbn)
    have hs3 : s1.F.length ≤ 3000000 := by unfold bigN at hlen; omega
    have hk3 := hsz.sk
    have hG3 := hsz.sG
    simp only [List.length_cons, List.length_nil] at hk3 hG3
    cases n with
    | pt p i j =>
      have hb3' : H3 b = some (.tup [.str p, .int ((i : Nat) : Int), .int ((j : Nat) : Int)]) := hb3
      kxs_still
      refine iteDT rfl ?_
      kxs_still
      have hE3 := hsz.sE p i
      have hB3 := hsz.sB p i
      simp only [List.length_cons, List.length_nil] at hE3 hB3
      refine ⟨H0, c, rs, vs, _, p, i, j, rfl, rfl, rfl, rfl, hc3, hs3, (by show Q'.length ≤ _; omega), (by show s1.ke.length ≤ _; omega), (by show (s1.E p i).length ≤ _; omega), (by show (s1.B p i).length ≤ _; omega), fun ke' H4 hke hc4 => ?_⟩
      kxs_still
      obtain ⟨hl4, hm4⟩ := hlp.part hb.h6 hb.h1 hb.h2 (ke' := ke') hke
      exact ⟨_, Nat.lt_of_le_of_lt hm4 hmu, _, _, _, rfl, hc4, hl4, rfl, .inr (Nat.lt_of_le_of_lt hm4 hmus)⟩
    | ru r d i j =>
      have hb3' : H3 b = some (.tup [.int ((r : Nat) : Int), .int ((d : Nat) : Int), .int ((i : Nat) : Int), .int ((j : Nat) : Int)]) := hb3
      have hpL := (hsz.qT _ (.inr (List.mem_singleton_self _))).2
      obtain ⟨_, _, rl, hr1, hd⟩ := (hsz.ht _ _ hpL).1.1.wi.ru _ _ _ _ rfl
      kxs_still
      refine iteDF (show ¬ ((4 : Nat) : Int) = 3 by decide) ?_
      kxs_still
      refine ⟨H0, c, rs, vs, _, r, d, i, j, rl, rfl, rfl, rfl, rfl, rfl, hc3, hs3, (by show Q'.length ≤ _; omega), (by show s1.kb.length ≤ _; omega), (by show s1.G.length ≤ _; omega), hr1, hd, hb.h6 rl (List.mem_of_getElem? hr1), fun hdl H4 hc4 => ?_, fun X hX => ?_⟩
      · kxs_still
        obtain ⟨hl4, hm4⟩ := hlp.partsA hr1 hdl
        exact ⟨_, Nat.lt_of_le_of_lt hm4 hmu, _, _, _, rfl, hc4, hl4, rfl, .inr (Nat.lt_of_le_of_lt hm4 hmus)⟩
      · have hE3 := hsz.sE X j
        have hB3 := hsz.sB X j
        simp only [List.length_cons, List.length_nil] at hE3 hB3
        refine ⟨by show (s1.E X j).length ≤ _; omega, by show (s1.B X j).length ≤ _; omega, fun kb' H4 hkb hc4 => ?_⟩
        kxs_still
        obtain ⟨hl4, hm4⟩ := hlp.partsB hb.h6 hb.h1 hb.h2 (kb' := kb') hr1 hX hkb
        exact ⟨_, Nat.lt_of_le_of_lt hm4 hmu, _, _, _, rfl, hc4, hl4, rfl, .inr (Nat.lt_of_le_of_lt hm4 hmus)⟩
  · have eQ : s1.Q = [] := by
      have := aQ.len
      rw [cn] at this
      exact List.eq_nil_of_length_eq_zero this.symm
    kxs_still
    refine h s1 T1 H2 hc2 hl1 eQ fun hne => ?_
    rcases hm with rfl | hm
    · exact absurd eQ hne
    · exact hm
end
theorem md_Chart_take_level (T : Txt K mg cs) : Md P w K mg base cs.Chart "take_level" 3 ["self"] (sp1 (R_Chart_take_level K cs)) := by
  obtain ⟨f, fd, hm, F, hb⟩ := T.m_Chart_take_level.ex
  exact ⟨f, fd, hm, hb, ok_Chart_take_level F T⟩
theorem all2_by {α β : Type} {R : α → β → Prop} : ∀ {ys : List α} {ns : List β}, ys.length = ns.length → (∀ (i : Nat) (y : α), ys[i]? = some y → ∃ n, ns[i]? = some n ∧ R y n) → All2 R ys ns
  | [], [], _, _ => .nil
  | [], _ :: _, h, _ => by cases h
  | _ :: _, [], h, _ => by cases h
  | y :: ys, n :: ns, h, k => by
    obtain ⟨n', e, q⟩ := k 0 y rfl
    cases e
    exact .cons q (all2_by (Nat.succ.inj h) fun i y' e => k (i + 1) y' e)
def R_first_nodes (K : PySem.W.Frag) : V → V → Hp → VK → XK → Prop := fun x y H Q _ => ∃ (a : Addr) (vs : List V) (z : Str) (n : Nat), x = .ref a ∧ SqL K H a vs ∧ vs.length = n ∧ n ≤ 60 ∧ y = .str z ∧ z.length ≤ 60 ∧ ∀ l ns H', Same H H' → H l = none → H' l = some (.lst ns) → All2 (NdAt H') ns (firstN n (tl z)) → Q (.ref l) H'
section
theorem ok_first_nodes {f : Addr} {fd : FuncData} (F : Fun K "first_nodes" "first_nodes" s_first_nodes f fd) (T : Txt K mg cs) : FnOk P w K mg base (L2.CX P w) 1 f fd ["rules", "signs"] (sp2 (R_first_nodes K)) := by
  refine F.okX sc_first_nodes (fun vs H Q E h => sp2_len h) (fun cdv A outer s H vs Q E hr h => ⟨_, PBw (X := X_first_nodes P w K mg base f cdv A outer s H E), ?_⟩)
  obtain ⟨a0, a1, rfl, h⟩ := h
  have ib_range := T.b_range
  have ib_len := T.b_len
  have ib_enumerate := T.b_enumerate
  have hr' : Room 0 (X_first_nodes P w K mg base f cdv A outer s H E).A := hr
  replace hr := hr'
  clear hr'
  obtain ⟨a, vs, z, n, rfl, hS, rfl, hn, rfl, hz, h⟩ := h
  have hzt : (tl z).length = z.length := (len_tl z).symm
  refine b_cons (s_setLcH (blkOk_by (sc := defScope s_first_nodes) (own := [("i", 4), ("sign", 3)]) (by decide +kernel)) (fun i y H' => ∃ c, (tl z)[i]? = some c ∧ NdAt H' y (.pt (sgn c) i (i + 1))) (fun i y H' H'' s ⟨c, h1, h2⟩ => ⟨c, h1, h2.ts s⟩) (j_enumS ?_))
  kxs_still
  have hzc : z.cps.size = (tl z).length := by rw [hzt]; rfl
  refine ⟨_, _, _, walk_enumS, by rw [hzc]; omega, fun _ _ => trivial, ?_, ?_⟩
  · rintro i x H1 H2 hi s1 ⟨T1, cc, rfl, nT, rfl, hcc⟩
    have kT : (upd H1 T1 (.tup [V.int (i : Nat), V.str ⟨#[cc]⟩])) T1 = some (.tup [V.int (i : Nat), V.str ⟨#[cc]⟩]) := upd_same
    have sT := sameU (o := .tup [V.int (i : Nat), V.str ⟨#[cc]⟩]) nT
    generalize upd H1 T1 (.tup [V.int (i : Nat), V.str ⟨#[cc]⟩]) = H2 at kT sT
    have hct : (tl z)[i]? = some cc := by
      show z.cps.toList[i]? = some cc
      rw [Array.getElem?_toList]
      exact hcc
    refine ⟨sT, fun _ _ _ _ _ => ?_⟩
    kxs_still
    refine ⟨rfl, Same.refl _, fun _ _ _ _ _ => ?_⟩
    kxs_still
    refine o_cat (show 1 + 1 ≤ 1000000 by decide |> fun h => Nat.le_trans h (by decide +kernel)) ?_
    kxs_still
    intro t3 H3 s3 n3 k3 f3
    exact ⟨⟨cc, hct, t3, rfl, k3⟩, s3⟩
  intro l1 H1 ys s1 n1 k1 hyl hy
  have aY : All2 (NdAt H1) ys ((List.range (tl z).length).map fun i => Nd.pt (sgn ((tl z).getD i 0)) i (i + 1)) := by
    refine all2_by (by rw [List.length_map, List.length_range, ← hzc]; exact hyl) fun i y e => ?_
    obtain ⟨c, hc, hn⟩ := hy i y e
    have hi := (List.getElem?_eq_some_iff.mp hc).1
    exact ⟨_, by rw [List.getElem?_map, List.getElem?_range hi]; rfl, by show NdAt H1 y (Nd.pt (sgn ((tl z).getD i 0)) i (i + 1)); rw [List.getD_eq_getElem?_getD, hc]; exact hn⟩
  have hyl' := aY.len
  rw [List.length_map, List.length_range] at hyl'
  kxs_still
  refine s_for (j_rng1 ?_)
  kxs_still
  refine ⟨by omega, by omega, _, _, _, walk_range0, fun m σ' H' => ∃ v3 v4 v5 ns, σ' = [some (.ref a), some (.str z), some (.ref l1), v3, v4, v5] ∧ Same H H' ∧ H' l1 = some (.lst ns) ∧ All2 (NdAt H') ns (firstN m (tl z)), ⟨none, none, none, ys, rfl, s1, k1, by unfold firstN; rw [List.range_zero, List.flatMap_nil, List.append_nil]; exact aY⟩, fun _ _ _ _ _ => trivial, ?_, ?_⟩
  · rintro m x σ' H2 H3 hm ⟨v3, v4, v5, ns, rfl, s2, k2, a2⟩ ⟨rfl, rfl⟩
    have hm : m < vs.length := hm
    kxs_still
    refine e_extend ?_
    kxs_still
    refine ⟨ty_l k2, ?_⟩
    kxs_still
    refine e_lcH (blkOk_by (sc := defScope s_first_nodes) (own := [("i", 4)]) (by decide +kernel)) (fun i y H' => NdAt H' y (.ru m 0 i i)) (fun i y H' H'' s h => h.ts s) (j_rng1 ?_)
    kxs_still
    refine ⟨by omega, by omega, _, _, _, walk_range0, by omega, fun _ _ => trivial, ?_, ?_⟩
    · rintro i x H4 H5 hi s4 ⟨rfl, rfl⟩
      refine ⟨Same.refl _, fun _ _ _ _ _ => ?_⟩
      kxs_still
      refine ⟨rfl, Same.refl _, fun _ _ _ _ _ => ?_⟩
      kxs_still
      intro t6 H6 s6 n6 k6 f6
      exact ⟨⟨t6, rfl, k6⟩, s6⟩
    · intro l4 H4 ws s4 n4 k4 hwl hw
      have k24 := s4 _ _ k2
      have e1 : ((z.length : Int) + 1).toNat = (tl z).length + 1 := by omega
      rw [e1] at hwl
      have aW : All2 (NdAt H4) ws ((List.range ((tl z).length + 1)).map fun i => Nd.ru m 0 i i) := all2_by (by rw [List.length_map, List.length_range]; exact hwl) fun i y e => by
        have hi := (List.getElem?_eq_some_iff.mp e).1
        exact ⟨_, by rw [List.getElem?_map, List.getElem?_range (by omega)]; rfl, hw i y e⟩
      have hnl : ns.length ≤ 10000 := by
        rw [a2.len]
        unfold firstN
        rw [List.length_append, List.length_map, List.length_range, flat_len (c := (tl z).length + 1) fun x _ => by rw [List.length_map, List.length_range], List.length_range]
        have : m * ((tl z).length + 1) ≤ 60 * 61 := Nat.mul_le_mul (by omega) (by omega)
        omega
      kxs_still
      refine m_extend k24 k4 (by omega) fun H5 k5 f5 => ?_
      have ts5 : TS H4 H5 := TS.butL k24 f5
      kxs_still
      refine ⟨_, _, _, _, rfl, fun b o e => ?_, k5, ?_⟩
      · rw [f5 b fun w => by rw [w, n1] at e; cases e]
        exact s4 _ _ (s2 _ _ e)
      · have e3 : firstN (m + 1) (tl z) = firstN m (tl z) ++ (List.range ((tl z).length + 1)).map fun i => Nd.ru m 0 i i := by
          unfold firstN
          rw [show List.range (m + 1) = List.range m ++ [m] from List.range_succ, List.flatMap_append, ← List.append_assoc, List.flatMap_cons, List.flatMap_nil, List.append_nil]
        rw [e3]
        exact (a2.mono fun _ _ q => q.ts ((Same.ts s4).trans ts5)).app (aW.mono fun _ _ q => q.ts ts5)
  rintro σ' H2 ⟨v3, v4, v5, ns, rfl, s2, k2, a2⟩
  kxs_still
  exact h l1 ns H2 s2 n1 k2 a2
end
theorem df_first_nodes (T : Txt K mg cs) : Df P w K mg base "first_nodes" 1 ["rules", "signs"] (sp2 (R_first_nodes K)) := by
  obtain ⟨f, fd, hm, F, hb⟩ := T.f_first_nodes.ex
  exact ⟨f, fd, hm, F.kp, hb, ok_first_nodes F T⟩
def R_Chart_init (K : PySem.W.Frag) (cs : Cs) : V → V → Hp → VK → XK → Prop := fun x y H Q _ => ∃ (H0 : Hp) (c a dx : Addr) (rs : List Rl) (vs : List V), x = .ref c ∧ y = .ref a ∧ Same H0 H ∧ H0 c = none ∧ H0 dx = none ∧ H c = some (.ins cs.Chart dx []) ∧ H dx = some (.own c) ∧ H0 a = some (.lst vs) ∧ RulesAt H0 vs rs ∧
  ∀ s H', Ch H0 cs.Chart rs vs H' c s → s.F = [] ∧ s.Q = [] ∧ s.G = [] ∧ s.ke = [] ∧ s.kb = [] ∧ s.L = 0 ∧ (∀ p i, s.E p i = []) ∧ (∀ p i, s.B p i = []) → Q .non H'
section
theorem ok_Chart_init {f : Addr} {fd : FuncData} (F : Fun K "__init__" "Chart.__init__" s_Chart_init f fd) (T : Txt K mg cs) : FnOk P w K mg base (L2.CX P w) 1 f fd ["self", "rules"] (sp2 (R_Chart_init K cs)) := by
  refine F.okX sc_Chart_init (fun vs H Q E h => sp2_len h) (fun cdv A outer s H vs Q E hr h => ⟨_, PBw (X := X_Chart_init P w K mg base f cdv A outer s H E), ?_⟩)
  obtain ⟨a0, a1, rfl, h⟩ := h
  have icl_Chart : ClsI K cs.Chart := ⟨T.c_Chart.cl⟩
  have icl_Wood : ClsI K cs.Wood := ⟨T.c_Wood.cl⟩
  have ifl_Chart_behind : NoA K cs.Chart "behind" := ⟨T.n_Chart_behind⟩
  have ifl_Chart_ends : NoA K cs.Chart "ends" := ⟨T.n_Chart_ends⟩
  have ifl_Chart_heights : NoA K cs.Chart "heights" := ⟨T.n_Chart_heights⟩
  have ifl_Chart_higher : NoA K cs.Chart "higher" := ⟨T.n_Chart_higher⟩
  have ifl_Chart_level : NoA K cs.Chart "level" := ⟨T.n_Chart_level⟩
  have ifl_Chart_queue : NoA K cs.Chart "queue" := ⟨T.n_Chart_queue⟩
  have ifl_Chart_rules : NoA K cs.Chart "rules" := ⟨T.n_Chart_rules⟩
  have ifl_Wood_rules : NoA K cs.Wood "rules" := ⟨T.n_Wood_rules⟩
  have hr' : Room 0 (X_Chart_init P w K mg base f cdv A outer s H E).A := hr
  replace hr := hr'
  clear hr'
  obtain ⟨H0, c, a, dx, rs, vs, rfl, rfl, sm, n0, nd0, kc, kd, ka, hR, h⟩ := h
  refine b_cons (s_fldV ?_)
  kxs_still
  refine ⟨c, cs.Chart, dx, [], rfl, kc, inferInstance, inferInstance, by decide, fun H1 k1 f1 => ?_⟩
  refine b_cons (s_fldV (e_dctT fun dh H2 s2 n2 k2 f2 => ?_))
  refine ⟨c, cs.Chart, dx, _, rfl, s2 _ _ k1, inferInstance, inferInstance, (show 1 < 1000 by decide), fun H3 k3 f3 => ?_⟩
  kxs_still
  refine s_fldV ?_
  kxs_still
  refine ⟨c, cs.Chart, dx, _, rfl, k3, inferInstance, inferInstance, (show 2 < 1000 by decide), fun H4 k4 f4 => ?_⟩
  refine b_cons (s_fldV ?_)
  kxs_still
  intro q H5 s5 n5 k5 f5
  refine ⟨c, cs.Chart, dx, _, rfl, s5 _ _ k4, inferInstance, inferInstance, (show 3 < 1000 by decide), fun H6 k6 f6 => ?_⟩
  refine b_cons (s_fldV ?_)
  kxs_still
  intro g H7 s7 n7 k7 f7
  refine ⟨c, cs.Chart, dx, _, rfl, s7 _ _ k6, inferInstance, inferInstance, (show 4 < 1000 by decide), fun H8 k8 f8 => ?_⟩
  refine b_cons (s_fldV (e_dctT fun de H9 s9 n9 k9 f9 => ?_))
  refine ⟨c, cs.Chart, dx, _, rfl, s9 _ _ k8, inferInstance, inferInstance, (show 5 < 1000 by decide), fun H10 k10 f10 => ?_⟩
  refine b_cons (s_fldV (e_dctT fun db H11 s11 n11 k11 f11 => ?_))
  refine ⟨c, cs.Chart, dx, _, rfl, s11 _ _ k10, inferInstance, inferInstance, (show 6 < 1000 by decide), fun H12 k12 f12 => ?_⟩
  have st : ∀ {A B : Hp} {o : HO} {b : Addr}, (∀ b, b ≠ c → B b = A b) → A b = some o → b ≠ c → B b = some o := fun f e n => (f _ n).trans e
  have up : ∀ {A B : Hp} {b : Addr}, (∀ b, b ≠ c → B b = A b) → B b = none → b ≠ c → A b = none := fun f e n => (f _ n).symm.trans e
  have c2 := s2 _ _ k1
  have nedh : dh ≠ c := fun z => by rw [z, k1] at n2; cases n2
  have neq : q ≠ c := fun z => by rw [z, k4] at n5; cases n5
  have neg : g ≠ c := fun z => by rw [z, k6] at n7; cases n7
  have nede : de ≠ c := fun z => by rw [z, k8] at n9; cases n9
  have nedb : db ≠ c := fun z => by rw [z, k10] at n11; cases n11
  have nedx : dx ≠ c := fun z => by rw [z, kc] at kd; cases kd
  have d3 := st f3 k2 nedh
  have d4 := st f4 d3 nedh
  have d6 := st f6 (s5 _ _ d4) nedh
  have d8 := st f8 (s7 _ _ d6) nedh
  have d10 := st f10 (s9 _ _ d8) nedh
  have d12 := st f12 (s11 _ _ d10) nedh
  have q6 := st f6 k5 neq
  have q8 := st f8 (s7 _ _ q6) neq
  have q10 := st f10 (s9 _ _ q8) neq
  have q12 := st f12 (s11 _ _ q10) neq
  have g8 := st f8 k7 neg
  have g10 := st f10 (s9 _ _ g8) neg
  have g12 := st f12 (s11 _ _ g10) neg
  have e10 := st f10 k9 nede
  have e12 := st f12 (s11 _ _ e10) nede
  have b12 := st f12 k11 nedb
  have x1 := st f1 kd nedx
  have x3 := st f3 (s2 _ _ x1) nedx
  have x4 := st f4 x3 nedx
  have x6 := st f6 (s5 _ _ x4) nedx
  have x8 := st f8 (s7 _ _ x6) nedx
  have x10 := st f10 (s9 _ _ x8) nedx
  have x12 := st f12 (s11 _ _ x10) nedx
  have sm12 : Same H0 H12 := fun b o e => by
    have nb : b ≠ c := fun z => by rw [z, n0] at e; cases e
    exact st f12 (s11 _ _ (st f10 (s9 _ _ (st f8 (s7 _ _ (st f6 (s5 _ _ (st f4 (st f3 (s2 _ _ (st f1 (sm _ _ e) nb)) nb) nb)) nb)) nb)) nb)) nb
  have no2 : ∀ b, b ≠ c → H1 b = none → H0 b = none := fun b nb e => sm.none (up f1 e nb)
  have no4 : ∀ b, b ≠ c → H4 b = none → H0 b = none := fun b nb e => no2 b nb (s2.none (up f3 (up f4 e nb) nb))
  have no6 : ∀ b, b ≠ c → H6 b = none → H0 b = none := fun b nb e => no4 b nb (s5.none (up f6 e nb))
  have no8 : ∀ b, b ≠ c → H8 b = none → H0 b = none := fun b nb e => no6 b nb (s7.none (up f8 e nb))
  have no10 : ∀ b, b ≠ c → H10 b = none → H0 b = none := fun b nb e => no8 b nb (s9.none (up f10 e nb))
  have em : ∀ d : Addr, H12 d = some (.dT []) → DLs H12 d [] (fun _ _ => ([] : List V)) := fun d e => ⟨e, List.nodup_nil, List.nodup_nil, fun _ _ _ z => (nomatch z), fun _ _ _ => rfl⟩
  kxs_still
  refine h { dx := dx, a := a, dh := dh, q := q, g := g, de := de, db := db, L := 0, F := [], Q := [], G := [], ke := [], kb := [], E := fun _ _ => [], B := fun _ _ => [] } H12 ⟨sm12, ka, hR, k12, x12, d12, ⟨[], q12, .nil⟩, ⟨[], g12, .nil⟩, em de e12, ⟨fun _ _ => [], em db b12, fun _ _ => .nil⟩, ?_, ⟨by simp, by simp, by simp, by simp⟩, (fun l m => by cases m), ⟨?_, ?_, ?_⟩, ⟨n0, nd0, no2 _ nedh n2, no4 _ neq n5, no6 _ neg n7, no8 _ nede n9, no10 _ nedb n11, (fun l m => by cases m), (fun l m => by cases m)⟩⟩ ⟨rfl, rfl, rfl, rfl, rfl, rfl, fun _ _ => rfl, fun _ _ => rfl⟩
  · show q ≠ g
    intro z; rw [← z, q6] at n7; cases n7
  · show dh ≠ de
    intro z; rw [← z, d8] at n9; cases n9
  · show dh ≠ db
    intro z; rw [← z, d10] at n11; cases n11
  · show de ≠ db
    intro z; rw [← z, e10] at n11; cases n11
end
theorem in_Chart (T : Txt K mg cs) : Ini P w K mg base cs.Chart 1 ["self", "rules"] (sp2 (R_Chart_init K cs)) := by
  obtain ⟨f, fd, hm, F, hb⟩ := T.i_Chart.ex
  exact ⟨f, fd, hm, hb, ok_Chart_init F T⟩
def R_heights_over (K : PySem.W.Frag) (cs : Cs) : V → V → Hp → VK → XK → Prop := fun x y H Q _ => ∃ (a : Addr) (vs : List V) (rs : List Rl) (z : Str), x = .ref a ∧ H a = some (.lst vs) ∧ RulesAt H vs rs ∧ y = .str z ∧ GB rs (tl z) ∧ ∀ d F H', Same H H' → H d = none → H' d = some (.dT (hK F)) → Std rs (tl z) F → Q (.ref d) H'
section
set_option hygiene false in
local macro_rules | `(tactic| top_name) => `(tactic| first | refine e_call (df_first_nodes T) (hr.mono (by decide)) ?_)
set_option hygiene false in
local macro_rules | `(tactic| kpc_turns) => `(tactic| first | refine e_methV T.c_Chart.cl (md_Chart_offer T) (hr.mono (by decide)) rfl (by ki_room) rfl ?_ | refine e_methV0 T.c_Chart.cl (md_Chart_take_level T) (hr.mono (by decide)) rfl (by ki_room) rfl ?_ | refine e_methV0 T.c_Chart.cl (md_Chart_rise T) (hr.mono (by decide)) rfl (by ki_room) rfl ?_)
theorem ok_heights_over {f : Addr} {fd : FuncData} (F : Fun K "heights_over" "heights_over" s_heights_over f fd) (T : Txt K mg cs) : FnOk P w K mg base (L2.CX P w) 4 f fd ["rules", "signs"] (sp2 (R_heights_over K cs)) := by
  refine F.okX sc_heights_over (fun vs H Q E h => sp2_len h) (fun cdv A outer s H vs Q E hr h => ⟨_, PBw (X := X_heights_over P w K mg base f cdv A outer s H E), ?_⟩)
  obtain ⟨a0, a1, rfl, h⟩ := h
  have ib_Chart : Gn mg "Chart" (some _) := ⟨T.c_Chart.mg⟩
  have icl_Chart : ClsI K cs.Chart := ⟨T.c_Chart.cl⟩
  have ifl_Chart_heights : NoA K cs.Chart "heights" := ⟨T.n_Chart_heights⟩
  have ifl_Chart_queue : NoA K cs.Chart "queue" := ⟨T.n_Chart_queue⟩
  have hr' : Room 3 (X_heights_over P w K mg base f cdv A outer s H E).A := hr
  replace hr := hr'
  clear hr'
  obtain ⟨a, vs, rs, z, rfl, ka, hR, rfl, hb, h⟩ := h
  have hvl := hR.len
  refine b_cons (s_set (e_make (in_Chart T) (hr.mono (by decide)) ?_))
  kxs_still
  intro c dx H1 s1 n1 nd1 ndx k1 kd1 f1
  kxs_still
  refine ⟨H, c, a, dx, rs, vs, rfl, rfl, s1, n1, nd1, k1, kd1, ka, hR, fun s0 H2 hc2 e0 => ⟨rfl, ?_⟩⟩
  have ka2 := hc2.sm _ _ ka
  refine b_cons (s_for (j_list ?_))
  kxs_still
  refine ⟨a, vs, z, rs.length, rfl, SqL.of ka2, hvl, hb.h1, rfl, by rw [len_tl]; exact hb.h2, fun l ns H3 s3 n3 k3 aN => ?_⟩
  have hc3 := hc2.more s3
  have hnl := aN.len
  have hfl : (firstN rs.length (tl z)).length ≤ 10000 := by
    unfold firstN
    rw [List.length_append, List.length_map, List.length_range, flat_len (c := (tl z).length + 1) fun x _ => by rw [List.length_map, List.length_range], List.length_range]
    have h1 := hb.h1
    have h2 := hb.h2
    have : rs.length * ((tl z).length + 1) ≤ 60 * 61 := Nat.mul_le_mul (by omega) (by omega)
    omega
  obtain ⟨e1, e2, e3, e4, e5, e6, e7, e8⟩ := e0
  have nl : ∀ b o, H2 b = some o → l ≠ b := fun b o e w => by rw [w, e] at n3; cases n3
  obtain ⟨qv0, kq0, _⟩ := hc2.hQ
  kxs_still
  refine ⟨⟨_, SqL.of k3⟩, _, _, _, walk_list (xs := ns), fun m σ' H' => ∃ v3, σ' = [some (.ref a), some (.str z), some (.ref c), v3] ∧ Ch H cs.Chart rs vs H' c (offs s0 ((firstN rs.length (tl z)).take m)) ∧ H' l = some (.lst ns) ∧ TS H3 H', ⟨none, rfl, hc3, k3, TS.refl _⟩, fun m σ' H' _ ⟨_, _, _, k, _⟩ => SqL.of k, ?_, ?_⟩
  · rintro m x σ' H4 H5 hm ⟨v3, rfl, hc4, kl4, ts4⟩ ⟨rfl, hx⟩
    obtain ⟨n, hn, hnd⟩ := aN.get hx
    have kI4 := hc4.ins
    have ho := offs_keep s0 ((firstN rs.length (tl z)).take m)
    have hl4 : ((firstN rs.length (tl z)).take m).length ≤ 10000 := by rw [List.length_take]; omega
    rw [e1, e2] at ho
    have hF := ho.2.2.2.2.2.2.2.2.2.2.2.2.2.1
    have hQ := ho.2.2.2.2.2.2.2.2.2.2.2.2.2.2
    simp only [List.length_nil, Nat.zero_add] at hF hQ
    kxs_still
    refine ⟨H, c, rs, vs, _, n, rfl, hc4, hnd.ts ts4, by omega, by omega, fun H6 hc6 f6 => ?_⟩
    rw [← offs_snoc, ← take_snoc hn] at hc6
    have ts6 : TS H5 H6 := fun x xs e => (f6 x (fun z => hc4.not_tup e (.inr (.inr (.inl z)))) fun z => hc4.not_tup e (.inr (.inr (.inr (.inl z))))).trans e
    kxs_still
    refine ⟨_, rfl, hc6, ?_, ts4.trans ts6⟩
    rw [f6 l (fun w => nl _ _ hc2.hF (w.trans ho.2.2.1)) fun w => nl _ _ kq0 (w.trans ho.2.2.2.1)]
    exact kl4
  rintro σ' H4 ⟨v3, rfl, hc4, _, _⟩
  rw [List.take_of_length_le (by omega)] at hc4
  obtain ⟨hl4, hG4⟩ := LI.first hb.h6 hb.h1 hb.h2 ⟨e1, e2, e3, e4, e5, e6, e7, e8⟩
  refine b_cons (s_while (fun m σ' H' => ∃ s' T', σ' = [some (.ref a), some (.str z), some (.ref c), v3] ∧ Ch H cs.Chart rs vs H' c s' ∧ LI rs (tl z) s' T' [] ∧ s'.G = [] ∧ m = muS s') _ ⟨_, _, rfl, hc4, hl4, hG4, rfl⟩ ?_)
  rintro m σ' H5 ⟨s5, T5, rfl, hc5, hl5, hG5, rfl⟩
  have kI := hc5.ins
  obtain ⟨qv, kQ, aQ⟩ := hc5.hQ
  kxs_still
  intro l6 H6 s6 n6 k6 f6
  have kQ6 := s6 _ _ kQ
  have hc6 := hc5.more s6
  have kI6 := hc6.ins
  refine o_neNil hr.units kQ6 k6 ?_
  kxs_still
  refine iteND (fun cn => ?_) fun cn => ?_
  · have hqn : s5.Q ≠ [] := fun w => by
      have := aQ.len
      rw [w] at this
      exact cn (List.eq_nil_of_length_eq_zero this)
    kxs_still
    refine ⟨H, c, rs, tl z, vs, s5, T5, rfl, hc6, hb, hl5, fun s7 T7 H7 hc7 hl7 hQ7 hmu => ?_⟩
    have kI7 := hc7.ins
    have hlen := hl7.c.len hb.h6 hb.h1 hb.h2
    unfold bigN at hlen
    have hsG := hl7.c.sG
    kxs_still
    refine ⟨H, c, rs, vs, s7, rfl, hc7, by omega, by rw [hQ7]; exact Nat.zero_le _, by omega, fun g' H8 hc8 => ?_⟩
    obtain ⟨hl8, hG8, hm8⟩ := hl7.rise hb.h6 hb.h1 hb.h2 hQ7 g'
    kxs_still
    exact ⟨_, Nat.lt_of_le_of_lt hm8 (hmu hqn), _, _, rfl, hc8, hl8, hG8, rfl⟩
  · have eQ : s5.Q = [] := by
      have := aQ.len
      rw [cn] at this
      exact List.eq_nil_of_length_eq_zero this.symm
    have hst := hl5.std eQ hG5
    kxs_still
    exact h s5.dh s5.F H6 hc6.sm hc6.nw.2.2.1 hc6.hF hst
end
theorem df_heights_over (T : Txt K mg cs) : Df P w K mg base "heights_over" 4 ["rules", "signs"] (sp2 (R_heights_over K cs)) := by
  obtain ⟨f, fd, hm, F, hb⟩ := T.f_heights_over.ex
  exact ⟨f, fd, hm, F.kp, hb, ok_heights_over F T⟩
theorem gb_of {rs : List Rl} {z : Str} (g : GoodG rs) (h : isTextD (.str z) = true) : GB rs (tl z) := by
  have h : (decide (z.length ≤ 60) && (tl z).all okc) = true := h
  rw [Bool.and_eq_true, decide_eq_true_eq] at h
  exact ⟨fun r hr => (g.good r hr).few, g.few, by rw [← len_tl]; exact h.1⟩
theorem text_is {d : PyData} (h : isTextD d = true) : ∃ z, d = .str z := by
  cases d <;> first | exact ⟨_, rfl⟩ | (exact Bool.noConfusion h)
/-! ### a grammar whose heads have a short rule each -/
structure Gr4 (rs : List Rl) : Prop where
  nms : ∃ nms : List Str, nms.length = 4 ∧ (∀ n ∈ nms, isNameS n = true) ∧ ∀ r ∈ rs, r.head ∈ nms ∧ ∀ p ∈ r.parts, isSg p = false → p ∈ nms
  short : ∀ r ∈ rs, ∃ r' ∈ rs, r'.head = r.head ∧ r'.parts.length < 3 ∧ ∀ p ∈ r'.parts, isSg p = true
  pos : 0 < rs.length
  few : rs.length ≤ 9
  hds : ∃ hs : List Str, hs.length ≤ 3 ∧ ∀ r ∈ rs, r.head ∈ hs
theorem quote_part {c : Nat} (h : okc c = true) : isPartS (Str.ofString "'" ++ ⟨#[c]⟩) = true ∧ isSg (Str.ofString "'" ++ ⟨#[c]⟩) = true := by
  refine ⟨rule_part h, ?_⟩
  have e : tl (Str.ofString "'" ++ ⟨#[c]⟩) = [39, c] := by rw [tl_append, tl_q]; rfl
  unfold isSg
  rw [e]
  rfl
theorem name_sg {n : Str} (h : isNameS n = true) : isSg n = false := by
  have := name_free h (s := 39) (by decide)
  unfold isSg
  cases q : tl n with
  | nil => rfl
  | cons x t =>
    rw [q] at this
    have : x ≠ 39 := fun z => this (by rw [z]; exact List.mem_cons_self ..)
    show (some x == some 39) = false
    simp [this]
/-! ### rows and signs: the plain law -/
/-- what a row reads from the parts that wait -/
def rg (rs : List Rl) : List PyData → List Str → Option (List Nat)
  | [], ps => if ps.all isSg = true then some (ps.map codeOf) else none
  | d :: ds, ps => (stp rs d (ps.dropWhile isSg)).bind fun q => (rg rs ds q).map ((ps.takeWhile isSg).map codeOf ++ ·)
theorem rg_sign {rs : List Rl} {p : Str} {ps : List Str} (h : isSg p = true) : ∀ (ds : List PyData), rg rs ds (p :: ps) = (rg rs ds ps).map (codeOf p :: ·)
  | [] => by
    show (if (isSg p && ps.all isSg) = true then some ((p :: ps).map codeOf) else none) = Option.map _ (if ps.all isSg = true then some (ps.map codeOf) else none)
    rw [h, Bool.true_and]
    by_cases c : ps.all isSg = true
    · rw [if_pos c, if_pos c]; rfl
    · rw [if_neg c, if_neg c]; rfl
  | d :: ds => by
    show (stp rs d ((p :: ps).dropWhile isSg)).bind _ = Option.map _ ((stp rs d (ps.dropWhile isSg)).bind _)
    rw [List.dropWhile_cons_of_pos h, List.takeWhile_cons_of_pos h]
    cases stp rs d (ps.dropWhile isSg) with
    | none => rfl
    | some q =>
      show Option.map _ (rg rs ds q) = Option.map _ (Option.map _ (rg rs ds q))
      cases rg rs ds q with
      | none => rfl
      | some z => rfl
theorem rg_name0 {rs : List Rl} {p : Str} {ps : List Str} (h : isSg p = false) : rg rs [] (p :: ps) = none := by
  show (if (isSg p && ps.all isSg) = true then _ else none) = none
  rw [h, Bool.false_and]
  rfl
theorem rg_name {rs : List Rl} {p : Str} {ps : List Str} (h : isSg p = false) (d : PyData) (ds : List PyData) : rg rs (d :: ds) (p :: ps) = (stp rs d (p :: ps)).bind (rg rs ds) := by
  show (stp rs d ((p :: ps).dropWhile isSg)).bind _ = _
  rw [List.dropWhile_cons_of_neg (by rw [h]; simp), List.takeWhile_cons_of_neg (by rw [h]; simp)]
  congr 1
  funext q
  cases rg rs ds q with
  | none => rfl
  | some z => rfl
theorem stp_nil (rs : List Rl) (d : PyData) : stp rs d [] = none := by
  unfold stp
  split <;> first | rfl | (rename_i e; cases e)
theorem rg_nil (rs : List Rl) : ∀ ds, rg rs ds [] = if ds = [] then some [] else none
  | [] => rfl
  | d :: ds => by
    show (stp rs d []).bind _ = _
    rw [stp_nil, if_neg (by simp)]
    rfl
theorem stp_int (rs : List Rl) (i : Int) (p : Str) (ps : List Str) : stp rs (.int i) (p :: ps) = if 0 ≤ i then (rs[i.toNat]?).bind fun r => if r.head = p then some (r.parts ++ ps) else none else none := rfl
theorem stp_nat {rs : List Rl} {k : Nat} {r : Rl} (h : rs[k]? = some r) (ps : List Str) : stp rs (.int (k : Nat)) (r.head :: ps) = some (r.parts ++ ps) := by
  rw [stp_int, if_pos (by omega), show ((k : Nat) : Int).toNat = k by omega, h]
  show (if r.head = r.head then _ else _) = _
  rw [if_pos rfl]
theorem rg_num {rs : List Rl} {k : Nat} {r : Rl} (h : rs[k]? = some r) (hs : isSg r.head = false) (ds : List PyData) (ps : List Str) : rg rs (.int (k : Nat) :: ds) (r.head :: ps) = rg rs ds (r.parts ++ ps) := by
  rw [rg_name hs, stp_nat h]
  rfl
theorem dropAll {α : Type} {f : α → Bool} : ∀ (l : List α), l.dropWhile f = [] ↔ l.all f = true
  | [] => by simp
  | a :: l => by
    by_cases c : f a = true
    · rw [List.dropWhile_cons_of_pos c, List.all_cons, c, Bool.true_and]; exact dropAll l
    · rw [List.dropWhile_cons_of_neg c, List.all_cons]
      simp [c]
theorem takeAll {α : Type} {f : α → Bool} : ∀ {l : List α}, l.all f = true → l.takeWhile f = l
  | [], _ => rfl
  | a :: l, h => by
    rw [List.all_cons, Bool.and_eq_true] at h
    rw [List.takeWhile_cons_of_pos h.1, takeAll h.2]
theorem rowGo_rg (rs : List Rl) : ∀ (ds : List PyData) (q : List Str) (c0 bg : List Nat), (rowEnd (rowGo rs ds ⟨q.dropWhile isSg, c0 ++ (q.takeWhile isSg).map codeOf, bg⟩)).map (·.1) = (rg rs ds q).map (c0 ++ ·)
  | [], q, c0, bg => by
    show (rowEnd (some _)).map _ = Option.map _ (if q.all isSg = true then some (q.map codeOf) else none)
    by_cases c : q.all isSg = true
    · rw [if_pos c, (dropAll q).mpr c, takeAll c]
      rfl
    · rw [if_neg c]
      cases e : q.dropWhile isSg with
      | nil => exact absurd ((dropAll q).mp e) c
      | cons x t => rfl
  | d :: ds, q, c0, bg => by
    show (rowEnd ((rowStep rs _ d).bind (rowGo rs ds))).map _ = Option.map _ ((stp rs d (q.dropWhile isSg)).bind _)
    unfold rowStep
    cases stp rs d (q.dropWhile isSg) with
    | none => rfl
    | some q' =>
      have ih := rowGo_rg rs ds q' (c0 ++ (q.takeWhile isSg).map codeOf) (bg ++ [(c0 ++ (q.takeWhile isSg).map codeOf).length])
      refine Eq.trans ih ?_
      show _ = Option.map _ (Option.map _ (rg rs ds q'))
      cases rg rs ds q' with
      | none => rfl
      | some z => simp
theorem rowRead_rg {rs : List Rl} {r0 : Rl} (h : rs[0]? = some r0) (hs : isSg r0.head = false) (ds : List PyData) : (rowRead rs ds).map (·.1) = rg rs ds [r0.head] := by
  have e := rowGo_rg rs ds [r0.head] [] []
  rw [List.dropWhile_cons_of_neg (by rw [hs]; simp), List.takeWhile_cons_of_neg (by rw [hs]; simp)] at e
  unfold rowRead
  rw [h]
  refine Eq.trans e ?_
  cases rg rs ds [r0.head] with
  | none => rfl
  | some z => rfl
theorem rowRead_none {rs : List Rl} (hg : ∀ r ∈ rs, isSg r.head = false) {ds : List PyData} : rowRead rs ds = none ↔ ∀ r0, rs[0]? = some r0 → rg rs ds [r0.head] = none := by
  constructor
  · intro h r0 h0
    rw [← rowRead_rg h0 (hg r0 (List.mem_of_getElem? h0)), h]
    rfl
  · intro h
    cases h0 : rs[0]? with
    | none => unfold rowRead; rw [h0]
    | some r0 =>
      have := rowRead_rg h0 (hg r0 (List.mem_of_getElem? h0)) ds
      rw [h r0 h0] at this
      cases e : rowRead rs ds with
      | none => rfl
      | some z => rw [e] at this; cases this
theorem stp_some {rs : List Rl} {d : PyData} {ps q : List Str} (h : stp rs d ps = some q) : ∃ (k : Nat) (r : Rl) (qs : List Str), d = .int (k : Nat) ∧ rs[k]? = some r ∧ ps = r.head :: qs ∧ q = r.parts ++ qs := by
  unfold stp at h
  split at h
  · rename_i i p ps'
    by_cases c : 0 ≤ i
    · rw [if_pos c] at h
      cases e : rs[i.toNat]? with
      | none => rw [e] at h; cases h
      | some r =>
        rw [e] at h
        have h : (if r.head = p then some (r.parts ++ ps') else none) = some q := h
        by_cases c2 : r.head = p
        · rw [if_pos c2] at h
          cases h
          exact ⟨i.toNat, r, ps', by rw [show ((i.toNat : Nat) : Int) = i by omega], e, by rw [c2], rfl⟩
        · rw [if_neg c2] at h; cases h
    · rw [if_neg c] at h; cases h
  · cases h
/-- a row that is read: each thing is the number of a rule -/
theorem rg_nums {rs : List Rl} : ∀ {ds : List PyData} {ps : List Str} {zs : List Nat}, rg rs ds ps = some zs → ∀ d ∈ ds, ∃ (k : Nat) (r : Rl), d = .int (k : Nat) ∧ rs[k]? = some r
  | [], _, _, _, d, hd => by cases hd
  | d :: ds, ps, zs, h, x, hx => by
    have h : (stp rs d (ps.dropWhile isSg)).bind (fun q => (rg rs ds q).map ((ps.takeWhile isSg).map codeOf ++ ·)) = some zs := h
    cases e : stp rs d (ps.dropWhile isSg) with
    | none => rw [e] at h; cases h
    | some q =>
      rw [e] at h
      obtain ⟨k, r, qs, e1, e2, _, _⟩ := stp_some e
      rcases List.mem_cons.mp hx with hx | hx
      · exact ⟨k, r, hx.trans e1, e2⟩
      · cases e3 : rg rs ds q with
        | none => rw [Option.bind_some, e3] at h; cases h
        | some z => exact rg_nums e3 x hx
theorem rg_ne {rs : List Rl} {p : Str} {zs : List Nat} {ds : List PyData} (hs : isSg p = false) (h : rg rs ds [p] = some zs) : ds ≠ [] := fun z => by
  rw [z, rg_name0 hs] at h
  cases h
def rowD (row : List Nat) : List PyData := row.map fun k => .int (k : Nat)
def strOf (zs : List Nat) : Str := ⟨zs.toArray⟩
theorem tl_strOf (zs : List Nat) : tl (strOf zs) = zs := by unfold tl strOf; simp
theorem strOf_app (a b : List Nat) : strOf a ++ strOf b = strOf (a ++ b) := by
  apply ext_tl
  rw [tl_append, tl_strOf, tl_strOf, tl_strOf]
theorem strOf_len (zs : List Nat) : (strOf zs).length = zs.length := by rw [len_tl, tl_strOf]
theorem strOf_nil : strOf [] = Str.ofString "" := by decide +kernel
/-! ### short rules -/
def isShort (r : Rl) : Prop := namesOf r = [] ∧ r.parts.length < 3
instance (r : Rl) : Decidable (isShort r) := inferInstanceAs (Decidable (_ ∧ _))
def shK (rs : List Rl) (E : Szs) (k : Nat) : Szs := match rs[k]? with
  | none => E
  | some r => if isShort r ∧ look E r.head = none then putS E r.head k else E
def shTo (rs : List Rl) (i : Nat) : Szs := (List.range i).foldl (shK rs) []
theorem shTo_step (rs : List Rl) (i : Nat) : shTo rs (i + 1) = shK rs (shTo rs i) i := by
  unfold shTo
  rw [List.range_succ, List.foldl_append]
  rfl
structure ShOk (rs : List Rl) (i : Nat) (E : Szs) : Prop where
  why : ∀ h k, look E h = some k → ∃ r, rs[k]? = some r ∧ r.head = h ∧ isShort r
  all : ∀ k r, k < i → rs[k]? = some r → isShort r → (look E r.head).isSome = true
  len : E.length ≤ i
theorem shTo_ok (rs : List Rl) : ∀ i, ShOk rs i (shTo rs i)
  | 0 => ⟨fun h k e => (nomatch e), fun k r h => absurd h (by omega), Nat.le_refl _⟩
  | i + 1 => by
    have ih := shTo_ok rs i
    rw [shTo_step]
    unfold shK
    cases hr : rs[i]? with
    | none =>
      refine ⟨ih.why, fun k r h1 h2 h3 => ?_, Nat.le_succ_of_le ih.len⟩
      by_cases c : k = i
      · rw [c, hr] at h2; cases h2
      · exact ih.all k r (by omega) h2 h3
    | some r =>
      show ShOk rs (i + 1) (if isShort r ∧ look (shTo rs i) r.head = none then putS (shTo rs i) r.head i else shTo rs i)
      by_cases c : isShort r ∧ look (shTo rs i) r.head = none
      · rw [if_pos c]
        refine ⟨fun h k e => ?_, fun k r' h1 h2 h3 => ?_, ?_⟩
        · rw [look_put] at e
          by_cases q : h = r.head
          · rw [if_pos q] at e
            cases e
            exact ⟨r, hr, q.symm, c.1⟩
          · rw [if_neg q] at e
            exact ih.why h k e
        · rw [look_put]
          by_cases q : r'.head = r.head
          · rw [if_pos q]; rfl
          · rw [if_neg q]
            by_cases c2 : k = i
            · rw [c2, hr] at h2; cases h2; exact absurd rfl q
            · exact ih.all k r' (by omega) h2 h3
        · rw [putS_none c.2, List.length_append]
          have := ih.len
          simp
          omega
      · rw [if_neg c]
        refine ⟨ih.why, fun k r' h1 h2 h3 => ?_, Nat.le_succ_of_le ih.len⟩
        by_cases c2 : k = i
        · rw [c2, hr] at h2
          cases h2
          cases e : look (shTo rs i) r.head with
          | some n => rfl
          | none => exact absurd ⟨h3, e⟩ c
        · exact ih.all k r' (by omega) h2 h3
/-- the short rules of all heads -/
def shorts (rs : List Rl) : Szs := shTo rs rs.length
theorem shorts_all {rs : List Rl} (g : Gr4 rs) : ∀ r ∈ rs, (look (shorts rs) r.head).isSome = true := fun r hr => by
  obtain ⟨r', h1, h2, h3, h4⟩ := g.short r hr
  obtain ⟨k, hk⟩ := List.mem_iff_getElem?.mp h1
  rw [← h2]
  refine (shTo_ok rs rs.length).all k r' (List.getElem?_eq_some_iff.mp hk).1 hk ⟨?_, h3⟩
  unfold namesOf
  rw [List.filter_eq_nil_iff]
  intro p hp
  rw [h4 p hp]
  simp
def needS (ps : List Str) : Nat := (ps.map fun p => if isSg p = true then 1 else 2).sum
theorem needS_app (a b : List Str) : needS (a ++ b) = needS a + needS b := by unfold needS; rw [List.map_append, List.sum_append]
theorem needS_cons (p : Str) (b : List Str) : needS (p :: b) = (if isSg p = true then 1 else 2) + needS b := by unfold needS; rw [List.map_cons, List.sum_cons]
theorem needS_len : ∀ (a : List Str), a.length ≤ needS a
  | [] => Nat.le_refl _
  | p :: a => by
    have := needS_len a
    rw [needS_cons, List.length_cons]
    split <;> omega
theorem needS_rev (a : List Str) : needS a.reverse = needS a := by unfold needS; rw [List.map_reverse, List.sum_reverse]
theorem needS_sg : ∀ {a : List Str}, (∀ p ∈ a, isSg p = true) → needS a = a.length
  | [], _ => rfl
  | p :: a, h => by
    rw [needS_cons, if_pos (h p (List.mem_cons_self ..)), needS_sg fun q hq => h q (List.mem_cons_of_mem _ hq), List.length_cons]
    omega
theorem isShort.sg {r : Rl} (h : isShort r) : ∀ p ∈ r.parts, isSg p = true := fun p hp => by
  have := List.filter_eq_nil_iff.mp h.1 p hp
  simpa using this
def wtS (ps : List Str) : Nat := (ps.map fun p => if isSg p = true then 1 else 3).sum
theorem wtS_app (a b : List Str) : wtS (a ++ b) = wtS a + wtS b := by unfold wtS; rw [List.map_append, List.sum_append]
theorem wtS_one (p : Str) : wtS [p] = if isSg p = true then 1 else 3 := by unfold wtS; simp
theorem wtS_rev (a : List Str) : wtS a.reverse = wtS a := by unfold wtS; rw [List.map_reverse, List.sum_reverse]
theorem wtS_le : ∀ (a : List Str), wtS a ≤ 3 * a.length
  | [] => Nat.le_refl _
  | p :: a => by
    have := wtS_le a
    have e : wtS (p :: a) = (if isSg p = true then 1 else 3) + wtS a := by unfold wtS; rw [List.map_cons, List.sum_cons]
    rw [e, List.length_cons]
    split <;> omega
theorem wtS_sg : ∀ {a : List Str}, (∀ p ∈ a, isSg p = true) → wtS a = a.length
  | [], _ => rfl
  | p :: a, h => by
    have e : wtS (p :: a) = (if isSg p = true then 1 else 3) + wtS a := by unfold wtS; rw [List.map_cons, List.sum_cons]
    rw [e, if_pos (h p (List.mem_cons_self ..)), wtS_sg fun q hq => h q (List.mem_cons_of_mem _ hq), List.length_cons]
    omega
theorem list_by {α : Type} {ys : List V} {xs : List α} {f : α → V} (hl : ys.length = xs.length) (h : ∀ (i : Nat) (y : V), ys[i]? = some y → ∃ x, xs[i]? = some x ∧ y = f x) : ys = xs.map f := by
  apply List.ext_getElem?
  intro i
  rw [List.getElem?_map]
  cases e : ys[i]? with
  | none =>
    rw [List.getElem?_eq_none (by have := List.getElem?_eq_none_iff.mp e; omega)]
    rfl
  | some y =>
    obtain ⟨x, h1, h2⟩ := h i y e
    rw [h1, h2]
    rfl
def wOf (rs : List Rl) : PyData → Int
  | .int i => ((rs[i.toNat]?).map Rl.worth).getD 0
  | _ => 0
def wsum (rs : List Rl) (ds : List PyData) : Int := (ds.map (wOf rs)).sum
theorem wsum_nat (rs : List Rl) (row : List Nat) : wsum rs (rowD row) = (row.map fun k => ((rs[k]?).map Rl.worth).getD 0).sum := by
  unfold wsum rowD
  rw [List.map_map]
  rfl
theorem tl_join0 (ms : List Str) : tl (Txt.join (Str.ofString "") ms) = ms.flatMap tl := by
  have e : tl (Str.ofString "") = [] := by decide +kernel
  have q : ∀ l : List (List Nat), joinL [] l = l.flatten := by
    intro l
    induction l with
    | nil => rfl
    | cons a l ih =>
      cases l with
      | nil => simp [joinL]
      | cons b l =>
        show a ++ ([] ++ joinL [] (b :: l)) = _
        rw [ih]
        simp
  rw [join_eq, tl_join, e, q, List.flatMap_def]
theorem join_ones (zs : List Nat) : Txt.join (Str.ofString "") (zs.map fun c => (⟨#[c]⟩ : Str)) = strOf zs := by
  apply ext_tl
  rw [tl_join0, tl_strOf, List.flatMap_map]
  induction zs with
  | nil => rfl
  | cons c zs ih => rw [List.flatMap_cons, ih]; rfl
theorem th_row {K : PySem.W.Frag} {H : Hp} {l : Addr} {row : List Nat} (h : SqL K H l (row.map fun k => V.int ((k : Nat) : Int))) : Th K H (.ref l) (.list (rowD row)) := .lst h (th_nats row)
theorem GoodG.hsg {rs : List Rl} (g : GoodG rs) : ∀ r ∈ rs, isSg r.head = false := fun r hr => name_sg (g.good r hr).head
theorem read_some {rs : List Rl} (g : GoodG rs) {ds : List PyData} {zs bg : List Nat} (h : rowRead rs ds = some (zs, bg)) : ∃ r0, rs[0]? = some r0 ∧ rg rs ds [r0.head] = some zs := by
  cases h0 : rs[0]? with
  | none => unfold rowRead at h; rw [h0] at h; cases h
  | some r0 =>
    refine ⟨r0, rfl, ?_⟩
    rw [← rowRead_rg h0 (g.hsg r0 (List.mem_of_getElem? h0)), h]
    rfl
theorem read_none {rs : List Rl} (g : GoodG rs) {d : PyData} (h : ∀ ds, d = .list ds → rowRead rs ds = none) : ∀ ds r0, d = .list ds → rs[0]? = some r0 → rg rs ds [r0.head] = none := fun ds r0 e h0 => (rowRead_none g.hsg).mp (h ds e) r0 h0
theorem row_get {rs : List Rl} {row : List Nat} {ps : List Str} {zs : List Nat} (h : rg rs (rowD row) ps = some zs) {k : Nat} (hk : k ∈ row) : ∃ r, rs[k]? = some r := by
  obtain ⟨k', r, e, hr⟩ := rg_nums h (.int (k : Nat)) (List.mem_map.mpr ⟨k, hk, rfl⟩)
  have : k = k' := by
    have := PyData.int.inj e
    omega
  subst this
  exact ⟨r, hr⟩
theorem rowD_ints (row : List Nat) : (row.map fun k => V.int ((k : Nat) : Int)) = (row.map fun k => ((k : Nat) : Int)).map V.int ∧ rowD row = (row.map fun k => ((k : Nat) : Int)).map PyData.int := by
  unfold rowD
  rw [List.map_map, List.map_map]
  exact ⟨rfl, rfl⟩

theorem atI_m1' {α : Type} {xs : List α} {y : α} (h0 : 0 < xs.length) (h : xs[xs.length - 1]? = some y) : atI xs (-1) = some y := by
  obtain ⟨ys, z, rfl⟩ : ∃ ys z, xs = ys ++ [z] := ⟨xs.dropLast, xs.getLast (List.length_pos_iff.mp h0), (List.dropLast_concat_getLast _).symm⟩
  rw [List.length_append, List.length_singleton, Nat.add_sub_cancel, List.getElem?_append_right (Nat.le_refl _), Nat.sub_self] at h
  cases h
  exact atI_last
/-! ### the trees of a row: size, height, how many numbers -/
abbrev Ti : Type := Nat × Nat × Nat
def mxH : List Ti → Nat
  | [] => 0
  | t :: ts => max t.2.1 (mxH ts)
theorem mxH_app : ∀ (a b : List Ti), mxH (a ++ b) = max (mxH a) (mxH b)
  | [], b => by show mxH b = max 0 (mxH b); omega
  | t :: a, b => by
    show max t.2.1 (mxH (a ++ b)) = max (max t.2.1 (mxH a)) (mxH b)
    rw [mxH_app a b]
    omega
inductive Tv (rs : List Rl) : List Nat → List Str → List Nat → List Ti → List Ti → Prop
  | nil : Tv rs [] [] [] [] []
  | sign {row : List Nat} {ps : List Str} {zs : List Nat} {is ts : List Ti} {p : Str} : isPartS p = true → isSg p = true → Tv rs row ps zs is ts → Tv rs row (p :: ps) (codeOf p :: zs) is ts
  | num {k : Nat} {r : Rl} {row1 row2 : List Nat} {ps : List Str} {zs1 zs2 : List Nat} {is1 is2 ts1 ts2 : List Ti} : rs[k]? = some r → isSg r.head = false → Tv rs row1 r.parts zs1 is1 ts1 → Tv rs row2 ps zs2 is2 ts2 →
      Tv rs (k :: (row1 ++ row2)) (r.head :: ps) (zs1 ++ zs2) ((zs1.length, mxH ts1 + 1, 1 + row1.length) :: (is1 ++ is2)) ((zs1.length, mxH ts1 + 1, 1 + row1.length) :: ts2)
section
variable {rs : List Rl}
theorem Tv.len {row : List Nat} {ps : List Str} {zs : List Nat} {is ts : List Ti} (h : Tv rs row ps zs is ts) : is.length = row.length ∧ (ts.map (·.2.2)).sum = row.length ∧ (ts.map (·.1)).sum ≤ zs.length := by
  induction h with
  | nil => exact ⟨rfl, rfl, Nat.le_refl _⟩
  | sign _ _ _ ih => exact ⟨ih.1, ih.2.1, by simp only [List.length_cons]; omega⟩
  | num _ _ _ _ ih1 ih2 =>
    simp only [List.length_cons, List.length_append, List.map_cons, List.sum_cons]
    omega
theorem Tv.app {row1 row2 : List Nat} {ps1 ps2 : List Str} {zs1 zs2 : List Nat} {is1 is2 ts1 ts2 : List Ti} (h : Tv rs row1 ps1 zs1 is1 ts1) (k : Tv rs row2 ps2 zs2 is2 ts2) : Tv rs (row1 ++ row2) (ps1 ++ ps2) (zs1 ++ zs2) (is1 ++ is2) (ts1 ++ ts2) := by
  induction h with
  | nil => exact k
  | sign hp hs _ ih => exact .sign hp hs ih
  | num hk hs h1 _ _ ih2 =>
    have := Tv.num hk hs h1 ih2
    simpa using this
theorem Tv.split : ∀ {ps qs : List Str} {row : List Nat} {zs : List Nat} {is ts : List Ti}, Tv rs row (ps ++ qs) zs is ts → ∃ row1 row2 zs1 zs2 is1 is2 t1 t2, row = row1 ++ row2 ∧ zs = zs1 ++ zs2 ∧ is = is1 ++ is2 ∧ ts = t1 ++ t2 ∧ Tv rs row1 ps zs1 is1 t1 ∧ Tv rs row2 qs zs2 is2 t2
  | [], qs, row, zs, is, ts, h => ⟨[], row, [], zs, [], is, [], ts, rfl, rfl, rfl, rfl, .nil, h⟩
  | p :: ps, qs, _, _, _, _, .sign hp hs h => by
    obtain ⟨row1, row2, zs1, zs2, is1, is2, t1, t2, rfl, rfl, rfl, rfl, h1, h2⟩ := Tv.split h
    exact ⟨row1, row2, codeOf p :: zs1, zs2, is1, is2, t1, t2, rfl, rfl, rfl, rfl, .sign hp hs h1, h2⟩
  | _ :: ps, qs, _, _, _, _, .num (k := k) (row1 := ra) (zs1 := za) (is1 := ia) (ts1 := ta) hk hs hd h => by
    obtain ⟨row1, row2, zs1, zs2, is1, is2, t1, t2, rfl, rfl, rfl, rfl, h1, h2⟩ := Tv.split h
    exact ⟨k :: (ra ++ row1), row2, za ++ zs1, zs2, _ :: (ia ++ is1), is2, _ :: t1, t2, by simp, by simp, by simp, rfl, .num hk hs hd h1, h2⟩
theorem tv_of (hg : ∀ r ∈ rs, isSg r.head = false) (hp : ∀ r ∈ rs, ∀ p ∈ r.parts, isPartS p = true) : ∀ (row : List Nat) (ps : List Str) (zs : List Nat), (∀ p ∈ ps, isPartS p = true) → rg rs (rowD row) ps = some zs → ∃ is ts, Tv rs row ps zs is ts
  | [], ps, zs, hq, h => by
    have h : (if ps.all isSg = true then some (ps.map codeOf) else none) = some zs := h
    by_cases c : ps.all isSg = true
    · rw [if_pos c] at h
      cases h
      refine ⟨[], [], ?_⟩
      clear h
      induction ps with
      | nil => exact .nil
      | cons p ps ih =>
        rw [List.all_cons, Bool.and_eq_true] at c
        exact .sign (hq p (List.mem_cons_self ..)) c.1 (ih (fun q m => hq q (List.mem_cons_of_mem _ m)) c.2)
    · rw [if_neg c] at h; cases h
  | k :: row, ps, zs, hq, h => by
    induction ps generalizing zs with
    | nil => rw [rg_nil] at h; cases h
    | cons p ps ih =>
      have hq' : ∀ q ∈ ps, isPartS q = true := fun q m => hq q (List.mem_cons_of_mem _ m)
      cases hs : isSg p with
      | true =>
        rw [rg_sign hs] at h
        cases e : rg rs (rowD (k :: row)) ps with
        | none => rw [e] at h; cases h
        | some z =>
          rw [e] at h
          cases h
          obtain ⟨is, ts, hd⟩ := ih z hq' e
          exact ⟨is, ts, .sign (hq p (List.mem_cons_self ..)) hs hd⟩
      | false =>
        have h : rg rs (.int (k : Nat) :: rowD row) (p :: ps) = some zs := h
        rw [rg_name hs] at h
        cases e : stp rs (.int (k : Nat)) (p :: ps) with
        | none => rw [e] at h; cases h
        | some q =>
          rw [e] at h
          have h : rg rs (rowD row) q = some zs := h
          obtain ⟨k', r, qs, e1, hk, e2, e3⟩ := stp_some e
          have ek : k' = k := by have := PyData.int.inj e1; omega
          subst ek
          obtain ⟨rfl, rfl⟩ := List.cons.inj e2
          subst e3
          have rm := List.mem_of_getElem? hk
          obtain ⟨is, ts, hd⟩ := tv_of hg hp row _ zs (fun x m => by
            rcases List.mem_append.mp m with m | m
            · exact hp r rm x m
            · exact hq' x m) h
          obtain ⟨row1, row2, zs1, zs2, is1, is2, t1, t2, rfl, rfl, rfl, rfl, h1, h2⟩ := hd.split
          exact ⟨_, _, .num hk hs h1 h2⟩
theorem sg_is {p : Str} (hp : isPartS p = true) (hs : isSg p = true) : p = sgn (codeOf p) := by
  apply ext_tl
  rw [tl_sgn, (sign_tl hp hs).1]
theorem drop_at {t zs rest : List Nat} {b c : Nat} (h : t.drop b = c :: zs ++ rest) : t[b]? = some c ∧ t.drop (b + 1) = zs ++ rest := by
  have e : (t.drop b)[0]? = some c := by rw [h]; rfl
  rw [List.getElem?_drop] at e
  refine ⟨e, ?_⟩
  rw [← List.drop_drop, h]
  rfl
/-- what stands by a tree: the first parts of a rule, one tree further -/
theorem Tv.sd {t : List Nat} {row : List Nat} {ps : List Str} {zs : List Nat} {is ts : List Ti} (h : Tv rs row ps zs is ts) : ∀ {n : Nat} {r : Rl} {q post : List Str} {b0 b h0 : Nat} {rest : List Nat}, rs[n]? = some r → r.parts = q ++ ps ++ post → b ≤ t.length → t.drop b = zs ++ rest → Sd rs t h0 (.ru n q.length b0 b) → ∃ hh, Sd rs t hh (.ru n (q.length + ps.length) b0 (b + zs.length)) ∧ hh ≤ max h0 (mxH ts) := by
  induction h with
  | nil => intro n r q post b0 b h0 rest _ _ _ _ d; exact ⟨h0, d, Nat.le_max_left ..⟩
  | @sign row ps zs is ts p hp hs _ ih =>
    intro n r q post b0 b h0 rest hn he hb ht d
    obtain ⟨e1, e2⟩ := drop_at ht
    have hX : r.parts[q.length]? = some (sgn (codeOf p)) := by
      rw [he, List.append_assoc, List.getElem?_append_right (Nat.le_refl _), Nat.sub_self, ← sg_is hp hs]
      rfl
    have s1 := Sd.step hn hX d (Sd.sign e1)
    obtain ⟨hh, d2, l2⟩ := ih (q := q ++ [p]) (post := post) hn (by rw [he]; simp) (by have := (List.getElem?_eq_some_iff.mp e1).1; omega) e2 (by rw [List.length_append]; exact s1)
    refine ⟨hh, ?_, by omega⟩
    rw [List.length_append] at d2
    have e3 : q.length + [p].length + ps.length = q.length + (p :: ps).length := by simp only [List.length_cons, List.length_nil]; omega
    have e4 : b + 1 + zs.length = b + (codeOf p :: zs).length := by simp only [List.length_cons]; omega
    rw [← e3, ← e4]
    exact d2
  | @num k r1 row1 row2 ps zs1 zs2 is1 is2 ts1 ts2 hk hs h1 h2 ih1 ih2 =>
    intro n r q post b0 b h0 rest hn he hb ht d
    rw [List.append_assoc] at ht
    have hkl := (List.getElem?_eq_some_iff.mp hk).1
    obtain ⟨h1', d1, l1⟩ := ih1 (q := []) (post := []) (b0 := b) (b := b) hk (by simp) hb ht (Sd.zero hkl hb)
    rw [List.length_nil, Nat.zero_add] at d1
    have dn := Sd.head hk d1
    have hX : r.parts[q.length]? = some r1.head := by
      rw [he, List.append_assoc, List.getElem?_append_right (Nat.le_refl _), Nat.sub_self]
      rfl
    have s1 := Sd.step hn hX d dn
    have hbl : b + zs1.length ≤ t.length := by
      have := congrArg List.length ht
      rw [List.length_drop, List.length_append] at this
      omega
    obtain ⟨hh, d2, l2⟩ := ih2 (q := q ++ [r1.head]) (post := post) (rest := rest) hn (by rw [he]; simp) hbl (by rw [← List.drop_drop, ht, List.drop_left]) (by rw [List.length_append]; exact s1)
    refine ⟨hh, ?_, ?_⟩
    · rw [List.length_append] at d2
      have e3 : q.length + [r1.head].length + ps.length = q.length + (r1.head :: ps).length := by simp only [List.length_cons, List.length_nil]; omega
      rw [List.length_append, ← e3, ← Nat.add_assoc]
      exact d2
    · show hh ≤ max h0 (max (mxH ts1 + 1) (mxH ts2))
      omega
/-- where the names beneath a rule begin, by how many numbers each has -/
def chl (is : List Ti) : Nat → List Str → List Nat
  | _, [] => []
  | c, p :: ps => if isSg p = true then chl is c ps else c :: chl is (c + ((is[c]?).map (·.2.2)).getD 0) ps
theorem Tv.cover {row0 : List Nat} {is0 : List Ti} {row : List Nat} {ps : List Str} {zs : List Nat} {is ts : List Ti} (h : Tv rs row ps zs is ts) : ∀ {o : Nat} {rr : List Nat} {ri : List Ti}, row0.drop o = row ++ rr → is0.drop o = is ++ ri → ∀ j, o ≤ j → j < o + row.length → j ∈ chl is0 o ps ∨ ∃ i n r, o ≤ i ∧ i < j ∧ row0[i]? = some n ∧ rs[n]? = some r ∧ j ∈ chl is0 (i + 1) r.parts := by
  induction h with
  | nil => intro o rr ri _ _ j h1 h2; simp only [List.length_nil] at h2; omega
  | sign hp hs _ ih =>
    intro o rr ri e1 e2 j h1 h2
    have e3 : ∀ (x : List Str) (p : Str), isSg p = true → chl is0 o (p :: x) = chl is0 o x := fun x p hs => by rw [chl, if_pos hs]
    rw [e3 _ _ hs]
    exact ih e1 e2 j h1 h2
  | @num k r1 row1 row2 ps zs1 zs2 is1 is2 ts1 ts2 hk hs hd1 hd2 ih1 ih2 =>
    intro o rr ri e1 e2 j h1 h2
    have a0 : row0[o]? = some k := by
      have : (row0.drop o)[0]? = some k := by rw [e1]; rfl
      rwa [List.getElem?_drop] at this
    have b0 : is0[o]? = some (zs1.length, mxH ts1 + 1, 1 + row1.length) := by
      have : (is0.drop o)[0]? = some (zs1.length, mxH ts1 + 1, 1 + row1.length) := by rw [e2]; rfl
      rwa [List.getElem?_drop] at this
    have l1 := hd1.len.1
    have a1 : row0.drop (o + 1) = row1 ++ (row2 ++ rr) := by rw [← List.drop_drop, e1]; simp
    have b1 : is0.drop (o + 1) = is1 ++ (is2 ++ ri) := by rw [← List.drop_drop, e2]; simp
    have a2 : row0.drop (o + (1 + row1.length)) = row2 ++ rr := by rw [← Nat.add_assoc, ← List.drop_drop, a1, List.drop_left]
    have b2 : is0.drop (o + (1 + row1.length)) = is2 ++ ri := by rw [← Nat.add_assoc, ← List.drop_drop, b1, ← l1, List.drop_left]
    have e3 : chl is0 o (r1.head :: ps) = o :: chl is0 (o + (1 + row1.length)) ps := by rw [chl, if_neg (by rw [hs]; exact Bool.false_ne_true), b0]; rfl
    rw [e3]
    simp only [List.length_cons, List.length_append] at h2
    by_cases c0 : j = o
    · exact .inl (by rw [c0]; exact List.mem_cons_self ..)
    · by_cases c1 : j < o + 1 + row1.length
      · rcases ih1 a1 b1 j (by omega) c1 with q | ⟨i, n, r, q1, q2, q3, q4, q5⟩
        · exact .inr ⟨o, k, r1, Nat.le_refl _, by omega, a0, hk, q⟩
        · exact .inr ⟨i, n, r, by omega, q2, q3, q4, q5⟩
      · rcases ih2 a2 b2 j (by omega) (by omega) with q | ⟨i, n, r, q1, q2, q3, q4, q5⟩
        · exact .inl (List.mem_cons_of_mem _ q)
        · exact .inr ⟨i, n, r, by omega, q2, q3, q4, q5⟩
/-! the fold of the law: from the last number on -/
def goT : List Str → List Ti → Ti → Option (Ti × List Ti)
  | [], stk, acc => some (acc, stk)
  | p :: ps, stk, acc => if isSg p = true then goT ps stk (acc.1 + 1, acc.2.1, acc.2.2) else match stk with
    | [] => none
    | y :: t => goT ps t (acc.1 + y.1, max acc.2.1 y.2.1, acc.2.2 + y.2.2)
def tStep (rs : List Rl) (k : Nat) (s : List Ti × List Ti) : Option (List Ti × List Ti) := (rs[k]?).bind fun r => (goT r.parts s.1 (0, 0, 1)).map fun q => ((q.1.1, q.1.2.1 + 1, q.1.2.2) :: q.2, (q.1.1, q.1.2.1 + 1, q.1.2.2) :: s.2)
def tF (rs : List Rl) : List Nat → List Ti × List Ti → Option (List Ti × List Ti)
  | [], s => some s
  | k :: row, s => (tF rs row s).bind (tStep rs k)
theorem tF_app (rs : List Rl) : ∀ (a b : List Nat) (s : List Ti × List Ti), tF rs (a ++ b) s = (tF rs b s).bind (tF rs a)
  | [], b, s => by show tF rs b s = _; cases tF rs b s <;> rfl
  | k :: a, b, s => by
    show (tF rs (a ++ b) s).bind (tStep rs k) = _
    rw [tF_app rs a b s]
    cases tF rs b s <;> rfl
theorem goT_sg {p : Str} {ps : List Str} {stk : List Ti} {acc : Ti} (hs : isSg p = true) : goT (p :: ps) stk acc = goT ps stk (acc.1 + 1, acc.2.1, acc.2.2) := if_pos hs
theorem goT_nm {p : Str} {ps : List Str} {y : Ti} {t : List Ti} {acc : Ti} (hs : isSg p = false) : goT (p :: ps) (y :: t) acc = goT ps t (acc.1 + y.1, max acc.2.1 y.2.1, acc.2.2 + y.2.2) := if_neg (by rw [hs]; exact Bool.false_ne_true)
theorem goT_no {p : Str} {ps : List Str} {acc : Ti} (hs : isSg p = false) : goT (p :: ps) [] acc = none := if_neg (by rw [hs]; exact Bool.false_ne_true)
theorem Tv.goT {row : List Nat} {ps : List Str} {zs : List Nat} {is ts : List Ti} (h : Tv rs row ps zs is ts) : ∀ (X : List Ti) (acc : Ti), Lw.goT ps (ts ++ X) acc = some ((acc.1 + zs.length, max acc.2.1 (mxH ts), acc.2.2 + row.length), X) := by
  induction h with
  | nil => intro X acc; show some (acc, X) = _; simp [mxH]
  | sign hp hs _ ih =>
    intro X acc
    unfold Lw.goT
    rw [if_pos hs, ih]
    simp only [List.length_cons, Option.some.injEq, Prod.mk.injEq, and_true]
    omega
  | num hk hs h1 _ _ ih2 =>
    intro X acc
    unfold Lw.goT
    rw [hs, if_neg Bool.false_ne_true]
    show Lw.goT _ (_ ++ X) _ = _
    rw [ih2]
    simp only [List.length_cons, List.length_append, mxH, Option.some.injEq, Prod.mk.injEq, and_true]
    omega
theorem Tv.fold {row : List Nat} {ps : List Str} {zs : List Nat} {is ts : List Ti} (h : Tv rs row ps zs is ts) : ∀ (X Y : List Ti), tF rs row (X, Y) = some (ts ++ X, is ++ Y) := by
  induction h with
  | nil => intro X Y; rfl
  | sign _ _ _ ih => exact ih
  | @num k r row1 row2 ps zs1 zs2 is1 is2 ts1 ts2 hk hs h1 h2 ih1 ih2 =>
    intro X Y
    show (tF rs (row1 ++ row2) (X, Y)).bind (tStep rs k) = _
    rw [tF_app, ih2, Option.bind_some, ih1, Option.bind_some]
    unfold tStep
    rw [hk, Option.bind_some]
    show ((Lw.goT r.parts (ts1 ++ (ts2 ++ X)) (0, 0, 1)).map _) = _
    rw [h1.goT]
    simp
end
/-- a tree's tuple -/
def TiAt (H : Hp) (v : V) (q : Ti) : Prop := ∃ t, v = .ref t ∧ H t = some (.tup [.int (q.1 : Nat), .int (q.2.1 : Nat), .int (q.2.2 : Nat)])
theorem TiAt.ts {H H' : Hp} (s : TS H H') {v : V} {q : Ti} (h : TiAt H v q) : TiAt H' v q := by
  obtain ⟨t, e, k⟩ := h
  exact ⟨t, e, s _ _ k⟩
theorem sd_pos {rs : List Rl} {t : List Nat} {h : Nat} {p : Str} {i j : Nat} (d : Sd rs t h (.pt p i j)) (hs : isSg p = false) : 1 ≤ h := by
  generalize hn : Nd.pt p i j = n at d
  cases d with
  | sign e =>
    cases hn
    rw [isSg_sgn] at hs
    cases hs
  | zero => cases hn
  | step => cases hn
  | head => exact Nat.succ_le_succ (Nat.zero_le _)
theorem Std.le {rs : List Rl} {t : List Nat} {F : Hts} (s : Std rs t F) {n : Nd} {h : Nat} (d : Sd rs t h n) : ∃ k, lk F n = some k ∧ k ≤ h ∧ Sd rs t k n := by
  obtain ⟨k, hk⟩ := Sd.ex h d
  exact ⟨k, (s.ht n k).mpr hk, hk.2 h d, hk.1⟩
/-- beneath the j-th number of a row, from the place b on -/
def Sub (rs : List Rl) (row0 : List Nat) (is0 : List Ti) (t : List Nat) (j b : Nat) : Prop := ∃ n r row1 zs1 is1 ts1 rr ri rest, row0.drop j = n :: (row1 ++ rr) ∧ rs[n]? = some r ∧ isSg r.head = false ∧ Tv rs row1 r.parts zs1 is1 ts1 ∧ is0.drop (j + 1) = is1 ++ ri ∧ t.drop b = zs1 ++ rest ∧ b ≤ t.length
def DB (rs : List Rl) (row0 : List Nat) (is0 : List Ti) (t : List Nat) (kvs : List (Key × V)) : Prop := ∀ (j : Nat) (v : V), valV kvs (.inl ((j : Nat) : Int)) = some v → ∃ b : Nat, v = .int (b : Nat) ∧ Sub rs row0 is0 t j b
theorem chl_sg {is : List Ti} {c : Nat} {p : Str} {ps : List Str} (hs : isSg p = true) : chl is c (p :: ps) = chl is c ps := by rw [chl, if_pos hs]
theorem chl_nm {is : List Ti} {c : Nat} {p : Str} {ps : List Str} {T : Ti} (hs : isSg p = false) (h : is[c]? = some T) : chl is c (p :: ps) = c :: chl is (c + T.2.2) ps := by
  rw [chl, if_neg (by rw [hs]; exact Bool.false_ne_true), h]
  rfl

theorem lk_has {κ α : Type} [DecidableEq κ] {F : List (κ × α)} {n : κ} (h : n ∈ F.map (·.1)) : ∃ v, lk F n = some v := by
  induction F with
  | nil => cases h
  | cons q F ih =>
    show ∃ v, (if q.1 = n then some q.2 else lk F n) = some v
    by_cases c : q.1 = n
    · exact ⟨q.2, if_pos c⟩
    · rw [if_neg c]
      rcases List.mem_cons.mp h with h | h
      · exact absurd h.symm c
      · exact ih h
theorem text_strOf {zs : List Nat} (h1 : zs.length ≤ 60) (h2 : ∀ z ∈ zs, okc z = true) : isTextD (.str (strOf zs)) = true := by
  show (decide ((strOf zs).length ≤ 60) && (tl (strOf zs)).all okc) = true
  rw [strOf_len, tl_strOf, decide_eq_true h1, Bool.true_and, List.all_eq_true]
  exact h2
theorem Std.short {rs : List Rl} {t : List Nat} {F : Hts} (s : Std rs t F) (hG : GoodG rs) : ∀ n ∈ F.map (·.1), ∀ p i j, n = .pt p i j → p.length ≤ 1000000 := by
  intro n hn p i j e
  obtain ⟨h, hh⟩ := lk_has hn
  have d := ((s.ht n h).mp hh).1
  cases d with
  | sign e1 =>
    cases e
    rw [len_tl, tl_sgn]
    show 2 ≤ _
    decide
  | zero => cases e
  | step => cases e
  | head hr =>
    cases e
    exact Nat.le_trans (name_len (hG.good _ (List.mem_of_getElem? hr)).head) (by decide)

theorem Tv.signs {rs : List Rl} {row : List Nat} {ps : List Str} {zs : List Nat} {is ts : List Ti} (h : Tv rs row ps zs is ts) : ∀ z ∈ zs, okc z = true := by
  induction h with
  | nil => intro z m; cases m
  | sign hp hs _ ih =>
    intro z m
    rcases List.mem_cons.mp m with rfl | m
    · exact (sign_tl hp hs).2
    · exact ih z m
  | num _ _ _ _ ih1 ih2 =>
    intro z m
    rcases List.mem_append.mp m with m | m
    · exact ih1 z m
    · exact ih2 z m

/-! ### a least row with a rule -/
/-- a dict from each head to the numbers of its rules -/
structure ByAt (H : Hp) (d : Addr) (kvs : List (Key × V)) (rs : List Rl) (L : Str → Option Addr) (i : Nat) : Prop where
  val : ∀ h, valV kvs (.inr h) = (L h).map V.ref
  inj : ∀ h h' l, L h = some l → L h' = some l → h = h'
  at_ : ∀ h l, L h = some l → l ≠ d ∧ H l = some (.lst (numV (numsTo rs h i)))
  non : ∀ h, L h = none → numsTo rs h i = []
  len : kvs.length ≤ i
def R_rules_by_head (K : PySem.W.Frag) : V → Hp → VK → XK → Prop := fun x H Q _ => ∃ (a : Addr) (vs : List V) (rs : List Rl), x = .ref a ∧ SqL K H a vs ∧ RulesAt H vs rs ∧ GoodG rs ∧ ∀ (d : Addr) (kvs : List (Key × V)) (L : Str → Option Addr) (H' : Hp), Same H H' → H d = none → H' d = some (.dK kvs) → ByAt H' d kvs rs L rs.length → Q (.ref d) H'
section
theorem ok_rules_by_head {f : Addr} {fd : FuncData} (F : Fun K "rules_by_head" "rules_by_head" s_rules_by_head f fd) (T : Txt K mg cs) : FnOk P w K mg base (L2.CX P w) 1 f fd ["rules"] (sp1 (R_rules_by_head K)) := by
  refine F.okX sc_rules_by_head (fun vs H Q E h => sp1_len h) (fun cdv A outer s H vs Q E hr h => ⟨_, PBw (X := X_rules_by_head P w K mg base f cdv A outer s H E), ?_⟩)
  obtain ⟨a0, rfl, h⟩ := h
  have ib_enumerate := T.b_enumerate
  have hr' : Room 0 (X_rules_by_head P w K mg base f cdv A outer s H E).A := hr
  replace hr := hr'
  clear hr'
  obtain ⟨a, vs, rs, rfl, hS, hR, hG, h⟩ := h
  have hvl := hR.len
  have h60 := hG.few
  kxs_still
  intro d H1 s1 n1 k1 _
  have hS1 := s1.seq hS
  kxs_still
  refine s_for (j_enum ?_)
  kxs_still
  refine ⟨a, vs, rfl, hS1, _, _, _, walk_enumL (xs := vs), fun i σ' H' => ∃ (kvs : List (Key × V)) (L : Str → Option Addr) (v2 v3 : Option V), σ' = [some (.ref a), some (.ref d), v2, v3] ∧ Same H H' ∧ H' d = some (.dK kvs) ∧ ByAt H' d kvs rs L i ∧ (∀ h l, L h = some l → H l = none), ⟨[], fun _ => none, none, none, rfl, s1, k1, ⟨fun _ => rfl, (fun _ _ _ e => nomatch e), (fun _ _ e => nomatch e), fun _ _ => rfl, Nat.le_refl _⟩, (fun _ _ e => nomatch e)⟩, ?_, ?_, ?_⟩
  · rintro i σ' H' hi ⟨_, _, _, _, _, s, _⟩
    exact s.seq hS
  · rintro i x σ' H' H2 hi ⟨kvs, L, v2, v3, rfl, s2, k2, hby, hfr⟩ ⟨T1, x1, rfl, nT1, rfl, hx⟩
    have kT1 : (upd H' T1 (.tup [V.int (i : Nat), x1])) T1 = some (.tup [V.int (i : Nat), x1]) := upd_same
    have sT1 := sameU (o := .tup [V.int (i : Nat), x1]) nT1
    generalize upd H' T1 (.tup [V.int (i : Nat), x1]) = H7 at kT1 sT1
    obtain ⟨r, hr1⟩ : ∃ r, rs[i]? = some r := ⟨_, List.getElem?_eq_getElem (by omega)⟩
    obtain ⟨ra, rb, hv, _, e1, e2⟩ := hR.at' hr1
    rw [hx] at hv
    obtain rfl := Option.some.inj hv
    have s07 := s2.trans sT1
    have e17 := s07 _ _ e1
    have k27 := sT1 _ _ k2
    kxs_still
    refine e_dsetd ?_
    kxs_still
    refine ⟨.inl ⟨_, .inl k27⟩, ?_⟩
    kxs_still
    intro l0 H8 s8 n8 k8 e8
    have k28 := s8 _ _ k27
    have n0d : l0 ≠ d := fun z => by rw [z, k27] at n8; cases n8
    have s08 := s07.trans s8
    have n0 : H l0 = none := s07.none n8
    have h38 : ∀ {l : Addr} {xs : List V}, H' l = some (.lst xs) → H8 l = some (.lst xs) := fun q => s8 _ _ (sT1 _ _ q)
    have nl0 : ∀ {l : Addr} {o : HO}, H' l = some o → l ≠ l0 := fun {l o} q z => by rw [← z] at n8; rw [sT1 _ _ q] at n8; cases n8
    have step : ∀ h, numsTo rs h (i + 1) = numsTo rs h i ++ (if r.head = h then [i] else []) := fun h => by
      rw [nums_step, hr1]
      congr 1
      by_cases q : r.head = h
      · rw [if_pos q]; exact if_pos (show some r.head = some h by rw [q])
      · rw [if_neg q]; exact if_neg fun z => q (Option.some.inj z)
    have hlen := hby.len
    refine ⟨kvs, .inr r.head, k28, rfl, by omega, fun v hv => ?_, fun hn H9 k9 e9 => ?_⟩
    · rw [hby.val] at hv
      cases hL : L r.head with
      | none => rw [hL] at hv; cases hv
      | some l =>
        rw [hL] at hv
        cases hv
        obtain ⟨q1, q2⟩ := hby.at_ _ _ hL
        have q8 := h38 q2
        kxs_still
        refine ⟨ty_l q8, ?_⟩
        kxs_still
        refine m_append q8 (by unfold numV numsTo; rw [List.length_map]; have := List.length_filter_le (fun k => decide (rs[k]?.map Rl.head = some r.head)) (List.range i); rw [List.length_range] at this; omega) fun H10 k10 e10 => ?_
        kxs_still
        refine ⟨kvs, L, _, _, rfl, fun b o q => ?_, ?_, ⟨hby.val, hby.inj, fun h' l' hl' => ?_, fun h' hl' => ?_, by omega⟩, hfr⟩
        · rw [e10 b (ne_of_none q (hfr _ _ hL))]
          exact s08 _ _ q
        · rw [e10 d q1.symm]
          exact k28
        · obtain ⟨w1, w2⟩ := hby.at_ _ _ hl'
          refine ⟨w1, ?_⟩
          rw [step]
          by_cases q : r.head = h'
          · subst q
            rw [hL] at hl'
            cases hl'
            rw [if_pos rfl, k10]
            unfold numV
            rw [List.map_append]
            rfl
          · rw [if_neg q, List.append_nil, e10 l' (fun z => q (hby.inj _ _ l hL (by rw [← z]; exact hl')))]
            exact h38 w2
        · rw [step, if_neg (fun q => by rw [q] at hL; rw [hL] at hl'; cases hl'), List.append_nil]
          exact hby.non _ hl'
    · rw [hby.val] at hn
      have hL : L r.head = none := by
        cases q : L r.head with
        | none => rfl
        | some l => rw [q] at hn; cases hn
      have k09 : H9 l0 = some (.lst []) := by rw [e9 l0 n0d]; exact k8
      kxs_still
      refine ⟨ty_l k09, ?_⟩
      kxs_still
      refine m_append k09 (by decide) fun H10 k10 e10 => ?_
      kxs_still
      refine ⟨putK kvs (.inr r.head) (V.ref l0), fun h => if h = r.head then some l0 else L h, _, _, rfl, fun b o q => ?_, ?_, ⟨fun h' => ?_, fun h1 h2 l q1 q2 => ?_, fun h' l' hl' => ?_, fun h' hl' => ?_, ?_⟩, fun h' l' hl' => ?_⟩
      · rw [e10 b (ne_of_none q n0), e9 b (ne_of_none q n1)]
        exact s08 _ _ q
      · rw [e10 d n0d.symm]
        exact k9
      · rw [valV_put, hby.val]
        by_cases q : h' = r.head
        · rw [if_pos q, if_pos (by rw [q])]; rfl
        · rw [if_neg q, if_neg fun z => q (Sum.inr.inj z)]
      · have no : ∀ h, L h = some l → l ≠ l0 := fun h q => nl0 (hby.at_ _ _ q).2
        by_cases c1 : h1 = r.head
        · by_cases c2 : h2 = r.head
          · rw [c1, c2]
          · simp only [if_pos c1] at q1
            simp only [if_neg c2] at q2
            exact absurd (Option.some.inj q1).symm (no _ q2)
        · by_cases c2 : h2 = r.head
          · simp only [if_neg c1] at q1
            simp only [if_pos c2] at q2
            exact absurd (Option.some.inj q2).symm (no _ q1)
          · simp only [if_neg c1] at q1
            simp only [if_neg c2] at q2
            exact hby.inj _ _ _ q1 q2
      · by_cases c1 : h' = r.head
        · simp only [if_pos c1] at hl'
          cases hl'
          refine ⟨n0d, ?_⟩
          rw [step, if_pos c1.symm, c1, hby.non _ hL, k10]
          rfl
        · simp only [if_neg c1] at hl'
          obtain ⟨w1, w2⟩ := hby.at_ _ _ hl'
          refine ⟨w1, ?_⟩
          rw [step, if_neg fun z => c1 z.symm, List.append_nil, e10 l' (nl0 w2), e9 l' w1]
          exact h38 w2
      · by_cases c1 : h' = r.head
        · simp only [if_pos c1] at hl'
          cases hl'
        · simp only [if_neg c1] at hl'
          rw [step, if_neg fun z => c1 z.symm, List.append_nil]
          exact hby.non _ hl'
      · have := length_putK kvs (.inr r.head) (V.ref l0)
        omega
      · by_cases c1 : h' = r.head
        · simp only [if_pos c1] at hl'
          cases hl'
          exact n0
        · simp only [if_neg c1] at hl'
          exact hfr _ _ hl'
  · rintro σ' H' ⟨kvs, L, v2, v3, rfl, s2, k2, hby, hfr⟩
    kxs_still
    rw [hvl] at hby
    exact h d kvs L H' s2 n1 k2 hby

end
theorem df_rules_by_head (T : Txt K mg cs) : Df P w K mg base "rules_by_head" 1 ["rules"] (sp1 (R_rules_by_head K)) := by
  obtain ⟨f, fd, hm, F, hb⟩ := T.f_rules_by_head.ex
  exact ⟨f, fd, hm, F.kp, hb, ok_rules_by_head F T⟩
/-! ### the ways of a node, among what stands -/
abbrev Way : Type := List Nd
def plen (rs : List Rl) (r : Nat) : Nat := ((rs[r]?).map (·.parts.length)).getD 0
def headWays (rs : List Rl) (F : Hts) (i j : Nat) (l : List Nat) : List Way := (l.filter fun r => (lk F (.ru r (plen rs r) i j)).isSome).map fun r => [.ru r (plen rs r) i j]
def cutOk (F : Hts) (X : Str) (r d i j k : Nat) : Bool := (lk F (.ru r d i k)).isSome && (lk F (.pt X k j)).isSome
def cutWays (F : Hts) (X : Str) (r d i j n : Nat) : List Way := ((List.range n).filter fun k => cutOk F X r d i j (i + k)).map fun k => [.ru r d i (i + k), .pt X (i + k) j]
def waysN (rs : List Rl) (F : Hts) : Nd → List Way
  | .pt X i j => if isSg X = true then [[]] else headWays rs F i j (nums rs X)
  | .ru _ 0 _ _ => [[]]
  | .ru r (d + 1) i j => match (rs[r]?).bind (·.parts[d]?) with
    | none => []
    | some X => cutWays F X r d i j (j + 1 - i)
theorem cutWays_succ (F : Hts) (X : Str) (r d i j n : Nat) : cutWays F X r d i j (n + 1) = cutWays F X r d i j n ++ (if cutOk F X r d i j (i + n) = true then [[.ru r d i (i + n), .pt X (i + n) j]] else []) := by
  unfold cutWays
  rw [List.range_succ, List.filter_append, List.map_append]
  congr 1
  cases c : cutOk F X r d i j (i + n) with
  | true => rw [List.filter_cons_of_pos (by exact c), List.filter_nil, if_pos rfl]; rfl
  | false => rw [List.filter_cons_of_neg (by rw [c]; exact Bool.false_ne_true), List.filter_nil, if_neg Bool.false_ne_true]; rfl
theorem cutWays_len (F : Hts) (X : Str) (r d i j n : Nat) : (cutWays F X r d i j n).length ≤ n := by
  unfold cutWays
  rw [List.length_map]
  exact Nat.le_trans (List.length_filter_le _ _) (by rw [List.length_range]; exact Nat.le_refl _)
theorem headWays_snoc (rs : List Rl) (F : Hts) (i j : Nat) (l : List Nat) (r : Nat) : headWays rs F i j (l ++ [r]) = headWays rs F i j l ++ (if (lk F (.ru r (plen rs r) i j)).isSome = true then [[.ru r (plen rs r) i j]] else []) := by
  unfold headWays
  rw [List.filter_append, List.map_append]
  congr 1
  cases c : (lk F (.ru r (plen rs r) i j)).isSome with
  | true => rw [List.filter_cons_of_pos (by exact c), List.filter_nil, if_pos rfl]; rfl
  | false => rw [List.filter_cons_of_neg (by rw [c]; exact Bool.false_ne_true), List.filter_nil, if_neg Bool.false_ne_true]; rfl
theorem headWays_len (rs : List Rl) (F : Hts) (i j : Nat) (l : List Nat) : (headWays rs F i j l).length ≤ l.length := by
  unfold headWays
  rw [List.length_map]
  exact List.length_filter_le _ _
def WayAt (H : Hp) (v : V) (w : Way) : Prop := ∃ a xs, v = .ref a ∧ H a = some (.tup xs) ∧ All2 (NdAt H) xs w
def WaysAt (H : Hp) (v : V) (ws : List Way) : Prop := ∃ a xs, v = .ref a ∧ H a = some (.lst xs) ∧ All2 (WayAt H) xs ws
theorem WayAt.ts {H H' : Hp} (s : TS H H') {v : V} {w : Way} (h : WayAt H v w) : WayAt H' v w := by
  obtain ⟨a, xs, e, k, q⟩ := h
  exact ⟨a, xs, e, s _ _ k, q.mono fun _ _ z => z.ts s⟩
theorem WaysAt.more {H H' : Hp} (s : Same H H') {v : V} {w : List Way} (h : WaysAt H v w) : WaysAt H' v w := by
  obtain ⟨a, xs, e, k, q⟩ := h
  exact ⟨a, xs, e, s _ _ k, q.mono fun _ _ z => z.ts (Same.ts s)⟩
theorem walk_rangeN {a : Int} {n : Nat} : Walk (Itr a n) n (fun _ => True) (fun i H v H' => H' = H ∧ v = .int (a + ((i : Nat) : Int))) :=
  ⟨fun _ _ hi _ => hi, fun _ _ => Nat.le_refl _, fun i H x H' _ _ y => y⟩
def R_ways_of_parts (K : PySem.W.Frag) : V → V → V → Hp → VK → XK → Prop := fun x y z H Q _ => ∃ (a : Addr) (vs : List V) (rs : List Rl) (df : Addr) (F : Hts) (b : Addr) (r d i j : Nat) (rl : Rl), x = .ref a ∧ SqL K H a vs ∧ RulesAt H vs rs ∧ y = .ref df ∧ H df = some (.dT (hK F)) ∧ z = .ref b ∧ H b = some (.tup ((ndK (.ru r d i j)).map kV)) ∧ rs[r]? = some rl ∧ d ≤ rl.parts.length ∧ i ≤ j ∧ j ≤ 60 ∧
  ∀ v H', Same H H' → (∀ l, v = .ref l → H l = none) → WaysAt H' v (waysN rs F (.ru r d i j)) → Q v H'
section
theorem ok_ways_of_parts {f : Addr} {fd : FuncData} (F : Fun K "ways_of_parts" "ways_of_parts" s_ways_of_parts f fd) (T : Txt K mg cs) : FnOk P w K mg base (L2.CX P w) 1 f fd ["rules", "heights", "node"] (sp3 (R_ways_of_parts K)) := by
  refine F.okX sc_ways_of_parts (fun vs H Q E h => sp3_len h) (fun cdv A outer s H vs Q E hr h => ⟨_, PBw (X := X_ways_of_parts P w K mg base f cdv A outer s H E), ?_⟩)
  obtain ⟨a0, a1, a2, rfl, h⟩ := h
  have ib_range := T.b_range
  have hr' : Room 0 (X_ways_of_parts P w K mg base f cdv A outer s H E).A := hr
  replace hr := hr'
  clear hr'
  obtain ⟨a, vs, rs, df, F, b, r, d, i, j, rl, rfl, hS, hR, rfl, hdf, rfl, hb, hrl, hd, hij, hj, h⟩ := h
  obtain ⟨ra, rb, hv, hvk, e1, e2⟩ := hR.at' hrl
  have hb' : H b = some (.tup [.int ((r : Nat) : Int), .int ((d : Nat) : Int), .int ((i : Nat) : Int), .int ((j : Nat) : Int)]) := hb
  kxs_still
  refine iteD (fun hd0 => ?_) fun hd0 => ?_
  · have hd0 : d = 0 := by omega
    subst hd0
    kxs_still
    intro t1 H1 s1 n1 k1 f1
    kxs_still
    intro l2 H2 s2 n2 k2 f2
    kxs_still
    exact h _ H2 (s1.trans s2) (fun l e => by cases e; exact s1.none n2) ⟨l2, _, rfl, k2, .cons ⟨t1, [], rfl, s2 _ _ k1, .nil⟩ .nil⟩
  obtain ⟨d', rfl⟩ : ∃ d', d = d' + 1 := ⟨d - 1, by omega⟩
  obtain ⟨X, hX⟩ : ∃ X, rl.parts[d']? = some X := ⟨_, List.getElem?_eq_getElem (by omega)⟩
  have hXk : atI (rl.parts.map V.str) (((d' + 1 : Nat) : Int) - 1) = some (.str X) := atI_nat (by omega) (by rw [show (((d' + 1 : Nat) : Int) - 1).toNat = d' by omega, List.getElem?_map, hX]; rfl)
  have hw : waysN rs F (.ru r (d' + 1) i j) = cutWays F X r d' i j (j + 1 - i) := by
    show (match (rs[r]?).bind (·.parts[d']?) with | none => [] | some X => cutWays F X r d' i j (j + 1 - i)) = _
    rw [hrl, Option.bind_some, hX]
  rw [hw] at h
  kxs_still
  intro l1 H1 s1 n1 k1 f1
  kxs_still
  refine s_for (j_rng2 ?_)
  kxs_still
  refine ⟨by omega, _, _, _, walk_rangeN, fun n σ' H' => ∃ (xs : List V) (v9 : Option V), σ' = [some (.ref a), some (.ref df), some (.ref b), some (.int ((r : Nat) : Int)), some (.int ((d' + 1 : Nat) : Int)), some (.int ((i : Nat) : Int)), some (.int ((j : Nat) : Int)), some (.str X), some (.ref l1), v9] ∧ (∀ x o, x ≠ l1 → H1 x = some o → H' x = some o) ∧ H' l1 = some (.lst xs) ∧ All2 (WayAt H') xs (cutWays F X r d' i j n),
    ⟨[], none, rfl, fun _ _ _ q => q, k1, .nil⟩, fun _ _ _ _ _ => trivial, ?_, ?_⟩
  · rintro n x σ' H2 H3 hn ⟨xs, v9, rfl, fr, kl, aw⟩ ⟨rfl, rfl⟩
    have hdf3 : H3 df = some (.dT (hK F)) := fr df _ (fun z => by rw [z, n1] at hdf; cases hdf) (s1 _ _ hdf)
    have hn : i + n ≤ j := by omega
    have ed : (((d' + 1 : Nat) : Int) - 1) = ((d' : Nat) : Int) := by omega
    rw [← Int.natCast_add]
    kxs_still
    intro t2 H4 s4 n4 k4 f4
    have k4' : H4 t2 = some (.tup ((ndK (.ru r d' i (i + n))).map kV)) := by rw [k4, ed]; rfl
    have gk := DGet.t (s4 _ _ hdf3) k4'
    rw [valV_hK] at gk
    kxs_still
    cases c1 : lk F (.ru r d' i (i + n)) with
    | none =>
      rw [c1] at gk
      refine o_din (rm1 hr) gk ?_
      kxs_still
      exact ⟨xs, _, rfl, fun x o hx q => s4 _ _ (fr x o hx q), s4 _ _ kl, by rw [cutWays_succ, if_neg (by unfold cutOk; rw [c1]; exact Bool.false_ne_true), List.append_nil]; exact aw.mono fun _ _ q => q.ts (Same.ts s4)⟩
    | some h1 =>
      rw [c1] at gk
      refine o_din (rm1 hr) gk ?_
      kxs_still
      intro t5 H5 s5 n5 k5 f5
      have k5' : H5 t5 = some (.tup ((ndK (.pt X (i + n) j)).map kV)) := k5
      have gk2 := DGet.t (s5 _ _ (s4 _ _ hdf3)) k5'
      rw [valV_hK] at gk2
      kxs_still
      cases c2 : lk F (.pt X (i + n) j) with
      | none =>
        rw [c2] at gk2
        refine o_din (rm1 hr) gk2 ?_
        kxs_still
        exact ⟨xs, _, rfl, fun x o hx q => s5 _ _ (s4 _ _ (fr x o hx q)), s5 _ _ (s4 _ _ kl), by rw [cutWays_succ, if_neg (by unfold cutOk; rw [c1, c2]; exact Bool.false_ne_true), List.append_nil]; exact aw.mono fun _ _ q => q.ts (Same.ts (s4.trans s5))⟩
      | some h2 =>
        rw [c2] at gk2
        refine o_din (rm1 hr) gk2 ?_
        kxs_still
        have kl5 := s5 _ _ (s4 _ _ kl)
        refine ⟨ty_l kl5, ?_⟩
        kxs_still
        intro t6 H6 s6 n6 k6 f6
        kxs_still
        intro t7 H7 s7 n7 k7 f7
        kxs_still
        intro t8 H8 s8 n8 k8 f8
        have s58 := s6.trans (s7.trans s8)
        have kl8 := s58 _ _ kl5
        have hlx := aw.len
        have hcl := cutWays_len F X r d' i j n
        kxs_still
        refine m_append kl8 (by omega) fun H9 k9 f9 => ?_
        have s48 := s4.trans (s5.trans s58)
        have ts9 := TS.butL kl8 f9
        kxs_still
        refine ⟨xs ++ [.ref t8], _, rfl, fun x o hx q => (f9 x hx).trans (s48 _ _ (fr x o hx q)), k9, ?_⟩
        rw [cutWays_succ, if_pos (by unfold cutOk; rw [c1, c2]; rfl)]
        have kk6 : H8 t6 = some (.tup ((ndK (.ru r d' i (i + n))).map kV)) := s8 _ _ (s7 _ _ (by rw [k6, ed]; rfl))
        exact (aw.mono fun _ _ q => q.ts ((Same.ts s48).trans ts9)).snoc ⟨t8, _, rfl, ts9 _ _ k8, .cons ⟨t6, rfl, ts9 _ _ kk6⟩ (.cons ⟨t7, rfl, ts9 _ _ (s8 _ _ k7)⟩ .nil)⟩
  · rintro σ' H2 ⟨xs, v9, rfl, fr, kl, aw⟩
    rw [show (((j : Nat) : Int) + 1 - ((i : Nat) : Int)).toNat = j + 1 - i by omega] at aw
    kxs_still
    exact h _ H2 (fun x o q => fr x o (fun z => by rw [z, n1] at q; cases q) (s1 _ _ q)) (fun l e => by cases e; exact n1) ⟨l1, xs, rfl, kl, aw⟩
end
theorem df_ways_of_parts (T : Txt K mg cs) : Df P w K mg base "ways_of_parts" 1 ["rules", "heights", "node"] (sp3 (R_ways_of_parts K)) := by
  obtain ⟨f, fd, hm, F, hb⟩ := T.f_ways_of_parts.ex
  exact ⟨f, fd, hm, F.kp, hb, ok_ways_of_parts F T⟩
def R_ways_of_head (K : PySem.W.Frag) : V → V → V → V → Hp → VK → XK → Prop := fun x y z u H Q _ => ∃ (a : Addr) (vs : List V) (rs : List Rl) (by_ : Addr) (kvs : List (Key × V)) (L : Str → Option Addr) (df : Addr) (F : Hts) (b : Addr) (X : Str) (i j : Nat), x = .ref a ∧ SqL K H a vs ∧ RulesAt H vs rs ∧ GoodG rs ∧ y = .ref by_ ∧ H by_ = some (.dK kvs) ∧ ByAt H by_ kvs rs L rs.length ∧ z = .ref df ∧ H df = some (.dT (hK F)) ∧ u = .ref b ∧ H b = some (.tup ((ndK (.pt X i j)).map kV)) ∧
  ∀ v H', Same H H' → (∀ l, v = .ref l → H l = none) → WaysAt H' v (headWays rs F i j (nums rs X)) → Q v H'
section
theorem ok_ways_of_head {f : Addr} {fd : FuncData} (F : Fun K "ways_of_head" "ways_of_head" s_ways_of_head f fd) (T : Txt K mg cs) : FnOk P w K mg base (L2.CX P w) 1 f fd ["rules", "by", "heights", "node"] (sp4 (R_ways_of_head K)) := by
  refine F.okX sc_ways_of_head (fun vs H Q E h => sp4_len h) (fun cdv A outer s H vs Q E hr h => ⟨_, PBw (X := X_ways_of_head P w K mg base f cdv A outer s H E), ?_⟩)
  obtain ⟨a0, a1, a2, a3, rfl, h⟩ := h
  have ib_len := T.b_len
  have hr' : Room 0 (X_ways_of_head P w K mg base f cdv A outer s H E).A := hr
  replace hr := hr'
  clear hr'
  obtain ⟨a, vs, rs, by_, kvs, L, df, F, b, X, i, j, rfl, hS, hR, hG, rfl, hby, hB, rfl, hdf, rfl, hb, h⟩ := h
  have hb' : H b = some (.tup [.str X, .int ((i : Nat) : Int), .int ((j : Nat) : Int)]) := hb
  kxs_still
  intro l1 H1 s1 n1 k1 f1
  kxs_still
  refine s_for (j_list (e_dget2 (rm1 hr) ?_))
  kxs_still
  have kby1 := s1 _ _ hby
  refine ⟨.inl ⟨_, .inl kby1⟩, ?_⟩
  kxs_still
  intro l2 H2 s2 n2 k2 f2
  have gk := DGet.k (k := .inr X) (s2 _ _ kby1)
  have nl1 : ∀ {c : Addr} {o : HO}, H c = some o → c ≠ l1 := fun q z => by rw [z, n1] at q; cases q
  have n12 : l2 ≠ l1 := fun z => by rw [z, k1] at n2; cases n2
  obtain ⟨la, ela, kla, nla⟩ : ∃ la, (valV kvs (.inr X)).getD (.ref l2) = .ref la ∧ H2 la = some (.lst (numV (nums rs X))) ∧ la ≠ l1 := by
    cases e : L X with
    | none =>
      refine ⟨l2, by rw [hB.val, e]; rfl, ?_, n12⟩
      have := hB.non X e
      unfold nums
      rw [this]
      exact k2
    | some l =>
      obtain ⟨q1, q2⟩ := hB.at_ X l e
      exact ⟨l, by rw [hB.val, e]; rfl, s2 _ _ (s1 _ _ q2), nl1 q2⟩
  refine ⟨_, gk, la, ela, ⟨_, SqL.of kla⟩, _, _, _, walk_list (xs := numV (nums rs X)), fun n σ' H' => ∃ (xs : List V) (v8 v9 : Option V), σ' = [some (.ref a), some (.ref by_), some (.ref df), some (.ref b), some (.str X), some (.int ((i : Nat) : Int)), some (.int ((j : Nat) : Int)), some (.ref l1), v8, v9] ∧ (∀ x o, x ≠ l1 → H2 x = some o → H' x = some o) ∧ H' l1 = some (.lst xs) ∧ All2 (WayAt H') xs (headWays rs F i j ((nums rs X).take n)),
    ⟨[], none, none, rfl, fun _ _ _ q => q, s2 _ _ k1, .nil⟩, fun n σ' H' _ ⟨_, _, _, _, fr, _⟩ => SqL.of (fr _ _ nla kla), ?_, ?_⟩
  · rintro n x σ' H3 H4 hn ⟨xs, v8, v9, rfl, fr, kl, aw⟩ ⟨rfl, hx⟩
    obtain ⟨r, hr1, rfl⟩ := map_get hx
    have hrs : ∃ rl, rs[r]? = some rl := by
      have m := List.mem_of_getElem? hr1
      unfold nums numsTo at m
      have := List.mem_range.mp (List.mem_filter.mp m).1
      exact ⟨_, List.getElem?_eq_getElem this⟩
    obtain ⟨rl, hrl⟩ := hrs
    obtain ⟨ra, rb, hv, hvk, e1, e2⟩ := hR.at' hrl
    have up : ∀ {c : Addr} {o : HO}, H c = some o → H4 c = some o := fun q => fr _ _ (nl1 q) (s2 _ _ (s1 _ _ q))
    have hS4 : SqL K H4 a vs := hS.elim (fun q => .inl (q.elim (fun q => .inl (up q)) fun ⟨o, q⟩ => .inr ⟨o, up q⟩)) .inr
    have e14 := up e1
    have e24 := up e2
    have hdf4 := up hdf
    have hpl : plen rs r = rl.parts.length := by unfold plen; rw [hrl]; rfl
    kxs_still
    intro t5 H5 s5 n5 k5 f5
    have k5' : H5 t5 = some (.tup ((ndK (.ru r (plen rs r) i j)).map kV)) := by rw [k5, hpl, List.length_map]; rfl
    have gk5 := DGet.t (s5 _ _ hdf4) k5'
    rw [valV_hK] at gk5
    have hst := headWays_snoc rs F i j ((nums rs X).take n) r
    rw [← take_snoc hr1] at hst
    kxs_still
    cases c1 : lk F (.ru r (plen rs r) i j) with
    | none =>
      rw [c1] at gk5
      refine o_din (rm1 hr) gk5 ?_
      kxs_still
      exact ⟨xs, _, _, rfl, fun x o hx q => s5 _ _ (fr x o hx q), s5 _ _ kl, by rw [hst, c1, if_neg (show ¬ (none : Option Nat).isSome = true from Bool.false_ne_true), List.append_nil]; exact aw.mono fun _ _ q => q.ts (Same.ts s5)⟩
    | some h1 =>
      rw [c1] at gk5
      refine o_din (rm1 hr) gk5 ?_
      kxs_still
      have kl5 := s5 _ _ kl
      refine ⟨ty_l kl5, ?_⟩
      kxs_still
      intro t6 H6 s6 n6 k6 f6
      have kl6 := s6 _ _ kl5
      have hlx := aw.len
      have hcl := headWays_len rs F i j ((nums rs X).take n)
      have h60 := hG.few
      have hnl : (nums rs X).length ≤ rs.length := by unfold nums numsTo; exact Nat.le_trans (List.length_filter_le _ _) (by rw [List.length_range]; exact Nat.le_refl _)
      rw [List.length_take] at hcl
      kxs_still
      refine m_append kl6 (by omega) fun H7 k7 f7 => ?_
      have ts7 := TS.butL kl6 f7
      have s46 := s5.trans s6
      kxs_still
      refine ⟨xs ++ [.ref t6], _, _, rfl, fun x o hx q => (f7 x hx).trans (s46 _ _ (fr x o hx q)), k7, ?_⟩
      rw [hst, c1, if_pos (show (some h1).isSome = true from rfl)]
      exact (aw.mono fun _ _ q => q.ts ((Same.ts s46).trans ts7)).snoc ⟨t6, _, rfl, ts7 _ _ k6, .cons ⟨t5, rfl, ts7 _ _ (s6 _ _ k5')⟩ .nil⟩
  · rintro σ' H3 ⟨xs, v8, v9, rfl, fr, kl, aw⟩
    rw [show (numV (nums rs X)).length = (nums rs X).length from List.length_map .., List.take_length] at aw
    kxs_still
    exact h _ H3 (fun x o q => fr x o (nl1 q) (s2 _ _ (s1 _ _ q))) (fun l e => by cases e; exact n1) ⟨l1, xs, rfl, kl, aw⟩
end
theorem df_ways_of_head (T : Txt K mg cs) : Df P w K mg base "ways_of_head" 1 ["rules", "by", "heights", "node"] (sp4 (R_ways_of_head K)) := by
  obtain ⟨f, fd, hm, F, hb⟩ := T.f_ways_of_head.ex
  exact ⟨f, fd, hm, F.kp, hb, ok_ways_of_head F T⟩
/-- the first letter of a part of a node that stands -/
theorem Std.nm {rs : List Rl} {t : List Nat} {F : Hts} (s : Std rs t F) (hG : GoodG rs) {p : Str} {i j h : Nat} (e : lk F (.pt p i j) = some h) : (∃ c l, tl p = c :: l) ∧ p.length ≤ 1000000 := by
  have hl := s.short hG _ (List.mem_map.mpr ⟨_, lk_mem e, rfl⟩) p i j rfl
  refine ⟨?_, hl⟩
  generalize hn : Nd.pt p i j = n at e
  have d := ((s.ht n h).mp e).1
  cases d with
  | sign e1 =>
    cases hn
    exact ⟨_, _, tl_sgn _⟩
  | zero => cases hn
  | step => cases hn
  | head hr =>
    cases hn
    exact (part_sg (p := _) (by rw [isPartS, (hG.good _ (List.mem_of_getElem? hr)).head, Bool.or_true])).1
def R_ways_over (K : PySem.W.Frag) : V → V → V → V → Hp → VK → XK → Prop := fun x y z u H Q _ => ∃ (a : Addr) (vs : List V) (rs : List Rl) (by_ : Addr) (kvs : List (Key × V)) (L : Str → Option Addr) (df : Addr) (F : Hts) (t : List Nat) (n : Nd) (hh : Nat), x = .ref a ∧ SqL K H a vs ∧ RulesAt H vs rs ∧ GoodG rs ∧ y = .ref by_ ∧ H by_ = some (.dK kvs) ∧ ByAt H by_ kvs rs L rs.length ∧ z = .ref df ∧ H df = some (.dT (hK F)) ∧ Std rs t F ∧ t.length ≤ 60 ∧ NdAt H u n ∧ lk F n = some hh ∧
  ∀ v H', Same H H' → (∀ l, v = .ref l → H l = none) → WaysAt H' v (waysN rs F n) → Q v H'
section
set_option hygiene false in
local macro_rules | `(tactic| top_name) => `(tactic| first | refine e_call (df_ways_of_head T) (hr.mono (by decide)) ?_ | refine e_call (df_ways_of_parts T) (hr.mono (by decide)) ?_)
theorem ok_ways_over {f : Addr} {fd : FuncData} (F : Fun K "ways_over" "ways_over" s_ways_over f fd) (T : Txt K mg cs) : FnOk P w K mg base (L2.CX P w) 2 f fd ["rules", "by", "heights", "node"] (sp4 (R_ways_over K)) := by
  refine F.okX sc_ways_over (fun vs H Q E h => sp4_len h) (fun cdv A outer s H vs Q E hr h => ⟨_, PBw (X := X_ways_over P w K mg base f cdv A outer s H E), ?_⟩)
  obtain ⟨a0, a1, a2, a3, rfl, h⟩ := h
  have ib_len := T.b_len
  have hr' : Room 1 (X_ways_over P w K mg base f cdv A outer s H E).A := hr
  replace hr := hr'
  clear hr'
  obtain ⟨a, vs, rs, by_, kvs, L, df, F, t, n, hh, rfl, hS, hR, hG, rfl, hby, hB, rfl, hdf, hst, ht, ⟨b, rfl, hb⟩, hl, h⟩ := h
  have wi := ((hst.ht n hh).mp hl).1.wi
  cases n with
  | ru r d i j =>
    have hb' : H b = some (.tup [.int ((r : Nat) : Int), .int ((d : Nat) : Int), .int ((i : Nat) : Int), .int ((j : Nat) : Int)]) := hb
    obtain ⟨hij, hj, rl, hrl, hd⟩ := wi.ru _ _ _ _ rfl
    kxs_still
    refine iteDT rfl ?_
    kxs_still
    exact ⟨a, vs, rs, df, F, b, r, d, i, j, rl, rfl, hS, hR, rfl, hdf, rfl, hb, hrl, hd, hij, by omega, fun v H' s f w => h v H' s f w⟩
  | pt p i j =>
    have hb' : H b = some (.tup [.str p, .int ((i : Nat) : Int), .int ((j : Nat) : Int)]) := hb
    have hnm := hst.nm hG hl
    kxs_still
    refine iteDF (show ¬ ((3 : Nat) : Int) = 4 by decide) ?_
    kxs_still
    refine ⟨hnm, ?_⟩
    cases c : isSg p with
    | true =>
      kxs_still
      intro t1 H1 s1 n1 k1 f1
      kxs_still
      intro l2 H2 s2 n2 k2 f2
      kxs_still
      refine h _ H2 (s1.trans s2) (fun l e => by cases e; exact s1.none n2) ⟨l2, _, rfl, k2, ?_⟩
      rw [show waysN rs F (.pt p i j) = [[]] from by show (if isSg p = true then [[]] else headWays rs F i j (nums rs p)) = _; rw [c, if_pos rfl]]
      exact .cons ⟨t1, [], rfl, s2 _ _ k1, .nil⟩ .nil
    | false =>
      rw [show waysN rs F (.pt p i j) = headWays rs F i j (nums rs p) from by show (if isSg p = true then [[]] else headWays rs F i j (nums rs p)) = _; rw [c, if_neg Bool.false_ne_true]] at h
      kxs_still
      exact ⟨a, vs, rs, by_, kvs, L, df, F, b, p, i, j, rfl, hS, hR, hG, rfl, hby, hB, rfl, hdf, rfl, hb, fun v H' s f w => h v H' s f w⟩
end
theorem df_ways_over (T : Txt K mg cs) : Df P w K mg base "ways_over" 2 ["rules", "by", "heights", "node"] (sp4 (R_ways_over K)) := by
  obtain ⟨f, fd, hm, F, hb⟩ := T.f_ways_over.ex
  exact ⟨f, fd, hm, F.kp, hb, ok_ways_over F T⟩
inductive Rch (rs : List Rl) (F : Hts) (top : Nd) : Nd → Prop
  | top : Rch rs F top top
  | step {n m : Nd} {w : Way} : Rch rs F top n → w ∈ waysN rs F n → m ∈ w → Rch rs F top m
def wn (rs : List Rl) (F : Hts) (n : Nd) : Nat := ((waysN rs F n).map List.length).sum
abbrev Pths : Type := List (Nd × List Way)
/-- what the walk from the top keeps -/
structure WI (rs : List Rl) (F : Hts) (top : Nd) (P : Pths) (A : List Nd) : Prop where
  nd : (P.map (·.1)).Nodup
  ws : ∀ q ∈ P, q.2 = waysN rs F q.1
  st : ∀ n, n ∈ P.map (·.1) ∨ n ∈ A → (lk F n).isSome = true ∧ Rch rs F top n
  cl : ∀ q ∈ P, ∀ w ∈ q.2, ∀ m ∈ w, m ∈ P.map (·.1) ∨ m ∈ A
  tp : top ∈ P.map (·.1) ∨ top ∈ A
  sz : A.length ≤ 1 + (P.map fun q => wn rs F q.1).sum
theorem ways_stand {rs : List Rl} {F : Hts} {n : Nd} {w : Way} (h : w ∈ waysN rs F n) : ∀ m ∈ w, (lk F m).isSome = true := by
  intro m hm
  cases n with
  | pt X i j =>
    have h : w ∈ (if isSg X = true then [[]] else headWays rs F i j (nums rs X)) := h
    split at h
    · rw [List.mem_singleton.mp h] at hm; cases hm
    · unfold headWays at h
      obtain ⟨r, hr, rfl⟩ := List.mem_map.mp h
      rw [List.mem_singleton.mp hm]
      exact (List.mem_filter.mp hr).2
  | ru r d i j =>
    cases d with
    | zero =>
      rw [List.mem_singleton.mp h] at hm; cases hm
    | succ d =>
      have h : w ∈ (match (rs[r]?).bind (·.parts[d]?) with | none => [] | some X => cutWays F X r d i j (j + 1 - i)) := h
      split at h
      · cases h
      · unfold cutWays at h
        obtain ⟨k, hk, rfl⟩ := List.mem_map.mp h
        have := (List.mem_filter.mp hk).2
        unfold cutOk at this
        rw [Bool.and_eq_true] at this
        rcases List.mem_cons.mp hm with rfl | hm
        · exact this.1
        · rw [List.mem_singleton.mp hm]; exact this.2
section
variable {rs : List Rl} {F : Hts} {top n : Nd} {P : Pths} {A : List Nd}
theorem WI.skip (h : WI rs F top P (A ++ [n])) (m : n ∈ P.map (·.1)) : WI rs F top P A := by
  have up : ∀ {x}, x ∈ P.map (·.1) ∨ x ∈ A ++ [n] → x ∈ P.map (·.1) ∨ x ∈ A := by
    rintro x (q | q)
    · exact .inl q
    · rcases List.mem_append.mp q with q | q
      · exact .inr q
      · rw [List.mem_singleton.mp q]; exact .inl m
  exact ⟨h.nd, h.ws, fun x q => h.st x (q.imp id fun q => List.mem_append_left _ q), fun q hq w hw x hx => up (h.cl q hq w hw x hx), up h.tp, by have := h.sz; rw [List.length_append] at this; omega⟩
theorem WI.add (h : WI rs F top P (A ++ [n])) (m : n ∉ P.map (·.1)) : WI rs F top (P ++ [(n, waysN rs F n)]) (A ++ (waysN rs F n).flatten) := by
  have hn := h.st n (.inr (List.mem_append_right _ (List.mem_singleton_self _)))
  have up : ∀ {x}, x ∈ P.map (·.1) ∨ x ∈ A ++ [n] → x ∈ (P ++ [(n, waysN rs F n)]).map (·.1) ∨ x ∈ A ++ (waysN rs F n).flatten := by
    rintro x (q | q)
    · exact .inl (by rw [List.map_append]; exact List.mem_append_left _ q)
    · rcases List.mem_append.mp q with q | q
      · exact .inr (List.mem_append_left _ q)
      · exact .inl (by rw [List.map_append]; exact List.mem_append_right _ q)
  refine ⟨?_, ?_, ?_, ?_, up h.tp, ?_⟩
  · rw [List.map_append, List.nodup_append]
    exact ⟨h.nd, List.nodup_cons.mpr ⟨List.not_mem_nil, List.nodup_nil⟩, fun a ha b hb => by rw [List.mem_singleton.mp hb]; rintro rfl; exact m ha⟩
  · intro q hq
    rcases List.mem_append.mp hq with hq | hq
    · exact h.ws q hq
    · rw [List.mem_singleton.mp hq]
  · rintro x (q | q)
    · rw [List.map_append] at q
      rcases List.mem_append.mp q with q | q
      · exact h.st x (.inl q)
      · rw [List.mem_singleton.mp q]; exact hn
    · rcases List.mem_append.mp q with q | q
      · exact h.st x (.inr (List.mem_append_left _ q))
      · obtain ⟨w, hw, hx⟩ := List.mem_flatten.mp q
        exact ⟨ways_stand hw x hx, .step hn.2 hw hx⟩
  · intro q hq w hw x hx
    rcases List.mem_append.mp hq with hq | hq
    · exact up (h.cl q hq w hw x hx)
    · rw [List.mem_singleton.mp hq] at hw
      exact .inr (List.mem_append_right _ (List.mem_flatten.mpr ⟨w, hw, hx⟩))
  · have := h.sz
    rw [List.length_append] at this
    rw [List.length_append, List.length_flatten, List.map_append, List.sum_append]
    show A.length + ((waysN rs F n).map List.length).sum ≤ 1 + (_ + (((waysN rs F n).map List.length).sum + 0))
    omega
theorem sum_sub {α : Type} [DecidableEq α] (f : α → Nat) : ∀ {K L : List α}, K.Nodup → (∀ x ∈ K, x ∈ L) → (K.map f).sum ≤ (L.map f).sum
  | [], _, _, _ => Nat.zero_le _
  | x :: K, L, hn, hs => by
    obtain ⟨n1, n2⟩ := List.nodup_cons.mp hn
    have hp := (List.perm_cons_erase (hs x (List.mem_cons_self ..)))
    have ih := sum_sub f (K := K) (L := L.erase x) n2 fun y hy => (List.mem_erase_of_ne (fun z => by rw [z] at hy; exact n1 hy)).mpr (hs y (List.mem_cons_of_mem _ hy))
    have e := (hp.map f).sum_nat
    rw [List.map_cons, List.sum_cons] at e ⊢
    omega
theorem lk_key {κ α : Type} [DecidableEq κ] {F : List (κ × α)} {n : κ} {v : α} (h : lk F n = some v) : n ∈ F.map (·.1) := List.mem_map.mpr ⟨_, lk_mem h, rfl⟩
theorem WI.sum (h : WI rs F top P A) : (P.map fun q => wn rs F q.1).sum ≤ (F.map fun q => wn rs F q.1).sum := by
  have := sum_sub (wn rs F) (K := P.map (·.1)) (L := F.map (·.1)) h.nd fun x hx => by
    obtain ⟨v, hv⟩ := Option.isSome_iff_exists.mp (h.st x (.inl hx)).1
    exact lk_key hv
  rw [List.map_map, List.map_map] at this
  exact this
theorem WI.len (h : WI rs F top P A) : P.length ≤ F.length := by
  have one : ∀ L : List Nd, (L.map fun _ => 1).sum = L.length := fun L => by
    induction L with
    | nil => rfl
    | cons x L ih => rw [List.map_cons, List.sum_cons, ih, List.length_cons]; omega
  have := sum_sub (fun _ => 1) (K := P.map (·.1)) (L := F.map (·.1)) h.nd fun x hx => by
    obtain ⟨v, hv⟩ := Option.isSome_iff_exists.mp (h.st x (.inl hx)).1
    exact lk_key hv
  rw [one, one, List.length_map, List.length_map] at this
  exact this
end
theorem WaysAt.up {H H' : Hp} {v : V} {ws : List Way} (h : WaysAt H v ws) (f : ∀ l xs, v = .ref l → H l = some (.lst xs) → H' l = some (.lst xs)) (ts : TS H H') : WaysAt H' v ws := by
  obtain ⟨a, xs, e, k, q⟩ := h
  exact ⟨a, xs, e, f a _ e k, q.mono fun _ _ z => z.ts ts⟩
theorem flat_take {α : Type} (l : List (List α)) (i : Nat) : (l.take i).flatten.length ≤ l.flatten.length := by
  have := congrArg List.length (congrArg List.flatten (List.take_append_drop i l))
  rw [List.flatten_append, List.length_append] at this
  omega
theorem all2_mem {α β : Type} {R : α → β → Prop} : ∀ {xs : List α} {ys : List β} {x : α}, All2 R xs ys → x ∈ xs → ∃ y, y ∈ ys ∧ R x y
  | _, _, _, .cons r t, m => by
    rcases List.mem_cons.mp m with rfl | m
    · exact ⟨_, List.mem_cons_self .., r⟩
    · obtain ⟨y, a, b⟩ := all2_mem t m
      exact ⟨y, List.mem_cons_of_mem _ a, b⟩
theorem all2_and {α β : Type} {R : α → β → Prop} {p : α → Prop} : ∀ {xs : List α} {ys : List β}, All2 R xs ys → (∀ x ∈ xs, p x) → All2 (fun x y => R x y ∧ p x) xs ys
  | _, _, .nil, _ => .nil
  | _, _, .cons r t, h => .cons ⟨r, h _ (List.mem_cons_self ..)⟩ (all2_and t fun x m => h x (List.mem_cons_of_mem _ m))
/-! the wood's object -/
def wdF (la : Addr) (z : Str) (pk : V) (pa : Addr) : List (Str × V) := [(Str.ofString "rules", .ref la), (Str.ofString "signs", .str z), (Str.ofString "peak", pk), (Str.ofString "paths", .ref pa)]
structure Wd (H : Hp) (C : Addr) (vs : List V) (rs : List Rl) (z : Str) (c dx la pa : Addr) (pk : V) (top : Option Nd) (kvs : List (List Key × V)) (P : Pths) : Prop where
  ins : H c = some (.ins C dx (wdF la z pk pa))
  rl : H la = some (.lst vs)
  ra : RulesAt H vs rs
  pk : (top = none ∧ pk = .non) ∨ ∃ n, top = some n ∧ NdAt H pk n
  dt : H pa = some (.dT kvs)
  el : All2 (fun (kv : List Key × V) (q : Nd × List Way) => kv.1 = ndK q.1 ∧ WaysAt H kv.2 q.2) kvs P
theorem Wd.more {H H' : Hp} {C : Addr} {vs : List V} {rs : List Rl} {z : Str} {c dx la pa : Addr} {pk : V} {top : Option Nd} {kvs : List (List Key × V)} {P : Pths} (h : Wd H C vs rs z c dx la pa pk top kvs P) (s : Same H H') : Wd H' C vs rs z c dx la pa pk top kvs P :=
  ⟨s _ _ h.ins, s _ _ h.rl, h.ra.ts (Same.ts s), h.pk.imp id fun ⟨n, e, q⟩ => ⟨n, e, q.ts (Same.ts s)⟩, s _ _ h.dt, h.el.mono fun _ _ q => ⟨q.1, q.2.more s⟩⟩
theorem Wd.but {H H' : Hp} {C : Addr} {vs : List V} {rs : List Rl} {z : Str} {c dx la pa : Addr} {pk : V} {top : Option Nd} {kvs : List (List Key × V)} {P : Pths} (h : Wd H C vs rs z c dx la pa pk top kvs P) {lh : Addr} {ys : List V} (kl : H lh = some (.lst ys)) (n1 : la ≠ lh) (n2 : ∀ kv ∈ kvs, kv.2 ≠ .ref lh) (fr : ∀ b, b ≠ lh → H' b = H b) : Wd H' C vs rs z c dx la pa pk top kvs P := by
  have ts : TS H H' := TS.butL kl fr
  have up : ∀ {x : Addr} {o : HO}, x ≠ lh → H x = some o → H' x = some o := fun n q => (fr _ n).trans q
  have el : All2 (fun (kv : List Key × V) (q : Nd × List Way) => (kv.1 = ndK q.1 ∧ WaysAt H kv.2 q.2) ∧ kv.2 ≠ .ref lh) kvs P := all2_and h.el n2
  exact ⟨up (fun w => by have := h.ins; rw [w, kl] at this; cases this) h.ins, up n1 h.rl, h.ra.ts ts, h.pk.imp id fun ⟨n, e, q⟩ => ⟨n, e, q.ts ts⟩, up (fun w => by have := h.dt; rw [w, kl] at this; cases this) h.dt, el.mono fun _ _ q => ⟨q.1.1, q.1.2.up (fun l o e w => up (fun z => q.2 (by rw [e, z])) w) ts⟩⟩
theorem el_val {H : Hp} : ∀ {kvs : List (List Key × V)} {P : Pths}, All2 (fun (kv : List Key × V) (q : Nd × List Way) => kv.1 = ndK q.1 ∧ WaysAt H kv.2 q.2) kvs P → ∀ n, (valV kvs (ndK n) = none ∧ n ∉ P.map (·.1)) ∨ ∃ v ws, valV kvs (ndK n) = some v ∧ (n, ws) ∈ P ∧ lk P n = some ws ∧ WaysAt H v ws
  | [], _, .nil, n => .inl ⟨rfl, List.not_mem_nil⟩
  | (k, v) :: kvs, (m, ws) :: P, .cons ⟨e, w⟩ t, n => by
    have e : k = ndK m := e
    by_cases c : m = n
    · refine .inr ⟨v, ws, ?_, ?_, ?_, w⟩
      · rw [valV_pos (by rw [e, c])]
      · rw [← c]; exact List.mem_cons_self ..
      · show (if m = n then some ws else lk P n) = _
        rw [if_pos c]
    · have hk : k ≠ ndK n := fun q => c (ndK_inj (e.symm.trans q))
      rw [valV_neg hk]
      rcases el_val t n with ⟨q1, q2⟩ | ⟨v', ws', q1, q2, q3, q4⟩
      · refine .inl ⟨q1, fun q => ?_⟩
        rcases List.mem_cons.mp q with q | q
        · exact c q.symm
        · exact q2 q
      · refine .inr ⟨v', ws', q1, List.mem_cons_of_mem _ q2, ?_, q4⟩
        show (if m = n then some ws else lk P n) = _
        rw [if_neg c]
        exact q3
theorem el_keys {H H' H'' : Hp} (ts : TS H' H'') : ∀ {kvs : List (List Key × V)} {P : Pths} {bs : List Addr}, All2 (fun (kv : List Key × V) (q : Nd × List Way) => kv.1 = ndK q.1 ∧ WaysAt H kv.2 q.2) kvs P → IsKeys H' kvs bs → All2 (NdAt H'') (bs.map V.ref) (P.map (·.1))
  | _, _, _, .nil, .nil => .nil
  | _, _, _, .cons e t, .cons k r => .cons ⟨_, rfl, ts _ _ (by rw [← e.1]; exact k)⟩ (el_keys ts t r)
theorem el_other {H : Hp} : ∀ {kvs : List (List Key × V)} {P : Pths}, All2 (fun (kv : List Key × V) (q : Nd × List Way) => kv.1 = ndK q.1 ∧ WaysAt H kv.2 q.2) kvs P → ∀ ks, (∀ n ∈ P.map (·.1), ks ≠ ndK n) → valV kvs ks = none
  | _, _, .nil, _, _ => rfl
  | _, _, .cons (a := kv) (b := q) e t, ks, h => by
    rw [valV_neg (fun z => h q.1 (List.mem_cons_self ..) (z.symm.trans e.1))]
    exact el_other t ks fun n m => h n (List.mem_cons_of_mem _ m)
/-- what the whole wood is, by what stands -/
structure Wo (rs : List Rl) (F : Hts) (top : Option Nd) (P : Pths) : Prop where
  non : top = none → P = []
  som : ∀ n, top = some n → WI rs F n P []
def R_Wood_reach (K : PySem.W.Frag) (cs : Cs) : V → V → Hp → VK → XK → Prop := fun x y H Q _ => ∃ (vs : List V) (rs : List Rl) (z : Str) (c dx la pa : Addr) (pk : V) (top : Nd) (df : Addr) (F : Hts), x = .ref c ∧ Wd H cs.Wood vs rs z c dx la pa pk (some top) [] [] ∧ GoodG rs ∧ y = .ref df ∧ H df = some (.dT (hK F)) ∧ Std rs (tl z) F ∧ (tl z).length ≤ 60 ∧ F.length ≤ 3000000 ∧ (lk F top).isSome = true ∧ (F.map fun q => wn rs F q.1).sum ≤ 15000000 ∧
  ∀ kvs P H', (∀ b o, b ≠ pa → H b = some o → H' b = some o) → Wd H' cs.Wood vs rs z c dx la pa pk (some top) kvs P → WI rs F top P [] → (∀ kv ∈ kvs, ∀ l, kv.2 = .ref l → H l = none) → Q .non H'
section
set_option hygiene false in
local macro_rules | `(tactic| top_name) => `(tactic| first | refine e_call (df_rules_by_head T) (hr.mono (by decide)) ?_ | refine e_call (df_ways_over T) (hr.mono (by decide)) ?_)
theorem ok_Wood_reach {f : Addr} {fd : FuncData} (F : Fun K "reach" "Wood.reach" s_Wood_reach f fd) (T : Txt K mg cs) : FnOk P w K mg base (L2.CX P w) 3 f fd ["self", "heights"] (sp2 (R_Wood_reach K cs)) := by
  refine F.okX sc_Wood_reach (fun vs H Q E h => sp2_len h) (fun cdv A outer s H vs Q E hr h => ⟨_, PBw (X := X_Wood_reach P w K mg base f cdv A outer s H E), ?_⟩)
  obtain ⟨a0, a1, rfl, h⟩ := h
  have icl_Chart : ClsI K cs.Chart := ⟨T.c_Chart.cl⟩
  have icl_Wood : ClsI K cs.Wood := ⟨T.c_Wood.cl⟩
  have ifl_Chart_rules : NoA K cs.Chart "rules" := ⟨T.n_Chart_rules⟩
  have ifl_Wood_paths : NoA K cs.Wood "paths" := ⟨T.n_Wood_paths⟩
  have ifl_Wood_peak : NoA K cs.Wood "peak" := ⟨T.n_Wood_peak⟩
  have ifl_Wood_rules : NoA K cs.Wood "rules" := ⟨T.n_Wood_rules⟩
  have hr' : Room 2 (X_Wood_reach P w K mg base f cdv A outer s H E).A := hr
  replace hr := hr'
  clear hr'
  obtain ⟨vs, rs, z, c, dx, la, pa, pk, top, df, F, rfl, hW, hG, rfl, hdf, hst, hz, hFl, htop, hsum, h⟩ := h
  obtain ⟨n', q, hpk⟩ := hW.pk.resolve_left fun q => by cases q.1
  cases q
  have kI := hW.ins
  have kl := hW.rl
  kxs_still
  refine ⟨la, vs, rs, rfl, SqL.of kl, hW.ra, hG, fun by_ kvb L H1 s1 n1 k1 hB => ?_⟩
  have kI1 := s1 _ _ kI
  have kdt1 := s1 _ _ hW.dt
  kxs_still
  intro ah H2 s2 n2 k2 f2
  have s12 := s1.trans s2
  have hB2 : ∀ (H' : Hp), (∀ b o, b ≠ pa → b ≠ ah → H2 b = some o → H' b = some o) → ByAt H' by_ kvb rs L rs.length := fun H' f => ⟨hB.val, hB.inj, fun h' l e => by
    obtain ⟨q1, q2⟩ := hB.at_ h' l e
    exact ⟨q1, f l _ (fun w => by rw [w, kdt1] at q2; cases q2) (fun w => by rw [w, n2] at q2; cases q2) (s2 _ _ q2)⟩, hB.non, hB.len⟩
  have nah : ∀ {b : Addr} {o : HO}, H1 b = some o → b ≠ ah := fun q w => by rw [w, n2] at q; cases q
  have npa : ∀ {b : Addr} {o : HO}, H b = some o → (∀ z, o ≠ .dT z) → b ≠ pa := fun q no w => by rw [w, hW.dt] at q; cases q; exact no _ rfl
  have WI0 : WI rs F top [] [top] := ⟨List.nodup_nil, (fun q m => by cases m), (fun n m => by
    rcases m with m | m
    · cases m
    · rw [List.mem_singleton.mp m]; exact ⟨htop, .top⟩), (fun q m => by cases m), .inr (List.mem_singleton_self _), by show 1 ≤ 1 + 0; decide⟩
  refine b_cons (s_while (fun m σ' H' => ∃ (kvs : List (List Key × V)) (P : Pths) (A : List Nd) (av : List V) (v4 v5 : Option V), σ' = [some (.ref c), some (.ref df), some (.ref by_), some (.ref ah), v4, v5] ∧ (∀ b o, b ≠ pa → b ≠ ah → H2 b = some o → H' b = some o) ∧ H' ah = some (.lst av) ∧ All2 (NdAt H') av A ∧ H' pa = some (.dT kvs) ∧ All2 (fun (kv : List Key × V) (q : Nd × List Way) => kv.1 = ndK q.1 ∧ WaysAt H' kv.2 q.2 ∧ ∀ l, kv.2 = .ref l → H2 l = none) kvs P ∧ WI rs F top P A ∧ m = (F.length - P.length) * 20000000 + A.length) _ ⟨[], [], [top], _, none, none, rfl, fun _ _ _ _ q => q, k2, .cons (hpk.ts (Same.ts s12)) .nil, s2 _ _ kdt1, .nil, WI0, rfl⟩ ?_)
  rintro m σ' H3 ⟨kvs, P, A, av, v4, v5, rfl, fr, kah, aA, kpa, aP, wi, rfl⟩
  have nca : c ≠ ah := nah kI1
  have ncp : c ≠ pa := npa kI fun _ w => by cases w
  have kI3 := fr c _ ncp nca (s2 _ _ kI1)
  kxs_still
  intro l4 H4 s4 n4 k4 f4
  have kah4 := s4 _ _ kah
  have kpa4 := s4 _ _ kpa
  have kI4 := s4 _ _ kI3
  refine o_neNil hr.units kah4 k4 ?_
  kxs_still
  refine iteND (fun cn => ?_) fun cn => ?_
  · have hqn : A ≠ [] := fun w => by rw [w] at aA; cases aA; exact cn rfl
    obtain ⟨A', n, rfl⟩ := list_last hqn
    obtain ⟨av', x, rfl, aA', ⟨b, rfl, hbn⟩⟩ := all2_last aA
    have hAl := wi.sz
    have hPs := wi.sum
    have hPl := wi.len
    rw [List.length_append] at hAl
    kxs_still
    refine e_pop ?_
    kxs_still
    refine ⟨ty_l kah4, ?_⟩
    refine m_pop kah4 fun H5 k5 f5 => ?_
    have npah : pa ≠ ah := nah kdt1
    have kpa5 : H5 pa = _ := (f5 pa npah).trans kpa4
    have kI5 : H5 c = _ := (f5 c nca).trans kI4
    have hb5 : H5 b = some (.tup ((ndK n).map kV)) := (f5 b fun w => by rw [w, kah] at hbn; cases hbn).trans (s4 _ _ hbn)
    have ts35 : TS H3 H5 := (Same.ts s4).trans (TS.butL kah4 f5)
    have gk := DGet.t kpa5 hb5
    obtain ⟨hst1, hst2⟩ := wi.st n (.inr (List.mem_append_right _ (List.mem_singleton_self _)))
    obtain ⟨hh, hhl⟩ := Option.isSome_iff_exists.mp hst1
    kxs_still
    refine o_dni (rm1 hr) gk ?_
    kxs_still
    have fr35 : ∀ b o, b ≠ ah → H3 b = some o → H5 b = some o := fun b o hb q => (f5 b hb).trans (s4 _ _ q)
    have aP5 : All2 (fun (kv : List Key × V) (q : Nd × List Way) => kv.1 = ndK q.1 ∧ WaysAt H5 kv.2 q.2 ∧ ∀ l, kv.2 = .ref l → H2 l = none) kvs P := aP.mono fun _ _ q => ⟨q.1, q.2.1.up (fun l o e w => fr35 l _ (fun z => by have := q.2.2 l e; rw [z, k2] at this; cases this) w) ts35, q.2.2⟩
    rcases el_val (aP5.mono fun _ _ q => ⟨q.1, q.2.1⟩) n with ⟨q1, q2⟩ | ⟨v, ws, q1, q2, _, _⟩
    · have wi' := wi.add q2
      have hsz' := wi'.sz
      have hsm' := wi'.sum
      have hln' := wi'.len
      rw [List.length_append] at hsz' hln'
      rw [q1]
      have fr5 : ∀ b o, b ≠ pa → b ≠ ah → H2 b = some o → H5 b = some o := fun b o h1 h2 q => fr35 b o h2 (fr b o h1 h2 q)
      have kl5 := fr5 la _ (npa kl fun _ w => by cases w) (nah (s1 _ _ kl)) (s12 _ _ kl)
      have ts25 : TS H2 H5 := fun x xs q => fr5 x _ (fun w => by rw [w, s2 _ _ kdt1] at q; cases q) (fun w => by rw [w, k2] at q; cases q) q
      have hdfpa : df ≠ pa := fun w => by
        rw [w, hW.dt] at hdf
        cases F with
        | nil => cases htop
        | cons p F => cases (Option.some.inj hdf)
      have hdf5 := fr5 df _ hdfpa (nah (s1 _ _ hdf)) (s12 _ _ hdf)
      have kby5 := fr5 by_ _ (fun w => by rw [w, kdt1] at k1; cases k1) (nah k1) (s2 _ _ k1)
      refine iteT (b_cons (s_asg ?_))
      kxs_still
      refine ⟨la, vs, rs, by_, kvb, L, df, F, tl z, n, hh, rfl, SqL.of kl5, hW.ra.ts ((Same.ts s12).trans ts25), hG, rfl, kby5, hB2 H5 fr5, rfl, hdf5, hst, hz, ⟨b, rfl, hb5⟩, hhl, fun v H6 s6 fv w6 => ?_⟩
      have kpa6 := s6 _ _ kpa5
      have hb6 := s6 _ _ hb5
      have kI6 := s6 _ _ kI5
      kxs_still
      refine g_setT (rm1 hr) ?_
      kxs_still
      refine ⟨_, _, _, _, rfl, kpa6, rfl, hb6, by have := aP5.len; simp only [List.length_singleton] at hln'; omega, fun H7 k7 f7 => ?_⟩
      have hb7 : H7 b = some (.tup ((ndK n).map kV)) := (f7 b fun w => by rw [w, kpa6] at hb6; cases hb6).trans hb6
      have kI7 : H7 c = _ := (f7 c ncp).trans kI6
      have gk7 := DGet.t k7 hb7
      rw [valV_put, if_pos rfl] at gk7
      rw [L2.putK_new v q1] at k7
      have ts67 : TS H6 H7 := fun x xs q => (f7 x fun w => by rw [w, kpa6] at q; cases q).trans q
      obtain ⟨lw, wv, rfl, klw, aw⟩ := w6
      have nlw : lw ≠ ah := fun w => by have := fv lw rfl; rw [w, k5] at this; cases this
      have nlp : lw ≠ pa := fun w => by rw [w, kpa6] at klw; cases klw
      have kah6 := s6 _ _ k5
      have kah7 : H7 ah = _ := (f7 ah npah.symm).trans kah6
      have klw7 : H7 lw = _ := (f7 lw nlp).trans klw
      have aw7 : All2 (WayAt H7) wv (waysN rs F n) := aw.mono fun _ _ q => q.ts ts67
      have ts57 : TS H5 H7 := (Same.ts s6).trans ts67
      refine b_cons (s_for (j_list ?_))
      kxs_still
      refine i_dget (rm1 hr) gk7 ?_
      refine ⟨lw, rfl, ⟨_, SqL.of klw7⟩, _, _, _, walk_list (xs := wv), fun i σ' H' => ∃ (av2 : List V) (v5' : Option V), σ' = [some (.ref c), some (.ref df), some (.ref by_), some (.ref ah), some (.ref b), v5'] ∧ (∀ x o, x ≠ ah → H7 x = some o → H' x = some o) ∧ H' ah = some (.lst av2) ∧ All2 (NdAt H') av2 (A' ++ ((waysN rs F n).take i).flatten),
        ⟨av', v5, rfl, fun _ _ _ q => q, kah7, by rw [List.take_zero, List.flatten_nil, List.append_nil]; exact aA'.mono fun _ _ q => q.ts (ts35.trans ts57)⟩, fun i σ' H' _ ⟨_, _, _, f, _⟩ => SqL.of (f _ _ nlw klw7), ?_, ?_⟩
      · rintro i x σ' H8 H9 hi ⟨av2, v5', rfl, f8, k8, a8⟩ ⟨rfl, hx⟩
        obtain ⟨w, hw, ⟨tw, ys, rfl, ktw, aw2⟩⟩ := aw7.get hx
        have ts79 : TS H7 H9 := fun x xs q => f8 x _ (fun w => by rw [w, kah7] at q; cases q) q
        have hft := flat_take (waysN rs F n) (i + 1)
        have hl8 := a8.len
        have hly := aw2.len
        rw [take_snoc hw, List.flatten_append, List.length_append, List.flatten_singleton] at hft
        rw [List.length_append] at hl8
        kxs_still
        refine e_extend ?_
        kxs_still
        refine ⟨ty_l k8, ?_⟩
        kxs_still
        refine m_extendT k8 (SqT.of (ts79 _ _ ktw)) (by omega) fun H10 k10 f10 => ?_
        have ts10 := TS.butL k8 f10
        kxs_still
        refine ⟨av2 ++ ys, _, rfl, fun x o hx q => (f10 x hx).trans (f8 x o hx q), k10, ?_⟩
        rw [take_snoc hw, List.flatten_append, List.flatten_singleton, ← List.append_assoc]
        exact (a8.mono fun _ _ q => q.ts ts10).app (aw2.mono fun _ _ q => q.ts (ts79.trans ts10))
      · rintro σ' H8 ⟨av2, v5', rfl, f8, k8, a8⟩
        rw [show wv.length = (waysN rs F n).length from aw7.len, List.take_length] at a8
        have ts78 : TS H7 H8 := fun x xs q => f8 x _ (fun w => by rw [w, kah7] at q; cases q) q
        have kpa8 := f8 pa _ npah k7
        kxs_still
        refine ⟨_, ?_, _, _, _, av2, _, _, rfl, fun x o h1 h2 q => f8 x o h2 ((f7 x h1).trans (s6 _ _ (fr5 x o h1 h2 q))), k8, a8, kpa8, ?_, wi', rfl⟩
        · rw [List.length_append, List.length_append, List.length_append]
          simp only [List.length_singleton] at hln' ⊢
          omega
        · have ts58 := ts57.trans ts78
          refine (aP5.mono fun _ _ q => ⟨q.1, q.2.1.up (fun l o e w => ?_) ts58, q.2.2⟩).snoc ⟨rfl, ⟨lw, wv, rfl, f8 _ _ nlw klw7, aw7.mono fun _ _ q => q.ts ts78⟩, fun l e => by
            cases e
            have n5 := fv lw rfl
            cases e2 : H2 lw with
            | none => rfl
            | some o => rw [fr5 lw o (fun w => by rw [w, kpa5] at n5; cases n5) nlw e2] at n5; cases n5⟩
          have nl : l ≠ ah := fun z => by have := q.2.2 l e; rw [z, k2] at this; cases this
          exact f8 l _ nl ((f7 l fun z => by rw [z, kpa5] at w; cases w).trans (s6 _ _ w))
    · have wi' := wi.skip (n := n) (List.mem_map.mpr ⟨_, q2, rfl⟩)
      rw [q1]
      kxs_still
      exact ⟨_, by rw [List.length_append, List.length_singleton]; omega, kvs, P, A', av', _, _, rfl, fun x o h1 h2 q => fr35 x o h2 (fr x o h1 h2 q), k5, aA'.mono fun _ _ q => q.ts ts35, kpa5, aP5, wi', rfl⟩
  · have eA : A = [] := by
      have := aA.len
      rw [cn] at this
      exact List.eq_nil_of_length_eq_zero this.symm
    subst eA
    kxs_still
    have fr4 : ∀ b o, b ≠ pa → H b = some o → H4 b = some o := fun b o hb q => s4 _ _ (fr b o hb (nah (s1 _ _ q)) (s12 _ _ q))
    have ts4 : TS H H4 := fun x xs q => fr4 x _ (fun w => by rw [w, hW.dt] at q; cases q) q
    exact h kvs P H4 fr4 ⟨fr4 _ _ ncp kI, fr4 _ _ (npa kl fun _ w => by cases w) kl, hW.ra.ts ts4, .inr ⟨_, rfl, hpk.ts ts4⟩, kpa4, aP.mono fun _ _ q => ⟨q.1, q.2.1.more s4⟩⟩ wi fun kv hkv l e => by
      obtain ⟨q, _, r⟩ := all2_mem aP hkv
      exact s12.none (r.2.2 l e)
end
theorem md_Wood_reach (T : Txt K mg cs) : Md P w K mg base cs.Wood "reach" 3 ["self", "heights"] (sp2 (R_Wood_reach K cs)) := by
  obtain ⟨f, fd, hm, F, hb⟩ := T.m_Wood_reach.ex
  exact ⟨f, fd, hm, hb, ok_Wood_reach F T⟩
def R_Wood_init (K : PySem.W.Frag) (cs : Cs) : V → V → V → Hp → VK → XK → Prop := fun x y y2 H Q E => ∃ (H0 : Hp) (c dx : Addr), x = .ref c ∧ Same H0 H ∧ H0 c = none ∧ H0 dx = none ∧ H c = some (.ins cs.Wood dx []) ∧ H dx = some (.own c) ∧
  ((∃ (d : PyData), Th K H0 y d ∧ isGramD d = false ∧ ∀ H', Same H0 H' → E (.ref cs.NoGrammar) none H') ∨
  (∃ (a : Addr) (vs : List V) (rs : List Rl), GramAt K H0 y a vs rs ∧ ∃ d2, Th K H0 y2 d2 ∧ ((isTextD d2 = false ∧ ∀ H', Same H0 H' → E (.ref cs.NoText) none H') ∨
    ∃ z, d2 = .str z ∧ isTextD d2 = true ∧ (∀ F, Std rs (tl z) F → F.length ≤ 3000000 ∧ (F.map fun q => wn rs F q.1).sum ≤ 15000000) ∧
    ∀ (la pa : Addr) (pk : V) (top : Option Nd) (kvs : List (List Key × V)) (P : Pths) (F : Hts) (H' : Hp), Same H0 H' → H0 la = none → H0 pa = none → Wd H' cs.Wood vs rs z c dx la pa pk top kvs P → Std rs (tl z) F → (top = (rs.head?).bind fun r0 => if (lk F (.pt r0.head 0 (tl z).length)).isSome = true then some (.pt r0.head 0 (tl z).length) else none) → Wo rs F top P → (∀ kv ∈ kvs, ∀ l, kv.2 = .ref l → H0 l = none) → Q .non H')))
section
set_option hygiene false in
local macro_rules | `(tactic| top_name) => `(tactic| first | refine e_call (df_checked T) (hr.mono (by decide)) ?_ | refine e_call (df_checked_text T) (hr.mono (by decide)) ?_ | refine e_call (df_heights_over T) (hr.mono (by decide)) ?_)
set_option hygiene false in
local macro_rules | `(tactic| kpc_turns) => `(tactic| first | refine e_methV T.c_Wood.cl (md_Wood_reach T) (hr.mono (by decide)) rfl (by ki_room) rfl ?_)
theorem ok_Wood_init {f : Addr} {fd : FuncData} (F : Fun K "__init__" "Wood.__init__" s_Wood_init f fd) (T : Txt K mg cs) : FnOk P w K mg base (L2.CX P w) 6 f fd ["self", "grammar", "text"] (sp3 (R_Wood_init K cs)) := by
  refine F.okX sc_Wood_init (fun vs H Q E h => sp3_len h) (fun cdv A outer s H vs Q E hr h => ⟨_, PBw (X := X_Wood_init P w K mg base f cdv A outer s H E), ?_⟩)
  obtain ⟨a0, a1, a2, rfl, h⟩ := h
  have ib_len := T.b_len
  have icl_Chart : ClsI K cs.Chart := ⟨T.c_Chart.cl⟩
  have icl_Wood : ClsI K cs.Wood := ⟨T.c_Wood.cl⟩
  have ifl_Chart_rules : NoA K cs.Chart "rules" := ⟨T.n_Chart_rules⟩
  have ifl_Wood_paths : NoA K cs.Wood "paths" := ⟨T.n_Wood_paths⟩
  have ifl_Wood_peak : NoA K cs.Wood "peak" := ⟨T.n_Wood_peak⟩
  have ifl_Wood_rules : NoA K cs.Wood "rules" := ⟨T.n_Wood_rules⟩
  have ifl_Wood_signs : NoA K cs.Wood "signs" := ⟨T.n_Wood_signs⟩
  have hr' : Room 5 (X_Wood_init P w K mg base f cdv A outer s H E).A := hr
  replace hr := hr'
  clear hr'
  obtain ⟨H0, c, dx, rfl, sm, n0, nd0, kc, kd, h⟩ := h
  refine b_cons (s_fldV ?_)
  kxs_still
  rcases h with ⟨d, hd, hb, q⟩ | ⟨a, vs, rs, g, d2, hd2, h⟩
  · exact .inr ⟨d, hd.more sm, hb, fun H' s => q H' (sm.trans s)⟩
  refine .inl ⟨a, vs, rs, g.more sm, fun la H1 s1 n1 k1 => ?_⟩
  have nla : la ≠ c := fun w => by rw [w, kc] at n1; cases n1
  refine ⟨c, cs.Wood, dx, [], rfl, s1 _ _ kc, inferInstance, inferInstance, by decide, fun H2 k2 f2 => ?_⟩
  have fr2 : Same H0 H2 := fun b o q => (f2 b fun w => by rw [w, n0] at q; cases q).trans (s1 _ _ (sm _ _ q))
  have kl2 : H2 la = _ := (f2 la nla).trans k1
  refine b_cons (s_fldV ?_)
  kxs_still
  refine ⟨d2, hd2.more fr2, fun ht => ?_, fun ht => ?_⟩
  case refine_2 =>
    rcases h with ⟨_, q⟩ | ⟨z, rfl, q, _⟩
    · exact q H2 fr2
    · rw [q] at ht; cases ht
  obtain ⟨z, rfl, _, hbd, h⟩ := h.resolve_left fun q => by rw [q.1] at ht; cases ht
  cases hd2
  refine ⟨c, cs.Wood, dx, _, rfl, k2, inferInstance, inferInstance, (show 1 < 1000 by decide), fun H3 k3 f3 => ?_⟩
  kxs_still
  refine s_fldV ?_
  kxs_still
  refine ⟨c, cs.Wood, dx, _, rfl, k3, inferInstance, inferInstance, (show 2 < 1000 by decide), fun H4 k4 f4 => ?_⟩
  refine b_cons (s_fldV (e_dctT fun pa H5 s5 n5 k5 f5 => ?_))
  refine ⟨c, cs.Wood, dx, _, rfl, s5 _ _ k4, inferInstance, inferInstance, (show 3 < 1000 by decide), fun H6 k6 f6 => ?_⟩
  have npc : pa ≠ c := fun w => by rw [w, k4] at n5; cases n5
  have fr6 : Same H0 H6 := fun b o q => by
    have nb : b ≠ c := fun w => by rw [w, n0] at q; cases q
    exact (f6 b nb).trans (s5 _ _ ((f4 b nb).trans ((f3 b nb).trans (fr2 _ _ q))))
  have kl6 : H6 la = some (.lst vs) := (f6 la nla).trans (s5 _ _ ((f4 la nla).trans ((f3 la nla).trans kl2)))
  have kp6 : H6 pa = some (.dT []) := (f6 pa npc).trans k5
  have g6 := g.more fr6
  have gbd := gb_of g.ok ht
  have n0la : H0 la = none := sm.none n1
  have n0pa : H0 pa = none := by
    have : H2 pa = none := by rw [← f3 pa npc, ← f4 pa npc]; exact n5
    exact fr2.none this
  have k6' : H6 c = some (.ins cs.Wood dx (wdF la z .non pa)) := k6
  kxs_still
  refine ⟨la, vs, rs, z, rfl, kl6, g6.at_, rfl, gbd, fun df F H7 s7 n7 k7 hst => ?_⟩
  have k67 := s7 _ _ k6'
  have kl7 := s7 _ _ kl6
  have fr7 := fr6.trans s7
  kxs_still
  intro l8 H8 s8 n8 k8 f8
  have kl8 := s8 _ _ kl7
  refine o_neNil hr.units kl8 k8 ?_
  have k68 := s8 _ _ k67
  have fr8 := fr7.trans s8
  have kdf8 := s8 _ _ k7
  have kpa8 := s8 _ _ (s7 _ _ kp6)
  have g8 := g.more fr8
  kxs_still
  refine iteND (fun cn => ?_) fun cn => ?_
  · obtain ⟨r0, hr0⟩ : ∃ r0, rs[0]? = some r0 := by
      have hl := g8.at_.len
      cases rs with
      | nil => cases vs with
        | nil => exact absurd rfl cn
        | cons _ _ => cases hl
      | cons r0 rs => exact ⟨r0, rfl⟩
    have hhd : rs.head? = some r0 := by cases rs with
      | nil => cases hr0
      | cons r rs => cases hr0; rfl
    rw [hhd] at h
    obtain ⟨ra, rb, hv, hvk, e1, e2⟩ := g8.at_.at' hr0
    kxs_still
    intro t9 H9 s9 n9 k9 f9
    have k9' : H9 t9 = some (.tup ((ndK (.pt r0.head 0 (tl z).length)).map kV)) := by rw [k9]; show some (HO.tup [_, _, V.int (z.length : Nat)]) = _; rw [len_tl]; rfl
    have gk9 := DGet.t (s9 _ _ kdf8) k9'
    rw [valV_hK] at gk9
    kxs_still
    cases c1 : lk F (.pt r0.head 0 (tl z).length) with
    | none =>
      rw [c1] at gk9
      refine o_din (rm1 hr) gk9 ?_
      kxs_still
      have fr9 := fr8.trans s9
      exact h la pa .non none [] [] F _ fr9 n0la n0pa ⟨s9 _ _ k68, s9 _ _ kl8, (g.more fr9).at_, .inl ⟨rfl, rfl⟩, s9 _ _ kpa8, .nil⟩ hst (by rw [Option.bind_some, c1]; rfl) ⟨fun _ => rfl, fun n e => by cases e⟩ (fun kv m => by cases m)
    | some hh =>
      rw [c1] at gk9
      refine o_din (rm1 hr) gk9 ?_
      kxs_still
      refine s_fldV ?_
      kxs_still
      refine ⟨c, cs.Wood, dx, _, rfl, s9 _ _ k68, inferInstance, inferInstance, (show 4 < 1000 by decide), fun H10 k10 f10 => ?_⟩
      have fr10 : Same H0 H10 := fun b o q => (f10 b fun w => by rw [w, n0] at q; cases q).trans (s9 _ _ (fr8 _ _ q))
      have k10' : H10 c = some (.ins cs.Wood dx (wdF la z (.ref t9) pa)) := k10
      have kl10 : H10 la = some (.lst vs) := (f10 la nla).trans (s9 _ _ kl8)
      have kp10 : H10 pa = some (.dT []) := (f10 pa npc).trans (s9 _ _ kpa8)
      have ndc : df ≠ c := fun w => by have := s8 _ _ k7; rw [w, k68] at this; cases this
      have kd10 : H10 df = some (.dT (hK F)) := (f10 df ndc).trans (s9 _ _ kdf8)
      have ntc : t9 ≠ c := fun w => by have := s9 _ _ k68; rw [← w, k9] at this; cases this
      have kt10 : H10 t9 = _ := (f10 t9 ntc).trans k9'
      have hb := hbd F hst
      kxs_still
      refine ⟨vs, rs, z, c, dx, la, pa, .ref t9, .pt r0.head 0 (tl z).length, df, F, rfl, ⟨k10', kl10, (g.more fr10).at_, .inr ⟨_, rfl, t9, rfl, kt10⟩, kp10, .nil⟩, g.ok, rfl, kd10, hst, gbd.h2, hb.1, by rw [c1]; rfl, hb.2, fun kvs P H11 f11 hW hwi hfv => ?_⟩
      kxs_still
      exact h la pa (.ref t9) (some (.pt r0.head 0 (tl z).length)) kvs P F H11 (fun b o q => f11 b o (fun w => by rw [w, n0pa] at q; cases q) (fr10 _ _ q)) n0la n0pa hW hst (by rw [Option.bind_some, c1]; rfl) ⟨fun e => (by cases e), fun n e => by cases e; exact hwi⟩ fun kv hkv l e => fr10.none (hfv kv hkv l e)
  · have ers : rs = [] := by
      have hl := g8.at_.len
      rw [cn] at hl
      exact List.eq_nil_of_length_eq_zero hl.symm
    subst ers
    kxs_still
    exact h la pa .non none [] [] F _ fr8 n0la n0pa ⟨k68, kl8, g8.at_, .inl ⟨rfl, rfl⟩, kpa8, .nil⟩ hst rfl ⟨fun _ => rfl, fun n e => by cases e⟩ (fun kv m => by cases m)
end
theorem in_Wood (T : Txt K mg cs) : Ini P w K mg base cs.Wood 6 ["self", "grammar", "text"] (sp3 (R_Wood_init K cs)) := by
  obtain ⟨f, fd, hm, F, hb⟩ := T.i_Wood.ex
  exact ⟨f, fd, hm, hb, ok_Wood_init F T⟩
def R_Wood_nodes (K : PySem.W.Frag) (cs : Cs) : V → Hp → VK → XK → Prop := fun x H Q _ => ∃ (vs : List V) (rs : List Rl) (z : Str) (c dx la pa : Addr) (pk : V) (top : Option Nd) (kvs : List (List Key × V)) (P : Pths), x = .ref c ∧ Wd H cs.Wood vs rs z c dx la pa pk top kvs P ∧
  ∀ l xs H', Same H H' → H l = none → H' l = some (.lst xs) → All2 (NdAt H') xs (P.map (·.1)) → Q (.ref l) H'
section
theorem ok_Wood_nodes {f : Addr} {fd : FuncData} (F : Fun K "nodes" "Wood.nodes" s_Wood_nodes f fd) (T : Txt K mg cs) : FnOk P w K mg base (L2.CX P w) 1 f fd ["self"] (sp1 (R_Wood_nodes K cs)) := by
  refine F.okX sc_Wood_nodes (fun vs H Q E h => sp1_len h) (fun cdv A outer s H vs Q E hr h => ⟨_, PBw (X := X_Wood_nodes P w K mg base f cdv A outer s H E), ?_⟩)
  obtain ⟨a0, rfl, h⟩ := h
  have ib_list := T.b_list
  have icl_Wood : ClsI K cs.Wood := ⟨T.c_Wood.cl⟩
  have ifl_Wood_paths : NoA K cs.Wood "paths" := ⟨T.n_Wood_paths⟩
  have hr' : Room 0 (X_Wood_nodes P w K mg base f cdv A outer s H E).A := hr
  replace hr := hr'
  clear hr'
  obtain ⟨vs, rs, z, c, dx, la, pa, pk, top, kvs, P, rfl, hW, h⟩ := h
  have kI := hW.ins
  kxs_still
  refine k_listDT hW.dt fun l bs H1 s1 n1 k1 hk f1 => ?_
  kxs_still
  refine h l _ H1 s1 n1 k1 ?_
  exact el_keys (Same.ts s1) hW.el hk
end
theorem md_Wood_nodes (T : Txt K mg cs) : Md P w K mg base cs.Wood "nodes" 1 ["self"] (sp1 (R_Wood_nodes K cs)) := by
  obtain ⟨f, fd, hm, F, hb⟩ := T.m_Wood_nodes.ex
  exact ⟨f, fd, hm, hb, ok_Wood_nodes F T⟩
def R_Wood_ways (K : PySem.W.Frag) (cs : Cs) : V → V → Hp → VK → XK → Prop := fun x y H Q _ => ∃ (vs : List V) (rs : List Rl) (z : Str) (c dx la pa : Addr) (pk : V) (top : Option Nd) (kvs : List (List Key × V)) (P : Pths) (b : Addr) (ks : List Key), x = .ref c ∧ Wd H cs.Wood vs rs z c dx la pa pk top kvs P ∧ y = .ref b ∧ H b = some (.tup (ks.map kV)) ∧
  ∀ v H', Same H H' → (∀ l, v = .ref l → H l = none) → ((∃ n ws, ks = ndK n ∧ lk P n = some ws ∧ WaysAt H' v ws) ∨ ((∀ n, ks = ndK n → n ∉ P.map (·.1)) ∧ WaysAt H' v [])) → Q v H'
section
theorem ok_Wood_ways {f : Addr} {fd : FuncData} (F : Fun K "ways" "Wood.ways" s_Wood_ways f fd) (T : Txt K mg cs) : FnOk P w K mg base (L2.CX P w) 1 f fd ["self", "node"] (sp2 (R_Wood_ways K cs)) := by
  refine F.okX sc_Wood_ways (fun vs H Q E h => sp2_len h) (fun cdv A outer s H vs Q E hr h => ⟨_, PBw (X := X_Wood_ways P w K mg base f cdv A outer s H E), ?_⟩)
  obtain ⟨a0, a1, rfl, h⟩ := h
  have ib_list := T.b_list
  have icl_Wood : ClsI K cs.Wood := ⟨T.c_Wood.cl⟩
  have ifl_Wood_paths : NoA K cs.Wood "paths" := ⟨T.n_Wood_paths⟩
  have hr' : Room 0 (X_Wood_ways P w K mg base f cdv A outer s H E).A := hr
  replace hr := hr'
  clear hr'
  obtain ⟨vs, rs, z, c, dx, la, pa, pk, top, kvs, P, b, ks, rfl, hW, rfl, hb, h⟩ := h
  have kI := hW.ins
  kxs_still
  refine e_dget2 (rm1 hr) ?_
  kxs_still
  refine ⟨.inr ⟨_, .inl hW.dt⟩, ?_⟩
  kxs_still
  intro l1 H1 s1 n1 k1 f1
  have gk := DGet.t (s1 _ _ hW.dt) (s1 _ _ hb)
  refine ⟨_, gk, ?_⟩
  by_cases c1 : ∃ n ∈ P.map (·.1), ks = ndK n
  · obtain ⟨n, hn, rfl⟩ := c1
    rcases el_val hW.el n with ⟨_, q2⟩ | ⟨v, ws, q1, q2, q3, q4⟩
    · exact absurd hn q2
    obtain ⟨lw, wv, rfl, klw, aw⟩ := q4.more s1
    rw [q1]
    kxs_still
    refine k_listL (.inl (SqL.of klw)) fun l2 H2 s2 n2 k2 f2 => ?_
    kxs_still
    exact h _ H2 (s1.trans s2) (fun l e => by cases e; exact s1.none n2) (.inl ⟨n, ws, rfl, q3, l2, wv, rfl, k2, aw.mono fun _ _ q => q.ts (Same.ts s2)⟩)
  · rw [el_other hW.el ks fun n hn e => c1 ⟨n, hn, e⟩]
    kxs_still
    refine k_listL (.inl (SqL.of k1)) fun l2 H2 s2 n2 k2 f2 => ?_
    kxs_still
    exact h _ H2 (s1.trans s2) (fun l e => by cases e; exact s1.none n2) (.inr ⟨fun n e hn => c1 ⟨n, hn, e⟩, l2, [], rfl, k2, .nil⟩)

end
theorem md_Wood_ways (T : Txt K mg cs) : Md P w K mg base cs.Wood "ways" 1 ["self", "node"] (sp2 (R_Wood_ways K cs)) := by
  obtain ⟨f, fd, hm, F, hb⟩ := T.m_Wood_ways.ex
  exact ⟨f, fd, hm, hb, ok_Wood_ways F T⟩
theorem sum_le_mul {α : Type} {f : α → Nat} {B : Nat} : ∀ {l : List α}, (∀ x ∈ l, f x ≤ B) → (l.map f).sum ≤ l.length * B
  | [], _ => by simp
  | x :: l, h => by
    rw [List.map_cons, List.sum_cons, List.length_cons, Nat.succ_mul]
    have := h x (List.mem_cons_self ..)
    have := sum_le_mul (l := l) fun y m => h y (List.mem_cons_of_mem _ m)
    omega
theorem wn_le {rs : List Rl} {t : List Nat} {F : Hts} {n : Nd} (w : Wi rs t n) : wn rs F n ≤ rs.length + 2 * (t.length + 1) := by
  unfold wn
  cases n with
  | pt X i j =>
    show ((if isSg X = true then [[]] else headWays rs F i j (nums rs X)).map List.length).sum ≤ _
    split
    · show 0 + 0 ≤ _; omega
    · have h1 := sum_le_mul (f := List.length) (B := 1) (l := headWays rs F i j (nums rs X)) fun w hw => by
        unfold headWays at hw
        obtain ⟨r, _, rfl⟩ := List.mem_map.mp hw
        exact Nat.le_refl _
      have h2 := headWays_len rs F i j (nums rs X)
      have hnl : (nums rs X).length ≤ rs.length := by unfold nums numsTo; exact Nat.le_trans (List.length_filter_le _ _) (by rw [List.length_range]; exact Nat.le_refl _)
      omega
  | ru r d i j =>
    obtain ⟨hij, hj, _⟩ := w.ru _ _ _ _ rfl
    cases d with
    | zero => show 0 + 0 ≤ _; omega
    | succ d =>
      show ((match (rs[r]?).bind (·.parts[d]?) with | none => [] | some X => cutWays F X r d i j (j + 1 - i)).map List.length).sum ≤ _
      split
      · show 0 ≤ _; omega
      · rename_i X _
        have h1 := sum_le_mul (f := List.length) (B := 2) (l := cutWays F X r d i j (j + 1 - i)) fun w hw => by
          unfold cutWays at hw
          obtain ⟨k, _, rfl⟩ := List.mem_map.mp hw
          exact Nat.le_refl _
        have h2 := cutWays_len F X r d i j (j + 1 - i)
        omega
theorem Std.small {rs : List Rl} {t : List Nat} {F : Hts} (s : Std rs t F) (h6 : ∀ r ∈ rs, r.parts.length ≤ 6) (h1 : rs.length ≤ 10) (h2 : t.length ≤ 10) : F.length ≤ 10890 ∧ (F.map fun q => wn rs F q.1).sum ≤ 15000000 := by
  have wi : ∀ n ∈ F.map (·.1), Wi rs t n := fun n hn => by
    obtain ⟨h, hh⟩ := lk_has hn
    exact ((s.ht n h).mp hh).1.wi
  have hl : F.length ≤ 10890 := by
    have := nodup_len s.nd fun n hn => (wi n hn).univ h6
    rw [List.length_map] at this
    refine Nat.le_trans this ?_
    unfold univ
    rw [List.length_append, flat_len (c := (t.length + 1) * (t.length + 1)), flat_len (c := 7 * ((t.length + 1) * (t.length + 1)))]
    · rw [List.length_append, List.length_map, List.length_map, List.length_range]
      have h3 : (t.length + 1) * (t.length + 1) ≤ 11 * 11 := Nat.mul_le_mul (by omega) (by omega)
      have h4 : (rs.length + t.length) * ((t.length + 1) * (t.length + 1)) ≤ 20 * (11 * 11) := Nat.mul_le_mul (by omega) h3
      have h5 : rs.length * (7 * ((t.length + 1) * (t.length + 1))) ≤ 10 * (7 * (11 * 11)) := Nat.mul_le_mul h1 (Nat.mul_le_mul (Nat.le_refl _) h3)
      omega
    · intro r _
      rw [flat_len (c := (t.length + 1) * (t.length + 1))]
      · rw [List.length_range]
      · intro d _
        rw [flat_len (c := t.length + 1)]
        · rw [List.length_range]
        · intro i _; rw [List.length_map, List.length_range]
    · intro p _
      rw [flat_len (c := t.length + 1)]
      · rw [List.length_range]
      · intro i _; rw [List.length_map, List.length_range]
  refine ⟨by omega, ?_⟩
  have h3 := sum_le_mul (f := fun q : Nd × Nat => wn rs F q.1) (B := 32) (l := F) fun q hq => by
    have := wn_le (F := F) (wi q.1 (List.mem_map.mpr ⟨q, hq, rfl⟩))
    omega
  omega

theorem cs_at {cs : List Nat} {n : Nat} {i : Int} (hc : cs.length = n) (h0 : 0 ≤ i) (h1 : i < (n : Nat)) : ∃ c ∈ cs, atI (cs.map fun c => V.str ⟨#[c]⟩) i = some (.str ⟨#[c]⟩) := by
  have hl : i.toNat < cs.length := by omega
  refine ⟨cs[i.toNat], List.getElem_mem hl, atI_nat h0 ?_⟩
  rw [List.getElem?_map, List.getElem?_eq_getElem hl]
  rfl
def keyD : Key → PyData
  | .inl i => .int i
  | .inr z => .str z
def ndD (n : Nd) : PyData := .tuple ((ndK n).map keyD)
def wayD (w : Way) : PyData := .tuple (w.map ndD)
theorem dp_keys {K : PySem.W.Frag} {H : Hp} : ∀ (ks : List Key), DpAll K H (ks.map kV) (ks.map keyD)
  | [] => .nil
  | .inl i :: ks => .cons (.int i) (dp_keys ks)
  | .inr z :: ks => .cons (.str z) (dp_keys ks)
theorem dp_nds {K : PySem.W.Frag} {H : Hp} : ∀ {xs : List V} {w : Way}, All2 (NdAt H) xs w → DpAll K H xs (w.map ndD)
  | _, _, .nil => .nil
  | _, _, .cons ⟨b, e, k⟩ t => by
    rw [e]
    exact .cons (.tup (SqT.of k) (dp_keys _)) (dp_nds t)
theorem dp_ways {K : PySem.W.Frag} {H : Hp} : ∀ {xs : List V} {ws : List Way}, All2 (WayAt H) xs ws → DpAll K H xs (ws.map wayD)
  | _, _, .nil => .nil
  | _, _, .cons ⟨b, ys, e, k, q⟩ t => by
    rw [e]
    exact .cons (.tup (SqT.of k) (dp_nds q)) (dp_ways t)
/-- a name or a sign short enough -/
def NdOk (n : Nd) : Prop := ∀ p i j, n = .pt p i j → p.length ≤ 1000000 ∧ ∀ c ∈ tl p, c < 1114112
theorem nd_sh {n : Nd} (h : NdOk n) : Sh 1 (ndD n) := .tup fun d hd => by
  obtain ⟨k, hk, rfl⟩ := List.mem_map.mp hd
  cases n with
  | pt p i j =>
    have hk : k ∈ ([.inr p, .inl (i : Nat), .inl (j : Nat)] : List Key) := hk
    simp only [List.mem_cons, List.not_mem_nil, or_false] at hk
    rcases hk with rfl | rfl | rfl
    · exact .str (h p i j rfl).2
    · exact .int _
    · exact .int _
  | ru r d i j =>
    have hk : k ∈ ([.inl (r : Nat), .inl (d : Nat), .inl (i : Nat), .inl (j : Nat)] : List Key) := hk
    simp only [List.mem_cons, List.not_mem_nil, or_false] at hk
    rcases hk with rfl | rfl | rfl | rfl <;> exact .int _
theorem ways_sh {ws : List Way} (h : ∀ w ∈ ws, ∀ n ∈ w, NdOk n) : Sh 3 (.list (ws.map wayD)) := .lst fun d hd => by
  obtain ⟨w, hw, rfl⟩ := List.mem_map.mp hd
  exact .tup fun d hd => by
    obtain ⟨n, hn, rfl⟩ := List.mem_map.mp hd
    exact nd_sh (h w hw n hn)
/-! ### nodes that stand are short; few ways -/
theorem okc_below {c : Nat} (h : okc c = true) : c < 1114112 := by
  unfold okc at h
  simp only [Bool.and_eq_true, decide_eq_true_eq] at h
  omega
theorem lk_not {rs : List Rl} {t : List Nat} {F : Hts} (s : Std rs t F) {n : Nd} (h : ¬ Wi rs t n) : lk F n = none := by
  cases e : lk F n with
  | none => rfl
  | some k => exact absurd ((s.ht n k).mp e).1.wi h
theorem Std.ok {rs : List Rl} {t : List Nat} {F : Hts} (s : Std rs t F) (hG : GoodG rs) (ht : ∀ c ∈ t, okc c = true) {n : Nd} {h : Nat} (e : lk F n = some h) : NdOk n := by
  intro p i j en
  subst en
  refine ⟨(s.nm hG e).2, ?_⟩
  generalize hn : Nd.pt p i j = n at e
  have d := ((s.ht n h).mp e).1
  cases d with
  | sign e1 =>
    cases hn
    intro c hc
    rw [tl_sgn] at hc
    rcases List.mem_cons.mp hc with rfl | hc
    · decide
    · rw [List.mem_singleton.mp hc]
      exact okc_below (ht _ (List.mem_of_getElem? e1))
  | zero => cases hn
  | step => cases hn
  | head hr =>
    cases hn
    exact name_codes (hG.good _ (List.mem_of_getElem? hr)).head
theorem waysN_same {rs : List Rl} {F F' : Hts} (h : ∀ n, lk F n = lk F' n) : ∀ n, waysN rs F n = waysN rs F' n
  | .pt X i j => by
    have : ∀ l, headWays rs F i j l = headWays rs F' i j l := fun l => by
      unfold headWays
      simp only [h]
    show (if isSg X = true then [[]] else headWays rs F i j (nums rs X)) = (if isSg X = true then [[]] else headWays rs F' i j (nums rs X))
    rw [this]
  | .ru _ 0 _ _ => rfl
  | .ru r (d + 1) i j => by
    have : ∀ X n, cutWays F X r d i j n = cutWays F' X r d i j n := fun X n => by
      unfold cutWays cutOk
      simp only [h]
    show (match (rs[r]?).bind (·.parts[d]?) with | none => [] | some X => cutWays F X r d i j (j + 1 - i)) = (match (rs[r]?).bind (·.parts[d]?) with | none => [] | some X => cutWays F' X r d i j (j + 1 - i))
    simp only [this]
theorem ways_small {rs : List Rl} {t : List Nat} {F : Hts} {n : Nd} (wi : Wi rs t n) (h1 : rs.length ≤ 60) (h2 : t.length ≤ 60) : (waysN rs F n).length ≤ 1000 ∧ ∀ w ∈ waysN rs F n, w.length ≤ 10 := by
  cases n with
  | pt X i j =>
    show (if isSg X = true then [[]] else headWays rs F i j (nums rs X)).length ≤ 1000 ∧ ∀ w ∈ (if isSg X = true then [[]] else headWays rs F i j (nums rs X)), w.length ≤ 10
    split
    · exact ⟨by decide, fun w hw => by rw [List.mem_singleton.mp hw]; exact Nat.zero_le _⟩
    · have h3 := headWays_len rs F i j (nums rs X)
      have hnl : (nums rs X).length ≤ rs.length := by unfold nums numsTo; exact Nat.le_trans (List.length_filter_le _ _) (by rw [List.length_range]; exact Nat.le_refl _)
      refine ⟨by omega, fun w hw => ?_⟩
      unfold headWays at hw
      obtain ⟨r, _, rfl⟩ := List.mem_map.mp hw
      show 1 ≤ 10
      decide
  | ru r d i j =>
    obtain ⟨hij, hj, _⟩ := wi.ru _ _ _ _ rfl
    cases d with
    | zero => exact ⟨by show 1 ≤ 1000; decide, fun w hw => by rw [List.mem_singleton.mp hw]; exact Nat.zero_le _⟩
    | succ d =>
      show (match (rs[r]?).bind (·.parts[d]?) with | none => [] | some X => cutWays F X r d i j (j + 1 - i)).length ≤ 1000 ∧ ∀ w ∈ (match (rs[r]?).bind (·.parts[d]?) with | none => [] | some X => cutWays F X r d i j (j + 1 - i)), w.length ≤ 10
      split
      · exact ⟨by show 0 ≤ 1000; decide, fun w hw => by cases hw⟩
      · rename_i X _
        have h2 := cutWays_len F X r d i j (j + 1 - i)
        refine ⟨by omega, fun w hw => ?_⟩
        unfold cutWays at hw
        obtain ⟨k, _, rfl⟩ := List.mem_map.mp hw
        show 2 ≤ 10
        decide

/-- how much a wood's nodes have, of a text of any length -/
theorem Std.mid {rs : List Rl} {t : List Nat} {F : Hts} (s : Std rs t F) (h6 : ∀ r ∈ rs, r.parts.length ≤ 6) {R N : Nat} (h1 : rs.length ≤ R) (h2 : t.length ≤ N) :
    (F.map fun q => wn rs F q.1).sum ≤ (R + N) * ((N + 1) * (N + 1)) * R + R * (7 * ((N + 1) * (N + 1))) * (2 * (N + 1)) := by
  have wi : ∀ n ∈ F.map (·.1), Wi rs t n := fun n hn => by
    obtain ⟨h, hh⟩ := lk_has hn
    exact ((s.ht n h).mp hh).1.wi
  have e := sum_sub (wn rs F) (K := F.map (·.1)) (L := univ rs t) s.nd fun n hn => (wi n hn).univ h6
  rw [List.map_map] at e
  refine Nat.le_trans e ?_
  unfold univ
  rw [List.map_append, List.sum_append]
  have h3 : (t.length + 1) * (t.length + 1) ≤ (N + 1) * (N + 1) := Nat.mul_le_mul (by omega) (by omega)
  refine Nat.add_le_add ?_ ?_
  · refine Nat.le_trans (sum_le_mul (B := R) fun n hn => ?_) (Nat.mul_le_mul ?_ (Nat.le_refl _))
    · obtain ⟨p, _, hn⟩ := List.mem_flatMap.mp hn
      obtain ⟨i, _, hn⟩ := List.mem_flatMap.mp hn
      obtain ⟨j, _, rfl⟩ := List.mem_map.mp hn
      show ((if isSg p = true then [[]] else headWays rs F i j (nums rs p)).map List.length).sum ≤ _
      split
      · show 0 + 0 ≤ _; omega
      · have h1 := sum_le_mul (f := List.length) (B := 1) (l := headWays rs F i j (nums rs p)) fun w hw => by
          unfold headWays at hw
          obtain ⟨r, _, rfl⟩ := List.mem_map.mp hw
          exact Nat.le_refl _
        have h2 := headWays_len rs F i j (nums rs p)
        have hnl : (nums rs p).length ≤ rs.length := by unfold nums numsTo; exact Nat.le_trans (List.length_filter_le _ _) (by rw [List.length_range]; exact Nat.le_refl _)
        omega
    · rw [flat_len (c := (t.length + 1) * (t.length + 1))]
      · rw [List.length_append, List.length_map, List.length_map]
        exact Nat.mul_le_mul (by omega) h3
      · intro p _
        rw [flat_len (c := t.length + 1)]
        · rw [List.length_range]
        · intro i _; rw [List.length_map, List.length_range]
  · refine Nat.le_trans (sum_le_mul (B := 2 * (N + 1)) fun n hn => ?_) (Nat.mul_le_mul ?_ (Nat.le_refl _))
    · obtain ⟨r, _, hn⟩ := List.mem_flatMap.mp hn
      obtain ⟨d, _, hn⟩ := List.mem_flatMap.mp hn
      obtain ⟨i, _, hn⟩ := List.mem_flatMap.mp hn
      obtain ⟨j, hj, rfl⟩ := List.mem_map.mp hn
      have hj := List.mem_range.mp hj
      cases d with
      | zero => show 0 + 0 ≤ _; omega
      | succ d =>
        show ((match (rs[r]?).bind (·.parts[d]?) with | none => [] | some X => cutWays F X r d i j (j + 1 - i)).map List.length).sum ≤ _
        split
        · show 0 ≤ _; omega
        · rename_i X _
          have h1 := sum_le_mul (f := List.length) (B := 2) (l := cutWays F X r d i j (j + 1 - i)) fun w hw => by
            unfold cutWays at hw
            obtain ⟨k, _, rfl⟩ := List.mem_map.mp hw
            exact Nat.le_refl _
          have h2 := cutWays_len F X r d i j (j + 1 - i)
          omega
    · rw [flat_len (c := 7 * ((t.length + 1) * (t.length + 1)))]
      · rw [List.length_range]
        exact Nat.mul_le_mul h1 (Nat.mul_le_mul (Nat.le_refl _) h3)
      · intro r _
        rw [flat_len (c := (t.length + 1) * (t.length + 1))]
        · rw [List.length_range]
        · intro d _
          rw [flat_len (c := t.length + 1)]
          · rw [List.length_range]
          · intro i _; rw [List.length_map, List.length_range]

/-! ### dicts of nodes, the wood as it stands -/
def WdAt (H : Hp) (C : Addr) (x : V) (rs : List Rl) (z : Str) (top : Option Nd) (P : Pths) : Prop := ∃ vs c dx la pa pk kvs, x = .ref c ∧ Wd H C vs rs z c dx la pa pk top kvs P
theorem WdAt.more {H H' : Hp} {C : Addr} {x : V} {rs : List Rl} {z : Str} {top : Option Nd} {P : Pths} (h : WdAt H C x rs z top P) (s : Same H H') : WdAt H' C x rs z top P := by
  obtain ⟨vs, c, dx, la, pa, pk, kvs, e, w⟩ := h
  exact ⟨vs, c, dx, la, pa, pk, kvs, e, w.more s⟩
theorem map_get' {α β : Type} {f : α → β} {l : List α} {i : Nat} {y : β} (h : (l.map f)[i]? = some y) : ∃ x, l[i]? = some x ∧ f x = y := by
  rw [List.getElem?_map] at h
  exact Option.map_eq_some_iff.mp h
def evs (P : Pths) : List (Nd × Nd) := P.flatMap fun q => q.2.flatten.map fun b => (b, q.1)
def own (E : List (Nd × Nd)) (b : Nd) : List Nd := (E.filter fun e => decide (e.1 = b)).map (·.2)
theorem own_snoc (E : List (Nd × Nd)) (b n m : Nd) : own (E ++ [(b, n)]) m = own E m ++ if b = m then [n] else [] := by
  unfold own
  rw [List.filter_append, List.map_append]
  congr 1
  by_cases c : b = m
  · rw [if_pos c, List.filter_cons_of_pos (by exact decide_eq_true c), List.filter_nil]; rfl
  · rw [if_neg c, List.filter_cons_of_neg (by exact fun z => c (of_decide_eq_true z)), List.filter_nil]; rfl
theorem own_len (E : List (Nd × Nd)) (b : Nd) : (own E b).length ≤ E.length := by
  unfold own
  rw [List.length_map]
  exact List.length_filter_le _ _
theorem evs_snoc (P : Pths) (q : Nd × List Way) : evs (P ++ [q]) = evs P ++ q.2.flatten.map fun b => (b, q.1) := by
  unfold evs
  rw [List.flatMap_append, List.flatMap_singleton]
theorem evs_take (P : Pths) (i : Nat) : (evs (P.take i)).length ≤ (evs P).length := by
  have : evs P = evs (P.take i) ++ evs (P.drop i) := by
    unfold evs
    rw [← List.flatMap_append, List.take_append_drop]
  rw [this, List.length_append]
  omega
/-- what the paths of a wood keep -/
structure Pc (P : Pths) : Prop where
  nd : (P.map (·.1)).Nodup
  cl : ∀ q ∈ P, ∀ w ∈ q.2, ∀ m ∈ w, m ∈ P.map (·.1)
  sz : (evs P).length ≤ 10000000
  ln : P.length ≤ 100000
  wl : ∀ q ∈ P, q.2.length ≤ 1000 ∧ ∀ w ∈ q.2, w.length ≤ 10
  ok : ∀ n ∈ P.map (·.1), NdOk n
theorem lk_nd {κ α : Type} [DecidableEq κ] : ∀ {F : List (κ × α)} {n : κ} {v : α}, (F.map (·.1)).Nodup → (n, v) ∈ F → lk F n = some v
  | p :: F, n, v, hn, h => by
    obtain ⟨h1, h2⟩ := List.nodup_cons.mp hn
    show (if p.1 = n then some p.2 else lk F n) = some v
    rcases List.mem_cons.mp h with h | h
    · rw [← h, if_pos rfl]
    · rw [if_neg fun e => h1 (List.mem_map.mpr ⟨_, h, e.symm⟩)]
      exact lk_nd h2 h
theorem Pc.at {P : Pths} (h : Pc P) {i : Nat} {q : Nd × List Way} (e : P[i]? = some q) : lk P q.1 = some q.2   := lk_nd h.nd (List.mem_of_getElem? e)
theorem evs_len (P : Pths) : (evs P).length = (P.map fun q => q.2.flatten.length).sum := by
  unfold evs
  rw [List.length_flatMap]
  congr 1
  exact List.map_congr_left fun q _ => List.length_map ..
/-- a dict whose keys are just some nodes -/
def InD (kvs : List (List Key × V)) (T : List Nd) : Prop := ∀ n, (valV kvs (ndK n)).isSome = true ↔ n ∈ T
theorem InD.nil : InD [] [] := fun n => ⟨fun e => (by cases e), fun m => (by cases m)⟩
theorem InD.put {kvs : List (List Key × V)} {T : List Nd} {n : Nd} {v : V} (h : InD kvs T) : InD (putK kvs (ndK n) v) (T ++ [n]) := fun m => by
  rw [valV_put, List.mem_append, List.mem_singleton, ← h m]
  by_cases c : m = n
  · rw [if_pos (by rw [c])]
    exact ⟨fun _ => .inr c, fun _ => rfl⟩
  · rw [if_neg fun z => c (ndK_inj z)]
    exact ⟨fun e => .inl e, fun e => e.resolve_right c⟩
/-- a dict of nodes -/
def kN (T : List Nd) : List (List Key × V) := T.map fun n => (ndK n, V.bl true)
theorem kN_val (T : List Nd) (n : Nd) : valV (kN T) (ndK n) = if n ∈ T then some (V.bl true) else none := by
  induction T with
  | nil => rfl
  | cons a T ih =>
    show valV ((ndK a, V.bl true) :: kN T) (ndK n) = _
    by_cases c : a = n
    · rw [valV_pos (by rw [c]), if_pos (by rw [c]; exact List.mem_cons_self ..)]
    · rw [valV_neg (fun z => c (ndK_inj z)), ih]
      by_cases c2 : n ∈ T
      · rw [if_pos c2, if_pos (List.mem_cons_of_mem _ c2)]
      · rw [if_neg c2, if_neg fun z => by
          rcases List.mem_cons.mp z with z | z
          · exact c z.symm
          · exact c2 z]
theorem kN_in (T : List Nd) : InD (kN T) T := fun n => by
  rw [kN_val]
  by_cases c : n ∈ T
  · rw [if_pos c]; exact ⟨fun _ => c, fun _ => rfl⟩
  · rw [if_neg c]; exact ⟨fun z => (by cases z), fun z => absurd z c⟩
theorem kN_put {T : List Nd} {n : Nd} (h : n ∉ T) : putK (kN T) (ndK n) (.bl true) = kN (T ++ [n]) := by
  rw [L2.putK_new _ (by rw [kN_val, if_neg h])]
  unfold kN
  rw [List.map_append]
  rfl
theorem kN_len (T : List Nd) : (kN T).length = T.length := List.length_map ..
theorem nd_ix {α : Type} {l : List α} (h : l.Nodup) {i j : Nat} {x : α} (hi : l[i]? = some x) (hj : l[j]? = some x) : i = j := by
  obtain ⟨h1, e1⟩ := List.getElem?_eq_some_iff.mp hi
  obtain ⟨h2, e2⟩ := List.getElem?_eq_some_iff.mp hj
  exact (List.getElem_inj h).mp (e1.trans e2.symm)
theorem nd_new {α : Type} {l : List α} (h : l.Nodup) {i : Nat} {x : α} (hi : l[i]? = some x) : x ∉ l.take i := fun m => by
  obtain ⟨j, hj⟩ := List.getElem?_of_mem m
  rw [List.getElem?_take] at hj
  by_cases c : j < i
  · rw [if_pos c] at hj
    have := nd_ix h hi hj
    omega
  · rw [if_neg c] at hj; cases hj

/-! ### rings: what a wood's nodes and ways come to -/
/-- a dict from nodes to lists of nodes -/
structure OwAt (H : Hp) (d : Addr) (kvs : List (List Key × V)) (L : Nd → Option Addr) (E : List (Nd × Nd)) : Prop where
  val : ∀ n, valV kvs (ndK n) = (L n).map V.ref
  inj : ∀ n m l, L n = some l → L m = some l → n = m
  at_ : ∀ n l, L n = some l → l ≠ d ∧ ∃ xs, H l = some (.lst xs) ∧ All2 (NdAt H) xs (own E n)
  non : ∀ n, L n = none → own E n = []
  len : kvs.length ≤ E.length
theorem OwAt.more {H H' : Hp} {d : Addr} {kvs : List (List Key × V)} {L : Nd → Option Addr} {E : List (Nd × Nd)} (h : OwAt H d kvs L E) (s : Same H H') : OwAt H' d kvs L E :=
  ⟨h.val, h.inj, fun n l e => by
    obtain ⟨a, xs, k, w⟩ := h.at_ n l e
    exact ⟨a, xs, s _ _ k, w.mono fun _ _ q => q.ts (Same.ts s)⟩, h.non, h.len⟩
theorem OwAt.old {H H' : Hp} {d l : Addr} {kvs : List (List Key × V)} {L : Nd → Option Addr} {E : List (Nd × Nd)} {b n : Nd} {xs : List V} {v : V} (h : OwAt H d kvs L E) (hL : L b = some l) (kl : H l = some (.lst xs)) (kl' : H' l = some (.lst (xs ++ [v]))) (fr : ∀ x, x ≠ l → H' x = H x) (hv : NdAt H v n) : OwAt H' d kvs L (E ++ [(b, n)]) := by
  have ts : TS H H' := TS.butL kl fr
  refine ⟨h.val, h.inj, fun m l' e => ?_, fun m e => ?_, by rw [List.length_append]; exact Nat.le_trans h.len (Nat.le_add_right _ _)⟩
  · obtain ⟨a, ys, k, w⟩ := h.at_ m l' e
    refine ⟨a, ?_⟩
    rw [own_snoc]
    by_cases c : b = m
    · subst c
      rw [hL] at e
      cases e
      rw [kl] at k
      cases k
      rw [if_pos rfl]
      exact ⟨_, kl', (w.mono fun _ _ q => q.ts ts).snoc (hv.ts ts)⟩
    · rw [if_neg c, List.append_nil]
      exact ⟨ys, (fr l' fun z => c (h.inj _ _ l hL (by rw [← z]; exact e))).trans k, w.mono fun _ _ q => q.ts ts⟩
  · rw [own_snoc, if_neg (fun c => by rw [← c, hL] at e; cases e), List.append_nil]
    exact h.non m e
theorem OwAt.new {H H' : Hp} {d l0 : Addr} {kvs : List (List Key × V)} {L : Nd → Option Addr} {E : List (Nd × Nd)} {b n : Nd} {v : V} (h : OwAt H d kvs L E) (hL : L b = none) (n0 : ∀ m, L m ≠ some l0) (nd : l0 ≠ d) (kl : H' l0 = some (.lst [v])) (fr : ∀ x, x ≠ l0 → x ≠ d → H' x = H x) (ts : TS H H') (hv : NdAt H v n) : OwAt H' d (putK kvs (ndK b) (.ref l0)) (fun m => if m = b then some l0 else L m) (E ++ [(b, n)]) := by
  refine ⟨fun m => ?_, fun m m' l e e' => ?_, fun m l e => ?_, fun m e => ?_, ?_⟩
  · rw [valV_put, h.val]
    by_cases c : m = b
    · rw [if_pos (by rw [c]), if_pos c]; rfl
    · rw [if_neg fun z => c (ndK_inj z), if_neg c]
  · by_cases c : m = b <;> by_cases c' : m' = b
    · rw [c, c']
    · simp only [if_pos c] at e
      simp only [if_neg c'] at e'
      cases e
      exact absurd e' (n0 _)
    · simp only [if_neg c] at e
      simp only [if_pos c'] at e'
      cases e'
      exact absurd e (n0 _)
    · simp only [if_neg c] at e
      simp only [if_neg c'] at e'
      exact h.inj _ _ _ e e'
  · rw [own_snoc]
    by_cases c : m = b
    · simp only [if_pos c] at e
      cases e
      rw [if_pos c.symm, c, h.non b hL]
      exact ⟨nd, _, kl, .cons (hv.ts ts) .nil⟩
    · simp only [if_neg c] at e
      obtain ⟨a, ys, k, w⟩ := h.at_ m l e
      rw [if_neg fun z => c z.symm, List.append_nil]
      exact ⟨a, ys, (fr l (fun z => n0 m (by rw [e, z])) a).trans k, w.mono fun _ _ q => q.ts ts⟩
  · by_cases c : m = b
    · simp only [if_pos c] at e
      cases e
    · simp only [if_neg c] at e
      rw [own_snoc, if_neg fun z => c z.symm, List.append_nil]
      exact h.non m e
  · have := length_putK kvs (ndK b) (V.ref l0)
    have := h.len
    rw [List.length_append]
    show _ ≤ _ + 1
    omega
/-- the dict as it grows, beside what was there -/
structure OwI (H0 H : Hp) (d : Addr) (kvs : List (List Key × V)) (L : Nd → Option Addr) (E : List (Nd × Nd)) : Prop where
  fr : ∀ x o, x ≠ d → H0 x = some o → H x = some o
  kd : H d = some (.dT kvs)
  ow : OwAt H d kvs L E
  nw : ∀ n l, L n = some l → H0 l = none
theorem OwI.more {H0 H H' : Hp} {d : Addr} {kvs : List (List Key × V)} {L : Nd → Option Addr} {E : List (Nd × Nd)} (h : OwI H0 H d kvs L E) (s : Same H H') : OwI H0 H' d kvs L E :=
  ⟨fun x o hx q => s _ _ (h.fr x o hx q), s _ _ h.kd, h.ow.more s, h.nw⟩
def R_owners (K : PySem.W.Frag) (cs : Cs) : V → Hp → VK → XK → Prop := fun x H Q _ => ∃ rs z top P, WdAt H cs.Wood x rs z top P ∧ Pc P ∧
  ∀ d kvs L H', Same H H' → H d = none → OwI H H' d kvs L (evs P) → Q (.ref d) H'
section
set_option hygiene false in
local macro_rules | `(tactic| kpc_turns) => `(tactic| first | refine e_methV0 T.c_Wood.cl (md_Wood_nodes T) (hr.mono (by decide)) rfl (by ki_room) rfl ?_ | refine e_methV T.c_Wood.cl (md_Wood_ways T) (hr.mono (by decide)) rfl (by ki_room) rfl ?_)
theorem ok_owners {f : Addr} {fd : FuncData} (F : Fun K "owners" "owners" s_owners f fd) (T : Txt K mg cs) : FnOk P w K mg base (L2.CX P w) 2 f fd ["wood"] (sp1 (R_owners K cs)) := by
  refine F.okX sc_owners (fun vs H Q E h => sp1_len h) (fun cdv A outer s H vs Q E hr h => ⟨_, PBw (X := X_owners P w K mg base f cdv A outer s H E), ?_⟩)
  obtain ⟨a0, rfl, h⟩ := h
  have hr' : Room 1 (X_owners P w K mg base f cdv A outer s H E).A := hr
  replace hr := hr'
  clear hr'
  obtain ⟨rs, z, top, P, hW, hP, h⟩ := h
  obtain ⟨vs, c, dx, la, pa, pk, kv0, rfl, hw⟩ := id hW
  have kI := hw.ins
  refine b_cons (s_set (e_dctT fun d H1 s1 n1 k1 f1 => ?_))
  have hw1 := hw.more s1
  have kI1 := hw1.ins
  kxs_still
  refine s_for (j_list ?_)
  kxs_still
  refine ⟨vs, rs, _, c, dx, la, pa, pk, top, kv0, P, rfl, hw1, fun ln xs H2 s2 n2 k2 aN => ?_⟩
  have k12 := s2 _ _ k1
  have hxl := aN.len
  rw [List.length_map] at hxl
  have ndW : d ≠ ln := fun w => by rw [← w, k1] at n2; cases n2
  refine ⟨ln, rfl, ⟨_, SqL.of k2⟩, _, _, _, walk_list (xs := xs), fun i σ' H' => ∃ (kvs : List (List Key × V)) (L : Nd → Option Addr) (v2 v3 v4 : Option V), σ' = [some (.ref c), some (.ref d), v2, v3, v4] ∧ OwI H2 H' d kvs L (evs (P.take i)),
    ⟨[], fun _ => none, none, none, none, rfl, fun _ _ _ q => q, k12, ⟨fun _ => rfl, (fun _ _ _ e => nomatch e), (fun _ _ e => nomatch e), fun _ _ => rfl, Nat.zero_le _⟩, (fun _ _ e => nomatch e)⟩, fun i σ' H' _ ⟨_, _, _, _, _, _, o⟩ => SqL.of (o.fr _ _ ndW.symm k2), ?_, ?_⟩
  · rintro i x σ' H3 H4 hi ⟨kvs, L, v2, v3, v4, rfl, oI⟩ ⟨rfl, hx⟩
    obtain ⟨n, hn, ⟨b, rfl, hb⟩⟩ := aN.get hx
    obtain ⟨q, hq, rfl⟩ := map_get' hn
    have s24 : Same H H4 := fun x o e => oI.fr x o (fun w => by rw [w, n1] at e; cases e) (s2 _ _ (s1 _ _ e))
    have hw4 := hw.more s24
    have kI4 := hw4.ins
    have hb4 : H4 b = some (.tup ((ndK q.1).map kV)) := oI.fr b _ (fun w => by rw [w, k12] at hb; cases hb) hb
    kxs_still
    refine s_for (j_list ?_)
    kxs_still
    refine ⟨vs, rs, _, c, dx, la, pa, pk, top, kv0, P, b, ndK q.1, rfl, hw4, rfl, hb4, fun v H5 s5 fv hcc => ?_⟩
    obtain ⟨n', ws, en, hlk, w5⟩ := hcc.resolve_right fun w => w.1 q.1 rfl (List.mem_map.mpr ⟨q, List.mem_of_getElem? hq, rfl⟩)
    cases ndK_inj en
    rw [hP.at hq] at hlk
    cases hlk
    obtain ⟨lw, wv, rfl, klw, aw⟩ := w5
    have nlw := fv lw rfl
    have ndl : lw ≠ d := fun w => by rw [w, oI.kd] at nlw; cases nlw
    have oI5 := oI.more s5
    have hb5 := s5 _ _ hb4
    have hstep := evs_snoc (P.take i) q
    rw [← take_snoc hq] at hstep
    have hE := evs_take P (i + 1)
    rw [hstep, List.length_append, List.length_map] at hE
    have hsz := hP.sz
    refine ⟨lw, rfl, ⟨_, SqL.of klw⟩, _, _, _, walk_list (xs := wv), fun j σ' H' => ∃ (kvs : List (List Key × V)) (L : Nd → Option Addr) (v3 v4 : Option V), σ' = [some (.ref c), some (.ref d), some (.ref b), v3, v4] ∧ OwI H2 H' d kvs L (evs (P.take i) ++ (q.2.take j).flatten.map fun m => (m, q.1)) ∧ TS H5 H' ∧ H' lw = some (.lst wv) ∧ ∀ m, L m ≠ some lw,
      ⟨kvs, L, v3, v4, rfl, by rw [List.take_zero, List.flatten_nil, List.map_nil, List.append_nil]; exact oI5, TS.refl _, klw, fun m e => by obtain ⟨_, ys, w, _⟩ := oI.ow.at_ _ _ e; rw [w] at nlw; cases nlw⟩, fun j σ' H' _ ⟨_, _, _, _, _, _, _, k, _⟩ => SqL.of k, ?_, ?_⟩
    · rintro j x σ' H6 H7 hj ⟨kvs, L, v3, v4, rfl, oI7, ts7, kl7, nl7⟩ ⟨rfl, hx⟩
      obtain ⟨w, hw', ⟨tw, ys, rfl, ktw, aw2⟩⟩ := aw.get hx
      have ktw7 := ts7 _ _ ktw
      have hyl := aw2.len
      have hft := flat_take q.2 (j + 1)
      rw [take_snoc hw', List.flatten_append, List.length_append, List.flatten_singleton] at hft
      kxs_still
      refine s_for (j_tup ?_)
      kxs_still
      refine ⟨⟨_, SqT.of ktw7⟩, _, _, _, walk_tup (xs := ys), fun k σ' H' => ∃ (kvs : List (List Key × V)) (L : Nd → Option Addr) (v4 : Option V), σ' = [some (.ref c), some (.ref d), some (.ref b), some (.ref tw), v4] ∧ OwI H2 H' d kvs L (evs (P.take i) ++ ((q.2.take j).flatten ++ w.take k).map fun m => (m, q.1)) ∧ TS H5 H' ∧ H' lw = some (.lst wv) ∧ ∀ m, L m ≠ some lw,
        ⟨kvs, L, v4, rfl, by rw [List.take_zero, List.append_nil]; exact oI7, ts7, kl7, nl7⟩, fun k σ' H' _ ⟨_, _, _, _, _, t, _⟩ => SqT.of (t _ _ ktw), ?_, ?_⟩
      · rintro k x σ' H8 H9 hk ⟨kvs, L, v4, rfl, oI9, ts9, kl9, nl9⟩ ⟨rfl, hx2⟩
        obtain ⟨m, hm, ⟨bm, rfl, hbm⟩⟩ := aw2.get hx2
        have hbm9 := ts9 _ _ hbm
        have hb9 := ts9 _ _ hb5
        have kd9 := oI9.kd
        have hbl := oI9.ow.len
        have hwk : (w.take k).length ≤ w.length := by rw [List.length_take]; exact Nat.min_le_right ..
        rw [List.length_append, List.length_map, List.length_append] at hbl
        kxs_still
        refine e_dsetdT (rm1 hr) ?_
        kxs_still
        refine ⟨.inr ⟨_, .inl kd9⟩, ?_⟩
        kxs_still
        intro l0 HA sA nA kA fA
        have oIA := oI9.more sA
        have hbmA := sA _ _ hbm9
        have hbA := sA _ _ hb9
        have hnA : NdAt HA (.ref b) q.1 := ⟨b, rfl, hbA⟩
        have hEk : (evs (P.take i) ++ ((q.2.take j).flatten ++ w.take (k + 1)).map fun m => (m, q.1)) = (evs (P.take i) ++ ((q.2.take j).flatten ++ w.take k).map fun m => (m, q.1)) ++ [(m, q.1)] := by
          rw [take_snoc hm, ← List.append_assoc (q.2.take j).flatten, List.map_append, ← List.append_assoc]
          rfl
        refine ⟨kvs, ndK m, bm, oIA.kd, rfl, hbmA, by omega, fun v hv => ?_, fun hn HB kB fB => ?_⟩
        · rw [oIA.ow.val] at hv
          obtain ⟨l, hL, rfl⟩ := Option.map_eq_some_iff.mp hv
          obtain ⟨nld, ys', kl, al⟩ := oIA.ow.at_ _ _ hL
          have hol := own_len (evs (P.take i) ++ ((q.2.take j).flatten ++ w.take k).map fun m => (m, q.1)) m
          have hyl' := al.len
          rw [List.length_append, List.length_map, List.length_append] at hol
          refine ⟨ty_l kl, ?_⟩
          kxs_still
          refine m_append kl (by omega) fun HC kC fC => ?_
          have tsC := TS.butL kl fC
          kxs_still
          refine ⟨kvs, L, _, rfl, ?_, ts9.trans ((Same.ts sA).trans tsC), (fC lw fun w => nl9 m (by rw [hL, w])).trans (sA _ _ kl9), nl9⟩
          rw [hEk]
          exact ⟨fun x o hx e => (fC x fun w => by have := oIA.nw _ _ hL; rw [← w, e] at this; cases this).trans (oIA.fr x o hx e), (fC d nld.symm).trans oIA.kd, oIA.ow.old hL kl kC fC hnA, oIA.nw⟩
        · rw [oIA.ow.val] at hn
          have hL : L m = none := by cases e : L m with
            | none => rfl
            | some l => rw [e] at hn; cases hn
          have n0d : l0 ≠ d := fun w => by rw [w, kd9] at nA; cases nA
          have kl : HB l0 = some (.lst []) := (fB l0 n0d).trans kA
          refine ⟨ty_l kl, ?_⟩
          kxs_still
          refine m_append kl (by decide) fun HC kC fC => ?_
          have n0L : ∀ m, L m ≠ some l0 := fun m' e => by obtain ⟨_, ys', w, _⟩ := oI9.ow.at_ _ _ e; rw [w] at nA; cases nA
          have n02 : H2 l0 = none := by cases e : H2 l0 with
            | none => rfl
            | some o => rw [oI9.fr _ _ n0d e] at nA; cases nA
          have frC : ∀ x, x ≠ l0 → x ≠ d → HC x = HA x := fun x h1 h2 => (fC x h1).trans (fB x h2)
          have tsC : TS HA HC := fun x o e => (frC x (fun w => by rw [w, kA] at e; cases e) (fun w => by rw [w, oIA.kd] at e; cases e)).trans e
          kxs_still
          refine ⟨putK kvs (ndK m) (.ref l0), fun m' => if m' = m then some l0 else L m', _, rfl, ?_, ts9.trans ((Same.ts sA).trans tsC), (frC lw (fun w => by rw [← w, kl9] at nA; cases nA) ndl).trans (sA _ _ kl9), fun m' e => ?_⟩
          · rw [hEk]
            exact ⟨fun x o hx e => (frC x (fun w => by rw [w, n02] at e; cases e) hx).trans (oIA.fr x o hx e), (fC d n0d.symm).trans kB, oIA.ow.new hL n0L n0d kC frC tsC hnA, fun m' l e => by
              by_cases c : m' = m
              · simp only [if_pos c] at e; cases e; exact n02
              · simp only [if_neg c] at e; exact oIA.nw _ _ e⟩
          · by_cases c : m' = m
            · simp only [if_pos c] at e
              cases e
              rw [kl9] at nA
              cases nA
            · simp only [if_neg c] at e
              exact nl9 _ e
      · rintro σ' H8 ⟨kvs, L, v4, rfl, oI8, ts8, kl8, nl8⟩
        rw [show ys.length = w.length from hyl, List.take_length] at oI8
        kxs_still
        exact ⟨kvs, L, _, _, rfl, by rw [take_snoc hw', List.flatten_append, List.flatten_singleton]; exact oI8, ts8, kl8, nl8⟩
    · rintro σ' H6 ⟨kvs, L, v3, v4, rfl, oI6, _, _, _⟩
      rw [show wv.length = q.2.length from aw.len, List.take_length, ← hstep] at oI6
      kxs_still
      exact ⟨kvs, L, _, _, _, rfl, oI6⟩
  · rintro σ' H3 ⟨kvs, L, v2, v3, v4, rfl, oI⟩
    rw [hxl, List.take_length] at oI
    kxs_still
    exact h d kvs L H3 (fun x o e => oI.fr x o (fun w => by rw [w, n1] at e; cases e) (s2 _ _ (s1 _ _ e))) n1 ⟨fun x o hx e => oI.fr x o hx (s2 _ _ (s1 _ _ e)), oI.kd, oI.ow, fun n l e => (s1.trans s2).none (oI.nw n l e)⟩
end
theorem df_owners (T : Txt K mg cs) : Df P w K mg base "owners" 2 ["wood"] (sp1 (R_owners K cs)) := by
  obtain ⟨f, fd, hm, F, hb⟩ := T.f_owners.ex
  exact ⟨f, fd, hm, F.kp, hb, ok_owners F T⟩
def cN (T : List Nd) (ws : List Way) : Nat := (ws.flatten.filter fun m => decide (m ∉ T)).length
def fl (P : Pths) (n : Nd) : Nat := ((lk P n).map fun ws => ws.flatten.length).getD 0
theorem cN_nil (ws : List Way) : cN [] ws = ws.flatten.length := by
  unfold cN
  rw [List.filter_eq_self.mpr fun m _ => decide_eq_true List.not_mem_nil]
theorem cN_zero {T : List Nd} {ws : List Way} (h : cN T ws = 0) : ∀ m ∈ ws.flatten, m ∈ T := by
  intro m hm
  by_cases c : m ∈ T
  · exact c
  · unfold cN at h
    have : m ∈ ws.flatten.filter fun m => decide (m ∉ T) := List.mem_filter.mpr ⟨hm, decide_eq_true c⟩
    rw [List.eq_nil_of_length_eq_zero h] at this
    cases this
theorem cN_pos {T : List Nd} {ws : List Way} (h : cN T ws ≠ 0) : ∃ m ∈ ws.flatten, m ∉ T := by
  unfold cN at h
  obtain ⟨m, hm⟩ := List.exists_mem_of_length_pos (Nat.pos_of_ne_zero h)
  obtain ⟨h1, h2⟩ := List.mem_filter.mp hm
  exact ⟨m, h1, of_decide_eq_true h2⟩
theorem filt_snoc {T : List Nd} {p : Nd} (hp : p ∉ T) : ∀ l : List Nd, (l.filter fun m => decide (m ∉ T)).length = (l.filter fun m => decide (m ∉ T ++ [p])).length + l.count p
  | [] => rfl
  | a :: l => by
    have ih := filt_snoc hp l
    by_cases c : a = p
    · subst c
      rw [List.filter_cons_of_pos (by exact decide_eq_true hp), List.filter_cons_of_neg (by simp), List.count_cons_self, List.length_cons]
      omega
    · rw [List.count_cons_of_ne c]
      by_cases c2 : a ∈ T
      · rw [List.filter_cons_of_neg (by simp [c2]), List.filter_cons_of_neg (by simp [c2])]
        exact ih
      · rw [List.filter_cons_of_pos (by simp [c2]), List.filter_cons_of_pos (by simp [c2, c]), List.length_cons, List.length_cons]
        omega
theorem own_pair (l : List Nd) (k p n : Nd) : (own (l.map fun b => (b, k)) p).count n = if k = n then l.count p else 0 := by
  unfold own
  induction l with
  | nil => simp
  | cons a l ih =>
    rw [List.map_cons]
    by_cases c : a = p
    · rw [List.filter_cons_of_pos (by exact decide_eq_true c), List.map_cons, c, List.count_cons_self]
      by_cases c2 : k = n
      · subst c2
        rw [if_pos rfl] at ih ⊢
        rw [List.count_cons_self, ih]
      · rw [if_neg c2] at ih ⊢
        rw [List.count_cons_of_ne c2, ih]
    · rw [List.filter_cons_of_neg (by exact fun z => c (of_decide_eq_true z)), ih, List.count_cons_of_ne c]
theorem own_app (E E' : List (Nd × Nd)) (b : Nd) : own (E ++ E') b = own E b ++ own E' b := by
  unfold own
  rw [List.filter_append, List.map_append]
theorem evs_cons (q : Nd × List Way) (P : Pths) : evs (q :: P) = (q.2.flatten.map fun b => (b, q.1)) ++ evs P := by
  unfold evs
  rw [List.flatMap_cons]
theorem own_count : ∀ {P : Pths} (p n : Nd), (P.map (·.1)).Nodup → (own (evs P) p).count n = ((lk P n).map fun ws => ws.flatten.count p).getD 0
  | [], _, _, _ => rfl
  | q :: P, p, n, hn => by
    obtain ⟨h1, h2⟩ := List.nodup_cons.mp hn
    rw [evs_cons, own_app, List.count_append, own_pair, own_count p n h2]
    show _ = ((if q.1 = n then some q.2 else lk P n).map fun ws => ws.flatten.count p).getD 0
    by_cases c : q.1 = n
    · rw [if_pos c, if_pos c]
      cases e : lk P n with
      | none => rfl
      | some ws => exact absurd (lk_key e) (by rw [← c]; exact h1)
    · rw [if_neg c, if_neg c, Nat.zero_add]
theorem own_key {P : Pths} {p n : Nd} (h : n ∈ own (evs P) p) : n ∈ P.map (·.1) := by
  unfold own at h
  obtain ⟨e, he, rfl⟩ := List.mem_map.mp h
  have := (List.mem_filter.mp he).1
  unfold evs at this
  obtain ⟨q, hq, h2⟩ := List.mem_flatMap.mp this
  obtain ⟨b, _, rfl⟩ := List.mem_map.mp h2
  exact List.mem_map.mpr ⟨q, hq, rfl⟩
structure KI (P : Pths) (T R : List Nd) (W : Nd → Nat) : Prop where
  nd : (T ++ R).Nodup
  mem : ∀ n, n ∈ T ++ R ↔ (∃ ws, lk P n = some ws) ∧ W n = 0
  w : ∀ n ws, lk P n = some ws → W n = cN T ws
  ord : ∀ i n ws, T[i]? = some n → lk P n = some ws → ∀ m ∈ ws.flatten, m ∈ T.take i
structure KJ (P : Pths) (T : List Nd) (p : Nd) (O R : List Nd) (W : Nd → Nat) : Prop where
  nd : (T ++ [p] ++ R).Nodup
  mem : ∀ n, n ∈ T ++ [p] ++ R ↔ (∃ ws, lk P n = some ws) ∧ W n = 0
  w : ∀ n ws, lk P n = some ws → W n + O.count n = cN T ws
theorem KI.pop {P : Pths} {T R : List Nd} {p : Nd} {W : Nd → Nat} (h : KI P T (R ++ [p]) W) : KJ P T p [] R W := by
  have pm : (T ++ (R ++ [p])).Perm (T ++ [p] ++ R) := by
    rw [List.append_assoc]
    exact List.Perm.append_left T List.perm_append_comm
  exact ⟨pm.nodup_iff.mp h.nd, fun n => by rw [← pm.mem_iff]; exact h.mem n, fun n ws e => h.w n ws e⟩
theorem KJ.step {P : Pths} {T O R : List Nd} {p o : Nd} {W : Nd → Nat} (h : KJ P T p O R W) {ws : List Way} (e : lk P o = some ws) (hlt : O.count o < cN T ws) : 1 ≤ W o ∧ KJ P T p (O ++ [o]) (if W o - 1 = 0 then R ++ [o] else R) (fun n => if n = o then W n - 1 else W n) := by
  have hw := h.w o ws e
  have h1 : 1 ≤ W o := by omega
  have hno : o ∉ T ++ [p] ++ R := fun m => by have := ((h.mem o).mp m).2; omega
  refine ⟨h1, ?_, fun n => ?_, fun n ws' e' => ?_⟩
  · by_cases c : W o - 1 = 0
    · rw [if_pos c, ← List.append_assoc, List.nodup_append]
      exact ⟨h.nd, List.nodup_cons.mpr ⟨List.not_mem_nil, List.nodup_nil⟩, fun a ha b hb => by rw [List.mem_singleton.mp hb]; rintro rfl; exact hno ha⟩
    · rw [if_neg c]; exact h.nd
  · by_cases c : W o - 1 = 0
    · rw [if_pos c, ← List.append_assoc, List.mem_append, h.mem]
      constructor
      · rintro (⟨a, b⟩ | m)
        · refine ⟨a, ?_⟩
          by_cases c2 : n = o
          · show (if n = o then _ else _) = 0; rw [if_pos c2]; omega
          · show (if n = o then _ else _) = 0; rw [if_neg c2]; exact b
        · rw [List.mem_singleton.mp m]
          exact ⟨⟨_, e⟩, by show (if o = o then _ else _) = 0; rw [if_pos rfl]; exact c⟩
      · rintro ⟨a, b⟩
        have b : (if n = o then W n - 1 else W n) = 0 := b
        by_cases c2 : n = o
        · exact .inr (List.mem_singleton.mpr c2)
        · rw [if_neg c2] at b; exact .inl ⟨a, b⟩
    · rw [if_neg c, h.mem]
      show _ ↔ _ ∧ (if n = o then W n - 1 else W n) = 0
      by_cases c2 : n = o
      · rw [if_pos c2, c2]
        exact ⟨fun ⟨_, q⟩ => by omega, fun ⟨_, q⟩ => absurd q c⟩
      · rw [if_neg c2]
  · show (if n = o then W n - 1 else W n) + _ = _
    have := h.w n ws' e'
    rw [List.count_append]
    by_cases c2 : n = o
    · subst c2
      rw [if_pos rfl, List.count_singleton_self]
      omega
    · rw [if_neg c2, List.count_singleton, if_neg (by simpa using fun z => c2 z.symm)]
      omega
theorem KJ.done {P : Pths} {T R R0 : List Nd} {p : Nd} {W W0 : Nd → Nat} (hP : Pc P) (h0 : KI P T (R0 ++ [p]) W0) (h : KJ P T p (own (evs P) p) R W) : KI P (T ++ [p]) R W := by
  have hp : p ∉ T := fun m => by
    have := h0.nd
    rw [List.nodup_append] at this
    exact this.2.2 p m p (List.mem_append_right _ (List.mem_singleton_self _)) rfl
  refine ⟨h.nd, h.mem, fun n ws e => ?_, fun i n ws e e2 m hm => ?_⟩
  · have h1 := h.w n ws e
    have h2 := filt_snoc hp ws.flatten
    rw [own_count p n hP.nd, e, Option.map_some, Option.getD_some] at h1
    unfold cN at h1 ⊢
    omega
  · by_cases c : i < T.length
    · rw [List.getElem?_append_left c] at e
      rw [List.take_append_of_le_length (by omega)]
      exact h0.ord i n ws e e2 m hm
    · obtain ⟨hl, he⟩ := List.getElem?_eq_some_iff.mp e
      rw [List.length_append, List.length_singleton] at hl
      have : i = T.length := by omega
      subst this
      rw [List.getElem?_append_right (Nat.le_refl _), Nat.sub_self] at e
      cases e
      rw [List.take_append_of_le_length (Nat.le_refl _), List.take_length]
      have z := ((h0.mem p).mp (List.mem_append_right _ (List.mem_append_right _ (List.mem_singleton_self _)))).2
      rw [h0.w p ws e2] at z
      exact cN_zero z m hm
theorem KI.len {P : Pths} {T R : List Nd} {W : Nd → Nat} (h : KI P T R W) : T.length + R.length ≤ P.length := by
  have := nodup_len h.nd (m := P.map (·.1)) fun n hn => by
    obtain ⟨⟨ws, e⟩, _⟩ := (h.mem n).mp hn
    exact lk_key e
  rw [List.length_append, List.length_map] at this
  exact this
/-- all nodes from which no ring is come to, in order -/
structure Settled (P : Pths) (T : List Nd) : Prop where
  nd : T.Nodup
  sub : ∀ n ∈ T, ∃ ws, lk P n = some ws
  ord : ∀ i n ws, T[i]? = some n → lk P n = some ws → ∀ m ∈ ws.flatten, m ∈ T.take i
  rest : ∀ n ws, lk P n = some ws → n ∉ T → ∃ m ∈ ws.flatten, m ∉ T
theorem KI.settled {P : Pths} {T : List Nd} {W : Nd → Nat} (h : KI P T [] W) : Settled P T := by
  have nd := h.nd
  have mem := h.mem
  rw [List.append_nil] at nd mem
  exact ⟨nd, fun n hn => ((mem n).mp hn).1, h.ord, fun n ws e hn => cN_pos fun z => hn ((mem n).mpr ⟨⟨ws, e⟩, by rw [h.w n ws e]; exact z⟩)⟩
/-- the dict of what is wanted -/
def WaAt (P : Pths) (kvs : List (List Key × V)) (W : Nd → Nat) : Prop := ∀ n, (∃ ws, lk P n = some ws) → valV kvs (ndK n) = some (.int ((W n : Nat) : Int))
theorem fl_of {P : Pths} {n : Nd} {ws : List Way} (e : lk P n = some ws) : fl P n = ws.flatten.length := by unfold fl; rw [e]; rfl
theorem KI.start {P : Pths} (hP : Pc P) : KI P [] ((P.map (·.1)).filter fun n => decide (fl P n = 0)) (fl P) := by
  refine ⟨by rw [List.nil_append]; exact hP.nd.filter _, fun n => ?_, fun n ws e => by rw [cN_nil, fl_of e], fun i n ws e => by cases e⟩
  rw [List.nil_append, List.mem_filter, decide_eq_true_iff]
  exact ⟨fun ⟨a, b⟩ => ⟨lk_has a, b⟩, fun ⟨⟨ws, a⟩, b⟩ => ⟨lk_key a, b⟩⟩
def R_settled (K : PySem.W.Frag) (cs : Cs) : V → Hp → VK → XK → Prop := fun x H Q _ => ∃ rs z top P, WdAt H cs.Wood x rs z top P ∧ Pc P ∧
  ∀ l xs T H', Same H H' → H l = none → H' l = some (.lst xs) → All2 (NdAt H') xs T → Settled P T → Q (.ref l) H'
section
set_option hygiene false in
local macro_rules | `(tactic| top_name) => `(tactic| first | refine e_call (df_owners T) (hr.mono (by decide)) ?_)
set_option hygiene false in
local macro_rules | `(tactic| kpc_turns) => `(tactic| first | refine e_methV0 T.c_Wood.cl (md_Wood_nodes T) (hr.mono (by decide)) rfl (by ki_room) rfl ?_ | refine e_methV T.c_Wood.cl (md_Wood_ways T) (hr.mono (by decide)) rfl (by ki_room) rfl ?_)
theorem ok_settled {f : Addr} {fd : FuncData} (F : Fun K "settled" "settled" s_settled f fd) (T : Txt K mg cs) : FnOk P w K mg base (L2.CX P w) 3 f fd ["wood"] (sp1 (R_settled K cs)) := by
  refine F.okX sc_settled (fun vs H Q E h => sp1_len h) (fun cdv A outer s H vs Q E hr h => ⟨_, PBw (X := X_settled P w K mg base f cdv A outer s H E), ?_⟩)
  obtain ⟨a0, rfl, h⟩ := h
  have ib_sum := T.b_sum
  have ib_len := T.b_len
  have hr' : Room 2 (X_settled P w K mg base f cdv A outer s H E).A := hr
  replace hr := hr'
  clear hr'
  obtain ⟨rs, z, top, P, hW, hP, h⟩ := h
  obtain ⟨vs, c, dx, la, pa, pk, kv0, rfl, hw⟩ := id hW
  have kI := hw.ins
  kxs_still
  refine ⟨rs, z, top, P, hW, hP, fun da kva L H1 s1 n1 oI => ?_⟩
  have kI1 := s1 _ _ kI
  refine b_cons (s_set (e_dctT fun dw H2 s2 n2 k2 f2 => ?_))
  have kI2 := s2 _ _ kI1
  kxs_still
  intro lr H3 s3 n3 k3 f3
  have s13 := s2.trans s3
  have s03 := s1.trans s13
  have kI3 := s3 _ _ kI2
  have kw3 := s3 _ _ k2
  kxs_still
  refine s_for (j_list ?_)
  kxs_still
  refine ⟨vs, rs, _, c, dx, la, pa, pk, top, kv0, P, rfl, hw.more s03, fun ln xs H4 s4 n4 k4 aN => ?_⟩
  have kw4 := s4 _ _ kw3
  have kr4 := s4 _ _ k3
  have hxl := aN.len
  rw [List.length_map] at hxl
  have nlw : ln ≠ dw := fun w => by rw [w, kw3] at n4; cases n4
  have nlr : ln ≠ lr := fun w => by rw [w, k3] at n4; cases n4
  have nrw : lr ≠ dw := fun w => by rw [w, k2] at n3; cases n3
  have s04 := s03.trans s4
  have nw0 : ∀ {b : Addr} {o : HO}, H1 b = some o → b ≠ dw := fun q w => by rw [w, n2] at q; cases q
  have nr0 : ∀ {b : Addr} {o : HO}, H2 b = some o → b ≠ lr := fun q w => by rw [w, n3] at q; cases q
  refine ⟨ln, rfl, ⟨_, SqL.of k4⟩, _, _, _, walk_list (xs := xs), fun i σ' H' => ∃ (kvw : List (List Key × V)) (rv : List V) (v4 v5 : Option V), σ' = [some (.ref c), some (.ref da), some (.ref dw), some (.ref lr), v4, v5, none, none] ∧ (∀ x o, x ≠ dw → x ≠ lr → H4 x = some o → H' x = some o) ∧ H' dw = some (.dT kvw) ∧ kvw.length ≤ i ∧ (∀ n ∈ (P.map (·.1)).take i, valV kvw (ndK n) = some (.int ((fl P n : Nat) : Int))) ∧ H' lr = some (.lst rv) ∧ All2 (NdAt H') rv (((P.map (·.1)).take i).filter fun n => decide (fl P n = 0)),
    ⟨[], [], none, none, rfl, fun _ _ _ _ q => q, kw4, Nat.le_refl _, fun n m => (by rw [List.take_zero] at m; cases m), kr4, by rw [List.take_zero]; exact .nil⟩, fun i σ' H' _ ⟨_, _, _, _, _, f, _⟩ => SqL.of (f _ _ nlw nlr k4), ?_, ?_⟩
  · rintro i x σ' H5 H6 hi ⟨kvw, rv, v4, v5, rfl, fr, kw6, hkl, hval, kr6, ar⟩ ⟨rfl, hx⟩
    obtain ⟨n, hn, ⟨b, rfl, hb⟩⟩ := aN.get hx
    obtain ⟨q, hq, rfl⟩ := map_get' hn
    have hlq := hP.at hq
    have s06 : Same H H6 := fun x o e => fr x o (nw0 (s1 _ _ e)) (nr0 (s2 _ _ (s1 _ _ e))) (s04 _ _ e)
    have hw6 := hw.more s06
    have kI6 := hw6.ins
    have hb6 : H6 b = some (.tup ((ndK q.1).map kV)) := fr b _ (fun w => by rw [w, kw4] at hb; cases hb) (fun w => by rw [w, kr4] at hb; cases hb) hb
    have hrl := ar.len
    have hfl := List.length_filter_le (fun n => decide (fl P n = 0)) ((P.map (·.1)).take i)
    have htl : ((P.map (·.1)).take i).length ≤ i := by rw [List.length_take]; exact Nat.min_le_left ..
    have hPln := hP.ln
    kxs_still
    refine s_asg ?_
    kxs_still
    refine e_lcP (blkOk_by (sc := defScope s_settled) (own := [("way", 5)]) (by decide +kernel)) (fun j y => y = V.int (((q.2.map List.length)[j]?.getD 0 : Nat) : Int)) (j_list ?_)
    kxs_still
    refine ⟨vs, rs, _, c, dx, la, pa, pk, top, kv0, P, b, ndK q.1, rfl, hw6, rfl, hb6, fun v H7 s7 fv hcc => ?_⟩
    obtain ⟨n', ws, en, hlk, w7⟩ := hcc.resolve_right fun w => w.1 q.1 rfl (List.mem_map.mpr ⟨q, List.mem_of_getElem? hq, rfl⟩)
    cases ndK_inj en
    rw [hlq] at hlk
    cases hlk
    obtain ⟨lw, wv, rfl, klw, aw⟩ := w7
    have hwl := aw.len
    have hql := (hP.wl q (List.mem_of_getElem? hq)).1
    refine ⟨lw, rfl, ⟨_, SqL.of klw⟩, _, _, _, walk_list (xs := wv), by omega, fun H' s' => SqL.of (s' _ _ klw), ?_, ?_⟩
    · rintro j x H8 H9 hj s8 ⟨rfl, hx2⟩
      obtain ⟨w, hw', ⟨tw, ys, rfl, ktw, aw2⟩⟩ := aw.get hx2
      have ktw9 := s8 _ _ ktw
      refine ⟨Same.refl _, fun _ _ _ _ _ => ?_⟩
      kxs_still
      refine ⟨rfl, Same.refl _, fun _ _ _ _ _ => ?_⟩
      kxs_still
      refine ⟨?_, Same.refl _⟩
      rw [List.getElem?_map, hw', aw2.len]
      rfl
    intro l8 H8 bs s8 n8 k8 e8 hb8
    have hbs : bs = (q.2.map fun w => ((w.length : Nat) : Int)).map V.int := by
      refine List.ext_getElem? fun j => ?_
      rw [List.getElem?_map, List.getElem?_map]
      by_cases c : j < bs.length
      · rw [List.getElem?_eq_getElem c, hb8 j _ (List.getElem?_eq_getElem c), List.getElem?_map, List.getElem?_eq_getElem (show j < q.2.length by omega)]
        rfl
      · rw [List.getElem?_eq_none (by omega), List.getElem?_eq_none (by omega)]
        rfl
    rw [hbs] at k8
    kxs_still
    refine k_sum (SqL.of k8) ?_
    have hsum : ((q.2.map fun w => ((w.length : Nat) : Int))).sum = ((fl P q.1 : Nat) : Int) := by
      rw [fl_of hlq, List.length_flatten]
      induction q.2 with
      | nil => rfl
      | cons a l ih => rw [List.map_cons, List.map_cons, List.sum_cons, List.sum_cons, ih, Int.natCast_add]
    rw [hsum]
    have s68 := s7.trans s8
    have kw8 := s68 _ _ kw6
    have hb8' := s68 _ _ hb6
    have kr8 := s68 _ _ kr6
    kxs_still
    refine g_setT (rm1 hr) ?_
    kxs_still
    refine ⟨_, _, _, _, rfl, kw8, rfl, hb8', by omega, fun H9 k9 f9 => ?_⟩
    have hb9 : H9 b = some (.tup ((ndK q.1).map kV)) := (f9 b fun w => by rw [w, kw8] at hb8'; cases hb8').trans hb8'
    have kr9 := (f9 lr nrw).trans kr8
    have gk := DGet.t k9 hb9
    rw [valV_put, if_pos rfl] at gk
    have hnew : ∀ n ∈ (P.map (·.1)).take (i + 1), valV (putK kvw (ndK q.1) (.int ((fl P q.1 : Nat) : Int))) (ndK n) = some (.int ((fl P n : Nat) : Int)) := by
      intro n hn'
      rw [valV_put]
      by_cases c : n = q.1
      · rw [if_pos (by rw [c]), c]
      · rw [if_neg fun z => c (ndK_inj z)]
        rw [take_snoc hn] at hn'
        rcases List.mem_append.mp hn' with hn' | hn'
        · exact hval n hn'
        · exact absurd (List.mem_singleton.mp hn') c
    have hlen9 := length_putK kvw (ndK q.1) (V.int ((fl P q.1 : Nat) : Int))
    have ts69 : TS H6 H9 := fun x o e => (f9 x fun w => by rw [w, kw6] at e; cases e).trans (s68 _ _ e)
    have fr9 : ∀ x o, x ≠ dw → x ≠ lr → H4 x = some o → H9 x = some o := fun x o h1 h2 e => (f9 x h1).trans (s68 _ _ (fr x o h1 h2 e))
    kxs_still
    refine i_dget (rm1 hr) gk ?_
    kxs_still
    have hst : ((P.map (·.1)).take (i + 1)).filter (fun n => decide (fl P n = 0)) = ((P.map (·.1)).take i).filter (fun n => decide (fl P n = 0)) ++ if fl P q.1 = 0 then [q.1] else [] := by
      rw [take_snoc hn, List.filter_append]
      congr 1
      by_cases c : fl P q.1 = 0
      · rw [if_pos c, List.filter_cons_of_pos (by exact decide_eq_true c), List.filter_nil]
      · rw [if_neg c, List.filter_cons_of_neg (by exact fun z => c (of_decide_eq_true z)), List.filter_nil]
    refine iteD (fun c0 => ?_) fun c0 => ?_
    · have c0 : fl P q.1 = 0 := by omega
      rw [if_pos c0] at hst
      kxs_still
      refine ⟨ty_l kr9, ?_⟩
      kxs_still
      refine m_append kr9 (by omega) fun H10 k10 f10 => ?_
      have ts10 := TS.butL kr9 f10
      kxs_still
      refine ⟨_, _, _, _, rfl, fun x o h1 h2 e => (f10 x h2).trans (fr9 x o h1 h2 e), (f10 dw nrw.symm).trans k9, by omega, hnew, k10, ?_⟩
      rw [hst]
      exact (ar.mono fun _ _ q => q.ts (ts69.trans ts10)).snoc ⟨b, rfl, ts10 _ _ hb9⟩
    · have c0 : fl P q.1 ≠ 0 := by omega
      rw [if_neg c0, List.append_nil] at hst
      kxs_still
      exact ⟨_, _, _, _, rfl, fr9, k9, by omega, hnew, kr9, by rw [hst]; exact ar.mono fun _ _ q => q.ts ts69⟩
  rintro σ' H5 ⟨kvw, rv, v4, v5, rfl, fr, kw5, hkl, hval, kr5, ar⟩
  rw [hxl, List.take_of_length_le (by rw [List.length_map]; exact Nat.le_refl _)] at hval ar
  have s05 : Same H H5 := fun x o e => fr x o (nw0 (s1 _ _ e)) (nr0 (s2 _ _ (s1 _ _ e))) (s04 _ _ e)
  have WA0 : WaAt P kvw (fl P) := fun n ⟨ws, e⟩ => hval n (lk_key e)
  have oI5 : ∀ (H' : Hp), (∀ x o, x ≠ dw → x ≠ lr → H1 x = some o → H' x = some o) → OwAt H' da kva L (evs P) ∧ H' da = some (.dT kva) := fun H' f => by
    have ts : TS H1 H' := fun x o e => f x _ (nw0 e) (nr0 (s2 _ _ e)) e
    refine ⟨⟨oI.ow.val, oI.ow.inj, fun n l e => ?_, oI.ow.non, oI.ow.len⟩, f da _ (nw0 oI.kd) (nr0 (s2 _ _ oI.kd)) oI.kd⟩
    obtain ⟨q1, ys, q2, q3⟩ := oI.ow.at_ n l e
    exact ⟨q1, ys, f l _ (nw0 q2) (nr0 (s2 _ _ q2)) q2, q3.mono fun _ _ q => q.ts ts⟩
  have fr15 : ∀ x o, x ≠ dw → x ≠ lr → H1 x = some o → H5 x = some o := fun x o h1 h2 e => fr x o h1 h2 (s4 _ _ (s13 _ _ e))
  kxs_still
  intro lt H6 s6 n6 k6 f6
  have kw6 := s6 _ _ kw5
  have kr6 := s6 _ _ kr5
  have ntw : lt ≠ dw := fun w => by rw [w, kw5] at n6; cases n6
  have ntr : lt ≠ lr := fun w => by rw [w, kr5] at n6; cases n6
  have hPln := hP.ln
  refine b_cons (s_while (fun m σ' H' => ∃ (kvw : List (List Key × V)) (rv tv : List V) (T R : List Nd) (W : Nd → Nat) (v4 v5 v7 : Option V), σ' = [some (.ref c), some (.ref da), some (.ref dw), some (.ref lr), v4, v5, some (.ref lt), v7] ∧ (∀ x o, x ≠ dw → x ≠ lr → x ≠ lt → H6 x = some o → H' x = some o) ∧ H' dw = some (.dT kvw) ∧ kvw.length ≤ P.length ∧ WaAt P kvw W ∧ H' lr = some (.lst rv) ∧ All2 (NdAt H') rv R ∧ H' lt = some (.lst tv) ∧ All2 (NdAt H') tv T ∧ KI P T R W ∧ m = P.length - T.length) _ ⟨kvw, rv, [], [], _, fl P, v4, v5, none, rfl, fun _ _ _ _ _ q => q, kw6, by omega, WA0, kr6, ar.mono fun _ _ q => q.ts (Same.ts s6), k6, .nil, KI.start hP, rfl⟩ ?_)
  rintro m σ' H7 ⟨kvw, rv, tv, T, R, W, v4, v5, v7, rfl, fr7, kw7, hkl7, WA, kr7, aR, kt7, aT, ki, rfl⟩
  have hlen := ki.len
  have fr17 : ∀ x o, x ≠ dw → x ≠ lr → H1 x = some o → H7 x = some o := fun x o h1 h2 e => by
    have e5 := fr15 x o h1 h2 e
    exact fr7 x o h1 h2 (fun w => by rw [w, n6] at e5; cases e5) (s6 _ _ e5)
  have nt0 : ∀ {b : Addr} {o : HO}, H5 b = some o → b ≠ lt := fun q w => by rw [w, n6] at q; cases q
  kxs_still
  intro l8 H8 s8 n8 k8 f8
  have kw8 := s8 _ _ kw7
  have kr8 := s8 _ _ kr7
  have kt8 := s8 _ _ kt7
  refine o_neNil hr.units kr8 k8 ?_
  kxs_still
  refine iteND (fun cn => ?_) fun cn => ?_
  · have hqn : R ≠ [] := fun w => by rw [w] at aR; cases aR; exact cn rfl
    obtain ⟨R', p, rfl⟩ := list_last hqn
    obtain ⟨rv', x, rfl, aR', ⟨b, rfl, hb⟩⟩ := all2_last aR
    have hrl := aR'.len
    have htl := aT.len
    rw [List.length_append, List.length_singleton] at hlen
    kxs_still
    refine e_pop ?_
    kxs_still
    refine ⟨ty_l kr8, ?_⟩
    refine m_pop kr8 fun H9 k9 f9 => ?_
    have kt9 := (f9 lt ntr).trans kt8
    have kw9 := (f9 dw nrw.symm).trans kw8
    have ts79 : TS H7 H9 := (Same.ts s8).trans (TS.butL kr8 f9)
    have hb9 := ts79 _ _ hb
    kxs_still
    refine ⟨ty_l kt9, ?_⟩
    kxs_still
    refine m_append kt9 (by omega) fun H10 k10 f10 => ?_
    have kw10 := (f10 dw ntw.symm).trans kw9
    have kr10 := (f10 lr ntr.symm).trans k9
    have ts710 : TS H7 H10 := ts79.trans (TS.butL kt9 f10)
    have hb10 := ts710 _ _ hb
    have fr110 : ∀ x o, x ≠ dw → x ≠ lr → H1 x = some o → H10 x = some o := fun x o h1 h2 e => (f10 x (nt0 (fr15 x o h1 h2 e))).trans ((f9 x h2).trans (s8 _ _ (fr17 x o h1 h2 e)))
    obtain ⟨ow10, ka10⟩ := oI5 H10 fr110
    kxs_still
    refine s_for (j_list (e_dget2 (rm1 hr) ?_))
    kxs_still
    refine ⟨.inr ⟨_, .inl ka10⟩, ?_⟩
    kxs_still
    intro l11 H11 s11 n11 k11 f11
    have gk := DGet.t (s11 _ _ ka10) (s11 _ _ hb10)
    refine ⟨_, gk, ?_⟩
    have nn : ∀ {x : Addr} {o : HO}, H10 x = some o → x ≠ l11 := fun q w => by rw [w, n11] at q; cases q
    obtain ⟨lo, ov, elo, klo, aO, nlw', nlr', nlt'⟩ : ∃ lo ov, (valV kva (ndK p)).getD (.ref l11) = .ref lo ∧ H11 lo = some (.lst ov) ∧ All2 (NdAt H11) ov (own (evs P) p) ∧ lo ≠ dw ∧ lo ≠ lr ∧ lo ≠ lt := by
      cases e : L p with
      | none => exact ⟨l11, [], by rw [ow10.val, e]; rfl, k11, by rw [ow10.non p e]; exact .nil, (nn kw10).symm, (nn kr10).symm, (nn k10).symm⟩
      | some l =>
        obtain ⟨q1, ys, q2, q3⟩ := ow10.at_ p l e
        obtain ⟨_, ys1, q4, _⟩ := oI.ow.at_ p l e
        exact ⟨l, ys, by rw [ow10.val, e]; rfl, s11 _ _ q2, q3.mono fun _ _ q => q.ts (Same.ts s11), nw0 q4, nr0 (s2 _ _ q4), nt0 (fr15 _ _ (nw0 q4) (nr0 (s2 _ _ q4)) q4)⟩
    have kj0 := ki.pop
    have hp : p ∉ T := fun m => by
      have := kj0.nd
      rw [List.append_assoc, List.nodup_append] at this
      exact this.2.2 p m p (List.mem_append_left _ (List.mem_singleton_self _)) rfl
    have hol : ov.length = (own (evs P) p).length := aO.len
    refine ⟨lo, elo, ⟨_, SqL.of klo⟩, _, _, _, walk_list (xs := ov), fun k σ' H' => ∃ (kvw : List (List Key × V)) (rv : List V) (R : List Nd) (W : Nd → Nat) (v7 : Option V), σ' = [some (.ref c), some (.ref da), some (.ref dw), some (.ref lr), some (.ref b), v5, some (.ref lt), v7] ∧ (∀ x o, x ≠ dw → x ≠ lr → H11 x = some o → H' x = some o) ∧ H' dw = some (.dT kvw) ∧ kvw.length ≤ P.length ∧ WaAt P kvw W ∧ H' lr = some (.lst rv) ∧ All2 (NdAt H') rv R ∧ KJ P T p ((own (evs P) p).take k) R W,
      ⟨kvw, rv', R', W, v7, rfl, fun _ _ _ _ q => q, s11 _ _ kw10, hkl7, WA, s11 _ _ kr10, aR'.mono fun _ _ q => q.ts (ts710.trans (Same.ts s11)), kj0⟩, fun k σ' H' _ ⟨_, _, _, _, _, _, f, _⟩ => SqL.of (f _ _ nlw' nlr' klo), ?_, ?_⟩
    · rintro k x σ' H12 H13 hk ⟨kvw, rv, R, W, v7, rfl, fr13, kw13, hkl13, WA, kr13, aR, kj⟩ ⟨rfl, hx⟩
      obtain ⟨o, ho, ⟨bo, rfl, hbo⟩⟩ := aO.get hx
      obtain ⟨ws, hws⟩ := lk_has (own_key (List.mem_of_getElem? ho))
      have hcnt : ((own (evs P) p).take k).count o < cN T ws := by
        have h1 : ((own (evs P) p).take (k + 1)).count o ≤ (own (evs P) p).count o := (List.take_sublist _ _).count_le _
        have h2 := filt_snoc hp ws.flatten
        rw [take_snoc ho, List.count_append, List.count_singleton_self, own_count p o hP.nd, hws, Option.map_some, Option.getD_some] at h1
        unfold cN
        omega
      obtain ⟨h1W, kj'⟩ := kj.step hws hcnt
      rw [← take_snoc ho] at kj'
      have ndw : ∀ {x : Addr} {xs : List V}, H11 x = some (.tup xs) → x ≠ dw := fun q w => by have := s11 _ _ kw10; rw [← w, q] at this; cases this
      have ndr : ∀ {x : Addr} {xs : List V}, H11 x = some (.tup xs) → x ≠ lr := fun q w => by have := s11 _ _ kr10; rw [← w, q] at this; cases this
      have hbo13 := fr13 bo _ (ndw hbo) (ndr hbo) hbo
      have hkR := kj.nd
      have hRl : R.length ≤ P.length := by
        have := nodup_len hkR (m := P.map (·.1)) fun n hn => by
          obtain ⟨⟨ws, e⟩, _⟩ := (kj.mem n).mp hn
          exact lk_key e
        rw [List.length_append, List.length_map] at this
        omega
      have hrvl := aR.len
      kxs_still
      refine s_dsubT (rm1 hr) ?_
      kxs_still
      refine ⟨_, _, _, _, _, rfl, kw13, rfl, hbo13, WA o ⟨ws, hws⟩, by omega, ?_⟩
      kxs_still
      refine ⟨Same.refl _, fun H14 k14 f14 => ?_⟩
      have hold := length_putK_old (kvs := kvw) (k := ndK o) (v := .int (((W o : Nat) : Int) - 1)) (by rw [WA o ⟨ws, hws⟩]; rfl)
      have hbo14 := (f14 bo fun w => by rw [w, kw13] at hbo13; cases hbo13).trans hbo13
      have kr14 := (f14 lr nrw).trans kr13
      have gk14 := DGet.t k14 hbo14
      rw [valV_put, if_pos rfl] at gk14
      have ts14 : TS H13 H14 := fun x o e => (f14 x fun w => by rw [w, kw13] at e; cases e).trans e
      have WA' : WaAt P (putK kvw (ndK o) (.int (((W o : Nat) : Int) - 1))) (fun n => if n = o then W n - 1 else W n) := fun n hn => by
        rw [valV_put]
        by_cases c : n = o
        · rw [if_pos (by rw [c]), c]
          show _ = some (V.int ((if o = o then W o - 1 else W o : Nat) : Int))
          rw [if_pos rfl, Int.natCast_sub h1W]
          rfl
        · rw [if_neg fun z => c (ndK_inj z)]
          show _ = some (V.int ((if n = o then W n - 1 else W n : Nat) : Int))
          rw [if_neg c]
          exact WA n hn
      have fr14 : ∀ x o, x ≠ dw → x ≠ lr → H11 x = some o → H14 x = some o := fun x o h1 h2 e => (f14 x h1).trans (fr13 x o h1 h2 e)
      kxs_still
      refine i_dget (rm1 hr) gk14 ?_
      kxs_still
      refine iteD (fun c0 => ?_) fun c0 => ?_
      · have c0 : W o - 1 = 0 := by omega
        rw [if_pos c0] at kj'
        kxs_still
        refine ⟨ty_l kr14, ?_⟩
        kxs_still
        refine m_append kr14 (by omega) fun H15 k15 f15 => ?_
        have ts15 := TS.butL kr14 f15
        kxs_still
        exact ⟨_, _, _, _, _, rfl, fun x o h1 h2 e => (f15 x h2).trans (fr14 x o h1 h2 e), (f15 dw nrw.symm).trans k14, by omega, WA', k15, (aR.mono fun _ _ q => q.ts (ts14.trans ts15)).snoc ⟨bo, rfl, ts15 _ _ hbo14⟩, kj'⟩
      · have c0 : W o - 1 ≠ 0 := by omega
        rw [if_neg c0] at kj'
        kxs_still
        exact ⟨_, _, _, _, _, rfl, fr14, k14, by omega, WA', kr14, aR.mono fun _ _ q => q.ts ts14, kj'⟩
    · rintro σ' H12 ⟨kvw, rv, R, W, v7, rfl, fr12, kw12, hkl12, WA, kr12, aR, kj⟩
      rw [hol, List.take_length] at kj
      have ki' := kj.done hP ki
      have ts11 : TS H11 H12 := fun x o q => fr12 x _ (fun w => by have := s11 _ _ kw10; rw [← w, q] at this; cases this) (fun w => by have := s11 _ _ kr10; rw [← w, q] at this; cases this) q
      have ts712 := ts710.trans ((Same.ts s11).trans ts11)
      kxs_still
      refine ⟨_, ?_, _, _, tv ++ [.ref b], T ++ [p], R, W, _, _, _, rfl, fun x o h1 h2 h3 e => fr12 x o h1 h2 (s11 _ _ ((f10 x h3).trans ((f9 x h2).trans (s8 _ _ (fr7 x o h1 h2 h3 e))))), kw12, hkl12, WA, kr12, aR, fr12 lt _ ntw ntr (s11 _ _ k10), (aT.mono fun _ _ q => q.ts ts712).snoc ⟨b, rfl, ts712 _ _ hb⟩, ki', rfl⟩
      rw [List.length_append, List.length_singleton]
      omega
  · have eR : R = [] := by
      have := aR.len
      rw [cn] at this
      exact List.eq_nil_of_length_eq_zero this.symm
    subst eR
    kxs_still
    exact h lt tv T H8 (fun x o e => s8 _ _ (fr17 x o (nw0 (s1 _ _ e)) (nr0 (s2 _ _ (s1 _ _ e))) (s1 _ _ e))) (s05.none n6) kt8 (aT.mono fun _ _ q => q.ts (Same.ts s8)) ki.settled
end
theorem df_settled (T : Txt K mg cs) : Df P w K mg base "settled" 3 ["wood"] (sp1 (R_settled K cs)) := by
  obtain ⟨f, fd, hm, F, hb⟩ := T.f_settled.ex
  exact ⟨f, fd, hm, F.kp, hb, ok_settled F T⟩
theorem all2_filt {α : Type} {R : V → α → Prop} {p : α → Bool} {d : V} : ∀ {xs : List V} {ns : List α}, All2 R xs ns → All2 R (((List.range xs.length).filter fun i => (ns[i]?.map p).getD false).map fun i => (xs[i]?).getD d) (ns.filter p)
  | [], [], .nil => .nil
  | x :: xs, n :: ns, .cons r t => by
    have ih := all2_filt (p := p) (d := d) t
    have e : ((List.range (xs.length + 1)).filter fun i => (((n :: ns)[i]?).map p).getD false).map (fun i => (((x :: xs)[i]?).getD d)) = (if p n = true then [x] else []) ++ ((List.range xs.length).filter fun i => (ns[i]?.map p).getD false).map fun i => (xs[i]?).getD d := by
      rw [List.range_succ_eq_map, List.filter_cons, List.filter_map]
      by_cases c : p n = true
      · rw [if_pos (by exact c), if_pos c, List.map_cons, List.map_map]
        rfl
      · rw [if_neg (by exact c), if_neg c, List.nil_append, List.map_map]
        rfl
    rw [List.length_cons, e]
    by_cases c : p n = true
    · rw [if_pos c, List.filter_cons_of_pos c]
      exact .cons r ih
    · rw [if_neg c, List.filter_cons_of_neg c, List.nil_append]
      exact ih
def Edge (P : Pths) (n m : Nd) : Prop := ∃ ws, lk P n = some ws ∧ m ∈ ws.flatten
theorem Settled.le {P : Pths} {T T' : List Nd} (h : Settled P T) (h' : Settled P T') : ∀ n ∈ T, n ∈ T' := by
  have : ∀ (i : Nat) n, T[i]? = some n → n ∈ T' := by
    intro i
    induction i using Nat.strongRecOn with
    | _ i ih =>
      intro n hn
      by_cases c : n ∈ T'
      · exact c
      · obtain ⟨ws, e⟩ := h.sub n (List.mem_of_getElem? hn)
        obtain ⟨m, hm, hmn⟩ := h'.rest n ws e c
        have := h.ord i n ws hn e m hm
        obtain ⟨j, hj⟩ := List.getElem?_of_mem this
        rw [List.getElem?_take] at hj
        by_cases cj : j < i
        · rw [if_pos cj] at hj
          exact absurd (ih j cj m hj) hmn
        · rw [if_neg cj] at hj; cases hj
  intro n hn
  obtain ⟨i, hi⟩ := List.getElem?_of_mem hn
  exact this i n hi
/-- a ring -/
structure RingOf (P : Pths) (R : List Nd) : Prop where
  ne : R ≠ []
  nd : R.Nodup
  nx : ∀ i n m, R[i]? = some n → R[i + 1]? = some m → Edge P n m
  cyc : ∀ n m, R.getLast? = some n → R[0]? = some m → Edge P n m
  out : ∀ n ∈ R, (∃ ws, lk P n = some ws) ∧ ∀ T, Settled P T → n ∉ T
theorem Wo.pc {rs : List Rl} {t : List Nat} {F : Hts} {top : Option Nd} {P : Pths} (h : Wo rs F top P) (s : Std rs t F) (hG : GoodG rs) (ht : ∀ c ∈ t, okc c = true) (h1 : rs.length ≤ 10) (h2 : t.length ≤ 10) : Pc P := by
  cases top with
  | none =>
    rw [h.non rfl]
    exact ⟨List.nodup_nil, (fun q m => by cases m), Nat.zero_le _, Nat.zero_le _, (fun q m => by cases m), (fun q m => by cases m)⟩
  | some n =>
    have wi := h.som n rfl
    have hF := (s.small (fun r hr => (hG.good r hr).few) h1 h2).1
    have hl := wi.len
    have wk : ∀ q ∈ P, Wi rs t q.1 := fun q hq => by
      obtain ⟨k, hk⟩ := Option.isSome_iff_exists.mp (wi.st q.1 (.inl (List.mem_map.mpr ⟨q, hq, rfl⟩))).1
      exact ((s.ht q.1 k).mp hk).1.wi
    have h3 := sum_le_mul (f := fun q : Nd × List Way => q.2.flatten.length) (B := 32) (l := P) fun q hq => by
      have := wn_le (F := F) (wk q hq)
      unfold wn at this
      rw [wi.ws q hq, List.length_flatten]
      omega
    refine ⟨wi.nd, fun q hq w hw m hm => (wi.cl q hq w hw m hm).resolve_right (fun z => by cases z), ?_, by omega, fun q hq => ?_, fun m hm => ?_⟩
    · rw [evs_len]
      omega
    · rw [wi.ws q hq]
      exact ways_small (wk q hq) (by omega) (by omega)
    · obtain ⟨k, hk⟩ := Option.isSome_iff_exists.mp (wi.st m (.inl hm)).1
      exact s.ok hG ht hk

def R_Wood_top (K : PySem.W.Frag) (cs : Cs) : V → Hp → VK → XK → Prop := fun x H Q _ => ∃ vs rs z c dx la pa pk top kvs P, x = .ref c ∧ Wd H cs.Wood vs rs z c dx la pa pk top kvs P ∧ Q pk H
section
theorem ok_Wood_top {f : Addr} {fd : FuncData} (F : Fun K "top" "Wood.top" s_Wood_top f fd) (T : Txt K mg cs) : FnOk P w K mg base (L2.CX P w) 1 f fd ["self"] (sp1 (R_Wood_top K cs)) := by
  refine F.okX sc_Wood_top (fun vs H Q E h => sp1_len h) (fun cdv A outer s H vs Q E hr h => ⟨_, PBw (X := X_Wood_top P w K mg base f cdv A outer s H E), ?_⟩)
  obtain ⟨a0, rfl, h⟩ := h
  have icl_Wood : ClsI K cs.Wood := ⟨T.c_Wood.cl⟩
  have ifl_Wood_peak : NoA K cs.Wood "peak" := ⟨T.n_Wood_peak⟩
  have hr' : Room 0 (X_Wood_top P w K mg base f cdv A outer s H E).A := hr
  replace hr := hr'
  clear hr'
  obtain ⟨vs, rs, z, c, dx, la, pa, pk, top, kvs, P, rfl, hW, h⟩ := h
  have kI := hW.ins
  kxs_still
  exact h

end
theorem md_Wood_top (T : Txt K mg cs) : Md P w K mg base cs.Wood "top" 1 ["self"] (sp1 (R_Wood_top K cs)) := by
  obtain ⟨f, fd, hm, F, hb⟩ := T.m_Wood_top.ex
  exact ⟨f, fd, hm, hb, ok_Wood_top F T⟩
def R_Wood_told_grammar (K : PySem.W.Frag) (cs : Cs) : V → Hp → VK → XK → Prop := fun x H Q _ => ∃ vs rs z c dx la pa pk top kvs P, x = .ref c ∧ Wd H cs.Wood vs rs z c dx la pa pk top kvs P ∧ ∀ l H', Same H H' → H l = none → H' l = some (.lst vs) → Q (.ref l) H'
section
theorem ok_Wood_told_grammar {f : Addr} {fd : FuncData} (F : Fun K "told_grammar" "Wood.told_grammar" s_Wood_told_grammar f fd) (T : Txt K mg cs) : FnOk P w K mg base (L2.CX P w) 1 f fd ["self"] (sp1 (R_Wood_told_grammar K cs)) := by
  refine F.okX sc_Wood_told_grammar (fun vs H Q E h => sp1_len h) (fun cdv A outer s H vs Q E hr h => ⟨_, PBw (X := X_Wood_told_grammar P w K mg base f cdv A outer s H E), ?_⟩)
  obtain ⟨a0, rfl, h⟩ := h
  have ib_list := T.b_list
  have icl_Chart : ClsI K cs.Chart := ⟨T.c_Chart.cl⟩
  have icl_Wood : ClsI K cs.Wood := ⟨T.c_Wood.cl⟩
  have ifl_Chart_rules : NoA K cs.Chart "rules" := ⟨T.n_Chart_rules⟩
  have ifl_Wood_rules : NoA K cs.Wood "rules" := ⟨T.n_Wood_rules⟩
  have hr' : Room 0 (X_Wood_told_grammar P w K mg base f cdv A outer s H E).A := hr
  replace hr := hr'
  clear hr'
  obtain ⟨vs, rs, z, c, dx, la, pa, pk, top, kvs, P, rfl, hW, h⟩ := h
  have kI := hW.ins
  kxs_still
  refine k_listL (.inl (SqL.of hW.rl)) fun l H1 s1 n1 k1 f1 => ?_
  kxs_still
  exact h l H1 s1 n1 k1

end
theorem md_Wood_told_grammar (T : Txt K mg cs) : Md P w K mg base cs.Wood "told_grammar" 1 ["self"] (sp1 (R_Wood_told_grammar K cs)) := by
  obtain ⟨f, fd, hm, F, hb⟩ := T.m_Wood_told_grammar.ex
  exact ⟨f, fd, hm, hb, ok_Wood_told_grammar F T⟩
/-- a row with its worth and how many numbers it has -/
abbrev Wr := Nat × Nat × List Nat
def wD (r : Wr) : PyData := .tuple [.int ((r.1 : Nat) : Int), .int ((r.2.1 : Nat) : Int), .list (r.2.2.map fun k => PyData.int ((k : Nat) : Int))]
def RwAt (H : Hp) (v : V) (r : Wr) : Prop := ∃ a b, v = .ref a ∧ H a = some (.tup [.int ((r.1 : Nat) : Int), .int ((r.2.1 : Nat) : Int), .ref b]) ∧ H b = some (.lst (r.2.2.map fun k => V.int ((k : Nat) : Int)))
theorem RwAt.more {H H' : Hp} {v : V} {r : Wr} (s : Same H H') (h : RwAt H v r) : RwAt H' v r := by
  obtain ⟨a, b, e, h1, h2⟩ := h
  exact ⟨a, b, e, s _ _ h1, s _ _ h2⟩
theorem RwAt.dp {K : PySem.W.Frag} {H : Hp} {v : V} {r : Wr} (h : RwAt H v r) : Dp K H v (wD r) := by
  obtain ⟨a, b, rfl, h1, h2⟩ := h
  exact .tup (SqT.of h1) (.cons (.int _) (.cons (.int _) (.cons (.lst (SqL.of h2) (dp_nats r.2.2)) .nil)))
theorem rws_dp {K : PySem.W.Frag} {H : Hp} : ∀ {xs : List V} {rs : List Wr}, All2 (RwAt H) xs rs → DpAll K H xs (rs.map wD)
  | _, _, .nil => .nil
  | _, _, .cons h t => .cons h.dp (rws_dp t)
def LtW (a b : Wr) : Prop := a.1 < b.1 ∨ (a.1 = b.1 ∧ (a.2.1 < b.2.1 ∨ (a.2.1 = b.2.1 ∧ a.2.2 < b.2.2)))
instance (a b : Wr) : Decidable (LtW a b) := inferInstanceAs (Decidable (_ ∨ _))
def leW (a b : Wr) : Bool := !decide (LtW b a)
theorem wD_alike (a b : Wr) : PySem.W.alike (wD a) (wD b) = true := by
  have h := PySem.W.alike_ints (a.2.2.map fun k => ((k : Nat) : Int)) (b.2.2.map fun k => ((k : Nat) : Int))
  rw [List.map_map, List.map_map] at h
  show PySem.W.alike (.tuple [.int _, .int _, .list _]) (.tuple [.int _, .int _, .list _]) = true
  simp only [PySem.W.alike, PySem.W.alikeAll, Bool.and_true, Bool.true_and]
  exact h
theorem ints_lt : ∀ (a b : List Nat), ((a.map fun k => ((k : Nat) : Int)) < (b.map fun k => ((k : Nat) : Int))) ↔ a < b
  | [], [] => by simp
  | [], _ :: _ => by simp
  | _ :: _, [] => by simp
  | x :: xs, y :: ys => by
    rw [List.map_cons, List.map_cons, List.cons_lt_cons_iff, List.cons_lt_cons_iff, ints_lt xs ys]
    show (((x : Nat) : Int) < ((y : Nat) : Int) ∨ ((x : Nat) : Int) = ((y : Nat) : Int) ∧ _) ↔ _
    rw [Int.ofNat_lt, Int.ofNat_inj]
theorem nats_eqv : ∀ {a b : List Nat}, PyData.eqvAll (a.map fun k => PyData.int ((k : Nat) : Int)) (b.map fun k => PyData.int ((k : Nat) : Int)) = true → a = b
  | [], [], _ => rfl
  | [], _ :: _, h => by simp [PyData.eqvAll] at h
  | _ :: _, [], h => by simp [PyData.eqvAll] at h
  | x :: xs, y :: ys, h => by
    simp only [List.map_cons, PyData.eqvAll, PyData.eqv, Bool.and_eq_true, beq_iff_eq] at h
    rw [nats_eqv h.2, show x = y by have := h.1; omega]
theorem wD_lt (a b : Wr) : PySem.W.dataLt (wD a) (wD b) = decide (LtW a b) := by
  have e3 := PySem.W.dataLt_ints (a.2.2.map fun k => ((k : Nat) : Int)) (b.2.2.map fun k => ((k : Nat) : Int))
  have al := PySem.W.alike_ints (a.2.2.map fun k => ((k : Nat) : Int)) (b.2.2.map fun k => ((k : Nat) : Int))
  rw [List.map_map, List.map_map] at e3 al
  have hl : PySem.W.alike (.list (a.2.2.map fun k => PyData.int ((k : Nat) : Int))) (.list (b.2.2.map fun k => PyData.int ((k : Nat) : Int))) = true := by
    simp only [PySem.W.alike]
    exact al
  have e3' : PySem.W.dataLt (.list (a.2.2.map fun k => PyData.int ((k : Nat) : Int))) (.list (b.2.2.map fun k => PyData.int ((k : Nat) : Int))) = decide (a.2.2 < b.2.2) := by
    rw [PySem.W.dataLt_list]
    refine Eq.trans e3 ?_
    exact decide_eq_decide.mpr (ints_lt _ _)
  have e0 : PyProof.Rows.lexLt PyProof.Rows.itemOrd (PySem.W.keyToksAll []) (PySem.W.keyToksAll []) = false := PyProof.Rows.lex_irrefl _
  unfold wD
  rw [PySem.W.dataLt_tuple, PySem.W.dataLt_cons (by simp only [PySem.W.alike]), PySem.W.dataLt_cons (by simp only [PySem.W.alike]), PySem.W.dataLt_cons hl, PySem.W.dataLt_int, PySem.W.dataLt_int, e3', e0]
  simp only [PyData.eqv, beq_iff_eq]
  unfold LtW
  by_cases h1 : a.1 = b.1
  · rw [if_pos (by omega)]
    by_cases h2 : a.2.1 = b.2.1
    · rw [if_pos (by omega)]
      by_cases h3 : PyData.eqvAll (a.2.2.map fun k => PyData.int ((k : Nat) : Int)) (b.2.2.map fun k => PyData.int ((k : Nat) : Int)) = true
      · refine (if_pos h3).trans ?_
        have : a.2.2 = b.2.2 := nats_eqv h3
        refine (decide_eq_false ?_).symm
        rw [this]
        intro q
        rcases q with q | ⟨_, q | ⟨_, q⟩⟩
        · omega
        · omega
        · exact List.lt_irrefl _ q
      · refine (if_neg h3).trans ?_
        exact decide_eq_decide.mpr ⟨fun q => .inr ⟨h1, .inr ⟨h2, q⟩⟩, fun q => by
          rcases q with q | ⟨_, q | ⟨_, q⟩⟩
          · omega
          · omega
          · exact q⟩
    · rw [if_neg (by omega)]
      exact decide_eq_decide.mpr ⟨fun q => .inr ⟨h1, .inl (by omega)⟩, fun q => by
        rcases q with q | ⟨_, q | ⟨_, q⟩⟩ <;> omega⟩
  · rw [if_neg (by omega)]
    exact decide_eq_decide.mpr ⟨fun q => .inl (by omega), fun q => by
      rcases q with q | ⟨_, q | ⟨_, q⟩⟩ <;> omega⟩
theorem wD_le : PySem.W.dataLe false wD = leW := by
  funext a b
  show (!PySem.W.dataLt (wD b) (wD a)) = _
  rw [wD_lt]
  rfl
theorem wD_depth (r : Wr) : (wD r).depth ≤ 2 := by
  have h := PySem.W.depth_ints (r.2.2.map fun k => ((k : Nat) : Int))
  rw [List.map_map] at h
  have h : PyData.depthAll (r.2.2.map fun k => PyData.int ((k : Nat) : Int)) = 0 := h
  unfold wD
  simp only [PyData.depth, PyData.depthAll, h]
  decide
theorem vals_out {H : Hp} : ∀ {us : List Value} {bs : List Wr}, PySem.W.EachIs (fun u b => ∃ v, RelV v u ∧ RwAt H v b) us bs → ∃ ys, Vals ys us ∧ All2 (RwAt H) ys bs
  | _, _, .nil => ⟨[], .nil, .nil⟩
  | _, _, .cons ⟨v, h1, h2⟩ t => by
    obtain ⟨ys, h3, h4⟩ := vals_out t
    exact ⟨v :: ys, .cons h1 h3, .cons h2 h4⟩
theorem vals_in {H : Hp} : ∀ {vs : List V} {us : List Value} {bs : List Wr}, Vals vs us → All2 (RwAt H) vs bs → PySem.W.EachIs (fun u b => ∃ v, RelV v u ∧ RwAt H v b) us bs
  | _, _, _, .nil, .nil => .nil
  | _, _, _, .cons h1 t, .cons h2 t2 => .cons ⟨_, h1, h2⟩ (vals_in t t2)
theorem cr_sortedW {X : Cx} (hu : X.A.units + 64 < cLine) : CallR X (.builtin "sorted") (fun vs H Q => ∃ (p : Addr) (xs : List V) (bs : List Wr), vs = [.ref p] ∧ SqL X.K H p xs ∧ All2 (RwAt H) xs bs ∧ ∀ l ys, H l = none → All2 (RwAt H) ys (bs.mergeSort leW) → Q (.ref l) (upd H l (.lst ys))) := by
  intro pins s σ H vs us Q I r h
  obtain ⟨p, xs, bs, rfl, hs, ha, q⟩ := h
  obtain ⟨its, rv, hl, hz⟩ := I.list hs
  rw [Vals.ref1 r]
  obtain ⟨as, rs⟩ := Dp.readsAll I (bs.map wD) _ _ (rws_dp ha) rv
  have e := vals_in rv ha
  refine PySem.W.sorted_data hl.isList e (PySem.W.readsAll_each wD rs) (PySem.W.AllAlike.of wD_alike) (PySem.W.Sortable.tuples fun b => ⟨_, _, rfl⟩) (by rw [← e.length, ← rv.length]; exact hz) (fun b _ => by have := wD_depth b; omega) fun out hol ho => ?_
  rw [wD_le] at ho
  obtain ⟨ys, h1, h2⟩ := vals_out ho
  obtain ⟨ep, he'⟩ := PyProof.Rows.sortedAll_at s.heap its out.toArray
  have hlen : ys.length ≤ sizeLine := by
    rw [h1.length, hol, ← e.length, ← rv.length]
    exact hz
  exact ⟨.ref _, upd H (s.heap.objs.size + 1) (.lst ys), I.laid (t' := s.toks) (fun _ _ => PyProof.Rows.sortedAll_old) (Nat.le_succ _) ⟨hlen, out, ep, h1, he'⟩, rfl, q _ _ (I.hok.fresh (Nat.le_succ _)) h2⟩
theorem k_sortedW {X : Cx} {H : Hp} {Q : VK} {p : Addr} {xs : List V} {bs : List Wr} (hu : X.A.units + 64 < cLine) (hs : SqL X.K H p xs) (ha : All2 (RwAt H) xs bs) (q : ∀ l H2 ys, Same H H2 → H l = none → H2 l = some (.lst ys) → All2 (RwAt H) ys (bs.mergeSort leW) → (∀ b, b ≠ l → H2 b = H b) → Q (.ref l) H2) : kW X (.builtin "sorted") [.ref p] H Q :=
  kI (cr_sortedW hu) ⟨p, xs, bs, rfl, hs, ha, fun l ys hl h2 => q l _ ys (fun x o e => by rw [upd_ne (ne_of_none e hl)]; exact e) hl upd_same h2 fun x hx => upd_ne hx⟩

/-- a new row: neither of its two objects was there -/
def RwNew (H H' : Hp) (v : V) (r : Wr) : Prop := ∃ a b, v = .ref a ∧ H a = none ∧ H b = none ∧ H' a = some (.tup [.int ((r.1 : Nat) : Int), .int ((r.2.1 : Nat) : Int), .ref b]) ∧ H' b = some (.lst (r.2.2.map fun k => V.int ((k : Nat) : Int)))
theorem RwNew.at {H H' : Hp} {v : V} {r : Wr} (h : RwNew H H' v r) : RwAt H' v r := by
  obtain ⟨a, b, e, _, _, h1, h2⟩ := h
  exact ⟨a, b, e, h1, h2⟩
/-- the heap without one object -/
def wo (H : Hp) (l : Addr) : Hp := fun b => if b = l then none else H b
theorem wo_self {H : Hp} {l : Addr} : wo H l l = none := if_pos rfl
theorem wo_ne {H : Hp} {l b : Addr} (h : b ≠ l) : wo H l b = H b := if_neg h
theorem wo_of {H H' : Hp} {l : Addr} (n : H l = none) (s : Same H H') : Same H (wo H' l) := fun b o e => by
  have : b ≠ l := fun z => by rw [z, n] at e; cases e
  rw [wo_ne this]
  exact s _ _ e
theorem wo_same {H H' : Hp} {l : Addr} (s : Same H H') : Same (wo H l) (wo H' l) := fun b o e => by
  by_cases c : b = l
  · rw [c, wo_self] at e; cases e
  · rw [wo_ne c] at e ⊢
    exact s _ _ e
theorem wo_but {H H' : Hp} {l : Addr} (f : ∀ b, b ≠ l → H' b = H b) : wo H' l = wo H l := by
  funext b
  by_cases c : b = l
  · rw [c, wo_self, wo_self]
  · rw [wo_ne c, wo_ne c, f b c]
theorem wo_in {H : Hp} {l : Addr} : Same (wo H l) H := fun b o e => by
  by_cases c : b = l
  · rw [c, wo_self] at e; cases e
  · rwa [wo_ne c] at e
theorem RwNew.wo {H H' : Hp} {l : Addr} {o : HO} {v : V} {r : Wr} (k : H l = some o) (h : RwNew H H' v r) : RwAt (wo H' l) v r := by
  obtain ⟨a, b, e, n1, n2, h1, h2⟩ := h
  have c1 : a ≠ l := fun z => by rw [z, k] at n1; cases n1
  have c2 : b ≠ l := fun z => by rw [z, k] at n2; cases n2
  exact ⟨a, b, e, by rw [wo_ne c1]; exact h1, by rw [wo_ne c2]; exact h2⟩
theorem RwNew.wo2 {H H' : Hp} {l lx : Addr} {o ox : HO} {v : V} {r : Wr} (k : H l = some o) (kx : H lx = some ox) (h : RwNew H H' v r) : RwAt (Lw.wo (Lw.wo H' l) lx) v r := by
  obtain ⟨a, b, e, n1, n2, h1, h2⟩ := h
  have c1 : a ≠ l := fun z => by rw [z, k] at n1; cases n1
  have c2 : b ≠ l := fun z => by rw [z, k] at n2; cases n2
  have d1 : a ≠ lx := fun z => by rw [z, kx] at n1; cases n1
  have d2 : b ≠ lx := fun z => by rw [z, kx] at n2; cases n2
  exact ⟨a, b, e, by rw [wo_ne d1, wo_ne c1]; exact h1, by rw [wo_ne d2, wo_ne c2]; exact h2⟩
/-- a list of rows, and the dict of what is known of the nodes -/
def RwsAt (H : Hp) (v : V) (rs : List Wr) : Prop := ∃ a xs, v = .ref a ∧ H a = some (.lst xs) ∧ All2 (RwAt H) xs rs
theorem RwsAt.more {H H' : Hp} {v : V} {rs : List Wr} (s : Same H H') (h : RwsAt H v rs) : RwsAt H' v rs := by
  obtain ⟨a, xs, e, h1, h2⟩ := h
  exact ⟨a, xs, e, s _ _ h1, h2.mono fun _ _ q => q.more s⟩
abbrev Wn := List (Nd × List Wr)
def wkey (q : Nd × List Wr) : List Key × List Wr := (ndK q.1, q.2)
theorem lk_wkey : ∀ (F : Wn) (n : Nd), lk (F.map wkey) (ndK n) = lk F n
  | [], _ => rfl
  | p :: F, n => by
    show (if ndK p.1 = ndK n then some p.2 else lk (F.map wkey) (ndK n)) = if p.1 = n then some p.2 else lk F n
    by_cases c : p.1 = n
    · rw [if_pos c, if_pos (by rw [c])]
    · rw [if_neg c, if_neg fun z => c (ndK_inj z), lk_wkey F n]
def Kr (H : Hp) (d : Addr) (F : Wn) : Prop := ∃ kvs, H d = some (.dT kvs) ∧ DAt (RwsAt H) kvs (F.map wkey)
theorem Kr.keep {H H' : Hp} {d : Addr} {F : Wn} (s : Same H H') (h : Kr H d F) : Kr H' d F := by
  obtain ⟨kvs, e, q⟩ := h
  exact ⟨kvs, s _ _ e, q.mono fun _ _ z => z.more s⟩
theorem Kr.get {H : Hp} {d b : Addr} {F : Wn} {n : Nd} {rs : List Wr} (h : Kr H d F) (hb : H b = some (.tup ((ndK n).map kV))) (e : lk F n = some rs) : ∃ a xs, DGet H d (.ref b) (some (.ref a)) ∧ H a = some (.lst xs) ∧ All2 (RwAt H) xs rs := by
  obtain ⟨kvs, ed, q⟩ := h
  have g := DGet.t (k := ndK n) ed hb
  obtain ⟨_, h2⟩ := q.val (ndK n)
  rw [lk_wkey] at h2
  obtain ⟨v, hv, a, xs, rfl, h3, h4⟩ := h2 rs e
  rw [hv] at g
  exact ⟨a, xs, g, h3, h4⟩
/-- a way's rows -/
def putW (a b : Wr) : Wr := (a.1 + b.1, a.2.1 + b.2.1, if 1000 < a.2.1 + b.2.1 then [] else a.2.2 ++ b.2.2)
def joinW (l r : List Wr) (m k : Nat) : List Wr := (List.range k).flatMap fun i => (r.take (m / (i + 1))).map fun o => putW (l[i]?.getD (0, 0, [])) o
def R_put_together (K : PySem.W.Frag) : V → V → Hp → VK → XK → Prop := fun x y H Q _ => ∃ a b, RwAt H x a ∧ RwAt H y b ∧ a.2.2.length ≤ 1000 ∧ b.2.2.length ≤ 1000 ∧ ∀ v H', Same H H' → RwNew H H' v (putW a b) → Q v H'
section
theorem ok_put_together {f : Addr} {fd : FuncData} (F : Fun K "put_together" "put_together" s_put_together f fd) (T : Txt K mg cs) : FnOk P w K mg base (L2.CX P w) 1 f fd ["one", "other"] (sp2 (R_put_together K)) := by
  refine F.okX sc_put_together (fun vs H Q E h => sp2_len h) (fun cdv A outer s H vs Q E hr h => ⟨_, PBw (X := X_put_together P w K mg base f cdv A outer s H E), ?_⟩)
  obtain ⟨a0, a1, rfl, h⟩ := h
  obtain ⟨t_LONGEST, h_LONGEST⟩ := T.k_LONGEST
  have ib_LONGEST : Gn mg "LONGEST" (some _) := ⟨h_LONGEST⟩
  have hr' : Room 0 (X_put_together P w K mg base f cdv A outer s H E).A := hr
  replace hr := hr'
  clear hr'
  obtain ⟨⟨w1, n1, l1⟩, ⟨w2, n2, l2⟩, ⟨p1, q1, rfl, hp1, hq1⟩, ⟨p2, q2, rfl, hp2, hq2⟩, hl1, hl2, h⟩ := h
  have hnew : ∀ {H3 : Hp} {t : Addr}, H3 t = none → Same H H3 → H t = none := fun {H3 t} n s => by
    cases e : H t with
    | none => rfl
    | some o => rw [s _ _ e] at n; cases n
  dsimp only at hp1 hq1 hp2 hq2 hl1 hl2
  kxs_still
  refine iteD (fun c => ?_) fun c => ?_
  · kxs_still
    intro l3 H3 s3 m3 k3 f3
    kxs_still
    intro t4 H4 s4 m4 k4 f4
    kxs_still
    refine h _ _ (s3.trans s4) ⟨t4, l3, rfl, hnew m4 s3, m3, ?_, ?_⟩
    · rw [k4]
      show _ = some (HO.tup [.int ((w1 + w2 : Nat) : Int), .int ((n1 + n2 : Nat) : Int), _])
      rw [Int.natCast_add, Int.natCast_add]
    · rw [s4 _ _ k3]
      unfold putW
      rw [if_pos (by show 1000 < n1 + n2; omega)]
      rfl
  kxs_still
  refine o_catL hq1 hq2 (by rw [List.length_map, List.length_map]; omega) fun l3 H3 s3 m3 k3 f3 => ?_
  kxs_still
  intro t4 H4 s4 m4 k4 f4
  kxs_still
  refine h _ _ (s3.trans s4) ⟨t4, l3, rfl, hnew m4 s3, m3, ?_, ?_⟩
  · rw [k4]
    show _ = some (HO.tup [.int ((w1 + w2 : Nat) : Int), .int ((n1 + n2 : Nat) : Int), _])
    rw [Int.natCast_add, Int.natCast_add]
  · rw [s4 _ _ k3]
    unfold putW
    rw [if_neg (by show ¬ 1000 < n1 + n2; omega), List.map_append]
end
theorem df_put_together (T : Txt K mg cs) : Df P w K mg base "put_together" 1 ["one", "other"] (sp2 (R_put_together K)) := by
  obtain ⟨f, fd, hm, F, hb⟩ := T.f_put_together.ex
  exact ⟨f, fd, hm, F.kp, hb, ok_put_together F T⟩
theorem joinW_len (l r : List Wr) (m : Nat) : ∀ k, (joinW l r m k).length ≤ k * r.length
  | 0 => by unfold joinW; simp
  | k + 1 => by
    have ih := joinW_len l r m k
    unfold joinW at ih ⊢
    rw [List.range_succ, List.flatMap_append, List.length_append, Nat.succ_mul]
    refine Nat.add_le_add ih ?_
    simp only [List.flatMap_cons, List.flatMap_nil, List.append_nil, List.length_map]
    exact List.length_take_le' ..
theorem joinW_succ (l r : List Wr) (m k : Nat) : joinW l r m (k + 1) = joinW l r m k ++ (r.take (m / (k + 1))).map fun o => putW (l[k]?.getD (0, 0, [])) o := by
  unfold joinW
  rw [List.range_succ, List.flatMap_append]
  simp only [List.flatMap_cons, List.flatMap_nil, List.append_nil]
def ofW (F : Wn) (w : Way) (m : Nat) : List Wr := match w with
  | [n] => (lk F n).getD []
  | [a, b] => joinW ((lk F a).getD []) ((lk F b).getD []) m ((lk F a).getD []).length
  | _ => []
def R_of_way (K : PySem.W.Frag) : V → V → V → Hp → VK → XK → Prop := fun x y z H Q _ => ∃ (d : Addr) (F : Wn) (w : Way) (m : Nat) (lx : Addr) (ox : HO), x = .ref d ∧ H lx = some ox ∧ Kr (wo H lx) d F ∧ WayAt H y w ∧ z = .int ((m : Nat) : Int) ∧ m ≤ 60 ∧ (w.length = 1 ∨ w.length = 2) ∧ (∀ n ∈ w, ∃ rs, lk F n = some rs ∧ rs.length ≤ 60 ∧ ∀ r ∈ rs, r.2.2.length ≤ 1000) ∧
  ∀ l xs H', Same H H' → H l = none → H' l = some (.lst xs) → All2 (RwAt (wo (wo H' l) lx)) xs (ofW F w m) → Q (.ref l) H'
section
set_option hygiene false in
local macro_rules | `(tactic| top_name) => `(tactic| first | refine e_call (df_put_together T) (hr.mono (by decide)) ?_)
theorem ok_of_way {f : Addr} {fd : FuncData} (F : Fun K "of_way" "of_way" s_of_way f fd) (T : Txt K mg cs) : FnOk P w K mg base (L2.CX P w) 2 f fd ["known", "way", "many"] (sp3 (R_of_way K)) := by
  refine F.okX sc_of_way (fun vs H Q E h => sp3_len h) (fun cdv A outer s H vs Q E hr h => ⟨_, PBw (X := X_of_way P w K mg base f cdv A outer s H E), ?_⟩)
  obtain ⟨a0, a1, a2, rfl, h⟩ := h
  have ib_range := T.b_range
  have ib_len := T.b_len
  have ib_list := T.b_list
  have hr' : Room 1 (X_of_way P w K mg base f cdv A outer s H E).A := hr
  replace hr := hr'
  clear hr'
  obtain ⟨d, FW, w, m, lx, ox, rfl, hlx, hk0, ⟨a, ws, rfl, ha, hx⟩, rfl, hm, hw, hF, h⟩ := h
  have hwl := hx.len
  have wlx : Same (wo H lx) H := wo_in
  have hk := hk0.keep wlx
  have get : ∀ {b : Addr} {n : Nd} {rs : List Wr}, H b = some (.tup ((ndK n).map kV)) → lk FW n = some rs → ∃ a xs, DGet H d (.ref b) (some (.ref a)) ∧ H a = some (.lst xs) ∧ All2 (RwAt (wo H lx)) xs rs := fun {b n rs} hb e => by
    obtain ⟨kvs, ed, q⟩ := hk0
    have g := DGet.t (k := ndK n) (wlx _ _ ed) hb
    obtain ⟨_, h2⟩ := q.val (ndK n)
    rw [lk_wkey] at h2
    obtain ⟨v, hv, a, xs, rfl, h3, h4⟩ := h2 rs e
    rw [hv] at g
    exact ⟨a, xs, g, wlx _ _ h3, h4⟩
  rcases hw with hw | hw
  · obtain ⟨n1, rfl⟩ : ∃ n1, w = [n1] := ⟨_, (List.length_eq_one_iff.mp hw).choose_spec⟩
    cases hx with
    | cons hx1 hx2 =>
      cases hx2
      obtain ⟨b1, rfl, hb1⟩ := hx1
      obtain ⟨r1, e1, hl1, hr1⟩ := hF _ (List.mem_cons_self ..)
      obtain ⟨p1, xs1, g1, hp1, hA1⟩ := get hb1 e1
      kxs_still
      refine i_dget (rm1 hr) g1 ?_
      kxs_still
      refine k_listL (.inl (SqL.of hp1)) fun l1 H1 s1 m1 k1 f1 => ?_
      kxs_still
      refine h _ _ _ s1 m1 k1 ?_
      show All2 _ xs1 ((lk FW n1).getD [])
      rw [e1]
      exact hA1.mono fun _ _ q => q.more (wo_same (wo_of m1 s1))
  · obtain ⟨n1, n2, rfl⟩ : ∃ n1 n2, w = [n1, n2] := by
      match w, hw with
      | [n1, n2], _ => exact ⟨n1, n2, rfl⟩
    cases hx with
    | cons hx1 hx2 =>
    cases hx2 with
    | cons hx2 hx3 =>
    cases hx3
    obtain ⟨b1, rfl, hb1⟩ := hx1
    obtain ⟨b2, rfl, hb2⟩ := hx2
    obtain ⟨r1, e1, hl1, hr1⟩ := hF _ (List.mem_cons_self ..)
    obtain ⟨r2, e2, hl2, hr2⟩ := hF _ (List.mem_cons_of_mem _ (List.mem_cons_self ..))
    obtain ⟨p1, xs1, g1, hp1, hA1⟩ := get hb1 e1
    obtain ⟨p2, xs2, g2, hp2, hA2⟩ := get hb2 e2
    have hn1 := hA1.len
    have hn2 := hA2.len
    kxs_still
    refine i_dget (rm1 hr) g1 ?_
    kxs_still
    refine i_dget (rm1 hr) g2 ?_
    kxs_still
    intro l3 H3 s3 m3 k3 f3
    kxs_still
    refine s_for (j_rng1 ?_)
    kxs_still
    have s03 : Same H (wo H3 l3) := wo_of m3 s3
    refine ⟨by omega, by omega, _, _, _, walk_range0, fun k σ' H' => ∃ v6 v7, σ' = [some (.ref d), some (.ref a), some (.int ((m : Nat) : Int)), some (.ref p1), some (.ref p2), some (.ref l3), v6, v7] ∧ ∃ xs, H' l3 = some (.lst xs) ∧ Same H (wo H' l3) ∧ All2 (RwAt (wo (wo H' l3) lx)) xs (joinW r1 r2 m k), ⟨_, _, rfl, [], k3, s03, .nil⟩, fun _ _ _ _ _ => trivial, ?_, ?_⟩
    · rintro k x σ' H4 H5 hk4 ⟨v6, v7, rfl, xs, kl, sl, hA⟩ ⟨rfl, rfl⟩
      have s4 : Same H H5 := sl.trans wo_in
      have hp15 := s4 _ _ hp1
      have hp25 := s4 _ _ hp2
      kxs_still
      refine s_for (j_list ?_)
      kxs_still
      refine o_div ⟨by omega, by omega⟩ ?_
      have hq : ((m : Nat) : Int) / (((k : Nat) : Int) + 1) = ((m / (k + 1) : Nat) : Int) := by rw [Int.natCast_ediv]; rfl
      rw [hq]
      kxs_still
      refine n_lst (SqL.of hp25) fun l6 H6 s6 m6 k6 f6 => ?_
      rw [cutV_to _ (Int.natCast_nonneg _), Int.toNat_natCast] at k6
      have hjl := joinW_len r1 r2 m k
      have hxl := hA.len
      have nl : l3 ≠ l6 := fun z => by rw [← z, kl] at m6; cases m6
      have w6 : Same (wo H5 l3) (wo H6 l3) := wo_same s6
      have kl6 := s6 _ _ kl
      obtain ⟨x1, hx1⟩ : ∃ x1, xs1[k]? = some x1 := ⟨_, List.getElem?_eq_getElem (by omega)⟩
      obtain ⟨r, hrk, hrx⟩ := hA1.get hx1
      kxs_still
      refine ⟨⟨_, SqL.of k6⟩, _, _, _, walk_list (xs := xs2.take (m / (k + 1))), fun i σ' H' => ∃ v7, σ' = [some (.ref d), some (.ref a), some (.int ((m : Nat) : Int)), some (.ref p1), some (.ref p2), some (.ref l3), some (.int ((k : Nat) : Int)), v7] ∧ ∃ xs, H' l3 = some (.lst xs) ∧ Same (wo H6 l3) (wo H' l3) ∧ All2 (RwAt (wo (wo H' l3) lx)) xs (joinW r1 r2 m k ++ ((r2.take (m / (k + 1))).take i).map fun o => putW r o), ⟨_, rfl, xs, kl6, Same.refl _, by rw [List.take_zero, List.map_nil, List.append_nil]; exact hA.mono fun _ _ q => q.more (wo_same w6)⟩, fun _ _ _ _ ⟨_, _, _, _, q, _⟩ => SqL.of (wo_in _ _ (q _ _ (by rw [wo_ne nl.symm]; exact k6))), ?_, ?_⟩
      · rintro i x σ' H7 H8 hi ⟨v7, rfl, ys, ky, sy, hB⟩ ⟨rfl, hxi⟩
        have hxi : (xs2.take (m / (k + 1)))[i]? = some x := hxi
        have hi2 : i < m / (k + 1) := by rw [List.length_take] at hi; omega
        have hx2 : xs2[i]? = some x := by rw [← hxi, List.getElem?_take, if_pos hi2]
        obtain ⟨o, ho, hox⟩ := hA2.get hx2
        have s8 : Same H H8 := (sl.trans (w6.trans sy)).trans wo_in
        have hat : atI xs1 ((k : Nat) : Int) = some x1 := atI_nat (Int.natCast_nonneg _) hx1
        have hp18 := s8 _ _ hp1
        kxs_still
        refine ⟨ty_l ky, ?_⟩
        kxs_still
        refine ⟨r, o, hrx.more (wlx.trans s8), hox.more (wlx.trans s8), hr1 r (List.mem_of_getElem? hrk), hr2 o (List.mem_of_getElem? ho), fun v H9 s9 hv => ?_⟩
        have ky9 := s9 _ _ ky
        have hyl := hB.len
        kxs_still
        refine m_append ky9 (by rw [hyl, List.length_append, List.length_map]; have : ((r2.take (m / (k + 1))).take i).length ≤ r2.length := Nat.le_trans (List.length_take_le' ..) (List.length_take_le' ..); have : k * r2.length ≤ 60 * 60 := Nat.mul_le_mul (by omega) hl2; omega) fun HC kC fC => ?_
        kxs_still
        have w9 : Same (wo H8 l3) (wo H9 l3) := wo_same s9
        have eC : wo HC l3 = wo H9 l3 := wo_but fC
        refine ⟨_, rfl, _, kC, by rw [eC]; exact sy.trans w9, ?_⟩
        rw [eC, List.take_succ, List.getElem?_take, if_pos hi2, ho, Option.toList_some, List.map_append, ← List.append_assoc]
        exact (hB.mono fun _ _ q => q.more (wo_same w9)).snoc (hv.wo2 ky (s8 _ _ hlx))
      · rintro σ' H7 ⟨v7, rfl, ys, ky, sy, hB⟩
        kxs_still
        refine ⟨_, _, rfl, ys, ky, sl.trans (w6.trans sy), ?_⟩
        have hlen : (xs2.take (m / (k + 1))).length = (r2.take (m / (k + 1))).length := by rw [List.length_take, List.length_take, hn2]
        rw [hlen, List.take_length] at hB
        rw [joinW_succ, hrk]
        exact hB
    · rintro σ' H7 ⟨v6, v7, rfl, ys, ky, sy, hB⟩
      kxs_still
      refine h _ ys H7 (sy.trans wo_in) m3 ky ?_
      unfold ofW
      dsimp only
      rw [e1, e2]
      rw [show ((xs1.length : Nat) : Int).toNat = r1.length by omega] at hB
      exact hB
end
theorem df_of_way (T : Txt K mg cs) : Df P w K mg base "of_way" 2 ["known", "way", "many"] (sp3 (R_of_way K)) := by
  obtain ⟨f, fd, hm, F, hb⟩ := T.f_of_way.ex
  exact ⟨f, fd, hm, F.kp, hb, ok_of_way F T⟩
theorem m_extendB {X : Cx} {H : Hp} {Q : VK} {l b : Addr} {xs zs : List V} (h : H l = some (.lst xs)) (h2 : H b = some (.lst zs)) (hz : xs.length + zs.length ≤ 16000000) (q : ∀ H2, H2 l = some (.lst (xs ++ zs)) → (∀ b, b ≠ l → H2 b = H b) → Q .non H2) : mW X "list.extend" (.ref l) [.ref b] H Q :=
  mI mt_extend ⟨l, b, xs, zs, rfl, rfl, h, h2, Nat.le_trans hz (by decide), q _ upd_same fun b hb => upd_ne hb⟩
theorem one_empty (ws : List Way) : PyData.eqv (.list (ws.map wayD)) (.list [.tuple []]) = decide (ws = [[]]) := by
  cases ws with
  | nil => rfl
  | cons w ws =>
    cases w with
    | nil =>
      cases ws with
      | nil => rfl
      | cons a ws => rfl
    | cons a w =>
      cases ws with
      | nil => rfl
      | cons a ws => rfl
def wth (rs : List Rl) (r : Nat) : Nat := ((rs[r]?).map (·.worth.toNat)).getD 0
def oneW (rs : List Rl) : Nd → List Wr
  | .pt _ _ _ => [(0, 0, [])]
  | .ru r _ _ _ => [(wth rs r, 1, [r])]
def allW (F : Wn) (ws : List Way) (m : Nat) : List Wr := ws.flatMap fun w => ofW F w m
def firstW (rs : List Rl) (F : Wn) (n : Nd) (ws : List Way) (m : Nat) : List Wr := if ws = [[]] then oneW rs n else ((allW F ws m).mergeSort leW).take m
/-- what is known is enough for these ways -/
def FrOk (rs : List Rl) (F : Wn) (n : Nd) (ws : List Way) : Prop := (∀ r d i j, n = .ru r d i j → r < rs.length) ∧ (ws ≠ [[]] → ∀ w ∈ ws, (w.length = 1 ∨ w.length = 2) ∧ ∀ n ∈ w, ∃ rs, lk F n = some rs ∧ rs.length ≤ 60 ∧ ∀ r ∈ rs, r.2.2.length ≤ 1000)
theorem ofW_len {F : Wn} {w : Way} (m : Nat) (h : (w.length = 1 ∨ w.length = 2) ∧ ∀ n ∈ w, ∃ rs, lk F n = some rs ∧ rs.length ≤ 60 ∧ ∀ r ∈ rs, r.2.2.length ≤ 1000) : (ofW F w m).length ≤ 3600 := by
  obtain ⟨hw, hF⟩ := h
  match w, hw with
  | [a], _ =>
    obtain ⟨r1, e1, l1, _⟩ := hF a (List.mem_cons_self ..)
    show ((lk F a).getD []).length ≤ 3600
    rw [e1]
    show r1.length ≤ 3600
    omega
  | [a, b], _ =>
    obtain ⟨r1, e1, l1, _⟩ := hF a (List.mem_cons_self ..)
    obtain ⟨r2, e2, l2, _⟩ := hF b (List.mem_cons_of_mem _ (List.mem_cons_self ..))
    show (joinW ((lk F a).getD []) ((lk F b).getD []) m ((lk F a).getD []).length).length ≤ 3600
    rw [e1, e2]
    show (joinW r1 r2 m r1.length).length ≤ 3600
    have := joinW_len r1 r2 m r1.length
    have : r1.length * r2.length ≤ 60 * 60 := Nat.mul_le_mul l1 l2
    omega
  | [], h => rcases h with h | h <;> cases h
  | _ :: _ :: _ :: _, h => rcases h with h | h <;> cases h
theorem allW_len {F : Wn} {m : Nat} : ∀ {ws : List Way}, (∀ w ∈ ws, (w.length = 1 ∨ w.length = 2) ∧ ∀ n ∈ w, ∃ rs, lk F n = some rs ∧ rs.length ≤ 60 ∧ ∀ r ∈ rs, r.2.2.length ≤ 1000) → (allW F ws m).length ≤ 3600 * ws.length
  | [], _ => Nat.zero_le _
  | w :: ws, h => by
    have h1 := ofW_len m (h w (List.mem_cons_self ..))
    have h2 := allW_len (m := m) fun v hv => h v (List.mem_cons_of_mem _ hv)
    unfold allW at h2 ⊢
    rw [List.flatMap_cons, List.length_append, List.length_cons]
    omega
def R_first_rows (K : PySem.W.Frag) : V → V → V → V → V → Hp → VK → XK → Prop := fun x y z u t H Q _ => ∃ (la : Addr) (vs : List V) (rs : List Rl) (d : Addr) (FW : Wn) (n : Nd) (ws : List Way) (m : Nat), x = .ref la ∧ SqL K H la vs ∧ RulesAt H vs rs ∧ GoodG rs ∧ y = .ref d ∧ Kr H d FW ∧ NdAt H z n ∧ WaysAt H u ws ∧ t = .int ((m : Nat) : Int) ∧ m ≤ 60 ∧ ws.length ≤ 1000 ∧ (∀ w ∈ ws, ∀ n ∈ w, NdOk n) ∧ FrOk rs FW n ws ∧
  ∀ l xs H', Same H H' → H l = none → H' l = some (.lst xs) → All2 (RwAt H') xs (firstW rs FW n ws m) → Q (.ref l) H'
section
set_option hygiene false in
local macro_rules | `(tactic| top_name) => `(tactic| first | refine e_call (df_of_way T) (hr.mono (by decide)) ?_)
theorem ok_first_rows {f : Addr} {fd : FuncData} (F : Fun K "first_rows" "first_rows" s_first_rows f fd) (T : Txt K mg cs) : FnOk P w K mg base (L2.CX P w) 3 f fd ["rules", "known", "node", "ways", "many"] (sp5 (R_first_rows K)) := by
  refine F.okX sc_first_rows (fun vs H Q E h => sp5_len h) (fun cdv A outer s H vs Q E hr h => ⟨_, PBw (X := X_first_rows P w K mg base f cdv A outer s H E), ?_⟩)
  obtain ⟨a0, a1, a2, a3, a4, rfl, h⟩ := h
  have ib_sorted := T.b_sorted
  have ib_len := T.b_len
  have hr' : Room 2 (X_first_rows P w K mg base f cdv A outer s H E).A := hr
  replace hr := hr'
  clear hr'
  obtain ⟨la, vs, rs, d, FW, n, ws, m, rfl, hS, hR, hG, rfl, hk, ⟨b, rfl, hb⟩, ⟨lw, wv, rfl, klw, aw⟩, rfl, hm, hwl, hok, ⟨hfr1, hfr2⟩, h⟩ := h
  have hxl := aw.len
  kxs_still
  intro t1 H1 s1 n1 k1 f1
  kxs_still
  intro l2 H2 s2 n2 k2 f2
  have s02 := s1.trans s2
  kxs_still
  refine o_eqD hr.units (.lst (SqL.of (s02 _ _ klw)) (dp_ways (aw.mono fun _ _ q => q.ts (Same.ts s02)))) (.lst (SqL.of k2) (.cons (.tup (SqT.of (s2 _ _ k1)) .nil) .nil)) (ways_sh hok).ok (by decide) ?_
  rw [one_empty]
  have hb2 := s02 _ _ hb
  kxs_still
  refine iteD (fun hw => ?_) fun hw => ?_
  · have hf : firstW rs FW n ws m = oneW rs n := by unfold firstW; exact if_pos hw
    rw [hf] at h
    cases n with
    | pt p i j =>
      have hb3 : H2 b = some (.tup [.str p, .int ((i : Nat) : Int), .int ((j : Nat) : Int)]) := hb2
      kxs_still
      refine iteDT rfl ?_
      kxs_still
      intro l3 H3 s3 n3 k3 f3
      kxs_still
      intro t4 H4 s4 n4 k4 f4
      kxs_still
      intro l5 H5 s5 n5 k5 f5
      refine h l5 _ H5 (s02.trans (s3.trans (s4.trans s5))) ((s02.trans (s3.trans s4)).none n5) k5 (.cons ⟨t4, l3, rfl, s5 _ _ k4, s5 _ _ (s4 _ _ k3)⟩ .nil)
    | ru r d' i j =>
      have hb3 : H2 b = some (.tup [.int ((r : Nat) : Int), .int ((d' : Nat) : Int), .int ((i : Nat) : Int), .int ((j : Nat) : Int)]) := hb2
      obtain ⟨rl, hrl⟩ : ∃ rl, rs[r]? = some rl := ⟨_, List.getElem?_eq_getElem (hfr1 r d' i j rfl)⟩
      obtain ⟨ra, rb, hv, hvk, e1, e2⟩ := hR.at' hrl
      have e1' := s02 _ _ e1
      have hlo := (hG.good rl (List.mem_of_getElem? hrl)).lo
      kxs_still
      refine iteDF (show ¬ ((4 : Int) = 3) by decide) ?_
      kxs_still
      intro l3 H3 s3 n3 k3 f3
      kxs_still
      intro t4 H4 s4 n4 k4 f4
      kxs_still
      intro l5 H5 s5 n5 k5 f5
      refine h l5 _ H5 (s02.trans (s3.trans (s4.trans s5))) ((s02.trans (s3.trans s4)).none n5) k5 (.cons ⟨t4, l3, rfl, ?_, s5 _ _ (s4 _ _ k3)⟩ .nil)
      have : ((wth rs r : Nat) : Int) = rl.worth := by unfold wth; rw [hrl]; show ((rl.worth.toNat : Nat) : Int) = _; omega
      rw [s5 _ _ k4, this]
      rfl
  have hf : firstW rs FW n ws m = ((allW FW ws m).mergeSort leW).take m := by unfold firstW; exact if_neg hw
  rw [hf] at h
  have hF := hfr2 hw
  kxs_still
  intro l3 H3 s3 n3 k3 f3
  have s03 : Same H (wo H3 l3) := s02.trans (wo_of n3 s3)
  have hl0 : H l3 = none := s02.none n3
  have klw3 := (s02.trans s3) _ _ klw
  kxs_still
  refine s_for (j_list ?_)
  kxs_still
  refine ⟨⟨_, SqL.of klw3⟩, _, _, _, walk_list (xs := wv), fun i σ' H' => ∃ v6, σ' = [some (.ref la), some (.ref d), some (.ref b), some (.ref lw), some (.int ((m : Nat) : Int)), some (.ref l3), v6] ∧ ∃ xs, H' l3 = some (.lst xs) ∧ Same H (wo H' l3) ∧ All2 (RwAt (wo H' l3)) xs (allW FW (ws.take i) m), ⟨_, rfl, [], k3, s03, .nil⟩, fun _ _ _ _ ⟨_, _, _, _, s, _⟩ => SqL.of (wo_in _ _ (s _ _ klw)), ?_, ?_⟩
  · rintro i x σ' H4 H5 hi ⟨v6, rfl, xs, kl, sl, hA⟩ ⟨rfl, hx⟩
    obtain ⟨w, hw', hwa⟩ := aw.get hx
    have s5 : Same H H5 := sl.trans wo_in
    have hwm := hF w (List.mem_of_getElem? hw')
    have hlen := hA.len
    have hal := allW_len (m := m) (ws := ws.take i) fun v hv => hF v (List.mem_of_mem_take hv)
    have hti : (ws.take i).length ≤ ws.length := List.length_take_le' ..
    have hof := ofW_len m hwm
    kxs_still
    refine e_extend ?_
    kxs_still
    refine ⟨ty_l kl, ?_⟩
    kxs_still
    refine ⟨d, FW, w, m, l3, _, rfl, kl, hk.keep sl, hwa.ts (Same.ts s5), rfl, hm, hwm.1, hwm.2, fun l6 xs6 H6 s6 n6 k6 hA6 => ?_⟩
    have kl6 := s6 _ _ kl
    have nl : l6 ≠ l3 := fun z => by rw [z, kl] at n6; cases n6
    have hl6 := hA6.len
    kxs_still
    refine m_extendB kl6 k6 (by omega) fun H7 k7 f7 => ?_
    kxs_still
    have e7 : wo H7 l3 = wo H6 l3 := wo_but f7
    have s67 : Same (wo H5 l3) (wo H7 l3) := by rw [e7]; exact wo_same s6
    refine ⟨_, rfl, _, k7, sl.trans s67, ?_⟩
    rw [take_snoc hw']
    unfold allW at hA ⊢
    rw [List.flatMap_append, List.flatMap_singleton]
    refine (hA.mono fun _ _ q => q.more s67).app (hA6.mono fun _ _ q => ?_)
    rw [e7]
    exact q.more (wo_same wo_in)
  · rintro σ' H4 ⟨v6, rfl, xs, kl, sl, hA⟩
    rw [hxl, List.take_length] at hA
    have s4 : Same H H4 := sl.trans wo_in
    kxs_still
    refine k_sortedW hr.units (SqL.of kl) (hA.mono fun _ _ q => q.more wo_in) fun l7 H7 ys s7 n7 k7 hY f7 => ?_
    kxs_still
    refine n_lst (SqL.of k7) fun l8 H8 s8 n8 k8 f8 => ?_
    rw [cutV_to _ (Int.natCast_nonneg _), Int.toNat_natCast] at k8
    kxs_still
    refine h l8 _ H8 (s4.trans (s7.trans s8)) ((s4.trans s7).none n8) k8 ?_
    exact (hY.mono fun _ _ q => q.more (s7.trans s8)).take m
end
theorem df_first_rows (T : Txt K mg cs) : Df P w K mg base "first_rows" 3 ["rules", "known", "node", "ways", "many"] (sp5 (R_first_rows K)) := by
  obtain ⟨f, fd, hm, F, hb⟩ := T.f_first_rows.ex
  exact ⟨f, fd, hm, F.kp, hb, ok_first_rows F T⟩
/-! ### a dict against the empty one -/
theorem o_neDT0 {X : Cx} {H : Hp} {Q : VK} {p q : Addr} {kvs : List (List Key × V)} (hu : X.A.units + 64 < cLine) (h1 : H p = some (.dT kvs)) (h2 : H q = some (.dT [])) (qq : Q (.bl (!decide (kvs = []))) H) : oW X (compareOp .NotEq) (.ref p) (.ref q) H Q := by
  refine ⟨fun pins s σ v u I rx ry => ?_⟩
  cases rx; cases ry
  obtain ⟨_, nsp, xs, rel, da⟩ := dt_of I.hok h1
  obtain ⟨_, nsq, ys, rel2, db⟩ := dt_of I.hok h2
  have hl : kvs.length = xs.length := Paired.length rel
  have hy : 0 = ys.length := Paired.length rel2
  have T1 := da.typeIs; have T2 := db.typeIs
  obtain ⟨o1, es1, ep1, g1, _, d1, l1, _⟩ := da
  obtain ⟨o2, es2, ep2, g2, _, d2, l2, _⟩ := db
  have z1 : es1.size = kvs.length := by rw [size_of_entries l1, hl]
  have z2 : es2.size = 0 := by rw [size_of_entries l2, ← hy]
  have fin : ∀ b : Bool, b = decide (kvs = []) → EP X pins σ Q (.bool (!b)) s := fun b e => ⟨.bl (!b), H, I, rfl, by rw [e]; exact qq⟩
  refine wpAny_richCompare_same_room (op := .NotEq) T1 T2 PySem.F.slot_dict_ne (wpAny_call_entry PySem.F.slot_dict_ne T1 PySem.F.entry_dict_ne ?_ (PySem.F.args_dict_ne_2 _ _)) (by omega)
  show wpAny _ _ (Builtin.Dict.dictSlotArgs "__ne__" ⟨[.ref p, .ref q], []⟩ >>= _) _ _ s
  unfold Builtin.Dict.dictSlotArgs; refine wpAny_bind (wpAny_bind (wpAny_notOrdered_dict T1 ?_))
  show wpAny _ _ (pure (Value.ref p, Value.ref q)) _ _ s
  refine wpAny_pure (wpAny_bind (wpAny_isInstance (T := "dict") T2 PySem.F.sub_dict_dict ?_))
  simp only [Bool.not_true, Bool.false_eq_true, if_false]
  have go : ∀ b : Bool, b = decide (kvs = []) → ∀ Q' : Bool → Shared → Prop, Q' b s → wpAny (model X.prog X.w) X.A.in1 (Builtin.Dict.samePairs "dict.__ne__" p q) Q' X.xe s := fun b e Q' hq => by
    unfold Builtin.Dict.samePairs Builtin.Dict.showsAll; rw [if_neg (by rw [nsp]; exact Bool.false_ne_true), if_neg (by rw [nsq]; exact Bool.false_ne_true)]
    refine wpAny_bind (wpAny_pure (wpAny_bind (wpAny_pure (wpAny_bind (wpAny_dictEntries g1 d1 (wpAny_bind (wpAny_dictEntries g2 d2 ?_)))))))
    cases kvs with
    | nil =>
      rw [if_neg (by rw [z1, z2]; decide)]
      refine wpAny_bind (wpAny_dictEpoch g1 d1 ?_)
      rw [z1]
      subst e
      refine wpAny_bind ?_
      rw [Std.Legacy.Range.forIn_eq_forIn_range']
      exact wpAny_pure (wpAny_pure hq)
    | cons k ks =>
      rw [if_pos (by rw [z1, z2]; simp)]
      subst e
      exact wpAny_bind (wpAny_rule (wpAny_pure hq))
  refine wpAny_bind (wpAny_pure (wpAny_bind (wpAny_pure (wpAny_bind (go _ rfl _ (wpAny_pure ⟨_, rfl, ?_, ?_⟩))))))
  · exact fun x => nomatch x
  · have := fin _ rfl
    simpa using this
/-! ### the rows of settled nodes -/
def Wok (r : Wr) : Prop := if 1000 < r.2.1 then r.2.2 = [] else r.2.2.length = r.2.1
theorem Wok.len {r : Wr} (h : Wok r) : r.2.2.length ≤ 1000 := by
  unfold Wok at h
  split at h
  · rw [h]; exact Nat.zero_le _
  · omega
theorem Wok.put {a b : Wr} (ha : Wok a) (hb : Wok b) : Wok (putW a b) := by
  unfold Wok putW at *
  by_cases c : 1000 < a.2.1 + b.2.1
  · rw [if_pos c, if_pos c]
  · rw [if_neg c, if_neg c]
    rw [if_neg (by omega)] at ha hb
    show (a.2.2 ++ b.2.2).length = a.2.1 + b.2.1
    rw [List.length_append, ha, hb]
def Rok (l : List Wr) : Prop := l.length ≤ 60 ∧ ∀ r ∈ l, Wok r
theorem joinW_mem {l r : List Wr} {m k : Nat} {x : Wr} (hk : k ≤ l.length) (h : x ∈ joinW l r m k) : ∃ a ∈ l, ∃ b ∈ r, x = putW a b := by
  unfold joinW at h
  obtain ⟨i, hi, h⟩ := List.mem_flatMap.mp h
  obtain ⟨b, hb, rfl⟩ := List.mem_map.mp h
  have hi := List.mem_range.mp hi
  have hl : l[i]? = some l[i] := List.getElem?_eq_getElem (by omega)
  refine ⟨l[i], List.getElem_mem _, b, List.mem_of_mem_take hb, ?_⟩
  rw [hl]
  rfl
def FnOk' (F : Wn) : Prop := ∀ n rs, lk F n = some rs → Rok rs
theorem ofW_ok {F : Wn} {w : Way} {m : Nat} (hF : FnOk' F) {x : Wr} (h : x ∈ ofW F w m) : Wok x := by
  have g : ∀ {n : Nd} {x : Wr}, x ∈ (lk F n).getD [] → Wok x := fun {n x} h => by
    cases e : lk F n with
    | none => rw [e] at h; cases h
    | some rs => rw [e] at h; exact (hF n rs e).2 x h
  match w, h with
  | [a], h => exact g h
  | [a, b], h =>
    obtain ⟨p, hp, q, hq, rfl⟩ := joinW_mem (Nat.le_refl _) h
    exact (g hp).put (g hq)
theorem wok0 : Wok (0, 0, []) := rfl
theorem wok1 (w r : Nat) : Wok (w, 1, [r]) := rfl
theorem firstW_ok {rs : List Rl} {F : Wn} {n : Nd} {ws : List Way} {m : Nat} (hF : FnOk' F) (hm : m ≤ 60) : Rok (firstW rs F n ws m) := by
  unfold firstW
  split
  · cases n with
    | pt p i j => exact ⟨by show 1 ≤ 60; decide, fun r hr => by rw [List.mem_singleton.mp hr]; exact wok0⟩
    | ru r d i j => exact ⟨by show 1 ≤ 60; decide, fun x hx => by rw [List.mem_singleton.mp hx]; exact wok1 _ _⟩
  · refine ⟨Nat.le_trans (List.length_take_le ..) hm, fun r hr => ?_⟩
    have := (List.mergeSort_perm (allW F ws m) leW).mem_iff.mp (List.mem_of_mem_take hr)
    obtain ⟨w, _, h⟩ := List.mem_flatMap.mp this
    exact ofW_ok hF h
def stepW (rs : List Rl) (P : Pths) (m : Nat) (F : Wn) (n : Nd) : Wn := F ++ [(n, firstW rs F n ((lk P n).getD []) m)]
def knowW (rs : List Rl) (P : Pths) (m : Nat) (T : List Nd) : Wn := T.foldl (stepW rs P m) []
theorem knowW_snoc (rs : List Rl) (P : Pths) (m : Nat) (T : List Nd) (n : Nd) : knowW rs P m (T ++ [n]) = stepW rs P m (knowW rs P m T) n := by
  unfold knowW
  rw [List.foldl_append]
  rfl
theorem snoc_ind {α : Type} {p : List α → Prop} (nil : p []) (snoc : ∀ l a, p l → p (l ++ [a])) : ∀ l, p l := fun l => by
  have : ∀ l : List α, p l.reverse := fun l => by
    induction l with
    | nil => exact nil
    | cons a l ih => rw [List.reverse_cons]; exact snoc _ _ ih
  have h := this l.reverse
  rwa [List.reverse_reverse] at h
theorem knowW_keys (rs : List Rl) (P : Pths) (m : Nat) (T : List Nd) : (knowW rs P m T).map (·.1) = T := by
  induction T using snoc_ind with
  | nil => rfl
  | snoc T n ih =>
    rw [knowW_snoc]
    unfold stepW
    rw [List.map_append, ih]
    rfl
theorem lk_snoc {F : Wn} {n k : Nd} {v : List Wr} : lk (F ++ [(n, v)]) k = (match lk F k with | some x => some x | none => if n = k then some v else none) := by
  induction F with
  | nil => rfl
  | cons p F ih =>
    show (if p.1 = k then some p.2 else lk (F ++ [(n, v)]) k) = (match (if p.1 = k then some p.2 else lk F k) with | some x => some x | none => if n = k then some v else none)
    by_cases c : p.1 = k
    · rw [if_pos c, if_pos c]
    · rw [if_neg c, if_neg c, ih]
theorem knowW_ok {rs : List Rl} {P : Pths} {m : Nat} (hm : m ≤ 60) (T : List Nd) : FnOk' (knowW rs P m T) := by
  induction T using snoc_ind with
  | nil => intro n rs e; cases e
  | snoc T n ih =>
    intro k l e
    rw [knowW_snoc] at e
    unfold stepW at e
    rw [lk_snoc] at e
    split at e
    · rename_i x hx
      cases e
      exact ih _ _ hx
    · split at e
      · cases e
        exact firstW_ok ih hm
      · cases e
/-- what the ways of a wood are like -/
def WOk (rs : List Rl) (P : Pths) : Prop := ∀ q ∈ P, (∀ r d i j, q.1 = .ru r d i j → r < rs.length) ∧ (q.2 ≠ [[]] → ∀ w ∈ q.2, w.length = 1 ∨ w.length = 2)
theorem RwsAt.butT {H H' : Hp} {d : Addr} {kvs : List (List Key × V)} {v : V} {rs : List Wr} (kd : H d = some (.dT kvs)) (f : ∀ b, b ≠ d → H' b = H b) (h : RwsAt H v rs) : RwsAt H' v rs := by
  obtain ⟨a, xs, e, h1, h2⟩ := h
  have up : ∀ {b : Addr} {o : HO}, H b = some o → (∀ k, o ≠ .dT k) → H' b = some o := fun {b o} q n => (f b fun z => by rw [z, kd] at q; cases q; exact n _ rfl).trans q
  exact ⟨a, xs, e, up h1 (fun _ z => nomatch z), h2.mono fun _ _ ⟨a, b, e, q1, q2⟩ => ⟨a, b, e, up q1 (fun _ z => nomatch z), up q2 (fun _ z => nomatch z)⟩⟩
theorem Kr.put {H H' : Hp} {d : Addr} {F : Wn} {kvs : List (List Key × V)} {n : Nd} {v : V} {rs : List Wr} (kd : H d = some (.dT kvs)) (hA : DAt (RwsAt H) kvs (F.map wkey)) (k2 : H' d = some (.dT (putK kvs (ndK n) v))) (f : ∀ b, b ≠ d → H' b = H b) (hv : RwsAt H v rs) (hn : lk F n = none) : Kr H' d (F ++ [(n, rs)]) := by
  refine ⟨_, k2, ?_⟩
  have := (hA.mono fun _ _ q => q.butT kd f).put (k := ndK n) (hv.butT kd f)
  rw [show (F ++ [(n, rs)]).map wkey = F.map wkey ++ [(ndK n, rs)] by rw [List.map_append]; rfl]
  have e : pt (F.map wkey) (ndK n) rs = F.map wkey ++ [(ndK n, rs)] := by
    unfold pt
    rw [if_neg (by rw [lk_wkey, hn]; exact Bool.false_ne_true)]
  rw [← e]
  exact this
def R_all_rows (K : PySem.W.Frag) (cs : Cs) : V → V → Hp → VK → XK → Prop := fun x y H Q _ => ∃ rs z top P m, WdAt H cs.Wood x rs z top P ∧ Pc P ∧ GoodG rs ∧ WOk rs P ∧ y = .int ((m : Nat) : Int) ∧ m ≤ 60 ∧ (∀ T, Settled P T → ∀ n ws, lk P n = some ws → n ∈ T) ∧
  ∀ d T H', Same H H' → H d = none → Settled P T → Kr H' d (knowW rs P m T) → Q (.ref d) H'
section
set_option hygiene false in
local macro_rules | `(tactic| top_name) => `(tactic| first | refine e_call (df_settled T) (hr.mono (by decide)) ?_ | refine e_call (df_first_rows T) (hr.mono (by decide)) ?_)
set_option hygiene false in
local macro_rules | `(tactic| kpc_turns) => `(tactic| first | refine e_methV0 T.c_Wood.cl (md_Wood_told_grammar T) (hr.mono (by decide)) rfl (by ki_room) rfl ?_ | refine e_methV0 T.c_Wood.cl (md_Wood_nodes T) (hr.mono (by decide)) rfl (by ki_room) rfl ?_ | refine e_methV T.c_Wood.cl (md_Wood_ways T) (hr.mono (by decide)) rfl (by ki_room) rfl ?_)
theorem ok_all_rows {f : Addr} {fd : FuncData} (F : Fun K "all_rows" "all_rows" s_all_rows f fd) (T : Txt K mg cs) : FnOk P w K mg base (L2.CX P w) 4 f fd ["wood", "many"] (sp2 (R_all_rows K cs)) := by
  refine F.okX sc_all_rows (fun vs H Q E h => sp2_len h) (fun cdv A outer s H vs Q E hr h => ⟨_, PBw (X := X_all_rows P w K mg base f cdv A outer s H E), ?_⟩)
  obtain ⟨a0, a1, rfl, h⟩ := h
  have ib_reversed := T.b_reversed
  have hr' : Room 3 (X_all_rows P w K mg base f cdv A outer s H E).A := hr
  replace hr := hr'
  clear hr'
  obtain ⟨rs, z, top, P, m, hW, hP, hG, hO, rfl, hm, hfree, h⟩ := h
  obtain ⟨vs, c, dx, la, pa, pk, kv0, rfl, hw⟩ := id hW
  have kI := hw.ins
  kxs_still
  refine ⟨vs, rs, z, c, dx, la, pa, pk, top, kv0, P, rfl, hw, fun lg H1 s1 n1 k1 => ?_⟩
  refine b_cons (s_set (e_dctT fun d H2 s2 n2 k2 f2 => ?_))
  have s02 := s1.trans s2
  have kI2 := s02 _ _ kI
  kxs_still
  refine s_for (j_list ?_)
  kxs_still
  refine ⟨rs, z, top, P, hW.more s02, hP, fun lt xs T' H3 s3 n3 k3 aT hT => ?_⟩
  have hxl := aT.len
  have kd3 := s3 _ _ k2
  have s03 := s02.trans s3
  have nd0 : ∀ {b : Addr} {o : HO}, H1 b = some o → b ≠ d := fun q w => by rw [w, n2] at q; cases q
  have ntd : lt ≠ d := fun w => by rw [w, kd3] at k3; cases k3
  refine ⟨lt, rfl, ⟨_, SqL.of k3⟩, _, _, _, walk_list (xs := xs), fun i σ' H' => ∃ v4, σ' = [some (.ref c), some (.int ((m : Nat) : Int)), some (.ref lg), some (.ref d), v4, none, none, none, none] ∧ (∀ x o, x ≠ d → H3 x = some o → H' x = some o) ∧ Kr H' d (knowW rs P m (T'.take i)), ⟨none, rfl, fun _ _ _ q => q, [], kd3, .nil⟩, fun _ _ _ _ ⟨_, _, f, _⟩ => SqL.of (f _ _ ntd k3), ?_, ?_⟩
  · rintro i x σ' H4 H5 hi ⟨v4, rfl, fr, hK⟩ ⟨rfl, hx⟩
    obtain ⟨n, hn, ⟨b, rfl, hb⟩⟩ := aT.get hx
    have hb5 : H5 b = some (.tup ((ndK n).map kV)) := fr b _ (fun w => by rw [w, kd3] at hb; cases hb) hb
    have s05 : Same H H5 := fun x o e => fr x o (nd0 (s1 _ _ e)) (s03 _ _ e)
    have s15 : Same H1 H5 := fun x o e => fr x o (nd0 e) (s3 _ _ (s2 _ _ e))
    have hw5 := hw.more s05
    have kI5 := hw5.ins
    obtain ⟨ws, hws⟩ := hT.sub n (List.mem_of_getElem? hn)
    kxs_still
    refine s_asg ?_
    kxs_still
    refine ⟨vs, rs, _, c, dx, la, pa, pk, top, kv0, P, b, ndK n, rfl, hw5, rfl, hb5, fun v H6 s6 fv hcc => ?_⟩
    obtain ⟨n', ws', en, hlk, w6⟩ := hcc.resolve_right fun w => w.1 n rfl (lk_key hws)
    cases ndK_inj en
    rw [hws] at hlk
    cases hlk
    have hb6 := s6 _ _ hb5
    have hmem := lk_mem hws
    have hwl := hP.wl _ hmem
    have hcl := hP.cl _ hmem
    have hok := knowW_ok (rs := rs) (P := P) hm (T'.take i)
    kxs_still
    refine ⟨lg, vs, rs, d, knowW rs P m (T'.take i), n, ws, m, rfl, SqL.of (s6 _ _ (s15 _ _ k1)), hw.ra.ts (Same.ts (s05.trans s6)), hG, rfl, hK.keep s6, ⟨b, rfl, hb6⟩, w6, rfl, hm, hwl.1, fun w hw' n' hn' => hP.ok _ (hcl w hw' n' hn'), ⟨fun r d' i' j e => (hO _ hmem).1 r d' i' j e, fun hne w hw' => ⟨(hO _ hmem).2 hne w hw', fun n' hn' => ?_⟩⟩, fun l7 xs7 H7 s7 n7 k7 hA7 => ?_⟩
    · have hin := hT.ord i n ws hn hws n' (List.mem_flatten.mpr ⟨w, hw', hn'⟩)
      have : n' ∈ (knowW rs P m (T'.take i)).map (·.1) := by rw [knowW_keys]; exact hin
      obtain ⟨rr, hr'⟩ := lk_has this
      exact ⟨rr, hr', (hok _ _ hr').1, fun r hr => ((hok _ _ hr').2 r hr).len⟩
    have hK7 := (hK.keep s6).keep s7
    obtain ⟨kvs7, kd7, hA7'⟩ := hK7
    have hb7 := s7 _ _ hb6
    have hlen7 := hA7'.len
    kxs_still
    refine g_setT (rm1 hr) ?_
    kxs_still
    refine ⟨_, _, _, _, rfl, kd7, rfl, hb7, ?_, fun H8 k8 f8 => ?_⟩
    · rw [List.length_map] at hlen7
      have e := congrArg List.length (knowW_keys rs P m (T'.take i))
      rw [List.length_map, List.length_take] at e
      have h9 := nodup_len hT.nd (m := P.map (·.1)) (fun n hn => by obtain ⟨ws, e⟩ := hT.sub n hn; exact lk_key e)
      rw [List.length_map] at h9
      have := hP.ln
      omega
    kxs_still
    have hnone : lk (knowW rs P m (T'.take i)) n = none := by
      rw [lk_none, knowW_keys]
      exact nd_new hT.nd hn
    refine ⟨_, rfl, fun x o hx q => (f8 x hx).trans (s7 _ _ (s6 _ _ (fr x o hx q))), ?_⟩
    rw [take_snoc hn, knowW_snoc]
    have := Kr.put kd7 hA7' k8 f8 ⟨l7, xs7, rfl, k7, hA7⟩ hnone
    unfold stepW
    rw [hws]
    exact this
  rintro σ' H4 ⟨v4, rfl, fr, hK⟩
  rw [hxl, List.take_length] at hK
  have s04 : Same H H4 := fun x o e => fr x o (nd0 (s1 _ _ e)) (s03 _ _ e)
  refine b_cons (s_set (e_dctT fun dw H5 s5 n5 k5 f5 => ?_))
  have s05 := s04.trans s5
  have hw5 := hw.more s05
  have kI5 := hw5.ins
  kxs_still
  refine s_for (j_rev ?_)
  kxs_still
  refine ⟨vs, rs, _, c, dx, la, pa, pk, top, kv0, P, rfl, hw5, fun ln xs6 H6 s6 n6 k6 aN => ?_⟩
  have kdw6 := s6 _ _ k5
  have hK6 := (hK.keep s5).keep s6
  kxs_still
  refine ⟨ln, xs6, rfl, SqL.of k6, _, _, _, walk_rev (xs := xs6), fun i σ' H' => ∃ v4, σ' = [some (.ref c), some (.int ((m : Nat) : Int)), some (.ref lg), some (.ref d), v4, some (.ref dw), none, none, none] ∧ Same H6 H', ⟨_, rfl, Same.refl _⟩, fun _ _ _ _ ⟨_, _, s⟩ => SqL.of (s _ _ k6), ?_, ?_⟩
  · rintro i x σ' H7 H8 hi ⟨v4, rfl, s8⟩ ⟨rfl, hx⟩
    obtain ⟨n, hn, ⟨b, rfl, hb⟩⟩ := aN.get hx
    obtain ⟨ws, hws⟩ := lk_has (List.mem_of_getElem? hn)
    have hin := hfree T' hT n ws hws
    obtain ⟨kvs8, kd8, hA8⟩ := hK6.keep s8
    have gk := DGet.t kd8 (s8 _ _ hb)
    have hsome : (valV kvs8 (ndK n)).isSome = true := by
      have : n ∈ (knowW rs P m T').map (·.1) := by rw [knowW_keys]; exact hin
      obtain ⟨rr, hr'⟩ := lk_has this
      obtain ⟨v, hv, _⟩ := (hA8.val (ndK n)).2 rr (by rw [lk_wkey]; exact hr')
      rw [hv]
      rfl
    kxs_still
    refine o_dni (rm1 hr) gk ?_
    rw [hsome]
    kxs_still
    exact ⟨_, rfl, s8⟩
  rintro σ' H7 ⟨v4, rfl, s7⟩
  have kdw7 := s7 _ _ kdw6
  refine b_cons (s_lock kdw7 trivial fun od H8 k8 f8 => ?_)
  refine s_for (j_keysT ?_)
  kxs_still
  refine ⟨_, _, _, rfl, k8, _, _, _, walk_keysT, fun i σ' H' => ∃ v5, σ' = [some (.ref c), some (.int ((m : Nat) : Int)), some (.ref lg), some (.ref d), v5, some (.ref dw), none, none, none] ∧ Same H8 H', ⟨_, rfl, Same.refl _⟩, fun _ _ _ _ ⟨_, _, s⟩ => s _ _ k8, ?_, ?_⟩
  · rintro i x σ' H9 H10 hi
    exact absurd hi (Nat.not_lt_zero _)
  rintro σ' H9 ⟨v5, rfl, s9⟩
  refine ⟨s9 _ _ k8, fun H10 k10 f10 => ?_⟩
  refine b_cons (s_set ?_)
  refine e_cmp ?_
  kt_eqs
  refine e_dctT fun d2 H11 s11 n11 k11 f11 => ?_
  refine o_neDT0 hr.units (s11 _ _ k10) k11 ?_
  kxs_still
  have s710 : Same H7 H10 := fun x o e => by
    by_cases c : x = dw
    · subst c
      rw [kdw7] at e
      cases e
      exact k10
    · exact (f10 x c).trans (s9 _ _ ((f8 x c).trans e))
  have s711 := s710.trans s11
  have hK11 := (hK6.keep s7).keep s711
  refine s_while (fun _ σ' H' => σ' = [some (.ref c), some (.int ((m : Nat) : Int)), some (.ref lg), some (.ref d), v5, some (.ref dw), some (.bl false), none, none] ∧ H' = H11) 0 ⟨rfl, rfl⟩ ?_
  rintro m' σ' H' ⟨rfl, rfl⟩
  kxs_still
  exact h d T' _ (s05.trans (s6.trans (s7.trans s711))) (s1.none n2) hT hK11
end
theorem df_all_rows (T : Txt K mg cs) : Df P w K mg base "all_rows" 4 ["wood", "many"] (sp2 (R_all_rows K cs)) := by
  obtain ⟨f, fd, hm, F, hb⟩ := T.f_all_rows.ex
  exact ⟨f, fd, hm, F.kp, hb, ok_all_rows F T⟩
/-- a list that a word does not see -/
theorem e_hide {X : Cx} {σ : L2.St} {H : Hp} {Q : VK} {e : Expr} {l : Addr} {xs : List V} (hl : H l = some (.lst xs)) (h0 : X.H_0 l = none) (h : eW X e σ (wo H l) fun v H' => H' l = none → Q v (upd H' l (.lst xs))) (hex : X.ex = [] := by rfl) : eW X e σ H Q := ⟨fun pins s I => by
  obtain ⟨hz, its, n, r, e0⟩ : ObjOk X.prog X.w H s.heap l (.lst xs) := I.hok l _ hl
  have s0 : X.s_0.heap.get? l = none := by
    cases q : X.s_0.heap.get? l with
    | none => rfl
    | some o => have := I.base.free l o q h0 (by rw [hex]; simp); rw [hl] at this; cases this
  have nfs : l ∉ X.fs := fun hm => by
    obtain ⟨_, o, ho, _⟩ := I.ok.funs.mem hm
    rw [s0] at ho; cases ho
  have nL : l ≠ X.env.locals := fun z => by rw [z, I.free] at hl; cases hl
  have no : ∀ {b : Addr} {o : HO}, H b = some o → (∀ ys, o ≠ .lst ys) → b ≠ l := fun {b o} q ne z => by rw [z, hl] at q; cases q; exact ne _ rfl
  have wn : ∀ {b : Addr}, H b = none → wo H l b = none := fun {b} q => by
    by_cases c : b = l
    · rw [c, wo_self]
    · rw [wo_ne c]; exact q
  have J : Inv X ((l, { cls := .type "list", data := .seq its.toArray n }) :: pins) σ (wo H l) s := {
    ok := I.ok, os := I.os, bare := I.bare
    base := { keep := I.base.keep, slot := I.base.slot, there := I.base.there
              free := fun b u q n x => wn (I.base.free b u q n x)
              tups := fun b ys q => by have t := I.base.tups b ys q; rw [wo_ne (no t fun _ z => nomatch z)]; exact t
              frzs := fun b u ys q => by have t := I.base.frzs b u ys q; rw [wo_ne (no t fun _ z => nomatch z)]; exact t
              tbls := fun b ps q => by obtain ⟨m, t⟩ := I.base.tbls b ps q; exact ⟨m, by rw [wo_ne (no t fun _ z => nomatch z)]; exact t⟩ }
    loc := I.loc, cell := I.cell, free := wn I.free
    freeC := fun x c q => wn (I.freeC x c q)
    pin := fun p hp => by
      have old : p ∈ X.pn ++ pins → _ := fun hp => by
        obtain ⟨q1, q2, q3⟩ := I.pin p hp
        exact (⟨q1, wn q2, q3⟩ : s.heap.get? p.1 = some p.2 ∧ wo H l p.1 = none ∧ p.1 ≠ X.env.locals ∧ p.1 ∉ X.fs ∧ ∀ v, p.2.data ≠ .cell v)
      rcases List.mem_append.mp hp with q | q
      · exact old (List.mem_append_left _ q)
      · rcases List.mem_cons.mp q with rfl | q
        · exact ⟨e0, wo_self, nL, nfs, fun v z => nomatch z⟩
        · exact old (List.mem_append_right _ q)
    hok := fun b u q => ObjOk.stay (I.hok b u (wo_in _ _ q)) (fun _ _ _ k => k) (fun b' k => by rw [wo_ne (no k fun _ z => nomatch z)]; exact k) fun b' ys k => by rw [wo_ne (no k fun _ z => nomatch z)]; exact k
    len := I.len }
  refine wpAny_mono (h.run _ s J) (fun u s1 ⟨v, H1, I1, rv, q⟩ => ?_) fun _ _ z => z
  obtain ⟨p1, p2, p3, p4, p5⟩ := I1.pin (l, { cls := .type "list", data := .seq its.toArray n }) (List.mem_append_right _ (List.mem_cons_self ..))
  have I2 : Inv X pins σ H1 s1 := { I1 with pin := fun p hp => I1.pin p (by
    rcases List.mem_append.mp hp with q | q
    · exact List.mem_append_left _ q
    · exact List.mem_append_right _ (List.mem_cons_of_mem _ q)) }
  exact ⟨v, upd H1 l (.lst xs), lay_old I2 p2 s0 nL (fun v ⟨o, k1, k2⟩ => by rw [p1] at k1; cases k1; exact p5 v k2) (fun p hp z => by have := (I.pin p hp).2.1; rw [z, hl] at this; cases this) ⟨hz, its, n, r, p1⟩, rv, q p2⟩⟩
theorem e_frz {X : Cx} {e : Expr} {σ : L2.St} {H : Hp} {Q : VK} (h : eW X e σ H fun x H1 => ∃ d kvs, x = .ref d ∧ H1 d = some (.dT kvs) ∧ ∀ od H2, H2 d = some (.frz od (.dT kvs)) → (∀ b, b ≠ d → H2 b = H1 b) → Q x H2) : eW X e σ H Q :=
  ⟨fun pins s I => wpAny_mono (h.run pins s I) (fun u s1 ⟨x, H1, I1, r, d, kvs, e1, k, q⟩ => by
    obtain ⟨od, I2⟩ := I1.lock k trivial
    exact ⟨x, _, I2, r, q od _ upd_same fun b hb => upd_ne hb⟩) fun _ _ z => z⟩
def NsAt (H : Hp) (v : V) (ns : List Nat) : Prop := ∃ a, v = .ref a ∧ H a = some (.lst (ns.map fun k => V.int ((k : Nat) : Int)))
theorem NsAt.more {H H' : Hp} {v : V} {ns : List Nat} (s : Same H H') (h : NsAt H v ns) : NsAt H' v ns := by
  obtain ⟨a, e, k⟩ := h
  exact ⟨a, e, s _ _ k⟩
theorem Kr.dget {H : Hp} {d b : Addr} {F : Wn} {n : Nd} {rs : List Wr} (h : Kr H d F) (hb : H b = some (.tup ((ndK n).map kV))) (e : lk F n = some rs) : ∃ a xs, DGet H d (.ref b) (some (.ref a)) ∧ H a = some (.lst xs) ∧ All2 (RwAt H) xs rs := h.get hb e
def R_told (K : PySem.W.Frag) (cs : Cs) : V → V → Hp → VK → XK → Prop := fun x y H Q _ => ∃ rs z P m n0 ws0, WdAt H cs.Wood x rs z (some n0) P ∧ Pc P ∧ GoodG rs ∧ WOk rs P ∧ y = .int ((m : Nat) : Int) ∧ m ≤ 60 ∧ (∀ T, Settled P T → ∀ n ws, lk P n = some ws → n ∈ T) ∧ lk P n0 = some ws0 ∧ (0 < m → ∀ T, Settled P T → ∀ rows, lk (knowW rs P m T) n0 = some rows → ∀ r ∈ rows, r.2.1 ≤ 1000) ∧
  ∀ (l : Addr) (vs : List V) (rows : List Wr) (H' : Hp), Same H H' → H l = none → H' l = some (.lst vs) → ((m = 0 ∧ rows = []) ∨ (0 < m ∧ ∃ T, Settled P T ∧ lk (knowW rs P m T) n0 = some rows)) → All2 (NsAt H') vs (rows.map (·.2.2)) → Q (.ref l) H'
section
set_option hygiene false in
local macro_rules | `(tactic| top_name) => `(tactic| first | refine e_call (df_all_rows T) (hr.mono (by decide)) ?_ | refine e_call (df_is_whole T) (hr.mono (by decide)) ?_)
set_option hygiene false in
local macro_rules | `(tactic| kpc_turns) => `(tactic| first | refine e_methV0 T.c_Wood.cl (md_Wood_top T) (hr.mono (by decide)) rfl (by ki_room) rfl ?_)
set_option hygiene false in
local macro_rules | `(tactic| top_raise) => `(tactic| first | refine s_raise T.x_NoNumber ?_ | refine s_raise T.x_TooGreat ?_)
theorem ok_told {f : Addr} {fd : FuncData} (F : FunD K "told" "told" (defArgs s_told) (defBody s_told) (defScope s_told) [V.int 60] [] f fd) (T : Txt K mg cs) : FnOk P w K mg base (L2.CX P w) 5 f fd ["wood", "many"] (sp2 (R_told K cs)) := by
  refine F.ok sc_told (fun vs H Q E h => sp2_len h) (fun cdv A outer s H vs Q E hr h => ⟨_, PBw (X := X_told P w K mg base f cdv A outer s H E), ?_⟩)
  obtain ⟨a0, a1, rfl, h⟩ := h
  obtain ⟨t_MOST, h_MOST⟩ := T.k_MOST
  have ib_MOST : Gn mg "MOST" (some _) := ⟨h_MOST⟩
  have ib_NoNumber : Gn mg "NoNumber" (some _) := ⟨T.x_NoNumber.mg⟩
  obtain ⟨t_LONGEST, h_LONGEST⟩ := T.k_LONGEST
  have ib_LONGEST : Gn mg "LONGEST" (some _) := ⟨h_LONGEST⟩
  have ib_TooGreat : Gn mg "TooGreat" (some _) := ⟨T.x_TooGreat.mg⟩
  have ib_list := T.b_list
  have hr' : Room 4 (X_told P w K mg base f cdv A outer s H E).A := hr
  replace hr := hr'
  clear hr'
  obtain ⟨rs, z, P, m, n0, ws0, hW, hP, hG, hO, rfl, hm, hfree, hn0, hsz, h0⟩ := h
  obtain ⟨vs, c, dx, la, pa, pk, kv0, rfl, hw⟩ := id hW
  obtain ⟨n0', en0, b, rfl, hb⟩ := hw.pk.resolve_left fun w => nomatch w.1
  cases en0
  have kI := hw.ins
  kxs_still
  refine ⟨_, .int _, ?_⟩
  kxs_still
  refine ⟨vs, rs, z, c, dx, la, pa, _, _, kv0, P, rfl, hw, ?_⟩
  kxs_still
  refine iteD (fun hc => ?_) fun hc => ?_
  · kxs_still
    intro l1 H1 s1 n1 k1 f1
    exact h0 l1 [] [] H1 s1 n1 k1 (.inl ⟨by omega, rfl⟩) .nil
  kxs_still
  intro l1 H1 s1 n1 k1 f1
  have kI1 := s1 _ _ kI
  have hb1 := s1 _ _ hb
  kxs_still
  refine s_for (j_list (e_hide k1 n1 ?_))
  have s1w : Same H (wo H1 l1) := wo_of n1 s1
  have hbw := s1w _ _ hb
  kxs_still
  refine ⟨rs, z, _, P, m, hW.more s1w, hP, hG, hO, rfl, hm, hfree, fun d T' H2' s2' n2 hT hK' => ?_⟩
  have hn0T := hfree T' hT n0 ws0 hn0
  obtain ⟨rows, hrows⟩ := lk_has (show n0 ∈ (knowW rs P m T').map (·.1) by rw [knowW_keys]; exact hn0T)
  have hb2' := s2' _ _ hbw
  obtain ⟨a, xs, g, ka', hA''⟩ := hK'.dget hb2' hrows
  have hxl := hA''.len
  have hra := knowW_ok (rs := rs) (P := P) hm T' n0 rows hrows
  kxs_still
  refine i_dget (rm1 hr) g fun nl2 => ?_
  have hal : a ≠ l1 := fun w => by rw [w, nl2] at ka'; cases ka'
  have kl2 : upd H2' l1 (.lst []) l1 = some (.lst []) := upd_same
  have s2u : Same H2' (wo (upd H2' l1 (.lst [])) l1) := fun x o e => by
    have c : x ≠ l1 := fun w => by rw [w, nl2] at e; cases e
    rw [wo_ne c, upd_ne c]
    exact e
  generalize upd H2' l1 (.lst []) = H2 at kl2 s2u ⊢
  have s12 : Same H (wo H2 l1) := s1w.trans (s2'.trans s2u)
  have hA' : All2 (RwAt (wo H2 l1)) xs rows := hA''.mono fun _ _ q => q.more s2u
  have ka : H2 a = some (.lst xs) := wo_in _ _ (s2u _ _ ka')
  refine ⟨a, rfl, ⟨_, SqL.of ka⟩, _, _, _, walk_list (xs := xs), fun i σ' H' => ∃ v4 v5 v6, σ' = [some (.ref c), some (.int ((m : Nat) : Int)), some (.ref b), some (.ref l1), v4, v5, v6] ∧ ∃ ys, H' l1 = some (.lst ys) ∧ Same (wo H2 l1) (wo H' l1) ∧ All2 (NsAt (wo H' l1)) ys ((rows.take i).map (·.2.2)), ⟨none, none, none, rfl, [], kl2, Same.refl _, .nil⟩, fun _ _ _ _ ⟨_, _, _, _, _, _, s, _⟩ => SqL.of (wo_in _ _ (s _ _ (by rw [wo_ne hal]; exact ka))), ?_, ?_⟩
  · rintro i x σ' H3 H4 hi ⟨v4, v5, v6, rfl, ys, kl, sl, hB⟩ ⟨rfl, hx⟩
    obtain ⟨r, hrr, hrx⟩ := hA'.get hx
    obtain ⟨t, p, rfl, kt, kp⟩ := hrx.more (sl.trans wo_in)
    have hr1000 := hsz (by omega) T' hT rows hrows r (List.mem_of_getElem? hrr)
    have hyl := hB.len
    rw [List.length_map, List.length_take] at hyl
    have hrl := hra.1
    kxs_still
    refine ⟨ty_l kl, ?_⟩
    kxs_still
    refine k_listL (.inl (SqL.of kp)) fun l5 H5 s5 n5 k5 f5 => ?_
    have kl5 := s5 _ _ kl
    have nl : l5 ≠ l1 := fun w => by rw [w, kl] at n5; cases n5
    kxs_still
    refine m_append kl5 (by omega) fun H6 k6 f6 => ?_
    have e6 : wo H6 l1 = wo H5 l1 := wo_but f6
    have w46 : Same (wo H4 l1) (wo H6 l1) := by rw [e6]; exact wo_same s5
    kxs_still
    refine ⟨_, _, _, rfl, _, k6, sl.trans w46, ?_⟩
    rw [take_snoc hrr, List.map_append]
    exact (hB.mono fun _ _ q => q.more w46).snoc ⟨l5, rfl, by rw [wo_ne nl, f6 _ nl]; exact k5⟩
  rintro σ' H3 ⟨v4, v5, v6, rfl, ys, kl, sl, hB⟩
  rw [show xs.length = rows.length from hxl, List.take_length] at hB
  kxs_still
  exact h0 l1 ys rows H3 ((s12.trans sl).trans wo_in) n1 kl (.inr ⟨by omega, T', hT, hrows⟩) (hB.mono fun _ _ q => q.more wo_in)
end
theorem df_told (T : Txt K mg cs) : Df P w K mg base "told" 5 ["wood", "many"] (sp2 (R_told K cs)) := by
  obtain ⟨f, fd, hm, F, hb, _⟩ := T.f_told.ex
  exact ⟨f, fd, hm, F.kp, hb, ok_told F T⟩
theorem dfd_told (T : Txt K mg cs) : DfD P w K mg base "told" 5 ["wood", "many"] [V.int 60] (sp2 (R_told K cs)) := by
  obtain ⟨f, fd, hm, F, _, hb⟩ := T.f_told.ex
  exact ⟨f, fd, hm, F.kp, hb, ok_told F T⟩
def R_best (K : PySem.W.Frag) (cs : Cs) : V → Hp → VK → XK → Prop := fun x H Q _ => ∃ rs z P n0 ws0, WdAt H cs.Wood x rs z (some n0) P ∧ Pc P ∧ GoodG rs ∧ WOk rs P ∧ (∀ T, Settled P T → ∀ n ws, lk P n = some ws → n ∈ T) ∧ lk P n0 = some ws0 ∧ (∀ T, Settled P T → ∀ rows, lk (knowW rs P 1 T) n0 = some rows → rows ≠ [] ∧ ∀ r ∈ rows, r.2.1 ≤ 1000) ∧
  ∀ v T r rows H', Same H H' → Settled P T → lk (knowW rs P 1 T) n0 = some (r :: rows) → NsAt H' v r.2.2 → Q v H'
section
set_option hygiene false in
local macro_rules | `(tactic| top_name) => `(tactic| first | refine e_call (es := [_]) (df_told T) (hr.mono (by decide)) ?_ | refine e_callD (es := []) (dfd_told T) (hr.mono (by decide)) ?_)
set_option hygiene false in
local macro_rules | `(tactic| top_raise) => `(tactic| first | refine s_raise T.x_NoRow ?_)
theorem ok_best {f : Addr} {fd : FuncData} (F : Fun K "best" "best" s_best f fd) (T : Txt K mg cs) : FnOk P w K mg base (L2.CX P w) 6 f fd ["wood"] (sp1 (R_best K cs)) := by
  refine F.okX sc_best (fun vs H Q E h => sp1_len h) (fun cdv A outer s H vs Q E hr h => ⟨_, PBw (X := X_best P w K mg base f cdv A outer s H E), ?_⟩)
  obtain ⟨a0, rfl, h⟩ := h
  have ib_NoRow : Gn mg "NoRow" (some _) := ⟨T.x_NoRow.mg⟩
  have hr' : Room 5 (X_best P w K mg base f cdv A outer s H E).A := hr
  replace hr := hr'
  clear hr'
  obtain ⟨rs, z, P, n0, ws0, hW, hP, hG, hO, hfree, hn0, hsz, h⟩ := h
  kxs_still
  refine ⟨rs, z, P, 1, n0, ws0, hW, hP, hG, hO, rfl, by decide, hfree, hn0, fun _ T' hT rows e => (hsz T' hT rows e).2, fun l vs rows H1 s1 n1 k1 hor hA => ?_⟩
  obtain ⟨_, T', hT, hrows⟩ := hor.resolve_left fun w => nomatch w.1
  kxs_still
  intro l2 H2 s2 n2 k2 f2
  refine o_eqNil hr.units (s2 _ _ k1) k2 ?_
  obtain ⟨hne, _⟩ := hsz T' hT rows hrows
  cases rows with
  | nil => exact absurd rfl hne
  | cons r rows =>
    rw [List.map_cons] at hA
    cases hA with
    | @cons v _ vs _ hv hA =>
      obtain ⟨t, rfl, kt⟩ := id hv
      have k12 := s2 _ _ k1
      kxs_still
      refine iteDF (List.cons_ne_nil _ _) ?_
      kxs_still
      refine h _ T' r rows H2 (s1.trans s2) hT hrows (hv.more s2)
end
theorem df_best (T : Txt K mg cs) : Df P w K mg base "best" 6 ["wood"] (sp1 (R_best K cs)) := by
  obtain ⟨f, fd, hm, F, hb⟩ := T.f_best.ex
  exact ⟨f, fd, hm, F.kp, hb, ok_best F T⟩
def PrAt (H : Hp) (v : V) (p : Nat × Nat) : Prop := ∃ a, v = .ref a ∧ H a = some (.tup [.int ((p.1 : Nat) : Int), .int ((p.2 : Nat) : Int)])
def pkey (q : Nd × List Wr) : List Key × (Nat × Nat) := (ndK q.1, ((q.2.head?.map fun r => (r.1, r.2.1)).getD (0, 0)))
def Pr (H : Hp) (d : Addr) (F : Wn) : Prop := ∃ kvs, H d = some (.dT kvs) ∧ DAt (PrAt H) kvs (F.map pkey)
theorem pkey_none : ∀ {F : Wn} {n : Nd}, lk F n = none → lk (F.map pkey) (ndK n) = none
  | [], _, _ => rfl
  | p :: F, n, h => by
    have h : (if p.1 = n then some p.2 else lk F n) = none := h
    by_cases c : p.1 = n
    · rw [if_pos c] at h; cases h
    · rw [if_neg c] at h
      show (if ndK p.1 = ndK n then some (pkey p).2 else lk (F.map pkey) (ndK n)) = none
      rw [if_neg fun z => c (ndK_inj z)]
      exact pkey_none h
def R_prices (K : PySem.W.Frag) (cs : Cs) : V → Hp → VK → XK → Prop := fun x H Q _ => ∃ rs z top P, WdAt H cs.Wood x rs z top P ∧ Pc P ∧ GoodG rs ∧ WOk rs P ∧ (∀ T, Settled P T → ∀ n ws, lk P n = some ws → n ∈ T) ∧ (∀ T, Settled P T → ∀ n rows, lk (knowW rs P 1 T) n = some rows → rows ≠ []) ∧
  ∀ d T H', Same H H' → H d = none → Settled P T → Pr H' d (knowW rs P 1 T) → Q (.ref d) H'
section
set_option hygiene false in
local macro_rules | `(tactic| top_name) => `(tactic| first | refine e_call (df_all_rows T) (hr.mono (by decide)) ?_)
theorem ok_prices {f : Addr} {fd : FuncData} (F : Fun K "prices" "prices" s_prices f fd) (T : Txt K mg cs) : FnOk P w K mg base (L2.CX P w) 5 f fd ["wood"] (sp1 (R_prices K cs)) := by
  refine F.okX sc_prices (fun vs H Q E h => sp1_len h) (fun cdv A outer s H vs Q E hr h => ⟨_, PBw (X := X_prices P w K mg base f cdv A outer s H E), ?_⟩)
  obtain ⟨a0, rfl, h⟩ := h
  have hr' : Room 4 (X_prices P w K mg base f cdv A outer s H E).A := hr
  replace hr := hr'
  clear hr'
  obtain ⟨rs, z, top, P, hW, hP, hG, hO, hfree, hne, h⟩ := h
  obtain ⟨vs0, c, dx, la, pa, pk, kv0, rfl, hw⟩ := id hW
  refine b_cons (s_set (e_dctT fun d0 H1 s1 n1 k1 f1 => ?_))
  kxs_still
  refine s_for (j_itemsT (e_frz ?_))
  kxs_still
  refine ⟨rs, z, top, P, 1, hW.more s1, hP, hG, hO, rfl, by decide, hfree, fun d T' H2 s2 n2 hT hK => ?_⟩
  obtain ⟨kvs, kd, hA⟩ := id hK
  have hlen := hA.len
  rw [List.length_map] at hlen
  refine ⟨d, kvs, rfl, kd, fun od H3 k3 f3 => ?_⟩
  have k02 := s2 _ _ k1
  have ndd : d0 ≠ d := fun w => by rw [w, n2] at k1; cases k1
  have k03 : H3 d0 = some (.dT []) := (f3 d0 ndd).trans k02
  have up3 : ∀ {b : Addr} {o : HO}, H2 b = some o → (∀ k, o ≠ .dT k) → H3 b = some o := fun {b o} q n => (f3 b fun z => by rw [z, kd] at q; cases q; exact n _ rfl).trans q
  kxs_still
  refine ⟨_, _, _, rfl, k3, _, _, _, walk_itemsT, fun i σ' H' => ∃ v2 v3, σ' = [some (.ref c), some (.ref d0), v2, v3] ∧ (∀ x o, x ≠ d0 → H3 x = some o → H' x = some o) ∧ Pr H' d0 ((knowW rs P 1 T').take i), ⟨none, none, rfl, fun _ _ _ q => q, [], k03, .nil⟩, fun _ _ _ _ ⟨_, _, _, f, _⟩ => f _ _ ndd.symm k3, ?_, ?_⟩
  · rintro i x' σ' H4 H5 hi ⟨v2, v3, rfl, fr, hPr⟩ ⟨T1, k, v, q, hkv, rfl, nT, hq, rfl⟩
    have kT : (upd H4 T1 (.tup [.ref q, v])) T1 = some (.tup [.ref q, v]) := upd_same
    have sT := sameU (o := .tup [.ref q, v]) nT
    generalize upd H4 T1 (.tup [.ref q, v]) = H5 at kT sT
    obtain ⟨f9, hf9, ek, hrw⟩ := All2.get hA hkv
    obtain ⟨⟨n, rows⟩, hn, e9⟩ := map_get' hf9
    cases e9
    have ek : k = ndK n := ek
    subst ek
    have hkeys := knowW_keys rs P 1 T'
    have hlk : lk (knowW rs P 1 T') n = some rows := lk_nd (by rw [hkeys]; exact hT.nd) (List.mem_of_getElem? hn)
    have hrne := hne T' hT n rows hlk
    obtain ⟨a, xs, rfl, ka, hX⟩ := hrw
    cases rows with
    | nil => exact absurd rfl hrne
    | cons r rows =>
    cases hX with
    | @cons v0 _ xs _ hv hX =>
    obtain ⟨t, p, rfl, kt, kp⟩ := hv
    have nd0 : ∀ {b : Addr} {o : HO}, H2 b = some o → (∀ k, o ≠ .dT k) → H5 b = some o := fun {b o} q n => sT _ _ (fr _ _ (fun z => by rw [z, k02] at q; cases q; exact n _ rfl) (up3 q n))
    have ka5 := nd0 ka fun _ w => nomatch w
    have kt5 := nd0 kt fun _ w => nomatch w
    have hq5 := sT _ _ hq
    kxs_still
    refine s_asg ?_
    kxs_still
    intro t6 H6 s6 n6 k6 f6
    have hPr6 : Pr H6 d0 ((knowW rs P 1 T').take i) := by
      obtain ⟨kvp, kp0, hp⟩ := hPr
      exact ⟨kvp, s6 _ _ (sT _ _ kp0), hp.mono fun _ _ ⟨a, e, w⟩ => ⟨a, e, s6 _ _ (sT _ _ w)⟩⟩
    obtain ⟨kvp, kp0, hp⟩ := hPr6
    have hpl := hp.len
    have hq6 := s6 _ _ hq5
    kxs_still
    refine g_setT (rm1 hr) ?_
    kxs_still
    refine ⟨_, _, _, _, rfl, kp0, rfl, hq6, ?_, fun H7 k7 f7 => ?_⟩
    · rw [List.length_map, List.length_take] at hpl
      have e := congrArg List.length hkeys
      rw [List.length_map] at e
      have h9 := nodup_len hT.nd (m := P.map (·.1)) (fun n hn => by obtain ⟨ws, e⟩ := hT.sub n hn; exact lk_key e)
      rw [List.length_map] at h9
      have := hP.ln
      omega
    kxs_still
    refine ⟨_, _, rfl, fun x o hx w => (f7 x hx).trans (s6 _ _ (sT _ _ (fr x o hx w))), ?_⟩
    have up7 : ∀ {v : V} {p : Nat × Nat}, PrAt H6 v p → PrAt H7 v p := fun {v p} ⟨a, e, w⟩ => ⟨a, e, (f7 a fun z => by rw [z, kp0] at w; cases w).trans w⟩
    refine ⟨_, k7, ?_⟩
    have hnone : lk (((knowW rs P 1 T').take i).map pkey) (ndK n) = none := pkey_none (by
      rw [lk_none, List.map_take, hkeys]
      have : (T')[i]? = some n := by rw [← hkeys, List.getElem?_map, hn]; rfl
      exact nd_new hT.nd this)
    have hput := (hp.mono fun _ _ w => up7 w).put (k := ndK n) (up7 (p := (r.1, r.2.1)) ⟨t6, rfl, k6⟩)
    rw [take_snoc hn, show ((knowW rs P 1 T').take i ++ [(n, r :: rows)]).map pkey = ((knowW rs P 1 T').take i).map pkey ++ [(ndK n, (r.1, r.2.1))] by rw [List.map_append]; rfl]
    have e : pt (((knowW rs P 1 T').take i).map pkey) (ndK n) (r.1, r.2.1) = ((knowW rs P 1 T').take i).map pkey ++ [(ndK n, (r.1, r.2.1))] := by
      unfold pt
      rw [if_neg (by rw [hnone]; exact Bool.false_ne_true)]
    rw [← e]
    exact hput
  rintro σ' H4 ⟨v2, v3, rfl, fr, hPr⟩
  rw [hlen, List.take_length] at hPr
  kxs_still
  exact h d0 T' H4 (fun x o e => fr x o (fun w => by rw [w, n1] at e; cases e) ((f3 x fun w => by have := s1 _ _ e; rw [w] at this; rw [this] at n2; cases n2).trans (s2 _ _ (s1 _ _ e)))) n1 hT hPr

end
theorem df_prices (T : Txt K mg cs) : Df P w K mg base "prices" 5 ["wood"] (sp1 (R_prices K cs)) := by
  obtain ⟨f, fd, hm, F, hb⟩ := T.f_prices.ex
  exact ⟨f, fd, hm, F.kp, hb, ok_prices F T⟩
/-- a comprehension whose elements are objects of many kinds, new ones or such as stood ahead of its list -/
theorem lcW_h {X : Cx} {σ : L2.St} {H : Hp} {it tg elt : Expr} {sc : Scope} {own : List (Str × Nat)} {R : Addr → Hp → Prop} (Pr : Nat → V → Hp → Prop) (hP : ∀ i y H H', Same H H' → Pr i y H → Pr i y H')
    (h : jW X tg it σ H fun J H1 => ∃ n G Y, Walk J n G Y ∧ n ≤ 100000 ∧ (∀ H', Same H1 H' → G H') ∧
      (∀ i x H' H2, i < n → Same H1 H' → Y i H' x H2 → Same H' H2 ∧ gB X sc tg x (wipe σ (own.map (·.2))) H2 fun σ3 H3 => wipe σ3 (own.map (·.2)) = wipe σ (own.map (·.2)) ∧ Same H2 H3 ∧ eB X sc elt σ3 H3 fun y H4 => (∀ D o, H3 D = some o → H1 D = none → Pr i y (wo H4 D)) ∧ Same H3 H4) ∧
      ∀ l H' ys, Same H1 H' → H1 l = none → H' l = some (.lst ys) → ys.length = n → (∀ i y, ys[i]? = some y → Pr i y (wo H' l)) → R l H') :
    jW X tg it σ H fun J H1 => ∃ n G Y, Walk J n G Y ∧ ∀ D, H1 D = none → ∃ Pv : Nat → Hp → Prop, Pv 0 (upd H1 D (.lst [])) ∧ (∀ i H', i ≤ n → Pv i H' → G H') ∧
      (∀ i x H' H2, i < n → Pv i H' → Y i H' x H2 → gB X sc tg x (wipe σ (own.map (·.2))) H2 fun σ3 H3 => wipe σ3 (own.map (·.2)) = wipe σ (own.map (·.2)) ∧ eB X sc elt σ3 H3 fun y H4 => ∃ acc, H4 D = some (.lst acc) ∧ acc.length < sizeLine ∧ Pv (i + 1) (upd H4 D (.lst (acc ++ [y])))) ∧
      ∀ H', Pv n H' → R D H' := by
  refine ⟨fun pins s I => wpAny_mono (h.run pins s I) (fun v s1 q => wpAny_mono q (fun u s2 ⟨i, fp, tn, J, H2, e, I2, T, t0, f2, n, G, Y, w, hn, q1, q2, q3⟩ => ⟨i, fp, tn, J, H2, e, I2, T, t0, f2, n, G, Y, w, fun D' hD => ⟨fun i H' => Same H2 H' ∧ ∃ acc, H' D' = some (.lst acc) ∧ acc.length = i ∧ ∀ j z, acc[j]? = some z → Pr j z (wo H' D'), ⟨sameU hD, [], upd_same, rfl, by simp⟩, fun _ _ _ p => q1 _ p.1, fun i x H' H3 hi p y s0 H0 C cl fp => ?_, fun H' p => by
    obtain ⟨p1, acc, p2, p3, p4⟩ := p
    exact q3 D' H' acc p1 hD p2 p3 p4⟩⟩) fun _ _ z => z) fun _ _ z => z⟩
  obtain ⟨k1, k2⟩ := q2 i x H' H3 hi p.1 y
  obtain ⟨p1, acc, p2, p3, p4⟩ := p
  refine ⟨fun pins s' u I r => wpAny_mono ((k2 s0 H0 C cl fp).run pins s' u I r) (fun _ s'' ⟨σ', H'', I'', e1, e2, e3⟩ => ⟨σ', H'', I'', e1, fun s0 H0 C cl fp => ⟨fun pins s' I => wpAny_mono ((e3 s0 H0 C cl fp).run pins s' I) (fun u s4 ⟨v4, H4, I4, r4, ev, e4⟩ => ⟨v4, H4, I4, r4, acc, e4 _ _ (e2 _ _ (k1 _ _ p2)), ?_, ?_, acc ++ [v4], upd_same, ?_, ?_⟩) fun _ _ z => z⟩⟩) fun _ _ z => z⟩
  · rw [p3]
    exact Nat.lt_of_lt_of_le (Nat.lt_of_lt_of_le hi hn) (by decide)
  · intro b o e
    rw [upd_ne (ne_of_none e hD)]
    exact e4 _ _ (e2 _ _ (k1 _ _ (p1 _ _ e)))
  · rw [List.length_append, p3]; rfl
  · have eW : wo (upd H4 D' (.lst (acc ++ [v4]))) D' = wo H4 D' := wo_but fun b hb => upd_ne hb
    intro j z hz
    rw [eW]
    by_cases hj : j < i
    · rw [List.getElem?_append_left (by omega)] at hz
      exact hP _ _ _ _ (wo_same (k1.trans (e2.trans e4))) (p4 j z hz)
    · rw [List.getElem?_append_right (by omega), p3] at hz
      have hj2 : j = i := by
        have := (List.getElem?_eq_some_iff.mp hz).1
        simp at this
        omega
      subst hj2
      simp at hz
      rw [← hz]
      exact ev D' _ (e2 _ _ (k1 _ _ p2)) hD
theorem e_lcW {X : Cx} {σ : L2.St} {H : Hp} {Q : VK} {pos : Pos} {it tg elt : Expr} {sc : Scope} {N : List Str} {own : List (Str × Nat)} [cc : CxC X] [cn : CxN X N] [nd : NdN N] (ok : BlkOk N X.env.scope sc own) (Pr : Nat → V → Hp → Prop) (hP : ∀ i y H H', Same H H' → Pr i y H → Pr i y H')
    (h : jW X tg it σ H fun J H1 => ∃ n G Y, Walk J n G Y ∧ n ≤ 100000 ∧ (∀ H', Same H1 H' → G H') ∧
      (∀ i x H' H2, i < n → Same H1 H' → Y i H' x H2 → Same H' H2 ∧ gB X sc tg x (wipe σ (own.map (·.2))) H2 fun σ3 H3 => wipe σ3 (own.map (·.2)) = wipe σ (own.map (·.2)) ∧ Same H2 H3 ∧ eB X sc elt σ3 H3 fun y H4 => (∀ D o, H3 D = some o → H1 D = none → Pr i y (wo H4 D)) ∧ Same H3 H4) ∧
      ∀ l H' ys, Same H1 H' → H1 l = none → H' l = some (.lst ys) → ys.length = n → (∀ i y, ys[i]? = some y → Pr i y (wo H' l)) → Q (.ref l) H') (hs : ∀ x, foldedSetIterable it X.env x = pure x := by intro _; rfl) : eW X (.ListComp elt [⟨tg, it, [], 0⟩] sc pos) σ H Q :=
  e_lc ok (lcW_h (R := fun l H' => Q (.ref l) H') Pr hP h) hs

/-! ### the order of rows; the first many of all -/
theorem leW_iff {a b : Wr} : leW a b = true ↔ ¬ LtW b a := by
  unfold leW
  rw [Bool.not_eq_true', decide_eq_false_iff_not]
theorem ltW_irr (a : Wr) : ¬ LtW a a := by
  rintro (h | ⟨_, h | ⟨_, h⟩⟩)
  · omega
  · omega
  · exact List.lt_irrefl _ h
theorem ltW_trans {a b c : Wr} (h : LtW a b) (k : LtW b c) : LtW a c := by
  unfold LtW at *
  rcases h with h | ⟨h1, h | ⟨h2, h⟩⟩ <;> rcases k with k | ⟨k1, k | ⟨k2, k⟩⟩
  · left; omega
  · left; omega
  · left; omega
  · left; omega
  · right; exact ⟨by omega, .inl (by omega)⟩
  · right; exact ⟨by omega, .inl (by omega)⟩
  · left; omega
  · right; exact ⟨by omega, .inl (by omega)⟩
  · right; exact ⟨by omega, .inr ⟨by omega, List.lt_trans h k⟩⟩
theorem ltW_tri (a b : Wr) : LtW a b ∨ a = b ∨ LtW b a := by
  obtain ⟨a1, a2, a3⟩ := a
  obtain ⟨b1, b2, b3⟩ := b
  by_cases h1 : a1 = b1
  · subst h1
    by_cases h2 : a2 = b2
    · subst h2
      by_cases h3 : a3 < b3
      · exact .inl (.inr ⟨rfl, .inr ⟨rfl, h3⟩⟩)
      · by_cases h4 : b3 < a3
        · exact .inr (.inr (.inr ⟨rfl, .inr ⟨rfl, h4⟩⟩))
        · have : a3 = b3 := List.le_antisymm h4 h3
          exact .inr (.inl (by rw [this]))
    · rcases Nat.lt_or_gt_of_ne h2 with h | h
      · exact .inl (.inr ⟨rfl, .inl h⟩)
      · exact .inr (.inr (.inr ⟨rfl, .inl h⟩))
  · rcases Nat.lt_or_gt_of_ne h1 with h | h
    · exact .inl (.inl h)
    · exact .inr (.inr (.inl h))
theorem leW_trans (a b c : Wr) (h : leW a b = true) (k : leW b c = true) : leW a c = true := by
  rw [leW_iff] at *
  intro q
  rcases ltW_tri b c with t | t | t
  · exact h (ltW_trans t q)
  · subst t; exact h q
  · exact k t
theorem leW_total (a b : Wr) : (leW a b || leW b a) = true := by
  rw [Bool.or_eq_true, leW_iff, leW_iff]
  by_cases h : LtW b a
  · exact .inr fun k => ltW_irr _ (ltW_trans h k)
  · exact .inl h
theorem leW_anti {a b : Wr} (h : leW a b = true) (k : leW b a = true) : a = b := by
  rw [leW_iff] at h k
  rcases ltW_tri a b with t | t | t
  · exact absurd t k
  · exact t
  · exact absurd t h
theorem leW_refl (a : Wr) : leW a a = true := leW_iff.mpr (ltW_irr a)
def SrtW (l : List Wr) : Prop := l.Pairwise fun a b => leW a b = true
theorem srt_sort (l : List Wr) : SrtW (l.mergeSort leW) := List.pairwise_mergeSort leW_trans leW_total l
theorem srt_eq {l r : List Wr} (h : SrtW l) (k : SrtW r) (p : l.Perm r) : l = r := p.eq_of_pairwise (fun _ _ _ _ => leW_anti) h k
theorem sort_perm {l r : List Wr} (p : l.Perm r) : l.mergeSort leW = r.mergeSort leW :=
  srt_eq (srt_sort l) (srt_sort r) ((List.mergeSort_perm l leW).trans (p.trans (List.mergeSort_perm r leW).symm))
theorem sort_srt {l : List Wr} (h : SrtW l) : l.mergeSort leW = l := List.mergeSort_of_pairwise h
/-- the first m of the sorted rows -/
def topW (m : Nat) (l : List Wr) : List Wr := (l.mergeSort leW).take m
theorem topW_perm {m : Nat} {l r : List Wr} (p : l.Perm r) : topW m l = topW m r := by
  unfold topW
  rw [sort_perm p]
theorem topW_srt (m : Nat) (l : List Wr) : SrtW (topW m l) := (srt_sort l).sublist (List.take_sublist ..)
theorem topW_len (m : Nat) (l : List Wr) : (topW m l).length = min m l.length := by
  unfold topW
  rw [List.length_take, List.length_mergeSort]
theorem topW_mem {m : Nat} {l : List Wr} {x : Wr} (h : x ∈ topW m l) : x ∈ l := (List.mergeSort_perm l leW).mem_iff.mp (List.mem_of_mem_take h)
def cntW (d : Wr) (l : List Wr) : Nat := (l.filter fun x => leW x d).length
theorem cntW_app (d : Wr) (l r : List Wr) : cntW d (l ++ r) = cntW d l + cntW d r := by
  unfold cntW
  rw [List.filter_append, List.length_append]
theorem cntW_all {d : Wr} : ∀ {l : List Wr}, (∀ x ∈ l, leW x d = true) → cntW d l = l.length
  | [], _ => rfl
  | a :: l, h => by
    have ih := cntW_all (d := d) (l := l) fun x hx => h x (List.mem_cons_of_mem _ hx)
    unfold cntW at *
    rw [List.filter_cons_of_pos (by exact h a (List.mem_cons_self ..)), List.length_cons, List.length_cons, ih]
/-- in a sorted list with that many at most d, the first ones are at most d -/
theorem srt_cnt : ∀ {l : List Wr} {d : Wr} {m : Nat}, SrtW l → m ≤ cntW d l → m ≤ l.length ∧ ∀ x ∈ l.take m, leW x d = true
  | [], d, m, _, h => ⟨h, fun x hx => by rw [List.take_nil] at hx; cases hx⟩
  | a :: l, d, 0, _, _ => ⟨Nat.zero_le _, fun x hx => by cases hx⟩
  | a :: l, d, m + 1, hs, h => by
    obtain ⟨h1, h2⟩ := List.pairwise_cons.mp hs
    by_cases c : leW a d = true
    · have e : cntW d (a :: l) = cntW d l + 1 := by
        unfold cntW
        rw [List.filter_cons_of_pos (by exact c), List.length_cons]
      obtain ⟨q1, q2⟩ := srt_cnt (l := l) (d := d) (m := m) h2 (by omega)
      refine ⟨by rw [List.length_cons]; omega, fun x hx => ?_⟩
      rw [List.take_succ_cons] at hx
      rcases List.mem_cons.mp hx with rfl | hx
      · exact c
      · exact q2 x hx
    · have e : cntW d (a :: l) = 0 := by
        unfold cntW
        rw [List.length_eq_zero_iff, List.filter_eq_nil_iff]
        intro x hx q
        rcases List.mem_cons.mp hx with rfl | hx
        · exact c q
        · exact c (leW_trans _ _ _ (h1 x hx) q)
      omega
theorem cntW_perm {d : Wr} {l r : List Wr} (p : l.Perm r) : cntW d l = cntW d r := (p.filter _).length_eq
/-- one that has m others ahead of it does not count -/
theorem topW_one {m : Nat} {l : List Wr} {d : Wr} (h : m ≤ cntW d l) : topW m (d :: l) = topW m l := by
  unfold topW
  have hs := srt_sort l
  rw [← cntW_perm (List.mergeSort_perm l leW)] at h
  have hp : (d :: l).Perm (d :: l.mergeSort leW) := (List.mergeSort_perm l leW).symm.cons d
  rw [sort_perm hp]
  generalize l.mergeSort leW = s at hs h ⊢
  obtain ⟨h1, h2⟩ := srt_cnt hs h
  have e : (d :: s).Perm (s.take m ++ (d :: s.drop m)) := by
    have := (List.perm_middle (a := d) (l₁ := s.take m) (l₂ := s.drop m)).symm
    rwa [List.take_append_drop] at this
  rw [sort_perm e]
  have hs2 : SrtW (s.take m ++ (d :: s.drop m).mergeSort leW) := by
    refine List.pairwise_append.mpr ⟨hs.sublist (List.take_sublist ..), srt_sort _, fun a ha b hb => ?_⟩
    have hb := (List.mergeSort_perm (d :: s.drop m) leW).mem_iff.mp hb
    rcases List.mem_cons.mp hb with rfl | hb
    · exact h2 a ha
    · have q := hs
      rw [← List.take_append_drop m s] at q
      exact (List.pairwise_append.mp q).2.2 a ha b hb
  have e2 : (s.take m ++ (d :: s.drop m)).mergeSort leW = s.take m ++ (d :: s.drop m).mergeSort leW :=
    srt_eq (srt_sort _) hs2 ((List.mergeSort_perm _ leW).trans ((List.mergeSort_perm (d :: s.drop m) leW).symm.append_left _))
  rw [e2, List.take_left' (by rw [List.length_take]; omega)]
theorem topW_app_top {m : Nat} : ∀ (l r : List Wr), topW m (topW m l ++ r) = topW m (l ++ r) := by
  intro l r
  have hs := srt_sort l
  have p1 : (l ++ r).Perm (l.mergeSort leW ++ r) := (List.mergeSort_perm l leW).symm.append_right r
  rw [topW_perm p1]
  show topW m ((l.mergeSort leW).take m ++ r) = _
  generalize l.mergeSort leW = s at hs ⊢
  have go : ∀ (k : Nat), m ≤ k → topW m (s.take k ++ r) = topW m (s.take m ++ r) := by
    intro k
    induction k with
    | zero => intro h; rw [Nat.le_zero.mp h]
    | succ k ih =>
      intro h
      by_cases c : m ≤ k
      · rw [← ih c]
        by_cases c2 : k < s.length
        · have e : s.take (k + 1) = s.take k ++ [s[k]] := by rw [List.take_add_one, List.getElem?_eq_getElem c2]; rfl
          have p : (s.take (k + 1) ++ r).Perm (s[k] :: (s.take k ++ r)) := by
            rw [e, List.append_assoc]
            exact List.perm_middle
          rw [topW_perm p]
          refine topW_one ?_
          rw [cntW_app, cntW_all fun x hx => ?_]
          · rw [List.length_take]; omega
          · obtain ⟨i, hi, rfl⟩ := List.mem_iff_getElem.mp hx
            rw [List.length_take] at hi
            rw [List.getElem_take]
            exact List.pairwise_iff_getElem.mp hs i k (by omega) c2 (by omega)
        · rw [List.take_of_length_le (by omega), List.take_of_length_le (by omega)]
      · rw [show k + 1 = m by omega]
  rw [← go (max m s.length) (by omega), List.take_of_length_le (by omega)]
theorem topW_top (m : Nat) (l : List Wr) : topW m (topW m l) = topW m l := by
  have := topW_app_top (m := m) l []
  rwa [List.append_nil, List.append_nil] at this
/-! ### pairs -/
def prodW (A B : List Wr) : List Wr := A.flatMap fun a => B.map fun b => putW a b
def fullW (l r : List Wr) (k : Nat) : List Wr := (List.range k).flatMap fun i => r.map fun o => putW (l[i]?.getD (0, 0, [])) o
/-- putting together keeps the order -/
structure MonoW (A B : List Wr) : Prop where
  l : ∀ a ∈ A, ∀ a' ∈ A, ∀ b ∈ B, leW a a' = true → leW (putW a b) (putW a' b) = true
  r : ∀ a ∈ A, ∀ b ∈ B, ∀ b' ∈ B, leW b b' = true → leW (putW a b) (putW a b') = true
theorem MonoW.sub {A B A' B' : List Wr} (h : MonoW A B) (ha : ∀ x ∈ A', x ∈ A) (hb : ∀ x ∈ B', x ∈ B) : MonoW A' B' :=
  ⟨fun a m a' m' b n => h.l a (ha a m) a' (ha a' m') b (hb b n), fun a m b n b' n' => h.r a (ha a m) b (hb b n) b' (hb b' n')⟩
theorem joinW_succ' (l r : List Wr) (m k : Nat) : joinW l r m (k + 1) = joinW l r m k ++ (r.take (m / (k + 1))).map fun o => putW (l[k]?.getD (0, 0, [])) o := by
  unfold joinW
  rw [List.range_succ, List.flatMap_append]
  simp only [List.flatMap_cons, List.flatMap_nil, List.append_nil]
theorem fullW_succ (l r : List Wr) (k : Nat) : fullW l r (k + 1) = fullW l r k ++ r.map fun o => putW (l[k]?.getD (0, 0, [])) o := by
  unfold fullW
  rw [List.range_succ, List.flatMap_append]
  simp only [List.flatMap_cons, List.flatMap_nil, List.append_nil]
theorem full_cnt {L R : List Wr} (hL : SrtW L) (hR : SrtW R) (mo : MonoW L R) {k j : Nat} (hk : k < L.length) (hj : j < R.length) : ∀ i, i ≤ k → i * (j + 1) ≤ cntW (putW L[k] R[j]) (fullW L R i) := by
  intro i
  induction i with
  | zero => intro _; rw [Nat.zero_mul]; exact Nat.zero_le _
  | succ i ih =>
    intro h
    have hi : L[i]?.getD (0, 0, []) = L[i] := by rw [List.getElem?_eq_getElem (by omega)]; rfl
    rw [fullW_succ, cntW_app, Nat.succ_mul, hi]
    refine Nat.add_le_add (ih (by omega)) ?_
    have e : R.map (fun o => putW L[i] o) = (R.take (j + 1)).map (fun o => putW L[i] o) ++ (R.drop (j + 1)).map (fun o => putW L[i] o) := by
      rw [← List.map_append, List.take_append_drop]
    rw [e, cntW_app, cntW_all fun x hx => ?_]
    · rw [List.length_map, List.length_take]; omega
    · obtain ⟨b, hb, rfl⟩ := List.mem_map.mp hx
      obtain ⟨q, hq, rfl⟩ := List.mem_iff_getElem.mp hb
      rw [List.length_take] at hq
      rw [List.getElem_take]
      have l1 : leW L[i] L[k] = true := List.pairwise_iff_getElem.mp hL i k (by omega) hk (by omega)
      have l2 : leW R[q] R[j] = true := by
        by_cases c : q = j
        · subst c; exact leW_refl _
        · exact List.pairwise_iff_getElem.mp hR q j (by omega) hj (by omega)
      exact leW_trans _ _ _ (mo.l _ (List.getElem_mem _) _ (List.getElem_mem _) _ (List.getElem_mem _) l1) (mo.r _ (List.getElem_mem _) _ (List.getElem_mem _) _ (List.getElem_mem _) l2)
theorem join_full {L R : List Wr} {m : Nat} (hL : SrtW L) (hR : SrtW R) (mo : MonoW L R) : ∀ k, k ≤ L.length → ∀ E, topW m (joinW L R m k ++ E) = topW m (fullW L R k ++ E) := by
  intro k
  induction k with
  | zero => intro _ E; rfl
  | succ k ih =>
    intro hk E
    have hkl : k < L.length := by omega
    have hi : L[k]?.getD (0, 0, []) = L[k] := by rw [List.getElem?_eq_getElem hkl]; rfl
    rw [joinW_succ', fullW_succ, hi, List.append_assoc, ih (by omega), List.append_assoc]
    -- the row's rest, one by one
    have go : ∀ j, m / (k + 1) ≤ j → topW m (fullW L R k ++ ((R.take j).map (fun o => putW L[k] o) ++ E)) = topW m (fullW L R k ++ ((R.take (m / (k + 1))).map (fun o => putW L[k] o) ++ E)) := by
      intro j
      induction j with
      | zero => intro h; rw [Nat.le_zero.mp h]
      | succ j jh =>
        intro h
        by_cases c : m / (k + 1) ≤ j
        · rw [← jh c]
          by_cases c2 : j < R.length
          · have e : R.take (j + 1) = R.take j ++ [R[j]] := by rw [List.take_add_one, List.getElem?_eq_getElem c2]; rfl
            have p : (fullW L R k ++ ((R.take (j + 1)).map (fun o => putW L[k] o) ++ E)).Perm (putW L[k] R[j] :: (fullW L R k ++ ((R.take j).map (fun o => putW L[k] o) ++ E))) := by
              rw [e, List.map_append, List.append_assoc]
              show (fullW L R k ++ ((R.take j).map (fun o => putW L[k] o) ++ (putW L[k] R[j] :: E))).Perm _
              rw [← List.append_assoc, ← List.append_assoc]
              exact List.perm_middle
            rw [topW_perm p]
            refine topW_one ?_
            rw [cntW_app, cntW_app]
            have q1 := full_cnt hL hR mo hkl c2 k (Nat.le_refl _)
            have q2 : cntW (putW L[k] R[j]) ((R.take j).map fun o => putW L[k] o) = j := by
              rw [cntW_all fun x hx => ?_, List.length_map, List.length_take]
              · omega
              · obtain ⟨b, hb, rfl⟩ := List.mem_map.mp hx
                obtain ⟨q, hq, rfl⟩ := List.mem_iff_getElem.mp hb
                rw [List.length_take] at hq
                rw [List.getElem_take]
                exact mo.r _ (List.getElem_mem _) _ (List.getElem_mem _) _ (List.getElem_mem _) (List.pairwise_iff_getElem.mp hR q j (by omega) c2 (by omega))
            have q3 : m < (k + 1) * (j + 1) := by
              have := Nat.lt_mul_div_succ m (show 0 < k + 1 by omega)
              exact Nat.lt_of_lt_of_le this (Nat.mul_le_mul_left _ (by omega))
            have q4 : (k + 1) * (j + 1) = k * (j + 1) + (j + 1) := Nat.succ_mul ..
            omega
          · rw [List.take_of_length_le (by omega), List.take_of_length_le (by omega)]
        · rw [show j + 1 = m / (k + 1) by omega]
    rw [← go (max (m / (k + 1)) R.length) (by omega), List.take_of_length_le (by omega)]
theorem fullW_all (L R : List Wr) : fullW L R L.length = prodW L R := by
  unfold fullW prodW
  have : L = (List.range L.length).map fun i => L[i]?.getD (0, 0, []) := by
    apply List.ext_getElem
    · simp
    · intro i h1 h2
      simp [h1]
  conv => rhs; rw [this]
  rw [List.flatMap_map]
theorem prodW_perm {A A' B B' : List Wr} (p : A.Perm A') (q : B.Perm B') : (prodW A B).Perm (prodW A' B') := by
  unfold prodW
  refine (List.Perm.flatMap_right _ p).trans ?_
  clear p
  induction A' with
  | nil => exact .refl _
  | cons a A' ih =>
    rw [List.flatMap_cons, List.flatMap_cons]
    exact (q.map _).append ih
theorem joinW_zero {L R : List Wr} {m : Nat} : ∀ k, m ≤ k → joinW L R m k = joinW L R m m
  | 0, h => by rw [Nat.le_zero.mp h]
  | k + 1, h => by
    by_cases c : m ≤ k
    · rw [joinW_succ', joinW_zero k c, Nat.div_eq_of_lt (by omega), List.take_zero, List.map_nil, List.append_nil]
    · rw [show k + 1 = m by omega]
theorem joinW_cut {L R : List Wr} {m : Nat} : ∀ k, k ≤ m → joinW (L.take m) (R.take m) m k = joinW L R m k
  | 0, _ => rfl
  | k + 1, h => by
    rw [joinW_succ', joinW_succ', joinW_cut k (by omega), List.take_take, Nat.min_eq_left (Nat.div_le_self ..), List.getElem?_take, if_pos (by omega)]
/-- the first many of all pairs, from the first many of each side -/
theorem join_top {A B : List Wr} {m : Nat} (mo : MonoW A B) : topW m (joinW (topW m A) (topW m B) m (topW m A).length) = topW m (prodW A B) := by
  have pA := List.mergeSort_perm A leW
  have pB := List.mergeSort_perm B leW
  have hL := srt_sort A
  have hR := srt_sort B
  rw [← topW_perm (m := m) (prodW_perm pA pB)]
  have mo' : MonoW (A.mergeSort leW) (B.mergeSort leW) := mo.sub (fun x hx => pA.mem_iff.mp hx) fun x hx => pB.mem_iff.mp hx
  unfold topW at *
  generalize A.mergeSort leW = L at *
  generalize B.mergeSort leW = R at *
  have h := join_full (m := m) hL hR mo' L.length (Nat.le_refl _) []
  rw [List.append_nil, List.append_nil, fullW_all] at h
  unfold topW at h
  rw [← h, List.length_take]
  congr 2
  by_cases c : m ≤ L.length
  · rw [Nat.min_eq_left c, joinW_cut m (Nat.le_refl _), joinW_zero L.length c]
  · rw [Nat.min_eq_right (by omega), joinW_cut L.length (by omega)]
/-- rows as they are: their order goes with putting together -/
theorem app_lt_left : ∀ {a b : List Nat} (c : List Nat), a.length = b.length → (a ++ c < b ++ c ↔ a < b)
  | [], [], c, _ => ⟨fun h => absurd h (List.lt_irrefl _), fun h => absurd h (List.lt_irrefl _)⟩
  | x :: a, y :: b, c, h => by
    rw [List.cons_append, List.cons_append, List.cons_lt_cons_iff, List.cons_lt_cons_iff, app_lt_left c (by simpa using h)]
theorem app_lt_right : ∀ (a : List Nat) {b c : List Nat}, (a ++ b < a ++ c ↔ b < c)
  | [], b, c => Iff.rfl
  | x :: a, b, c => by
    rw [List.cons_append, List.cons_append, List.cons_lt_cons_iff, app_lt_right a]
    exact ⟨fun h => h.resolve_left (Nat.lt_irrefl _) |>.2, fun h => .inr ⟨rfl, h⟩⟩
theorem putW_l {a a' b : Wr} (ha : Wok a) (ha' : Wok a') (h : leW a a' = true) : leW (putW a b) (putW a' b) = true := by
  rw [leW_iff] at h ⊢
  intro q
  refine h ?_
  unfold LtW putW at *
  rcases q with q | ⟨q1, q | ⟨q2, q⟩⟩
  · left; simp only at q; omega
  · right; simp only at q q1; exact ⟨by omega, .inl (by omega)⟩
  · simp only at q1 q2 q
    right
    refine ⟨by omega, .inr ⟨by omega, ?_⟩⟩
    have e : a'.2.1 = a.2.1 := by omega
    rw [e] at q
    by_cases c : 1000 < a.2.1 + b.2.1
    · rw [if_pos c, if_pos c] at q
      exact absurd q (List.lt_irrefl _)
    · rw [if_neg c, if_neg c] at q
      unfold Wok at ha ha'
      rw [if_neg (by omega)] at ha ha'
      exact (app_lt_left b.2.2 (by omega)).mp q
theorem putW_r {a b b' : Wr} (h : leW b b' = true) : leW (putW a b) (putW a b') = true := by
  rw [leW_iff] at h ⊢
  intro q
  refine h ?_
  unfold LtW putW at *
  rcases q with q | ⟨q1, q | ⟨q2, q⟩⟩
  · left; simp only at q; omega
  · right; simp only at q q1; exact ⟨by omega, .inl (by omega)⟩
  · simp only at q1 q2 q
    right
    refine ⟨by omega, .inr ⟨by omega, ?_⟩⟩
    have e : b'.2.1 = b.2.1 := by omega
    rw [e] at q
    by_cases c : 1000 < a.2.1 + b.2.1
    · rw [if_pos c, if_pos c] at q
      exact absurd q (List.lt_irrefl _)
    · rw [if_neg c, if_neg c] at q
      exact (app_lt_right a.2.2).mp q
theorem mono_ok {A B : List Wr} (hA : ∀ a ∈ A, Wok a) : MonoW A B :=
  ⟨fun a m a' m' b _ h => putW_l (hA a m) (hA a' m') h, fun a _ b _ b' _ h => putW_r h⟩

/-! ### the rows of a wood without rings, generally -/
theorem Std.len' {rs : List Rl} {t : List Nat} {F : Hts} (s : Std rs t F) (h6 : ∀ r ∈ rs, r.parts.length ≤ 6) {R N : Nat} (h1 : rs.length ≤ R) (h2 : t.length ≤ N) : F.length ≤ (R + N) * ((N + 1) * (N + 1)) + R * (7 * ((N + 1) * (N + 1))) := by
  have wi : ∀ n ∈ F.map (·.1), Wi rs t n := fun n hn => by
    obtain ⟨h, hh⟩ := lk_has hn
    exact ((s.ht n h).mp hh).1.wi
  have h3 : (t.length + 1) * (t.length + 1) ≤ (N + 1) * (N + 1) := Nat.mul_le_mul (by omega) (by omega)
  have := nodup_len s.nd fun n hn => (wi n hn).univ h6
  rw [List.length_map] at this
  refine Nat.le_trans this ?_
  unfold univ
  rw [List.length_append, flat_len (c := (t.length + 1) * (t.length + 1)), flat_len (c := 7 * ((t.length + 1) * (t.length + 1)))]
  · rw [List.length_append, List.length_map, List.length_map, List.length_range]
    exact Nat.add_le_add (Nat.mul_le_mul (by omega) h3) (Nat.mul_le_mul h1 (Nat.mul_le_mul (Nat.le_refl _) h3))
  · intro r _
    rw [flat_len (c := (t.length + 1) * (t.length + 1)), List.length_range]
    intro d _
    rw [flat_len (c := t.length + 1), List.length_range]
    intro i _; rw [List.length_map, List.length_range]
  · intro p _
    rw [flat_len (c := t.length + 1), List.length_range]
    intro i _; rw [List.length_map, List.length_range]
theorem Wo.pc' {rs : List Rl} {t : List Nat} {F : Hts} {top : Option Nd} {P : Pths} (h : Wo rs F top P) (s : Std rs t F) (hG : GoodG rs) (ht : ∀ c ∈ t, okc c = true) (h2 : t.length ≤ 60) (hF : F.length ≤ 100000) (hB : F.length * (rs.length + 2 * (t.length + 1)) ≤ 10000000) : Pc P := by
  cases top with
  | none =>
    rw [h.non rfl]
    exact ⟨List.nodup_nil, (fun q m => by cases m), Nat.zero_le _, Nat.zero_le _, (fun q m => by cases m), (fun q m => by cases m)⟩
  | some n =>
    have wi := h.som n rfl
    have hl := wi.len
    have wk : ∀ q ∈ P, Wi rs t q.1 := fun q hq => by
      obtain ⟨k, hk⟩ := Option.isSome_iff_exists.mp (wi.st q.1 (.inl (List.mem_map.mpr ⟨q, hq, rfl⟩))).1
      exact ((s.ht q.1 k).mp hk).1.wi
    have h3 := sum_le_mul (f := fun q : Nd × List Way => q.2.flatten.length) (B := rs.length + 2 * (t.length + 1)) (l := P) fun q hq => by
      have := wn_le (F := F) (wk q hq)
      unfold wn at this
      rw [wi.ws q hq, List.length_flatten]
      exact this
    have h4 : P.length * (rs.length + 2 * (t.length + 1)) ≤ F.length * (rs.length + 2 * (t.length + 1)) := Nat.mul_le_mul_right _ hl
    refine ⟨wi.nd, fun q hq w hw m hm => (wi.cl q hq w hw m hm).resolve_right (fun z => by cases z), ?_, by omega, fun q hq => ?_, fun m hm => ?_⟩
    · rw [evs_len]
      omega
    · rw [wi.ws q hq]
      exact ways_small (wk q hq) hG.few h2
    · obtain ⟨k, hk⟩ := Option.isSome_iff_exists.mp (wi.st m (.inl hm)).1
      exact s.ok hG ht hk
theorem WI.wok {rs : List Rl} {t : List Nat} {F : Hts} {top : Nd} {P : Pths} (h : WI rs F top P []) (s : Std rs t F) : WOk rs P := fun q hq => by
  obtain ⟨k, hk⟩ := Option.isSome_iff_exists.mp (h.st q.1 (.inl (List.mem_map.mpr ⟨q, hq, rfl⟩))).1
  have wi := ((s.ht q.1 k).mp hk).1.wi
  refine ⟨fun r d i j e => ?_, fun hne w hw => ?_⟩
  · obtain ⟨_, _, rl, hr, _⟩ := wi.ru r d i j e
    exact (List.getElem?_eq_some_iff.mp hr).1
  · rw [h.ws q hq] at hne hw
    generalize q.1 = n at hne hw
    cases n with
    | pt X i j =>
      have hw : w ∈ (if isSg X = true then [[]] else headWays rs F i j (nums rs X)) := hw
      by_cases c : isSg X = true
      · exact absurd (show (if isSg X = true then [[]] else headWays rs F i j (nums rs X)) = [[]] from if_pos c) hne
      · rw [if_neg c] at hw
        unfold headWays at hw
        obtain ⟨r, _, rfl⟩ := List.mem_map.mp hw
        exact .inl rfl
    | ru r d i j =>
      cases d with
      | zero => exact absurd rfl hne
      | succ d =>
        have hw : w ∈ (match (rs[r]?).bind (·.parts[d]?) with | none => [] | some X => cutWays F X r d i j (j + 1 - i)) := hw
        split at hw
        · cases hw
        · unfold cutWays at hw
          obtain ⟨k, _, rfl⟩ := List.mem_map.mp hw
          exact .inr rfl
/-- no ring where a rank falls along the ways -/
theorem free_of_rank {P : Pths} (rank : Nd → Nat) (h : ∀ n ws, lk P n = some ws → ∀ m ∈ ws.flatten, rank m < rank n) (cl : ∀ q ∈ P, ∀ w ∈ q.2, ∀ m ∈ w, m ∈ P.map (·.1)) : ∀ T, Settled P T → ∀ n ws, lk P n = some ws → n ∈ T := by
  intro T hT
  have go : ∀ (k : Nat) (n : Nd), rank n < k → ∀ ws, lk P n = some ws → n ∈ T := by
    intro k
    induction k with
    | zero => intro n h; exact absurd h (Nat.not_lt_zero _)
    | succ k ih =>
      intro n hn ws hws
      by_cases c : n ∈ T
      · exact c
      · obtain ⟨m, hm, hmT⟩ := hT.rest n ws hws c
        obtain ⟨w, hw, hmw⟩ := List.mem_flatten.mp hm
        obtain ⟨ws', hws'⟩ := lk_has (cl _ (lk_mem hws) w hw m hmw)
        have := h n ws hws m hm
        exact absurd (ih m (by omega) ws' hws') hmT
  exact fun n => go _ n (Nat.lt_succ_self _)
/-- what is known of settled nodes, step by step -/
theorem know_all {rs : List Rl} {P : Pths} {m : Nat} {T : List Nd} {tgt : Nd → List Wr} (hT : Settled P T) (step : ∀ n ws Fk, lk P n = some ws → (∀ n' ∈ ws.flatten, lk Fk n' = some (tgt n')) → firstW rs Fk n ws m = tgt n) : ∀ n ∈ T, lk (knowW rs P m T) n = some (tgt n) := by
  have go : ∀ i, ∀ n ∈ T.take i, lk (knowW rs P m (T.take i)) n = some (tgt n) := by
    intro i
    induction i with
    | zero => intro n h; rw [List.take_zero] at h; cases h
    | succ i ih =>
      intro n hn
      cases e : T[i]? with
      | none =>
        have hl := List.getElem?_eq_none_iff.mp e
        rw [List.take_of_length_le (by omega)] at hn ⊢
        have := ih n (by rw [List.take_of_length_le (by omega)]; exact hn)
        rwa [List.take_of_length_le (by omega)] at this
      | some k =>
        rw [take_snoc e] at hn ⊢
        rw [knowW_snoc]
        unfold stepW
        rw [lk_snoc]
        rcases List.mem_append.mp hn with h | h
        · rw [ih n h]
        · have h := List.mem_singleton.mp h
          subst h
          have hno : lk (knowW rs P m (T.take i)) n = none := by rw [lk_none, knowW_keys]; exact nd_new hT.nd e
          rw [hno, if_pos rfl]
          obtain ⟨ws, hws⟩ := hT.sub n (List.mem_of_getElem? e)
          rw [hws]
          exact congrArg some (step n ws _ hws fun n' hn' => ih n' (hT.ord i n ws e hws n' hn'))
  intro n hn
  have := go T.length n (by rw [List.take_length]; exact hn)
  rwa [List.take_length] at this
theorem cut_one {F : Hts} {X : Str} {r d i j k0 : Nat} : ∀ {n : Nat}, k0 < n → (∀ k, k < n → (cutOk F X r d i j (i + k) = true ↔ k = k0)) → cutWays F X r d i j n = [[.ru r d i (i + k0), .pt X (i + k0) j]] := by
  have none : ∀ n, n ≤ k0 → (∀ k, k < n → (cutOk F X r d i j (i + k) = true ↔ k = k0)) → cutWays F X r d i j n = [] := by
    intro n
    induction n with
    | zero => intro _ _; rfl
    | succ n ih =>
      intro h hh
      rw [cutWays_succ, ih (by omega) fun k hk => hh k (by omega), if_neg fun q => by have := (hh n (by omega)).mp q; omega]
      rfl
  intro n
  induction n with
  | zero => intro h; omega
  | succ n ih =>
    intro h hh
    rw [cutWays_succ]
    by_cases c : n = k0
    · subst c
      rw [none n (Nat.le_refl _) fun k hk => hh k (by omega), if_pos ((hh n (by omega)).mpr rfl)]
      rfl
    · rw [ih (by omega) fun k hk => hh k (by omega), if_neg fun q => c ((hh n (by omega)).mp q), List.append_nil]
theorem Std.some {rs : List Rl} {t : List Nat} {F : Hts} (s : Std rs t F) {n : Nd} {h : Nat} (d : Sd rs t h n) : (lk F n).isSome = true := by
  obtain ⟨k, e, _⟩ := s.le d
  rw [e]; rfl
theorem Std.sd {rs : List Rl} {t : List Nat} {F : Hts} (s : Std rs t F) {n : Nd} (e : (lk F n).isSome = true) : ∃ h, Sd rs t h n := by
  obtain ⟨h, hh⟩ := Option.isSome_iff_exists.mp e
  exact ⟨h, ((s.ht n h).mp hh).1⟩
theorem topW_one' {m : Nat} (h : 0 < m) (x : Wr) : topW m [x] = [x] := by
  unfold topW
  rw [List.mergeSort_singleton, List.take_of_length_le (by show 1 ≤ m; omega)]
theorem joinW_one {m : Nat} (x : Wr) (l : List Wr) : joinW [x] l m 1 = (l.take m).map (putW x) := by
  rw [joinW_succ', Nat.div_one]
  rfl
theorem putW_nil {w r : Nat} : putW (w, 1, [r]) (0, 0, []) = (w, 1, [r]) := rfl

structure M65 (rs : List Rl) (t : List Nat) (N0 N1 : Str) (s off K : Nat) : Prop where
  good : GoodG rs
  len : rs.length = off + K
  oc : off = 0 ∨ off = 1
  rl : ∀ k, off ≤ k → k < off + K → ∃ w, rs[k]? = some ⟨N1, [sgn s], w⟩
  r0 : off = 1 → ∃ w, rs[0]? = some ⟨N0, [N1, N1], w⟩
  ne : N0 ≠ N1
  s0 : isSg N0 = false
  s1 : isSg N1 = false
  te : t = List.replicate (off + 1) s
  pos : 0 < K
section
variable {rs : List Rl} {t : List Nat} {N0 N1 : Str} {s off K : Nat} {F : Hts}
def Is65 (N0 N1 : Str) (s off K : Nat) : Nd → Prop
  | .pt X i j => (X = sgn s ∧ j = i + 1 ∧ i < off + 1) ∨ (X = N1 ∧ j = i + 1 ∧ i < off + 1) ∨ (off = 1 ∧ X = N0 ∧ i = 0 ∧ j = 2)
  | .ru r d i j => (off ≤ r ∧ r < off + K ∧ ((d = 0 ∧ j = i) ∨ (d = 1 ∧ j = i + 1 ∧ i < off + 1))) ∨ (off = 1 ∧ r = 0 ∧ j = i + d ∧ d ≤ 2 ∧ j ≤ 2)
theorem M65.is (h : M65 rs t N0 N1 s off K) {n : Nd} {k : Nat} (d : Sd rs t k n) : Is65 N0 N1 s off K n := by
  have hlen : t.length = off + 1 := by rw [h.te, List.length_replicate]
  have hsg := isSg_sgn s
  induction d with
  | @sign i c e =>
    have hi := (List.getElem?_eq_some_iff.mp e).1
    rw [h.te, List.getElem?_replicate, if_pos (by omega)] at e
    cases e
    exact .inl ⟨rfl, rfl, by omega⟩
  | @zero r i h1 h2 =>
    have := h.len
    by_cases c : off ≤ r
    · exact .inl ⟨c, by omega, .inl ⟨rfl, rfl⟩⟩
    · have := h.oc
      exact .inr ⟨by omega, by omega, by omega, by omega, by omega⟩
  | @step h1 h2 r d i k' j X rl hr hX _ _ ih1 ih2 =>
    have hlt := (List.getElem?_eq_some_iff.mp hr).1
    rcases ih1 with ⟨a1, a2, a3⟩ | ⟨a1, a2, a3, a4, a5⟩
    · obtain ⟨w, hw⟩ := h.rl r a1 a2
      rw [hr] at hw
      cases hw
      rcases a3 with ⟨rfl, rfl⟩ | ⟨rfl, _⟩
      · cases hX
        rcases ih2 with ⟨_, b2, b3⟩ | ⟨b1, _⟩ | ⟨_, b1, _⟩
        · exact .inl ⟨a1, a2, .inr ⟨rfl, b2, b3⟩⟩
        · rw [b1, h.s1] at hsg; cases hsg
        · rw [b1, h.s0] at hsg; cases hsg
      · cases hX
    · obtain ⟨w, hw⟩ := h.r0 a1
      subst a2
      rw [hr] at hw
      cases hw
      have hXN : X = N1 ∧ d < 2 := by
        match d, hX with
        | 0, e => cases e; exact ⟨rfl, by decide⟩
        | 1, e => cases e; exact ⟨rfl, by decide⟩
        | n + 2, e => cases e
      obtain ⟨rfl, hd⟩ := hXN
      rcases ih2 with ⟨b1, _⟩ | ⟨_, b2, b3⟩ | ⟨_, b1, _⟩
      · rw [← b1, h.s1] at hsg; cases hsg
      · exact .inr ⟨a1, rfl, by omega, by omega, by omega⟩
      · exact absurd b1.symm h.ne
  | @head h1 r i j rl hr _ ih =>
    rcases ih with ⟨a1, a2, a3⟩ | ⟨a1, a2, a3, a4, a5⟩
    · obtain ⟨w, hw⟩ := h.rl r a1 a2
      rw [hr] at hw
      cases hw
      rcases a3 with ⟨c, _⟩ | ⟨_, c1, c2⟩
      · cases c
      · exact .inr (.inl ⟨rfl, c1, c2⟩)
    · obtain ⟨w, hw⟩ := h.r0 a1
      subst a2
      rw [hr] at hw
      cases hw
      have a3 : j = i + 2 := a3
      exact .inr (.inr ⟨a1, rfl, by omega, by omega⟩)
theorem M65.sg (h : M65 rs t N0 N1 s off K) {i : Nat} (hi : i < off + 1) : Sd rs t 0 (.pt (sgn s) i (i + 1)) :=
  .sign (by rw [h.te, List.getElem?_replicate, if_pos hi])
theorem M65.r1 (h : M65 rs t N0 N1 s off K) {r i : Nat} (h1 : off ≤ r) (h2 : r < off + K) (hi : i < off + 1) : Sd rs t 0 (.ru r 1 i (i + 1)) := by
  obtain ⟨w, hw⟩ := h.rl r h1 h2
  have hlen : t.length = off + 1 := by rw [h.te, List.length_replicate]
  exact .step (d := 0) hw rfl (.zero (by have := h.len; omega) (by omega)) (h.sg hi)
theorem M65.n1 (h : M65 rs t N0 N1 s off K) {i : Nat} (hi : i < off + 1) : Sd rs t 1 (.pt N1 i (i + 1)) := by
  obtain ⟨w, hw⟩ := h.rl off (Nat.le_refl _) (by have := h.pos; omega)
  exact .head hw (h.r1 (Nat.le_refl _) (by have := h.pos; omega) hi)
theorem M65.ru0 (h : M65 rs t N0 N1 s off K) (ho : off = 1) : ∀ d i, i + d ≤ 2 → ∃ k, Sd rs t k (.ru 0 d i (i + d))
  | 0, i, hi => ⟨_, .zero (by have := h.len; omega) (by rw [h.te, List.length_replicate]; omega)⟩
  | d + 1, i, hi => by
    obtain ⟨k, hk⟩ := h.ru0 ho d i (by omega)
    obtain ⟨w, hw⟩ := h.r0 ho
    have hX : ([N1, N1] : List Str)[d]? = some N1 := by
      match d, hi with
      | 0, _ => rfl
      | 1, _ => rfl
      | d + 2, hi => omega
    exact ⟨_, .step hw hX hk (h.n1 (by omega))⟩
theorem M65.top (h : M65 rs t N0 N1 s off K) (ho : off = 1) : ∃ k, Sd rs t k (.pt N0 0 2) := by
  obtain ⟨k, hk⟩ := h.ru0 ho 2 0 (by omega)
  obtain ⟨w, hw⟩ := h.r0 ho
  exact ⟨_, .head hw hk⟩
theorem M65.nums1 (h : M65 rs t N0 N1 s off K) : nums rs N1 = (List.range K).map (off + ·) := by
  have base : numsTo rs N1 off = [] := by
    rcases h.oc with e | e
    · rw [e]; rfl
    · obtain ⟨w, hw⟩ := h.r0 e
      rw [e, nums_step, hw, if_neg (by intro z; exact h.ne (Option.some.inj z))]
      rfl
  have go : ∀ k, k ≤ K → numsTo rs N1 (off + k) = (List.range k).map (off + ·) := by
    intro k
    induction k with
    | zero => intro _; exact base
    | succ k ih =>
      intro hk
      obtain ⟨w, hw⟩ := h.rl (off + k) (by omega) (by omega)
      rw [← Nat.add_assoc, nums_step, ih (by omega), hw, if_pos (show Option.map Rl.head (some (⟨N1, [sgn s], w⟩ : Rl)) = some N1 from rfl), List.range_succ, List.map_append]
      rfl
  unfold nums
  rw [h.len]
  exact go K (Nat.le_refl _)
theorem M65.nums0 (h : M65 rs t N0 N1 s off K) (ho : off = 1) : nums rs N0 = [0] := by
  have go : ∀ k, k ≤ K → numsTo rs N0 (1 + k) = [0] := by
    intro k
    induction k with
    | zero =>
      intro _
      obtain ⟨w, hw⟩ := h.r0 ho
      rw [nums_step, hw, if_pos (show Option.map Rl.head (some (⟨N0, [N1, N1], w⟩ : Rl)) = some N0 from rfl)]
      rfl
    | succ k ih =>
      intro hk
      obtain ⟨w, hw⟩ := h.rl (1 + k) (by omega) (by omega)
      rw [← Nat.add_assoc, nums_step, ih (by omega), hw, if_neg (by intro z; exact h.ne (Option.some.inj z).symm), List.append_nil]
  unfold nums
  rw [h.len, ho]
  exact go K (Nat.le_refl _)
variable (hS : Std rs t F) (h : M65 rs t N0 N1 s off K)
include hS h
theorem w65_sg {i : Nat} : waysN rs F (.pt (sgn s) i (i + 1)) = [[]] := by
  show (if isSg (sgn s) = true then [[]] else headWays rs F i (i + 1) (nums rs (sgn s))) = [[]]
  rw [if_pos (isSg_sgn s)]
theorem w65_r1 {r i : Nat} (h1 : off ≤ r) (h2 : r < off + K) (hi : i < off + 1) : waysN rs F (.ru r 1 i (i + 1)) = [[.ru r 0 i i, .pt (sgn s) i (i + 1)]] := by
  obtain ⟨w, hw⟩ := h.rl r h1 h2
  show (match (rs[r]?).bind (·.parts[0]?) with | none => [] | some X => cutWays F X r 0 i (i + 1) (i + 1 + 1 - i)) = _
  rw [hw]
  show cutWays F (sgn s) r 0 i (i + 1) (i + 1 + 1 - i) = _
  rw [show i + 1 + 1 - i = 2 by omega]
  refine cut_one (k0 := 0) (by decide) fun k hk => ?_
  unfold cutOk
  rw [Bool.and_eq_true]
  constructor
  · rintro ⟨q, _⟩
    obtain ⟨_, d⟩ := hS.sd q
    rcases h.is d with ⟨_, _, ⟨_, e⟩ | ⟨e, _⟩⟩ | ⟨_, _, e, _⟩ <;> omega
  · rintro rfl
    exact ⟨hS.some (.zero (by have := h.len; omega) (by rw [h.te, List.length_replicate]; omega)), hS.some (h.sg hi)⟩
theorem w65_n1 {i : Nat} (hi : i < off + 1) : waysN rs F (.pt N1 i (i + 1)) = (List.range K).map fun k => [.ru (off + k) 1 i (i + 1)] := by
  show (if isSg N1 = true then [[]] else headWays rs F i (i + 1) (nums rs N1)) = _
  rw [if_neg (by rw [h.s1]; exact Bool.false_ne_true), h.nums1]
  have pl : ∀ k, k < K → plen rs (off + k) = 1 := fun k hk => by
    obtain ⟨w, hw⟩ := h.rl (off + k) (by omega) (by omega)
    unfold plen
    rw [hw]
    rfl
  have e : ∀ l : List Nat, (∀ k ∈ l, k < K) → headWays rs F i (i + 1) (l.map (off + ·)) = l.map fun k => [.ru (off + k) 1 i (i + 1)] := by
    intro l
    induction l with
    | nil => intro _; rfl
    | cons a l ih =>
      intro hl
      have ha := hl a (List.mem_cons_self ..)
      have ih := ih fun k hk => hl k (List.mem_cons_of_mem _ hk)
      unfold headWays at ih ⊢
      rw [List.map_cons, List.filter_cons_of_pos (by rw [pl a ha]; exact hS.some (h.r1 (by omega) (by omega) hi)), List.map_cons, ih, List.map_cons, pl a ha]
  exact e _ fun k hk => List.mem_range.mp hk
theorem w65_ru (ho : off = 1) {d i : Nat} (hd : d + 1 + i ≤ 2) : waysN rs F (.ru 0 (d + 1) i (i + (d + 1))) = [[.ru 0 d i (i + d), .pt N1 (i + d) (i + d + 1)]] := by
  obtain ⟨w, hw⟩ := h.r0 ho
  have hX : ([N1, N1] : List Str)[d]? = some N1 := by
    match d, hd with
    | 0, _ => rfl
    | 1, _ => rfl
    | d + 2, hi => omega
  show (match (rs[0]?).bind (·.parts[d]?) with | none => [] | some X => cutWays F X 0 d i (i + (d + 1)) (i + (d + 1) + 1 - i)) = _
  rw [hw]
  show (match ([N1, N1] : List Str)[d]? with | none => [] | some X => cutWays F X 0 d i (i + (d + 1)) (i + (d + 1) + 1 - i)) = _
  rw [hX]
  refine (cut_one (k0 := d) (by omega) fun k hk => ?_).trans (by rw [show i + (d + 1) = i + d + 1 by omega])
  unfold cutOk
  rw [Bool.and_eq_true]
  constructor
  · rintro ⟨q, _⟩
    obtain ⟨_, dd⟩ := hS.sd q
    rcases h.is dd with ⟨a, _⟩ | ⟨_, _, e, _⟩ <;> omega
  · rintro rfl
    obtain ⟨_, dd⟩ := h.ru0 ho k i (by omega)
    exact ⟨hS.some dd, hS.some (by rw [show i + (k + 1) = i + k + 1 by omega]; exact h.n1 (by omega))⟩
theorem w65_n0 (ho : off = 1) : waysN rs F (.pt N0 0 2) = [[.ru 0 2 0 2]] := by
  show (if isSg N0 = true then [[]] else headWays rs F 0 2 (nums rs N0)) = _
  rw [if_neg (by rw [h.s0]; exact Bool.false_ne_true), h.nums0 ho]
  obtain ⟨w, hw⟩ := h.r0 ho
  have pl : plen rs 0 = 2 := by unfold plen; rw [hw]; rfl
  obtain ⟨_, dd⟩ := h.ru0 ho 2 0 (by omega)
  unfold headWays
  rw [List.filter_cons_of_pos (by rw [pl]; exact hS.some dd)]
  simp only [List.filter_nil, List.map_cons, List.map_nil, pl]
end
theorem flat_one {α β : Type} {f : α → List β} {g : α → β} : ∀ l : List α, (∀ a ∈ l, f a = [g a]) → l.flatMap f = l.map g
  | [], _ => rfl
  | a :: l, h => by rw [List.flatMap_cons, List.map_cons, h a (List.mem_cons_self ..), flat_one l fun b hb => h b (List.mem_cons_of_mem _ hb)]; rfl
/-! ### what the rows are -/
def oneR (rs : List Rl) (r : Nat) : Wr := (wth rs r, 1, [r])
def a65 (rs : List Rl) (off K : Nat) : List Wr := (List.range K).map fun k => oneR rs (off + k)
def b65 (rs : List Rl) (K : Nat) : List Wr := prodW ((a65 rs 1 K).map (putW (oneR rs 0))) (a65 rs 1 K)
def tgt65 (rs : List Rl) (N0 : Str) (off K m : Nat) : Nd → List Wr
  | .pt X i j => if isSg X = true then [(0, 0, [])] else if X = N0 ∧ off = 1 then topW m (b65 rs K) else topW m (a65 rs off K)
  | .ru r d i j => if r < off then (if d = 0 then [oneR rs 0] else if d = 1 then topW m ((a65 rs 1 K).map (putW (oneR rs 0))) else topW m (b65 rs K)) else [oneR rs r]
def rank65 (N0 : Str) (off : Nat) : Nd → Nat
  | .pt X i j => if isSg X = true then 0 else if X = N0 ∧ off = 1 then 7 else 3
  | .ru r d i j => if r < off then d + 4 else d + 1
theorem one_ok (rs : List Rl) (r : Nat) : Wok (oneR rs r) := rfl
theorem a65_ok {rs : List Rl} {off K : Nat} : ∀ a ∈ a65 rs off K, Wok a := fun a h => by
  obtain ⟨k, _, rfl⟩ := List.mem_map.mp h
  exact one_ok rs _
section
variable {rs : List Rl} {t : List Nat} {N0 N1 : Str} {s off K : Nat} {F : Hts}
variable (hS : Std rs t F) (h : M65 rs t N0 N1 s off K)
include hS h
theorem step65 {m : Nat} (hm : 0 < m) {n : Nd} {k : Nat} (d : Sd rs t k n) {Fk : Wn} (hk : ∀ n' ∈ (waysN rs F n).flatten, lk Fk n' = some (tgt65 rs N0 off K m n')) : firstW rs Fk n (waysN rs F n) m = tgt65 rs N0 off K m n ∧ ∀ n' ∈ (waysN rs F n).flatten, rank65 N0 off n' < rank65 N0 off n := by
  have hsg := isSg_sgn s
  have n10 : N1 ≠ N0 := fun e => h.ne e.symm
  have t1 : ∀ i j, tgt65 rs N0 off K m (.pt N1 i j) = topW m (a65 rs off K) := fun i j => by
    show (if isSg N1 = true then [(0, 0, [])] else if N1 = N0 ∧ off = 1 then topW m (b65 rs K) else topW m (a65 rs off K)) = _
    rw [if_neg (by rw [h.s1]; exact Bool.false_ne_true), if_neg fun z => n10 z.1]
  have ts : ∀ i j, tgt65 rs N0 off K m (.pt (sgn s) i j) = [(0, 0, [])] := fun i j => by unfold tgt65; exact if_pos hsg
  have tr : ∀ r d i j, off ≤ r → tgt65 rs N0 off K m (.ru r d i j) = [oneR rs r] := fun r d i j e => by unfold tgt65; exact if_neg (by omega)
  have r1 : ∀ i j, rank65 N0 off (.pt N1 i j) = 3 := fun i j => by
    show (if isSg N1 = true then 0 else if N1 = N0 ∧ off = 1 then 7 else 3) = 3
    rw [if_neg (by rw [h.s1]; exact Bool.false_ne_true), if_neg fun z => n10 z.1]
  have rsg : ∀ i j, rank65 N0 off (.pt (sgn s) i j) = 0 := fun i j => by unfold rank65; exact if_pos hsg
  have rr : ∀ r d i j, off ≤ r → rank65 N0 off (.ru r d i j) = d + 1 := fun r d i j e => by unfold rank65; exact if_neg (by omega)
  have ht : ∀ {ws : List Way}, ws ≠ [[]] → firstW rs Fk n ws m = topW m (allW Fk ws m) := fun {ws} e => by unfold firstW; exact if_neg e
  cases n with
  | pt X i j =>
    rcases h.is d with ⟨rfl, rfl, hi⟩ | ⟨hX, rfl, hi⟩ | ⟨ho, hX, rfl, rfl⟩
    · rw [w65_sg hS h, ts]
      exact ⟨rfl, fun n' hn' => by cases hn'⟩
    · have hX := hX.symm
      subst hX
      rw [w65_n1 hS h hi] at hk ⊢
      have ne : ((List.range K).map fun k => ([.ru (off + k) 1 i (i + 1)] : Way)) ≠ [[]] := fun e => by
        have hp := h.pos
        have : ((List.range K).map fun k => ([.ru (off + k) 1 i (i + 1)] : Way))[0]? = some [] := by rw [e]; rfl
        rw [List.getElem?_map, List.getElem?_range hp] at this
        cases this
      have mem : ∀ k, k < K → Nd.ru (off + k) 1 i (i + 1) ∈ ((List.range K).map fun k => ([.ru (off + k) 1 i (i + 1)] : Way)).flatten := fun k hk => List.mem_flatten.mpr ⟨_, List.mem_map.mpr ⟨k, List.mem_range.mpr hk, rfl⟩, List.mem_cons_self ..⟩
      refine ⟨?_, fun n' hn' => ?_⟩
      · rw [ht ne, t1]
        congr 1
        unfold allW a65
        rw [List.flatMap_map]
        refine flat_one _ fun k hk' => ?_
        have hkK := List.mem_range.mp hk'
        show (lk Fk (.ru (off + k) 1 i (i + 1))).getD [] = [oneR rs (off + k)]
        rw [hk _ (mem k hkK), tr _ _ _ _ (by omega)]
        rfl
      · obtain ⟨w, hw, hn'⟩ := List.mem_flatten.mp hn'
        obtain ⟨k, _, rfl⟩ := List.mem_map.mp hw
        rw [List.mem_singleton.mp hn', r1, rr _ _ _ _ (by omega)]
        decide
    · have hX := hX.symm
      subst hX
      rw [w65_n0 hS h ho] at hk ⊢
      have tn : tgt65 rs N0 off K m (.pt N0 0 2) = topW m (b65 rs K) := by
        show (if isSg N0 = true then [(0, 0, [])] else if N0 = N0 ∧ off = 1 then topW m (b65 rs K) else topW m (a65 rs off K)) = _
        rw [if_neg (by rw [h.s0]; exact Bool.false_ne_true), if_pos ⟨rfl, ho⟩]
      have tb : tgt65 rs N0 off K m (.ru 0 2 0 2) = topW m (b65 rs K) := by
        show (if 0 < off then _ else _) = _
        rw [if_pos (by omega)]
        rfl
      have e := hk (.ru 0 2 0 2) (List.mem_cons_self ..)
      refine ⟨?_, fun n' hn' => ?_⟩
      · rw [ht (show ([[Nd.ru 0 2 0 2]] : List Way) ≠ [[]] by intro z; cases z), tn]
        show topW m ((lk Fk (.ru 0 2 0 2)).getD [] ++ []) = _
        rw [List.append_nil, e, tb]
        exact topW_top ..
      · rw [List.mem_singleton.mp hn']
        show (if 0 < off then 2 + 4 else 2 + 1) < (if isSg N0 = true then 0 else if N0 = N0 ∧ off = 1 then 7 else 3)
        rw [if_pos (by omega), if_neg (by rw [h.s0]; exact Bool.false_ne_true), if_pos ⟨rfl, ho⟩]
        decide
  | ru r dd i j =>
    rcases h.is d with ⟨h1, h2, ⟨rfl, rfl⟩ | ⟨rfl, rfl, hi⟩⟩ | ⟨ho, rfl, rfl, hd, hj⟩
    · rw [tr _ _ _ _ h1]
      exact ⟨rfl, fun n' hn' => by cases hn'⟩
    · rw [w65_r1 hS h h1 h2 hi] at hk ⊢
      have e1 := hk (.ru r 0 i i) (List.mem_cons_self ..)
      have e2 := hk (.pt (sgn s) i (i + 1)) (List.mem_cons_of_mem _ (List.mem_cons_self ..))
      refine ⟨?_, fun n' hn' => ?_⟩
      · rw [ht (show ([[Nd.ru r 0 i i, Nd.pt (sgn s) i (i + 1)]] : List Way) ≠ [[]] by intro z; cases z), tr _ _ _ _ h1]
        show topW m (joinW ((lk Fk (.ru r 0 i i)).getD []) ((lk Fk (.pt (sgn s) i (i + 1))).getD []) m ((lk Fk (.ru r 0 i i)).getD []).length ++ []) = _
        rw [List.append_nil, e1, e2, tr _ _ _ _ h1, ts]
        show topW m (joinW [oneR rs r] [(0, 0, [])] m 1) = _
        rw [joinW_one, List.take_of_length_le (by show 1 ≤ m; omega)]
        exact topW_one' hm _
      · rw [rr _ _ _ _ h1]
        have hn' : n' ∈ [Nd.ru r 0 i i, .pt (sgn s) i (i + 1)] := hn'
        simp only [List.mem_cons, List.not_mem_nil, or_false] at hn'
        rcases hn' with rfl | rfl
        · rw [rr _ _ _ _ h1]; decide
        · rw [rsg]; decide
    · have t0 : ∀ d i j, tgt65 rs N0 off K m (.ru 0 d i j) = (if d = 0 then [oneR rs 0] else if d = 1 then topW m ((a65 rs 1 K).map (putW (oneR rs 0))) else topW m (b65 rs K)) := fun d i j => by
        show (if 0 < off then _ else _) = _
        rw [if_pos (by omega)]
      have r0 : ∀ d i j, rank65 N0 off (.ru 0 d i j) = d + 4 := fun d i j => by unfold rank65; exact if_pos (by omega)
      cases dd with
      | zero =>
        rw [t0]
        exact ⟨rfl, fun n' hn' => by cases hn'⟩
      | succ dd =>
        rw [w65_ru hS h ho (by omega)] at hk ⊢
        have e1 := hk (.ru 0 dd i (i + dd)) (List.mem_cons_self ..)
        have e2 := hk (.pt N1 (i + dd) (i + dd + 1)) (List.mem_cons_of_mem _ (List.mem_cons_self ..))
        refine ⟨?_, fun n' hn' => ?_⟩
        · rw [ht (show ([[Nd.ru 0 dd i (i + dd), Nd.pt N1 (i + dd) (i + dd + 1)]] : List Way) ≠ [[]] by intro z; cases z), t0]
          show topW m (joinW ((lk Fk (.ru 0 dd i (i + dd))).getD []) ((lk Fk (.pt N1 (i + dd) (i + dd + 1))).getD []) m ((lk Fk (.ru 0 dd i (i + dd))).getD []).length ++ []) = _
          rw [List.append_nil, e1, e2, t1, t0, ho]
          have mo : ∀ A : List Wr, (∀ a ∈ A, Wok a) → MonoW A (a65 rs 1 K) := fun A hA => mono_ok hA
          match dd, hd with
          | 0, _ =>
            show topW m (joinW [oneR rs 0] (topW m (a65 rs 1 K)) m [oneR rs 0].length) = topW m ((a65 rs 1 K).map (putW (oneR rs 0)))
            have := join_top (m := m) (mo [oneR rs 0] fun a ha => by rw [List.mem_singleton.mp ha]; exact one_ok rs 0)
            rw [topW_one' hm] at this
            rw [this]
            show topW m ((a65 rs 1 K).map (fun b => putW (oneR rs 0) b) ++ []) = _
            rw [List.append_nil]
          | 1, _ =>
            exact join_top (m := m) (mo _ fun a ha => by obtain ⟨b, hb, rfl⟩ := List.mem_map.mp ha; exact (one_ok rs 0).put (a65_ok b hb))
          | d + 2, q => omega
        · rw [r0]
          have hn' : n' ∈ [Nd.ru 0 dd i (i + dd), .pt N1 (i + dd) (i + dd + 1)] := hn'
          simp only [List.mem_cons, List.not_mem_nil, or_false] at hn'
          rcases hn' with rfl | rfl
          · rw [r0]; omega
          · rw [r1]; omega
end
def R_law_worths (K : PySem.W.Frag) : V → V → V → Hp → VK → XK → Prop := fun x y z H Q _ => ∃ (a : Addr) (ns : List Int) (n : Nat) (i : Int), x = .ref a ∧ SqL K H a (ns.map V.int) ∧ y = .int ((n : Nat) : Int) ∧ n ≤ 60 ∧ z = .int i ∧ 0 ≤ i ∧ ∀ (l : Addr) (H' : Hp) (ws : List Int), Same H H' → H l = none → H' l = some (.lst (ws.map V.int)) → ws.length = n → (∀ w ∈ ws, 0 ≤ w ∧ w ≤ top60) → Q (.ref l) H'
section
set_option hygiene false in
local macro_rules | `(tactic| top_name) => `(tactic| first | refine e_call (df_law_cell_at T) (hr.mono (by decide)) ?_ | refine e_call (df_law_mixed T) (hr.mono (by decide)) ?_)
theorem ok_law_worths {f : Addr} {fd : FuncData} (F : Fun K "_law_worths" "_law_worths" s_law_worths f fd) (T : Txt K mg cs) : FnOk P w K mg base (L2.CX P w) 3 f fd ["_law_script", "_law_many", "_law_way"] (sp3 (R_law_worths K)) := by
  refine F.okX sc_law_worths (fun vs H Q E h => sp3_len h) (fun cdv A outer s H vs Q E hr h => ⟨_, PBw (X := X_law_worths P w K mg base f cdv A outer s H E), ?_⟩)
  obtain ⟨a0, a1, a2, rfl, h⟩ := h
  have ib_range := T.b_range
  have hr' : Room 2 (X_law_worths P w K mg base f cdv A outer s H E).A := hr
  replace hr := hr'
  clear hr'
  obtain ⟨a, ns, n, i, rfl, hS, rfl, hn, rfl, hi, h⟩ := h
  kxs_still
  intro l1 H1 s1 n1 k1 f1
  kxs_still
  obtain ⟨v, hv, st, rfl, hst0, hst1⟩ := ix_any (i := i % 4) k1 (fun v => ∃ n : Int, v = .int n ∧ 0 ≤ n ∧ n ≤ 100000000000000000000000000000000000000000000000000000000000) (by
    intro x hx
    simp only [List.mem_cons, List.not_mem_nil, or_false] at hx
    rcases hx with rfl | rfl | rfl | rfl <;> exact ⟨_, rfl, by decide, by decide⟩) (by omega) (by show _ < (4 : Int); omega)
  refine i_lst (SqL.of k1) hv ?_
  have hS1 := s1.seq hS
  refine b_cons (sMono (fun σ' H' => ∃ b : Int, σ' = [some (.ref a), some (.int ((n : Nat) : Int)), some (.int i), some (.int b), some (.int st), none] ∧ H' = H1 ∧ 0 ≤ b ∧ b < 100000000000000000000000000000000000000000000000000000000000) ?_ ?_)
  · kxs_still
    refine iteD (fun c => ?_) fun c => ?_
    · kxs_still
      refine ⟨_, _, _, rfl, hS1, rfl, by decide, ?_⟩
      kxs_still
      refine ⟨_, rfl, rfl, Int.emod_nonneg _ (by decide), Int.emod_lt_of_pos _ (by decide)⟩
    · kxs_still
      exact ⟨_, rfl, rfl, by decide, by decide⟩
  rintro σ' H' ⟨b, rfl, rfl, hb0, hb1⟩
  kxs_still
  refine e_lcP (blkOk_by (sc := defScope s_law_worths) (own := [("_law_k", 5)]) (by decide +kernel)) (fun _ y => ∃ w : Int, y = V.int w ∧ 0 ≤ w ∧ w ≤ top60) (j_rng1 ?_)
  kxs_still
  refine ⟨by omega, by omega, _, _, _, walk_range0, by omega, fun _ _ => trivial, ?_, ?_⟩
  · rintro j x H3 H4 hj s4 ⟨rfl, rfl⟩
    refine ⟨Same.refl _, fun _ _ _ _ _ => ?_⟩
    kxs_still
    refine ⟨rfl, Same.refl _, fun _ _ _ _ _ => ?_⟩
    kxs_still
    refine ⟨_, _, _, rfl, s4.seq hS1, rfl, by omega, by omega, fun m m0 m1 => ?_⟩
    kxs_still
    refine o_mulS (.inr ⟨by omega, by omega⟩) ?_
    kxs_still
    have e : st * (m % 3) ≤ st * 2 := Int.mul_le_mul_of_nonneg_left (by omega) hst0
    have e0 : 0 ≤ st * (m % 3) := Int.mul_nonneg hst0 (by omega)
    exact ⟨⟨_, rfl, by omega, by show _ ≤ (1000000000000000000000000000000000000000000000000000000000000 : Int); omega⟩, Same.refl _⟩
  intro l4 H4 ys s4 n4 k4 e4 hys
  obtain ⟨ws, rfl, hws⟩ : ∃ ws : List Int, ys = ws.map V.int ∧ ∀ w ∈ ws, 0 ≤ w ∧ w ≤ top60 := by
    clear e4 k4
    induction ys with
    | nil => exact ⟨[], rfl, fun _ h => by cases h⟩
    | cons y ys ih =>
      obtain ⟨w, rfl, hw⟩ := hys 0 y rfl
      obtain ⟨ws, rfl, hws⟩ := ih fun i y e => hys (i + 1) y e
      exact ⟨w :: ws, rfl, fun x hx => by
        rcases List.mem_cons.mp hx with rfl | hx
        · exact hw
        · exact hws x hx⟩
  rw [List.length_map] at e4
  exact h l4 H4 ws (s1.trans s4) (s1.none n4) k4 (by omega) hws
end
theorem df_law_worths (T : Txt K mg cs) : Df P w K mg base "_law_worths" 3 ["_law_script", "_law_many", "_law_way"] (sp3 (R_law_worths K)) := by
  obtain ⟨f, fd, hm, F, hb⟩ := T.f_law_worths.ex
  exact ⟨f, fd, hm, F.kp, hb, ok_law_worths F T⟩
def c65 (rs : List Rl) (K k : Nat) : List Wr := (a65 rs 1 K).map (putW (putW (oneR rs 0) (oneR rs (1 + k))))
theorem b65_eq (rs : List Rl) (K : Nat) : b65 rs K = (List.range K).flatMap (c65 rs K) := by
  have e : (a65 rs 1 K).map (putW (oneR rs 0)) = (List.range K).map fun k => putW (oneR rs 0) (oneR rs (1 + k)) := by
    unfold a65
    rw [List.map_map]
    rfl
  unfold b65 prodW
  rw [e, List.flatMap_map]
  rfl
theorem RulesAt.wth {H : Hp} {vs : List V} {rs : List Rl} {k : Nat} {r : Rl} (hG : GoodG rs) (hk : rs[k]? = some r) : ((wth rs k : Nat) : Int) = r.worth := by
  have hlo := (hG.good r (List.mem_of_getElem? hk)).lo
  unfold Lw.wth
  rw [hk]
  show ((r.worth.toNat : Nat) : Int) = _
  omega
def R_law_keys (K : PySem.W.Frag) : V → V → Hp → VK → XK → Prop := fun x y H Q _ => ∃ (a : Addr) (vs : List V) (rs : List Rl) (b : Bool), x = .ref a ∧ SqL K H a vs ∧ RulesAt H vs rs ∧ GoodG rs ∧ y = .bl b ∧ 0 < rs.length ∧ ∀ (l : Addr) (xs : List V) (H' : Hp), Same H H' → H l = none → H' l = some (.lst xs) → All2 (RwAt H') xs ((if b = true then b65 rs (rs.length - 1) else a65 rs 0 rs.length).mergeSort leW) → Q (.ref l) H'
section
theorem ok_law_keys {f : Addr} {fd : FuncData} (F : Fun K "_law_keys" "_law_keys" s_law_keys f fd) (T : Txt K mg cs) : FnOk P w K mg base (L2.CX P w) 1 f fd ["_law_rules", "_law_twice"] (sp2 (R_law_keys K)) := by
  refine F.okX sc_law_keys (fun vs H Q E h => sp2_len h) (fun cdv A outer s H vs Q E hr h => ⟨_, PBw (X := X_law_keys P w K mg base f cdv A outer s H E), ?_⟩)
  obtain ⟨a0, a1, rfl, h⟩ := h
  have ib_range := T.b_range
  have ib_sorted := T.b_sorted
  have ib_len := T.b_len
  have hr' : Room 0 (X_law_keys P w K mg base f cdv A outer s H E).A := hr
  replace hr := hr'
  clear hr'
  obtain ⟨a, vs, rs, b, rfl, hS, hR, hG, rfl, hpos, h⟩ := h
  have hvl := hR.len
  have hfew := hG.few
  cases b with
  | false =>
    kxs_still
    refine e_lcW (blkOk_by (sc := defScope s_law_keys) (own := [("_law_k", 2)]) (by decide +kernel)) (fun i y H' => RwAt H' y (oneR rs (0 + i))) (fun i y H' H'' s h => h.more s) (j_rng1 ?_)
    kxs_still
    refine ⟨by omega, by omega, _, _, _, walk_range0, by omega, fun _ _ => trivial, ?_, ?_⟩
    · rintro i x H4 H5 hi s4 ⟨rfl, rfl⟩
      refine ⟨Same.refl _, fun _ _ _ _ _ => ?_⟩
      kxs_still
      refine ⟨rfl, Same.refl _, fun _ _ _ _ _ => ?_⟩
      have hi' : i < rs.length := by omega
      obtain ⟨r, hr1⟩ : ∃ r, rs[i]? = some r := ⟨_, List.getElem?_eq_getElem hi'⟩
      obtain ⟨ra, rb, hv, hvk, e1, e2⟩ := hR.at' hr1
      have hS4 := s4.seq hS
      have e14 := s4 _ _ e1
      kxs_still
      intro l6 H6 s6 n6 k6 f6
      kxs_still
      intro t7 H7 s7 n7 k7 f7
      refine ⟨fun D o hD _ => RwNew.wo hD ⟨t7, l6, rfl, s6.none n7, n6, ?_, ?_⟩, s6.trans s7⟩
      · rw [k7, ← RulesAt.wth (H := H) (vs := vs) hG hr1]
        unfold oneR
        rw [Nat.zero_add]
        rfl
      · rw [s7 _ _ k6]
        unfold oneR
        rw [Nat.zero_add]
        rfl
    · intro l4 H4 ws s4 n4 k4 hwl hw
      have aW : All2 (RwAt H4) ws (a65 rs 0 rs.length) := all2_by (by unfold a65; rw [List.length_map, List.length_range]; omega) fun i y e => by
        have hi := (List.getElem?_eq_some_iff.mp e).1
        exact ⟨_, by unfold a65; rw [List.getElem?_map, List.getElem?_range (by omega)]; rfl, (hw i y e).more wo_in⟩
      kxs_still
      refine k_sortedW hr.units (SqL.of k4) aW fun l5 H5 ys s5 n5 k5 hY f5 => ?_
      exact h l5 ys H5 (s4.trans s5) (s4.none n5) k5 (hY.mono fun _ _ q => q.more s5)
  | true =>
    obtain ⟨r0, hr0⟩ : ∃ r, rs[0]? = some r := ⟨_, List.getElem?_eq_getElem hpos⟩
    obtain ⟨ra0, rb0, hv0, hvk0, e10, e20⟩ := hR.at' hr0
    kxs_still
    intro l1 H1 s1 n1 k1 f1
    have hS1 := s1.seq hS
    kxs_still
    refine s_for (j_rng2 ?_)
    kxs_still
    have s01 : Same H (wo H1 l1) := wo_of n1 s1
    refine ⟨by omega, _, _, _, walk_rangeN, fun i σ' H' => ∃ v2 v4, σ' = [some (.ref a), some (.bl true), v2, some (.ref l1), v4] ∧ ∃ xs, H' l1 = some (.lst xs) ∧ Same H (wo H' l1) ∧ All2 (RwAt (wo H' l1)) xs ((List.range i).flatMap (c65 rs (rs.length - 1))), ⟨none, none, rfl, [], k1, s01, .nil⟩, fun _ _ _ _ _ => trivial, ?_, ?_⟩
    · rintro i x σ' H2 H3 hi ⟨v2, v4, rfl, xs, kl, sl, hA⟩ ⟨rfl, rfl⟩
      have s3 : Same H H3 := sl.trans wo_in
      have hS3 := s3.seq hS
      have hi' : 1 + i < rs.length := by omega
      obtain ⟨r, hr1⟩ : ∃ r, rs[1 + i]? = some r := ⟨_, List.getElem?_eq_getElem hi'⟩
      obtain ⟨ra, rb, hv, hvk, e1, e2⟩ := hR.at' hr1
      kxs_still
      refine s_for (j_rng2 ?_)
      kxs_still
      refine ⟨by omega, _, _, _, walk_rangeN, fun j σ' H' => ∃ v4, σ' = [some (.ref a), some (.bl true), some (.int (1 + ((i : Nat) : Int))), some (.ref l1), v4] ∧ ∃ xs, H' l1 = some (.lst xs) ∧ Same H (wo H' l1) ∧ All2 (RwAt (wo H' l1)) xs ((List.range i).flatMap (c65 rs (rs.length - 1)) ++ (c65 rs (rs.length - 1) i).take j), ⟨v4, rfl, xs, kl, sl, by rw [List.take_zero, List.append_nil]; exact hA⟩, fun _ _ _ _ _ => trivial, ?_, ?_⟩
      · rintro j x σ' H4 H5 hj ⟨v4, rfl, ys, ky, sy, hB⟩ ⟨rfl, rfl⟩
        have s5 : Same H H5 := sy.trans wo_in
        have hS5 := s5.seq hS
        have hj' : 1 + j < rs.length := by omega
        obtain ⟨r2, hr2⟩ : ∃ r, rs[1 + j]? = some r := ⟨_, List.getElem?_eq_getElem hj'⟩
        obtain ⟨ra2, rb2, hv2, hvk2, e12, e22⟩ := hR.at' hr2
        have e1s := s5 _ _ e1
        have e12s := s5 _ _ e12
        have e10s := s5 _ _ e10
        have hvk' : atI vs (1 + ((i : Nat) : Int)) = some (.ref ra) := by rw [show (1 + ((i : Nat) : Int)) = ((1 + i : Nat) : Int) by omega]; exact hvk
        have hvk2' : atI vs (1 + ((j : Nat) : Int)) = some (.ref ra2) := by rw [show (1 + ((j : Nat) : Int)) = ((1 + j : Nat) : Int) by omega]; exact hvk2
        have hvk0' : atI vs 0 = some (.ref ra0) := hvk0
        have hbl := hB.len
        have hc : ∀ k, (c65 rs (rs.length - 1) k).length = rs.length - 1 := fun k => by unfold c65 a65; rw [List.length_map, List.length_map, List.length_range]
        have hfl : ((List.range i).flatMap (c65 rs (rs.length - 1))).length = i * (rs.length - 1) := by rw [flat_len (c := rs.length - 1) fun k _ => hc k, List.length_range]
        have hm2 : i * (rs.length - 1) ≤ 60 * 60 := Nat.mul_le_mul (by omega) (by omega)
        rw [List.length_append, hfl, List.length_take, hc] at hbl
        kxs_still
        refine ⟨ty_l ky, ?_⟩
        kxs_still
        intro l6 H6 s6 n6 k6 f6
        kxs_still
        intro t7 H7 s7 n7 k7 f7
        have ky7 := s7 _ _ (s6 _ _ ky)
        kxs_still
        refine m_append ky7 (by omega) fun H8 k8 f8 => ?_
        have e8 : wo H8 l1 = wo H7 l1 := wo_but f8
        have w57 : Same (wo H5 l1) (wo H7 l1) := wo_same (s6.trans s7)
        kxs_still
        refine ⟨_, rfl, _, k8, by rw [e8]; exact sy.trans w57, ?_⟩
        rw [e8]
        have hget : (c65 rs (rs.length - 1) i)[j]? = some (putW (putW (oneR rs 0) (oneR rs (1 + i))) (oneR rs (1 + j))) := by
          unfold c65 a65
          rw [List.getElem?_map, List.getElem?_map, List.getElem?_range (by omega)]
          rfl
        rw [take_snoc hget, ← List.append_assoc]
        refine (hB.mono fun _ _ q => q.more w57).snoc (RwNew.wo ky ⟨t7, l6, rfl, s6.none n7, n6, ?_, ?_⟩)
        · rw [k7, ← RulesAt.wth (H := H) (vs := vs) hG hr1, ← RulesAt.wth (H := H) (vs := vs) hG hr0, ← RulesAt.wth (H := H) (vs := vs) hG hr2]
          rfl
        · rw [s7 _ _ k6]
          show some (HO.lst [V.int 0, V.int (1 + ((i : Nat) : Int)), V.int (1 + ((j : Nat) : Int))]) = some (HO.lst ([0, 1 + i, 1 + j].map fun k => V.int ((k : Nat) : Int)))
          simp only [List.map_cons, List.map_nil, Int.natCast_add]
          rfl
      · rintro σ' H4 ⟨v4, rfl, ys, ky, sy, hB⟩
        kxs_still
        refine ⟨_, _, rfl, ys, ky, sy, ?_⟩
        rw [List.range_succ, List.flatMap_append, List.flatMap_singleton]
        rw [List.take_of_length_le (by unfold c65 a65; rw [List.length_map, List.length_map, List.length_range]; omega)] at hB
        exact hB
    · rintro σ' H2 ⟨v2, v4, rfl, xs, kl, sl, hA⟩
      have s2 : Same H H2 := sl.trans wo_in
      kxs_still
      refine k_sortedW hr.units (SqL.of kl) (hA.mono fun _ _ q => q.more wo_in) fun l5 H5 ys s5 n5 k5 hY f5 => ?_
      refine h l5 ys H5 (s2.trans s5) (s2.none n5) k5 ?_
      rw [show (((vs.length : Nat) : Int) - 1).toNat = rs.length - 1 by omega, ← b65_eq] at hY
      exact hY.mono fun _ _ q => q.more s5
end
theorem df_law_keys (T : Txt K mg cs) : Df P w K mg base "_law_keys" 1 ["_law_rules", "_law_twice"] (sp2 (R_law_keys K)) := by
  obtain ⟨f, fd, hm, F, hb⟩ := T.f_law_keys.ex
  exact ⟨f, fd, hm, F.kp, hb, ok_law_keys F T⟩
def rows65 (rs : List Rl) (off K : Nat) : List Wr := if off = 1 then b65 rs K else a65 rs 0 K
def top65 (N0 N1 : Str) (off : Nat) : Nd := .pt (if off = 1 then N0 else N1) 0 (off + 1)
theorem a65_len (rs : List Rl) (off K : Nat) : (a65 rs off K).length = K := by unfold a65; rw [List.length_map, List.length_range]
theorem b65_len (rs : List Rl) (K : Nat) : (b65 rs K).length = K * K := by
  rw [b65_eq, flat_len (c := K) fun k _ => by unfold c65; rw [List.length_map, a65_len], List.length_range]
theorem rows65_len (rs : List Rl) {off K : Nat} (hK : 0 < K) : 0 < (rows65 rs off K).length := by
  unfold rows65
  split
  · rw [b65_len]; exact Nat.mul_pos hK hK
  · rw [a65_len]; exact hK
theorem rows65_sz {rs : List Rl} {off K : Nat} : ∀ r ∈ rows65 rs off K, r.2.1 ≤ 1000 := by
  intro r hr
  unfold rows65 at hr
  split at hr
  · rw [b65_eq] at hr
    obtain ⟨k, _, hr⟩ := List.mem_flatMap.mp hr
    unfold c65 a65 at hr
    rw [List.map_map] at hr
    obtain ⟨j, _, rfl⟩ := List.mem_map.mp hr
    show 1 + 1 + 1 ≤ 1000
    decide
  · obtain ⟨j, _, rfl⟩ := List.mem_map.mp hr
    show 1 ≤ 1000
    decide
theorem topW_ne {m : Nat} (hm : 0 < m) {l : List Wr} (h : 0 < l.length) : topW m l ≠ [] := fun e => by
  have := topW_len m l
  rw [e] at this
  have : (0 : Nat) = min m l.length := this
  omega
theorem tgt65_ne {rs : List Rl} {N0 : Str} {off K m : Nat} (hm : 0 < m) (hK : 0 < K) : ∀ n, tgt65 rs N0 off K m n ≠ []
  | .pt X i j => by
    show (if isSg X = true then [((0 : Nat), (0 : Nat), ([] : List Nat))] else if X = N0 ∧ off = 1 then topW m (b65 rs K) else topW m (a65 rs off K)) ≠ []
    split
    · exact fun e => nomatch e
    · split
      · exact topW_ne hm (by rw [b65_len]; exact Nat.mul_pos hK hK)
      · exact topW_ne hm (by rw [a65_len]; exact hK)
  | .ru r d i j => by
    show (if r < off then (if d = 0 then [oneR rs 0] else if d = 1 then topW m ((a65 rs 1 K).map (putW (oneR rs 0))) else topW m (b65 rs K)) else [oneR rs r]) ≠ []
    split
    · split
      · exact fun e => nomatch e
      · split
        · exact topW_ne hm (by rw [List.length_map, a65_len]; exact hK)
        · exact topW_ne hm (by rw [b65_len]; exact Nat.mul_pos hK hK)
    · exact fun e => nomatch e
section
variable {rs : List Rl} {t : List Nat} {N0 N1 : Str} {s off K : Nat} {F : Hts} {P : Pths} {top : Option Nd}
theorem wood65 (hS : Std rs t F) (h : M65 rs t N0 N1 s off K) (hs : okc s = true) (htop : top = (rs.head?).bind fun r0 => if (lk F (.pt r0.head 0 t.length)).isSome = true then some (.pt r0.head 0 t.length) else none) (hwo : Wo rs F top P) : top = some (top65 N0 N1 off) ∧ Pc P ∧ WOk rs P ∧ (∃ ws0, lk P (top65 N0 N1 off) = some ws0) ∧ (∀ T, Settled P T → ∀ n ws, lk P n = some ws → n ∈ T) ∧
    (∀ m, 0 < m → ∀ T, Settled P T → ∀ n rows, lk (knowW rs P m T) n = some rows → rows ≠ []) ∧ (∀ m, 0 < m → ∀ T, Settled P T → lk (knowW rs P m T) (top65 N0 N1 off) = some (topW m (rows65 rs off K))) := by
  have hlen : t.length = off + 1 := by rw [h.te, List.length_replicate]
  have htp : top = some (top65 N0 N1 off) := by
    rw [htop, hlen]
    unfold top65
    rcases h.oc with e | e
    · obtain ⟨w, hw⟩ := h.rl off (Nat.le_refl _) (by have := h.pos; omega)
      rw [e] at hw
      rw [List.head?_eq_getElem?, hw, if_neg (by omega)]
      show (if (lk F (.pt N1 0 (off + 1))).isSome = true then some (Nd.pt N1 0 (off + 1)) else none) = _
      rw [if_pos (hS.some (h.n1 (i := 0) (by omega)) |> fun q => by rw [e]; exact q)]
    · obtain ⟨w, hw⟩ := h.r0 e
      rw [List.head?_eq_getElem?, hw, if_pos e]
      show (if (lk F (.pt N0 0 (off + 1))).isSome = true then some (Nd.pt N0 0 (off + 1)) else none) = _
      obtain ⟨_, d⟩ := h.top e
      rw [if_pos (by rw [e]; exact hS.some d)]
  have hl2 : rs.length ≤ 61 := Nat.le_trans h.good.few (by decide)
  have hoff : off ≤ 1 := by rcases h.oc with e | e <;> omega
  have hF := hS.len' (fun r hr => (h.good.good r hr).few) h.good.few (N := 2) (by omega)
  have hF : F.length ≤ 4338 := hF
  have hP := hwo.pc' hS h.good (fun c hc => by rw [h.te] at hc; rw [List.eq_of_mem_replicate hc]; exact hs) (by omega) (by omega) (Nat.le_trans (Nat.mul_le_mul hF (show rs.length + 2 * (t.length + 1) ≤ 67 by omega)) (by decide))
  have wi := hwo.som _ htp
  have key : ∀ {n ws}, lk P n = some ws → ws = waysN rs F n ∧ ∃ k, Sd rs t k n := fun {n ws} e => by
    have hm := lk_mem e
    exact ⟨wi.ws _ hm, hS.sd (wi.st n (.inl (List.mem_map.mpr ⟨_, hm, rfl⟩))).1⟩
  have free := free_of_rank (P := P) (rank65 N0 off) (fun n ws e n' hn' => by
    obtain ⟨rfl, k, d⟩ := key e
    have hex : ∃ Fk : Wn, ∀ n' ∈ (waysN rs F n).flatten, lk Fk n' = some (tgt65 rs N0 off K 1 n') := by
      refine ⟨(waysN rs F n).flatten.map fun x => (x, tgt65 rs N0 off K 1 x), fun x hx => ?_⟩
      generalize (waysN rs F n).flatten = L at hx
      induction L with
      | nil => cases hx
      | cons a L ih =>
        show (if a = x then some (tgt65 rs N0 off K 1 a) else lk (L.map fun x => (x, tgt65 rs N0 off K 1 x)) x) = _
        by_cases c : a = x
        · rw [if_pos c, c]
        · rw [if_neg c]
          exact ih ((List.mem_cons.mp hx).resolve_left fun z => c z.symm)
    obtain ⟨Fk, hFk⟩ := hex
    exact (step65 hS h (by decide : 0 < 1) d hFk).2 n' hn') hP.cl
  have know : ∀ m, 0 < m → ∀ T, Settled P T → ∀ n ∈ T, lk (knowW rs P m T) n = some (tgt65 rs N0 off K m n) := fun m hm T hT => know_all hT fun n ws Fk e hk => by
    obtain ⟨rfl, k, d⟩ := key e
    exact (step65 hS h hm d hk).1
  have hin : top65 N0 N1 off ∈ P.map (·.1) := wi.tp.resolve_right fun z => by cases z
  obtain ⟨ws0, hws0⟩ := lk_has hin
  refine ⟨htp, hP, wi.wok hS, ⟨ws0, hws0⟩, free, fun m hm T hT n rows e => ?_, fun m hm T hT => ?_⟩
  · have hnT : n ∈ T := by
      have := lk_key e
      rwa [knowW_keys] at this
    rw [know m hm T hT n hnT] at e
    cases e
    exact tgt65_ne hm h.pos n
  · rw [know m hm T hT _ (free T hT _ _ hws0)]
    congr 1
    rcases h.oc with e | e
    · have eN : (if off = 1 then N0 else N1) = N1 := if_neg (by omega)
      have er : rows65 rs off K = a65 rs 0 K := if_neg (by omega)
      rw [er]
      unfold top65
      rw [eN]
      show (if isSg N1 = true then [((0 : Nat), (0 : Nat), ([] : List Nat))] else if N1 = N0 ∧ off = 1 then topW m (b65 rs K) else topW m (a65 rs off K)) = _
      rw [if_neg (by rw [h.s1]; exact Bool.false_ne_true), if_neg (fun z => h.ne z.1.symm), e]
    · have eN : (if off = 1 then N0 else N1) = N0 := if_pos e
      have er : rows65 rs off K = b65 rs K := if_pos e
      rw [er]
      unfold top65
      rw [eN]
      show (if isSg N0 = true then [((0 : Nat), (0 : Nat), ([] : List Nat))] else if N0 = N0 ∧ off = 1 then topW m (b65 rs K) else topW m (a65 rs off K)) = _
      rw [if_neg (by rw [h.s0]; exact Bool.false_ne_true), if_pos ⟨rfl, e⟩]
end
theorem sgn_part {c : Nat} (hc : okc c = true) : isPartS (sgn c) = true := by
  show (isSignL (tl (sgn c)) || isNameS (sgn c)) = true
  rw [tl_sgn]
  simp [isSignL, hc]
theorem rules65 {H : Hp} {N : Str} {s : Nat} : ∀ {ys : List V}, (∀ (i : Nat) (y : V), ys[i]? = some y → ∃ w : Int, 0 ≤ w ∧ w ≤ top60 ∧ RuleAt H y ⟨N, [sgn s], w⟩) → ∃ rs, RulesAt H ys rs ∧ ∀ r ∈ rs, ∃ w : Int, r = ⟨N, [sgn s], w⟩ ∧ 0 ≤ w ∧ w ≤ top60
  | [], _ => ⟨[], ⟨rfl, fun i v e => by cases e⟩, fun r h => by cases h⟩
  | y :: ys, h => by
    obtain ⟨w, h0, h1, h2⟩ := h 0 y rfl
    obtain ⟨rs, hR, hr⟩ := rules65 (ys := ys) fun i z e => h (i + 1) z e
    refine ⟨⟨N, [sgn s], w⟩ :: rs, ⟨congrArg Nat.succ hR.len, fun i v e => ?_⟩, fun r m => ?_⟩
    · cases i with
      | zero => cases e; exact ⟨_, rfl, h2⟩
      | succ i => exact hR.get i v e
    · rcases List.mem_cons.mp m with rfl | m
      · exact ⟨w, rfl, h0, h1⟩
      · exact hr r m
theorem RulesAt.cons' {H : Hp} {v : V} {vs : List V} {r : Rl} {rs : List Rl} (h : RuleAt H v r) (hR : RulesAt H vs rs) : RulesAt H (v :: vs) (r :: rs) :=
  ⟨congrArg Nat.succ hR.len, fun i v e => by
    cases i with
    | zero => cases e; exact ⟨_, rfl, h⟩
    | succ i => exact hR.get i v e⟩
theorem good65 {N : Str} {s : Nat} {w : Int} (hN : isNameS N = true) (hs : okc s = true) (h0 : 0 ≤ w) (h1 : w ≤ top60) : GoodR ⟨N, [sgn s], w⟩ :=
  ⟨hN, by show 1 ≤ 6; decide, fun p hp => by rw [List.mem_singleton.mp hp]; exact sgn_part hs, h0, h1⟩
theorem m65_0 {rs : List Rl} {N0 N1 : Str} {s n : Nat} (hr : ∀ r ∈ rs, ∃ w : Int, r = ⟨N1, [sgn s], w⟩ ∧ 0 ≤ w ∧ w ≤ top60) (hl : rs.length = n) (hn : n ≤ 60) (hp : 0 < n) (h0 : isNameS N0 = true) (h1 : isNameS N1 = true) (hne : N0 ≠ N1) (hs : okc s = true) : M65 rs (List.replicate 1 s) N0 N1 s 0 n where
  good := ⟨by omega, fun r m => by obtain ⟨w, rfl, q0, q1⟩ := hr r m; exact good65 h1 hs q0 q1⟩
  len := by omega
  oc := .inl rfl
  rl := fun k _ hk => by
    have e : rs[k]? = some rs[k] := List.getElem?_eq_getElem (by omega)
    obtain ⟨w, q, _⟩ := hr _ (List.mem_of_getElem? e)
    exact ⟨w, by rw [e, q]⟩
  r0 := fun e => nomatch e
  ne := hne
  s0 := name_sg h0
  s1 := name_sg h1
  te := rfl
  pos := hp
theorem m65_1 {rs : List Rl} {N0 N1 : Str} {s n : Nat} {w0 : Int} (hr : ∀ r ∈ rs, ∃ w : Int, r = ⟨N1, [sgn s], w⟩ ∧ 0 ≤ w ∧ w ≤ top60) (hl : rs.length = n) (hn : n ≤ 24) (hp : 0 < n) (h0 : isNameS N0 = true) (h1 : isNameS N1 = true) (hne : N0 ≠ N1) (hs : okc s = true) (q0 : 0 ≤ w0) (q1 : w0 ≤ top60) : M65 (⟨N0, [N1, N1], w0⟩ :: rs) (List.replicate 2 s) N0 N1 s 1 n where
  good := ⟨by rw [List.length_cons]; omega, fun r m => by
    rcases List.mem_cons.mp m with rfl | m
    · exact ⟨h0, by show 2 ≤ 6; decide, fun p hp => by
        have : p = N1 := by simpa using hp
        rw [this, isPartS, h1, Bool.or_true], q0, q1⟩
    · obtain ⟨w, rfl, q0, q1⟩ := hr r m; exact good65 h1 hs q0 q1⟩
  len := by rw [List.length_cons]; omega
  oc := .inr rfl
  rl := fun k hk hk2 => by
    obtain ⟨k, rfl⟩ : ∃ j, k = j + 1 := ⟨k - 1, by omega⟩
    have e : rs[k]? = some rs[k] := List.getElem?_eq_getElem (by omega)
    obtain ⟨w, q, _⟩ := hr _ (List.mem_of_getElem? e)
    exact ⟨w, by rw [List.getElem?_cons_succ, e, q]⟩
  r0 := fun _ => ⟨w0, rfl⟩
  ne := hne
  s0 := name_sg h0
  s1 := name_sg h1
  te := rfl
  pos := hp
def nsD (L : List (List Nat)) : PyData := .list (L.map fun ns => .list (ns.map fun k => PyData.int ((k : Nat) : Int)))
theorem ns_dp {K : PySem.W.Frag} {H : Hp} : ∀ {vs : List V} {L : List (List Nat)}, All2 (NsAt H) vs L → DpAll K H vs (L.map fun ns => .list (ns.map fun k => PyData.int ((k : Nat) : Int)))
  | _, _, .nil => .nil
  | _, _, .cons ⟨p, e, k⟩ t => by
    rw [e]
    exact .cons (.lst (SqL.of k) (dp_nats _)) (ns_dp t)
theorem n_sh {k : Nat} (ns : List Nat) : Sh (k + 1) (.list (ns.map fun k => PyData.int ((k : Nat) : Int))) := .lst fun d hd => by
  obtain ⟨j, _, rfl⟩ := List.mem_map.mp hd
  exact .int _
theorem ns_sh {k : Nat} (L : List (List Nat)) : Sh (k + 2) (nsD L) := .lst fun d hd => by
  obtain ⟨ns, _, rfl⟩ := List.mem_map.mp hd
  exact n_sh ns
theorem n_eqv (ns : List Nat) : PyData.eqv (.list (ns.map fun k => PyData.int ((k : Nat) : Int))) (.list (ns.map fun k => PyData.int ((k : Nat) : Int))) = true := (n_sh (k := 0) ns).refl
theorem ns_eqv (L : List (List Nat)) : PyData.eqv (.list (L.map fun ns => .list (ns.map fun k => PyData.int ((k : Nat) : Int)))) (.list (L.map fun ns => .list (ns.map fun k => PyData.int ((k : Nat) : Int)))) = true := (ns_sh (k := 0) L).refl
theorem pkey_some : ∀ {F : Wn} {n : Nd} {rs : List Wr}, lk F n = some rs → lk (F.map pkey) (ndK n) = some ((rs.head?.map fun r => (r.1, r.2.1)).getD (0, 0))
  | p :: F, n, rs, h => by
    have h : (if p.1 = n then some p.2 else lk F n) = some rs := h
    show (if ndK p.1 = ndK n then some (pkey p).2 else lk (F.map pkey) (ndK n)) = _
    by_cases c : p.1 = n
    · rw [if_pos c] at h
      cases h
      rw [if_pos (by rw [c])]
      rfl
    · rw [if_neg c] at h
      rw [if_neg fun z => c (ndK_inj z)]
      exact pkey_some h
theorem all2_take {α β : Type} {R : α → β → Prop} {as : List α} {bs : List β} (n : Nat) (h : All2 R as bs) : All2 R (as.take n) (bs.take n) := h.take n
section
set_option hygiene false in
local macro_rules | `(tactic| top_name) => `(tactic| first | refine e_call (df_law_mixed T) (hr.mono (by decide)) ?_ | refine e_call (df_law_names T) (hr.mono (by decide)) ?_ | refine e_call (df_law_keys T) (hr.mono (by decide)) ?_ | refine e_call (df_law_signs T) (hr.mono (by decide)) ?_ | refine e_call (df_law_worths T) (hr.mono (by decide)) ?_ | refine e_call (es := [_]) (df_told T) (hr.mono (by decide)) ?_ | refine e_callD (es := []) (dfd_told T) (hr.mono (by decide)) ?_ | refine e_call (df_best T) (hr.mono (by decide)) ?_ | refine e_call (df_prices T) (hr.mono (by decide)) ?_)
theorem ok_law {f : Addr} {fd : FuncData} (F : Fun K "law" "law" s_law f fd) (T : Txt K mg cs) : FnOk P w K mg base (L2.CX P w) 8 f fd ["_law_script"] (sp1 (R_law K)) := by
  refine F.okX sc_law (fun vs H Q E h => sp1_len h) (fun cdv A outer s H vs Q E hr h => ⟨_, PBw (X := X_law P w K mg base f cdv A outer s H E), ?_⟩)
  obtain ⟨a0, rfl, h⟩ := h
  have ib_Wood : Gn mg "Wood" (some _) := ⟨T.c_Wood.mg⟩
  have ib_list := T.b_list
  have ib_int := T.b_int
  have hr' : Room 7 (X_law P w K mg base f cdv A outer s H E).A := hr
  replace hr := hr'
  clear hr'
  obtain ⟨a, ns, rfl, hS, hlen, h⟩ := h
  kxs_still
  refine ⟨_, _, _, rfl, hS, rfl, by decide, by decide, fun way way0 way1 => ?_⟩
  kxs_still
  refine ⟨_, _, _, rfl, hS, rfl, by decide, by decide, fun c1 c10 c11 => ?_⟩
  kxs_still
  refine ⟨c10, c11, fun ln H1 nms s1 k1 hnl hnn hne => ?_⟩
  kxs_still
  refine ⟨_, _, _, rfl, s1.seq hS, rfl, by decide, by decide, fun c2 c20 c21 => ?_⟩
  kxs_still
  refine ⟨c20, fun lsg H2 cs' s2 n2 k2 hcl hok => ?_⟩
  kxs_still
  obtain ⟨sg, cs'', rfl⟩ : ∃ sg cs'', cs' = sg :: cs'' := by
    cases cs' with
    | nil => cases hcl
    | cons x xs => exact ⟨x, xs, rfl⟩
  obtain ⟨N0, N1, nms', rfl⟩ : ∃ N0 N1 nms', nms = N0 :: N1 :: nms' := by
    match nms, hnl with
    | x :: z :: r, _ => exact ⟨x, z, r, rfl⟩
  have hsg : okc sg = true := hok sg (List.mem_cons_self ..)
  have hN0 := hnn N0 (List.mem_cons_self ..)
  have hN1 := hnn N1 (List.mem_cons_of_mem _ (List.mem_cons_self ..))
  have hNe := hne N0 N1 rfl rfl
  clear hnl hnn hne hcl hok
  refine i_lst (SqL.of k2) (v := .str ⟨#[sg]⟩) (atI_nat (by decide) rfl) ?_
  have k12 := s2 _ _ k1
  have hS2 := s2.seq (s1.seq hS)
  refine b_cons (sMono (fun σ' H' => ∃ b : Bool, σ' = [some (.ref a), some (.int way), some (.ref ln), some (.str ⟨#[sg]⟩), some (.bl b), none, none, none, none, none, none, none, none] ∧ H2 = H') ?_ ?_)
  · kxs_still
    exact ⟨_, rfl, rfl⟩
  rintro σ' H' ⟨b, rfl, rfl⟩
  refine b_cons (sMono (fun σ' H' => ∃ n : Nat, σ' = [some (.ref a), some (.int way), some (.ref ln), some (.str ⟨#[sg]⟩), some (.bl b), some (.int ((n : Nat) : Int)), none, none, none, none, none, none, none] ∧ H2 = H' ∧ 11 ≤ n ∧ n ≤ 60) ?_ ?_)
  · kxs_still
    exact ⟨(11 + way / 2 % 50).toNat, by rw [Int.toNat_of_nonneg (by omega)]; rfl, rfl, by omega, by omega⟩
  rintro σ' H' ⟨n, rfl, rfl, hn0, hn1⟩
  refine b_cons (sMono (fun σ' H' => ∃ n : Nat, σ' = [some (.ref a), some (.int way), some (.ref ln), some (.str ⟨#[sg]⟩), some (.bl b), some (.int ((n : Nat) : Int)), none, none, none, none, none, none, none] ∧ H2 = H' ∧ 11 ≤ n ∧ n ≤ 60 ∧ (b = true → n ≤ 24)) ?_ ?_)
  · cases b with
    | true =>
      kxs_still
      exact ⟨(11 + way / 2 % 14).toNat, by rw [Int.toNat_of_nonneg (by omega)]; rfl, rfl, by omega, by omega, fun _ => by omega⟩
    | false =>
      kxs_still
      exact ⟨n, rfl, rfl, hn0, hn1, fun z => nomatch z⟩
  clear hn0 hn1 n
  rintro σ' H' ⟨n, rfl, rfl, hn0, hn1, hn2⟩
  kxs_still
  refine s_setLcH (blkOk_by (sc := defScope s_law) (own := [("_law_worth", 7)]) (by decide +kernel)) (fun i y H' => ∃ w : Int, 0 ≤ w ∧ w ≤ top60 ∧ RuleAt H' y ⟨N1, [sgn sg], w⟩) (fun i y H' H'' s h => by
    obtain ⟨w, q1, q2, q3⟩ := h
    exact ⟨w, q1, q2, q3.ts s⟩) (j_list ?_)
  kxs_still
  refine ⟨a, ns, n, _, rfl, hS2, rfl, hn1, rfl, Int.ediv_nonneg way0 (by decide), fun lw H3 ws s3 n3 k3 hwl hws => ?_⟩
  have k13 := s3 _ _ k12
  refine ⟨lw, rfl, ⟨_, SqL.of k3⟩, _, _, _, walk_list (xs := ws.map V.int), by rw [List.length_map]; omega, fun H' s' => SqL.of (s' _ _ k3), ?_, ?_⟩
  · rintro i x H4 H5 hi s4 ⟨rfl, hx⟩
    obtain ⟨w, hw, rfl⟩ := map_get' hx
    obtain ⟨hw0, hw1⟩ := hws w (List.mem_of_getElem? hw)
    refine ⟨Same.refl _, fun _ _ _ _ _ => ?_⟩
    kxs_still
    refine ⟨rfl, Same.refl _, fun _ _ _ _ _ => ?_⟩
    have k14 := s4 _ _ k13
    kxs_still
    refine o_cat (by rw [one_len, show (Str.ofString "'").length = 1 from by decide +kernel, sizeLine_eq]; omega) ?_
    kxs_still
    intro t6 H6 s6 n6 k6 f6
    kxs_still
    intro t7 H7 s7 n7 k7 f7
    exact ⟨⟨w, hw0, hw1, t7, t6, rfl, k7, s7 _ _ k6⟩, s6.trans s7⟩
  intro lr H4 ys s4 n4 k4 hyl hys
  rw [List.length_map, hwl] at hyl
  obtain ⟨rs1, hR1, hr1⟩ := rules65 hys
  have hrl1 := hR1.len
  have k14 := s4 _ _ k13
  clear hys hws k3 k13 k12 n3
  refine b_cons (sMono (fun σ' H' => ∃ (lr' : Addr) (vs : List V) (rs : List Rl) (off : Nat), σ' = [some (.ref a), some (.int way), some (.ref ln), some (.str ⟨#[sg]⟩), some (.bl b), some (.int ((n : Nat) : Int)), some (.ref lr'), none, none, none, none, none, none] ∧ Same H4 H' ∧ H' lr' = some (.lst vs) ∧ RulesAt H' vs rs ∧ M65 rs (List.replicate (off + 1) sg) N0 N1 sg off n ∧ (b = true ↔ off = 1)) ?_ ?_)
  · cases b with
    | true =>
      kxs_still
      intro t5 H5 s5 n5 k5 f5
      have k15 := s5 _ _ k14
      kxs_still
      intro t6 H6 s6 n6 k6 f6
      kxs_still
      intro l7 H7 s7 n7 k7 f7
      have s47 := s5.trans (s6.trans s7)
      kxs_still
      refine o_catL k7 (s47 _ _ k4) (by rw [hyl]; show 1 + n ≤ _; omega) fun l8 H8 s8 n8 k8 f8 => ?_
      kxs_still
      refine ⟨l8, _, _, 1, rfl, s47.trans s8, k8, RulesAt.cons' (r := ⟨N0, [N1, N1], way / 800 % 5⟩) ⟨t6, t5, rfl, s8 _ _ (s7 _ _ k6), s8 _ _ (s7 _ _ (s6 _ _ k5))⟩ (hR1.ts (Same.ts (s47.trans s8))), m65_1 hr1 (by omega) (hn2 rfl) (by omega) hN0 hN1 hNe hsg (by omega) (by show _ ≤ (1000000000000000000000000000000000000000000000000000000000000 : Int); omega), by simp⟩
    | false =>
      kxs_still
      exact ⟨lr, ys, rs1, 0, rfl, Same.refl _, k4, hR1, m65_0 hr1 (by omega) hn1 (by omega) hN0 hN1 hNe hsg, by simp⟩
  rintro σ' H5 ⟨lr', vs, rs, off, rfl, s5, k5, hR, hM, hb⟩
  have hG := hM.good
  have hrl := hM.len
  have hoc := hM.oc
  kxs_still
  refine ⟨lr', vs, rs, b, rfl, SqL.of k5, hR, hG, rfl, by omega, fun lky xs H6 s6 n6 k6 hA => ?_⟩
  have hrows : (if b = true then b65 rs (rs.length - 1) else a65 rs 0 rs.length) = rows65 rs off n := by
    unfold rows65
    rcases hoc with e | e
    · rw [if_neg (fun q => by have := hb.mp q; omega), if_neg (by omega), hrl, e, Nat.zero_add]
    · rw [if_pos (hb.mpr e), if_pos e, hrl, e, Nat.add_sub_cancel_left]
  rw [hrows] at hA
  kxs_still
  generalize hRS : (rows65 rs off n).mergeSort leW = RS at hA
  have hxl := hA.len
  have hRl : 0 < RS.length := by rw [← hRS, List.length_mergeSort]; exact rows65_len rs hM.pos
  have hRm : RS.length ≤ 3600 := by
    rw [← hRS, List.length_mergeSort]
    unfold rows65
    split
    · rename_i e
      rw [b65_len]
      have : n ≤ 24 := hn2 (hb.mpr e)
      exact Nat.le_trans (Nat.mul_le_mul this this) (by decide)
    · rw [a65_len]; omega
  refine s_setLcP (blkOk_by (sc := defScope s_law) (own := [("_law_key", 10)]) (by decide +kernel)) (fun i y => ∃ r, RS[i]? = some r ∧ NsAt H6 y r.2.2) (j_list ?_)
  kxs_still
  refine ⟨⟨_, SqL.of k6⟩, _, _, _, walk_list (xs := xs), by omega, fun H' s' => SqL.of (s' _ _ k6), ?_, ?_⟩
  · rintro i x H7 H8 hi s7 ⟨rfl, hx⟩
    obtain ⟨r, hr', t, p, rfl, kt, kp⟩ := hA.get hx
    refine ⟨Same.refl _, fun _ _ _ _ _ => ?_⟩
    kxs_still
    refine ⟨rfl, Same.refl _, fun _ _ _ _ _ => ?_⟩
    have kt8 := s7 _ _ kt
    kxs_still
    exact ⟨⟨r, hr', p, rfl, kp⟩, Same.refl _⟩
  intro ld H7 ds s7 n7 k7 hdl hds
  have hD : All2 (NsAt H7) ds (RS.map (·.2.2)) := all2_by (by rw [List.length_map]; omega) fun i y e => by
    obtain ⟨r, hr', hn⟩ := hds i y e
    exact ⟨_, by rw [List.getElem?_map, hr']; rfl, hn.more s7⟩
  clear hds
  refine b_cons (sMono (fun σ' H' => ∃ m : Nat, σ' = [some (.ref a), some (.int way), some (.ref ln), some (.str ⟨#[sg]⟩), some (.bl b), some (.int ((n : Nat) : Int)), some (.ref lr'), none, some (.ref lky), some (.ref ld), none, some (.int ((m : Nat) : Int)), none] ∧ H7 = H' ∧ m ≤ 60) ?_ ?_)
  · kxs_still
    exact ⟨(way / 4000 % 61).toNat, by rw [Int.toNat_of_nonneg (by omega)]; rfl, rfl, by omega⟩
  rintro σ' H' ⟨m, rfl, rfl, hm⟩
  have s57 := s6.trans s7
  have k57 := s57 _ _ k5
  refine b_cons (s_set (e_make (in_Wood T) (hr.mono (by decide)) ?_))
  kxs_still
  refine k_listL (.inl (SqL.of k57)) fun lg H8 s8 n8 k8 f8 => ?_
  kxs_still
  refine k_intB ?_
  kxs_still
  refine o_repS (by cases b <;> decide) (by cases b <;> decide) (by rw [one_len]; decide) fun zt hzt => ?_
  have hz : zt = strOf (List.replicate (off + 1) sg) := by
    refine ext_tl ?_
    rw [hzt, tl_strOf]
    show (List.replicate _ [sg]).flatten = _
    rcases hoc with e | e
    · have : b = false := by
        cases b with
        | false => rfl
        | true => have := hb.mp rfl; omega
      rw [this, e]; rfl
    · rw [hb.mpr e, e]; rfl
  subst hz
  have hoff1 : off ≤ 1 := by rcases hoc with e | e <;> omega
  have htxt : isTextD (.str (strOf (List.replicate (off + 1) sg))) = true := text_strOf (by rw [List.length_replicate]; omega) fun z hz => by rw [List.eq_of_mem_replicate hz]; exact hsg
  kxs_still
  intro c dx H9 s9 n9 nd9 ndx k9 kd9 f9
  have s58 := s57.trans s8
  have hR8 := hR.ts (Same.ts s58)
  kxs_still
  refine ⟨H8, c, dx, rfl, s9, n9, nd9, k9, kd9, .inr ⟨lg, vs, rs, ⟨rfl, SqL.of k8, hR8, hG⟩, .str (strOf (List.replicate (off + 1) sg)), .str _ (by rw [strOf_len, List.length_replicate]; omega), .inr ⟨_, rfl, htxt, fun F' hF' => ?_, fun la pa pk top kvs P F' H10 s10 nla npa hW hst htop hwo hfv => ⟨rfl, ?_⟩⟩⟩⟩
  · rw [tl_strOf] at hF'
    have h1 := hF'.len' (fun r hr => (hG.good r hr).few) hG.few (N := 2) (by rw [List.length_replicate]; omega)
    have h2 := hF'.mid (fun r hr => (hG.good r hr).few) hG.few (N := 2) (by rw [List.length_replicate]; omega)
    exact ⟨Nat.le_trans h1 (by decide), Nat.le_trans h2 (by decide)⟩
  rw [tl_strOf] at hst htop
  obtain ⟨rfl, hP, hWO, ⟨ws0, hws0⟩, free, hne', hknow⟩ := wood65 hst hM hsg htop hwo
  have hA10 : ∀ {H' : Hp}, Same H10 H' → WdAt H' cs.Wood (.ref c) rs (strOf (List.replicate (off + 1) sg)) (some (top65 N0 N1 off)) P := fun s => ⟨vs, c, dx, la, pa, pk, kvs, rfl, hW.more s⟩
  have hsz : ∀ m', ∀ T, Settled P T → ∀ rows, lk (knowW rs P m' T) (top65 N0 N1 off) = some rows → 0 < m' → ∀ r ∈ rows, r.2.1 ≤ 1000 := fun m' T hT rows e h0 r hr => by
    rw [hknow m' h0 T hT] at e
    cases e
    exact rows65_sz r (topW_mem hr)
  have htop : ∀ m', 0 < m' → ∀ T, Settled P T → ∀ rows, lk (knowW rs P m' T) (top65 N0 N1 off) = some rows → rows = RS.take m' := fun m' h0 T hT rows e => by
    rw [hknow m' h0 T hT] at e
    cases e
    unfold topW
    rw [hRS]
  have s710 : Same H7 H10 := s8.trans s10
  obtain ⟨q0, RS', rfl⟩ : ∃ r0 RS', RS = r0 :: RS' := by
    cases RS with
    | nil => cases hRl
    | cons x xs => exact ⟨x, xs, rfl⟩
  obtain ⟨x0, xs', rfl, hx0⟩ : ∃ x0 xs', xs = x0 :: xs' ∧ RwAt H6 x0 q0 := by
    cases hA with
    | cons u v => exact ⟨_, _, rfl, u⟩
  obtain ⟨d0, ds', rfl, hd0⟩ : ∃ d0 ds', ds = d0 :: ds' ∧ NsAt H7 d0 q0.2.2 := by
    cases hD with
    | cons u v => exact ⟨_, _, rfl, u⟩
  obtain ⟨t0, p0, rfl, kt0, kp0⟩ := hx0
  kxs_still
  refine ⟨rs, _, P, m, _, ws0, hA10 (Same.refl _), hP, hG, hWO, rfl, hm, free, hws0, fun h0 T' hT rows e => hsz m T' hT rows e h0, fun l1 vs1 rows1 H11 s11 n11 k11 hor1 hB1 => ?_⟩
  have hrow1 : rows1 = (q0 :: RS').take m := by
    rcases hor1 with ⟨e, rfl⟩ | ⟨h0, T', hT, e⟩
    · rw [e, List.take_zero]
    · exact htop m h0 T' hT rows1 e
  rw [hrow1, List.map_take] at hB1
  have kd11 := s11 _ _ (s710 _ _ k7)
  kxs_still
  refine n_lst (SqL.of kd11) fun l2 H12 s12 n12 kk12 f12 => ?_
  rw [cutV_to _ (Int.natCast_nonneg _), Int.toNat_natCast] at kk12
  have hD12 := (hD.mono fun _ _ q => q.more (s710.trans (s11.trans s12))).take m
  refine o_neD hr.units (.lst (SqL.of (s12 _ _ k11)) (ns_dp (hB1.mono fun _ _ q => q.more s12))) (.lst (SqL.of kk12) (ns_dp hD12)) (ns_sh (k := 0) _).ok (ns_sh (k := 0) _).ok ?_
  rw [ns_eqv]
  have s1012 := s11.trans s12
  kxs_still
  refine ⟨rs, _, P, 60, _, ws0, hA10 s1012, hP, hG, hWO, rfl, by decide, free, hws0, fun h0 T' hT rows e => hsz 60 T' hT rows e h0, fun l3 vs3 rows3 H13 s13 n13 kk13 hor3 hB3 => ?_⟩
  obtain ⟨_, T3, hT3, e3⟩ := hor3.resolve_left fun w => nomatch w.1
  rw [htop 60 (by decide) T3 hT3 rows3 e3, List.map_take] at hB3
  have kd13 := s13 _ _ (s12 _ _ kd11)
  kxs_still
  refine n_lst (SqL.of kd13) fun l4 H14 s14 n14 kk14 f14 => ?_
  rw [cutV_to _ (by decide)] at kk14
  have hD14 := (hD.mono fun _ _ q => q.more (s710.trans (s1012.trans (s13.trans s14)))).take 60
  refine o_neD hr.units (.lst (SqL.of (s14 _ _ kk13)) (ns_dp (hB3.mono fun _ _ q => q.more s14))) (.lst (SqL.of kk14) (ns_dp hD14)) (ns_sh (k := 0) _).ok (ns_sh (k := 0) _).ok ?_
  rw [ns_eqv]
  have s1014 := s1012.trans (s13.trans s14)
  kxs_still
  refine ⟨rs, _, P, _, ws0, hA10 s1014, hP, hG, hWO, free, hws0, fun T' hT rows e => ⟨hne' 1 (by decide) T' hT _ rows e, hsz 1 T' hT rows e (by decide)⟩, fun v5 T5 r5 rows5 H15 s15 hT5 e5 hv5 => ?_⟩
  have h5 := htop 1 (by decide) T5 hT5 _ e5
  obtain ⟨rfl, _⟩ := List.cons.inj h5
  have kd15 := s15 _ _ (s14 _ _ kd13)
  have s1015 := s1014.trans s15
  kxs_still
  have hd15 := hd0.more (s710.trans s1015)
  obtain ⟨p5, rfl, kp5⟩ := hv5
  obtain ⟨p6, rfl, kp6⟩ := hd15
  refine o_neD hr.units (.lst (SqL.of kp5) (dp_nats _)) (.lst (SqL.of kp6) (dp_nats _)) (n_sh (k := 0) _).ok (n_sh (k := 0) _).ok ?_
  rw [n_eqv]
  kxs_still
  refine e_dget1 (rm1 hr) ?_
  kxs_still
  refine ⟨rs, _, _, P, hA10 s1015, hP, hG, hWO, free, fun T' hT nn rows e => hne' 1 (by decide) T' hT nn rows e, fun dp T6 H16 s16 n16 hT6 hPr => ?_⟩
  obtain ⟨kvp, kdp, hpp⟩ := hPr
  have s516 : Same H5 H16 := s57.trans (s710.trans (s1015.trans s16))
  have k516 := s516 _ _ k5
  have klk16 : H16 lky = _ := (s7.trans (s710.trans (s1015.trans s16))) _ _ k6
  have kt016 : H16 t0 = _ := (s7.trans (s710.trans (s1015.trans s16))) _ _ kt0
  obtain ⟨rf, hrf⟩ : ∃ r, rs[0]? = some r := ⟨_, List.getElem?_eq_getElem (by have := hM.pos; omega)⟩
  obtain ⟨ra, rb, hv0, hvk0, e10, e20⟩ := (hR.ts (Same.ts s516)).at' hrf
  have hvk0 : atI vs 0 = some (.ref ra) := hvk0
  have hrh : rf.head = (if off = 1 then N0 else N1) := by
    rcases hoc with e | e
    · obtain ⟨w', hw'⟩ := hM.rl 0 (by omega) (by have := hM.pos; omega)
      rw [hrf] at hw'
      cases hw'
      rw [if_neg (by omega)]
    · obtain ⟨w', hw'⟩ := hM.r0 e
      rw [hrf] at hw'
      cases hw'
      rw [if_pos e]
  kxs_still
  refine ⟨.inr ⟨_, .inl kdp⟩, ?_⟩
  kxs_still
  refine k_intB ?_
  kxs_still
  intro t17 H17 s17 n17 kk17 f17
  have hkey : H17 t17 = some (.tup ((ndK (top65 N0 N1 off)).map kV)) := by
    rw [kk17, hrh]
    unfold top65
    show some (HO.tup [_, V.int 0, V.int (1 + if b = true then 1 else 0)]) = some (HO.tup [_, V.int ((0 : Nat) : Int), V.int ((off + 1 : Nat) : Int)])
    have : (1 + if b = true then (1 : Int) else 0) = ((off + 1 : Nat) : Int) := by
      rcases hoc with e | e
      · rw [if_neg fun q => by have := hb.mp q; omega, e]; rfl
      · rw [if_pos (hb.mpr e), e]; rfl
    rw [this]
    rfl
  have hlk1 := hknow 1 (by decide) T6 hT6
  have hrow6 := htop 1 (by decide) T6 hT6 _ hlk1
  rw [hrow6] at hlk1
  obtain ⟨v6, hv6, hp6⟩ := (hpp.val (ndK (top65 N0 N1 off))).2 _ (pkey_some hlk1)
  obtain ⟨t6, rfl, kt6⟩ := hp6
  have kt6 : H16 t6 = some (.tup [.int ((r5.1 : Nat) : Int), .int ((r5.2.1 : Nat) : Int)]) := kt6
  refine ⟨_, DGet.t (s17 _ _ kdp) hkey, ?_⟩
  rw [hv6]
  have klk17 := s17 _ _ klk16
  have kt017 := s17 _ _ kt016
  kxs_still
  refine n_tupS (SqT.of kt017) fun t18 H18 s18 kk18 => ?_
  have ec : cutV [V.int ((r5.1 : Nat) : Int), V.int ((r5.2.1 : Nat) : Int), V.ref p0] none (some 2) = [V.int ((r5.1 : Nat) : Int), V.int ((r5.2.1 : Nat) : Int)] := cutV_to _ (by decide)
  rw [ec] at kk18
  refine o_eqD hr.units (.tup (SqT.of (s18 _ _ (s17 _ _ kt6))) (.cons (.int _) (.cons (.int _) .nil))) (.tup kk18 (.cons (.int _) (.cons (.int _) .nil))) (Sh.ok (k := 1) (.tup fun d hd => by
    simp only [List.mem_cons, List.not_mem_nil, or_false] at hd
    rcases hd with rfl | rfl <;> exact .int _)) (Sh.ok (k := 1) (.tup fun d hd => by
    simp only [List.mem_cons, List.not_mem_nil, or_false] at hd
    rcases hd with rfl | rfl <;> exact .int _)) ?_
  rw [show PyData.eqv (.tuple [.int ((r5.1 : Nat) : Int), .int ((r5.2.1 : Nat) : Int)]) (.tuple [.int ((r5.1 : Nat) : Int), .int ((r5.2.1 : Nat) : Int)]) = true from (Sh.refl (k := 1) (.tup fun d hd => by
    simp only [List.mem_cons, List.not_mem_nil, or_false] at hd
    rcases hd with rfl | rfl <;> exact .int _))]
  exact h _

end
end
theorem all_mk {l : PySem.W.OpenLaw} {w : World} {K : PySem.W.Frag} {h : Heap} {mg : Str → Option Value} {fa C_ForestError C_NoGrammar C_NoText C_NoRow C_NoNumber C_TooGreat C_Chart C_Wood f_i_Chart f_m_Chart_offer f_m_Chart_take_part f_m_Chart_take_parts f_m_Chart_take_level f_m_Chart_rise f_i_Wood f_m_Wood_reach f_m_Wood_told_grammar f_m_Wood_top f_m_Wood_nodes f_m_Wood_ways f_wall f_is_whole f_may_stand f_is_sign f_is_name f_checked_text f_owners f_settled f_put_together f_of_way f_first_rows f_all_rows f_told f_best f_prices f_are_parts f_is_rule f_checked f_rules_by_head f_first_nodes f_heights_over f_ways_of_parts f_ways_of_head f_ways_over f_law_cell_at f_law_mixed f_law_signs f_law_names f_law_worths f_law_keys f_law : Addr} (X : K.In h) (G : h.Ns mainGlobals mg) (hfa : mg "law" = some (.ref fa))
    {t_MOST_SIGNS : Tok}
    {t_MOST : Tok}
    {t_LONGEST : Tok}
    {t_MOST_RULES : Tok}
    {t_MOST_PARTS : Tok}
    {t_MOST_WORTH : Tok}
    {od_i_Chart an_i_Chart : Option Addr} {sl_i_Chart : Array (Option Value)} {oc_i_Chart kV_i_Chart dc_i_Chart pm_i_Chart cd_i_Chart ct_i_Chart : Value}
    {od_m_Chart_offer an_m_Chart_offer : Option Addr} {sl_m_Chart_offer : Array (Option Value)} {oc_m_Chart_offer kV_m_Chart_offer dc_m_Chart_offer pm_m_Chart_offer cd_m_Chart_offer ct_m_Chart_offer : Value}
    {od_m_Chart_take_part an_m_Chart_take_part : Option Addr} {sl_m_Chart_take_part : Array (Option Value)} {oc_m_Chart_take_part kV_m_Chart_take_part dc_m_Chart_take_part pm_m_Chart_take_part cd_m_Chart_take_part ct_m_Chart_take_part : Value}
    {od_m_Chart_take_parts an_m_Chart_take_parts : Option Addr} {sl_m_Chart_take_parts : Array (Option Value)} {oc_m_Chart_take_parts kV_m_Chart_take_parts dc_m_Chart_take_parts pm_m_Chart_take_parts cd_m_Chart_take_parts ct_m_Chart_take_parts : Value}
    {od_m_Chart_take_level an_m_Chart_take_level : Option Addr} {sl_m_Chart_take_level : Array (Option Value)} {oc_m_Chart_take_level kV_m_Chart_take_level dc_m_Chart_take_level pm_m_Chart_take_level cd_m_Chart_take_level ct_m_Chart_take_level : Value}
    {od_m_Chart_rise an_m_Chart_rise : Option Addr} {sl_m_Chart_rise : Array (Option Value)} {oc_m_Chart_rise kV_m_Chart_rise dc_m_Chart_rise pm_m_Chart_rise cd_m_Chart_rise ct_m_Chart_rise : Value}
    {od_i_Wood an_i_Wood : Option Addr} {sl_i_Wood : Array (Option Value)} {oc_i_Wood kV_i_Wood dc_i_Wood pm_i_Wood cd_i_Wood ct_i_Wood : Value}
    {od_m_Wood_reach an_m_Wood_reach : Option Addr} {sl_m_Wood_reach : Array (Option Value)} {oc_m_Wood_reach kV_m_Wood_reach dc_m_Wood_reach pm_m_Wood_reach cd_m_Wood_reach ct_m_Wood_reach : Value}
    {od_m_Wood_told_grammar an_m_Wood_told_grammar : Option Addr} {sl_m_Wood_told_grammar : Array (Option Value)} {oc_m_Wood_told_grammar kV_m_Wood_told_grammar dc_m_Wood_told_grammar pm_m_Wood_told_grammar cd_m_Wood_told_grammar ct_m_Wood_told_grammar : Value}
    {od_m_Wood_top an_m_Wood_top : Option Addr} {sl_m_Wood_top : Array (Option Value)} {oc_m_Wood_top kV_m_Wood_top dc_m_Wood_top pm_m_Wood_top cd_m_Wood_top ct_m_Wood_top : Value}
    {od_m_Wood_nodes an_m_Wood_nodes : Option Addr} {sl_m_Wood_nodes : Array (Option Value)} {oc_m_Wood_nodes kV_m_Wood_nodes dc_m_Wood_nodes pm_m_Wood_nodes cd_m_Wood_nodes ct_m_Wood_nodes : Value}
    {od_m_Wood_ways an_m_Wood_ways : Option Addr} {sl_m_Wood_ways : Array (Option Value)} {oc_m_Wood_ways kV_m_Wood_ways dc_m_Wood_ways pm_m_Wood_ways cd_m_Wood_ways ct_m_Wood_ways : Value}
    {od_wall an_wall : Option Addr} {sl_wall : Array (Option Value)} {oc_wall kV_wall dc_wall pm_wall cd_wall ct_wall : Value}
    {od_is_whole an_is_whole : Option Addr} {sl_is_whole : Array (Option Value)} {oc_is_whole kV_is_whole dc_is_whole pm_is_whole cd_is_whole ct_is_whole : Value}
    {od_may_stand an_may_stand : Option Addr} {sl_may_stand : Array (Option Value)} {oc_may_stand kV_may_stand dc_may_stand pm_may_stand cd_may_stand ct_may_stand : Value}
    {od_is_sign an_is_sign : Option Addr} {sl_is_sign : Array (Option Value)} {oc_is_sign kV_is_sign dc_is_sign pm_is_sign cd_is_sign ct_is_sign : Value}
    {od_is_name an_is_name : Option Addr} {sl_is_name : Array (Option Value)} {oc_is_name kV_is_name dc_is_name pm_is_name cd_is_name ct_is_name : Value}
    {od_checked_text an_checked_text : Option Addr} {sl_checked_text : Array (Option Value)} {oc_checked_text kV_checked_text dc_checked_text pm_checked_text cd_checked_text ct_checked_text : Value}
    {od_owners an_owners : Option Addr} {sl_owners : Array (Option Value)} {oc_owners kV_owners dc_owners pm_owners cd_owners ct_owners : Value}
    {od_settled an_settled : Option Addr} {sl_settled : Array (Option Value)} {oc_settled kV_settled dc_settled pm_settled cd_settled ct_settled : Value}
    {od_put_together an_put_together : Option Addr} {sl_put_together : Array (Option Value)} {oc_put_together kV_put_together dc_put_together pm_put_together cd_put_together ct_put_together : Value}
    {od_of_way an_of_way : Option Addr} {sl_of_way : Array (Option Value)} {oc_of_way kV_of_way dc_of_way pm_of_way cd_of_way ct_of_way : Value}
    {od_first_rows an_first_rows : Option Addr} {sl_first_rows : Array (Option Value)} {oc_first_rows kV_first_rows dc_first_rows pm_first_rows cd_first_rows ct_first_rows : Value}
    {od_all_rows an_all_rows : Option Addr} {sl_all_rows : Array (Option Value)} {oc_all_rows kV_all_rows dc_all_rows pm_all_rows cd_all_rows ct_all_rows : Value}
    {od_told an_told : Option Addr} {sl_told : Array (Option Value)} {oc_told kV_told dc_told pm_told cd_told ct_told : Value}
    {D_told n2_told : Nat} {od2_told : Option Addr} {sl2_told : Array (Option Value)} {oc2_told : Value} {tk0_told : Tok}
    {od_best an_best : Option Addr} {sl_best : Array (Option Value)} {oc_best kV_best dc_best pm_best cd_best ct_best : Value}
    {od_prices an_prices : Option Addr} {sl_prices : Array (Option Value)} {oc_prices kV_prices dc_prices pm_prices cd_prices ct_prices : Value}
    {od_are_parts an_are_parts : Option Addr} {sl_are_parts : Array (Option Value)} {oc_are_parts kV_are_parts dc_are_parts pm_are_parts cd_are_parts ct_are_parts : Value}
    {od_is_rule an_is_rule : Option Addr} {sl_is_rule : Array (Option Value)} {oc_is_rule kV_is_rule dc_is_rule pm_is_rule cd_is_rule ct_is_rule : Value}
    {od_checked an_checked : Option Addr} {sl_checked : Array (Option Value)} {oc_checked kV_checked dc_checked pm_checked cd_checked ct_checked : Value}
    {od_rules_by_head an_rules_by_head : Option Addr} {sl_rules_by_head : Array (Option Value)} {oc_rules_by_head kV_rules_by_head dc_rules_by_head pm_rules_by_head cd_rules_by_head ct_rules_by_head : Value}
    {od_first_nodes an_first_nodes : Option Addr} {sl_first_nodes : Array (Option Value)} {oc_first_nodes kV_first_nodes dc_first_nodes pm_first_nodes cd_first_nodes ct_first_nodes : Value}
    {od_heights_over an_heights_over : Option Addr} {sl_heights_over : Array (Option Value)} {oc_heights_over kV_heights_over dc_heights_over pm_heights_over cd_heights_over ct_heights_over : Value}
    {od_ways_of_parts an_ways_of_parts : Option Addr} {sl_ways_of_parts : Array (Option Value)} {oc_ways_of_parts kV_ways_of_parts dc_ways_of_parts pm_ways_of_parts cd_ways_of_parts ct_ways_of_parts : Value}
    {od_ways_of_head an_ways_of_head : Option Addr} {sl_ways_of_head : Array (Option Value)} {oc_ways_of_head kV_ways_of_head dc_ways_of_head pm_ways_of_head cd_ways_of_head ct_ways_of_head : Value}
    {od_ways_over an_ways_over : Option Addr} {sl_ways_over : Array (Option Value)} {oc_ways_over kV_ways_over dc_ways_over pm_ways_over cd_ways_over ct_ways_over : Value}
    {od_law_cell_at an_law_cell_at : Option Addr} {sl_law_cell_at : Array (Option Value)} {oc_law_cell_at kV_law_cell_at dc_law_cell_at pm_law_cell_at cd_law_cell_at ct_law_cell_at : Value}
    {od_law_mixed an_law_mixed : Option Addr} {sl_law_mixed : Array (Option Value)} {oc_law_mixed kV_law_mixed dc_law_mixed pm_law_mixed cd_law_mixed ct_law_mixed : Value}
    {od_law_signs an_law_signs : Option Addr} {sl_law_signs : Array (Option Value)} {oc_law_signs kV_law_signs dc_law_signs pm_law_signs cd_law_signs ct_law_signs : Value}
    {od_law_names an_law_names : Option Addr} {sl_law_names : Array (Option Value)} {oc_law_names kV_law_names dc_law_names pm_law_names cd_law_names ct_law_names : Value}
    {od_law_worths an_law_worths : Option Addr} {sl_law_worths : Array (Option Value)} {oc_law_worths kV_law_worths dc_law_worths pm_law_worths cd_law_worths ct_law_worths : Value}
    {od_law_keys an_law_keys : Option Addr} {sl_law_keys : Array (Option Value)} {oc_law_keys kV_law_keys dc_law_keys pm_law_keys cd_law_keys ct_law_keys : Value}
    {od_law an_law : Option Addr} {sl_law : Array (Option Value)} {oc_law kV_law dc_law pm_law cd_law ct_law : Value}
    (b_bool : PySem.W.nsIn K mainGlobals "bool" = some none)
    (b_enumerate : PySem.W.nsIn K mainGlobals "enumerate" = some none)
    (b_int : PySem.W.nsIn K mainGlobals "int" = some none)
    (b_isinstance : PySem.W.nsIn K mainGlobals "isinstance" = some none)
    (b_len : PySem.W.nsIn K mainGlobals "len" = some none)
    (b_list : PySem.W.nsIn K mainGlobals "list" = some none)
    (b_ord : PySem.W.nsIn K mainGlobals "ord" = some none)
    (b_range : PySem.W.nsIn K mainGlobals "range" = some none)
    (b_reversed : PySem.W.nsIn K mainGlobals "reversed" = some none)
    (b_sorted : PySem.W.nsIn K mainGlobals "sorted" = some none)
    (b_str : PySem.W.nsIn K mainGlobals "str" = some none)
    (b_sum : PySem.W.nsIn K mainGlobals "sum" = some none)
    (b_tuple : PySem.W.nsIn K mainGlobals "tuple" = some none)
    (k_MOST_SIGNS : PySem.W.nsIn K mainGlobals "MOST_SIGNS" = some (some (.int (60) t_MOST_SIGNS)))
    (k_MOST : PySem.W.nsIn K mainGlobals "MOST" = some (some (.int (60) t_MOST)))
    (k_LONGEST : PySem.W.nsIn K mainGlobals "LONGEST" = some (some (.int (1000) t_LONGEST)))
    (k_MOST_RULES : PySem.W.nsIn K mainGlobals "MOST_RULES" = some (some (.int (60) t_MOST_RULES)))
    (k_MOST_PARTS : PySem.W.nsIn K mainGlobals "MOST_PARTS" = some (some (.int (6) t_MOST_PARTS)))
    (k_MOST_WORTH : PySem.W.nsIn K mainGlobals "MOST_WORTH" = some (some (.int (1000000000000000000000000000000000000000000000000000000000000) t_MOST_WORTH)))
    (g_Chart : PySem.W.nsIn K mainGlobals "Chart" = some (some (.ref C_Chart)))
    (pg_Chart : PySem.W.plainGet K C_Chart Str.empty = true)
    (hd_Chart : PySem.W.hasDictIn K C_Chart = true)
    (po_Chart : PySem.W.plainOver K C_Chart = true)
    (sa_Chart : PySem.W.findIn K (.ref C_Chart) "__setattr__" = some (some (.builtin "object.__setattr__")))
    (mk_Chart : PySem.W.makesIn K C_Chart = true)
    (kc_Chart : PySem.W.keepIn K (.ref C_Chart) = true)
    (ha_Chart : PySem.W.findIn K (.ref C_Chart) "__class__" = some (some (.builtin "object.__class__")))
    (hn_Chart : PySem.W.specialIn K (.builtin "object.__class__") "__get__" = some (some (.builtin "getset_descriptor.__get__")))
    (ht_Chart : PySem.W.takesIn K (.builtin "object.__class__") = some true)
    (hm_Chart : PySem.W.mroIn K C_Chart (.type "object") = some true)
    (tc_Chart : PySem.W.typeIn K (.ref C_Chart) = some (.type "type"))
    (ic_Chart : PySem.W.isClsIn K C_Chart = true)
    (n_Chart_rules : PySem.W.findIn K (.ref C_Chart) "rules" = some none)
    (n_Chart_heights : PySem.W.findIn K (.ref C_Chart) "heights" = some none)
    (n_Chart_level : PySem.W.findIn K (.ref C_Chart) "level" = some none)
    (n_Chart_queue : PySem.W.findIn K (.ref C_Chart) "queue" = some none)
    (n_Chart_higher : PySem.W.findIn K (.ref C_Chart) "higher" = some none)
    (n_Chart_ends : PySem.W.findIn K (.ref C_Chart) "ends" = some none)
    (n_Chart_behind : PySem.W.findIn K (.ref C_Chart) "behind" = some none)
    (a_i_Chart : PySem.W.findIn K (.ref C_Chart) "__init__" = some (some (.ref f_i_Chart)))
    (y_i_Chart : PySem.W.isFn K (.ref f_i_Chart) = true)
    (l_i_Chart : K.lookup f_i_Chart = some ⟨oc_i_Chart, od_i_Chart, .func (PySem.W.fnOf "__init__" "Chart.__init__" (defArgs s_Chart_init) (defBody s_Chart_init) (defScope s_Chart_init) .none kV_i_Chart dc_i_Chart pm_i_Chart an_i_Chart cd_i_Chart ct_i_Chart), sl_i_Chart⟩)
    (e_i_Chart : PySem.W.codeIn K cd_i_Chart "Chart.__init__" = true)
    (p_i_Chart : PySem.W.keepIn K (.ref f_i_Chart) = true)
    (a_m_Chart_offer : PySem.W.findIn K (.ref C_Chart) "offer" = some (some (.ref f_m_Chart_offer)))
    (y_m_Chart_offer : PySem.W.isFn K (.ref f_m_Chart_offer) = true)
    (l_m_Chart_offer : K.lookup f_m_Chart_offer = some ⟨oc_m_Chart_offer, od_m_Chart_offer, .func (PySem.W.fnOf "offer" "Chart.offer" (defArgs s_Chart_offer) (defBody s_Chart_offer) (defScope s_Chart_offer) .none kV_m_Chart_offer dc_m_Chart_offer pm_m_Chart_offer an_m_Chart_offer cd_m_Chart_offer ct_m_Chart_offer), sl_m_Chart_offer⟩)
    (e_m_Chart_offer : PySem.W.codeIn K cd_m_Chart_offer "Chart.offer" = true)
    (p_m_Chart_offer : PySem.W.keepIn K (.ref f_m_Chart_offer) = true)
    (a_m_Chart_take_part : PySem.W.findIn K (.ref C_Chart) "take_part" = some (some (.ref f_m_Chart_take_part)))
    (y_m_Chart_take_part : PySem.W.isFn K (.ref f_m_Chart_take_part) = true)
    (l_m_Chart_take_part : K.lookup f_m_Chart_take_part = some ⟨oc_m_Chart_take_part, od_m_Chart_take_part, .func (PySem.W.fnOf "take_part" "Chart.take_part" (defArgs s_Chart_take_part) (defBody s_Chart_take_part) (defScope s_Chart_take_part) .none kV_m_Chart_take_part dc_m_Chart_take_part pm_m_Chart_take_part an_m_Chart_take_part cd_m_Chart_take_part ct_m_Chart_take_part), sl_m_Chart_take_part⟩)
    (e_m_Chart_take_part : PySem.W.codeIn K cd_m_Chart_take_part "Chart.take_part" = true)
    (p_m_Chart_take_part : PySem.W.keepIn K (.ref f_m_Chart_take_part) = true)
    (a_m_Chart_take_parts : PySem.W.findIn K (.ref C_Chart) "take_parts" = some (some (.ref f_m_Chart_take_parts)))
    (y_m_Chart_take_parts : PySem.W.isFn K (.ref f_m_Chart_take_parts) = true)
    (l_m_Chart_take_parts : K.lookup f_m_Chart_take_parts = some ⟨oc_m_Chart_take_parts, od_m_Chart_take_parts, .func (PySem.W.fnOf "take_parts" "Chart.take_parts" (defArgs s_Chart_take_parts) (defBody s_Chart_take_parts) (defScope s_Chart_take_parts) .none kV_m_Chart_take_parts dc_m_Chart_take_parts pm_m_Chart_take_parts an_m_Chart_take_parts cd_m_Chart_take_parts ct_m_Chart_take_parts), sl_m_Chart_take_parts⟩)
    (e_m_Chart_take_parts : PySem.W.codeIn K cd_m_Chart_take_parts "Chart.take_parts" = true)
    (p_m_Chart_take_parts : PySem.W.keepIn K (.ref f_m_Chart_take_parts) = true)
    (a_m_Chart_take_level : PySem.W.findIn K (.ref C_Chart) "take_level" = some (some (.ref f_m_Chart_take_level)))
    (y_m_Chart_take_level : PySem.W.isFn K (.ref f_m_Chart_take_level) = true)
    (l_m_Chart_take_level : K.lookup f_m_Chart_take_level = some ⟨oc_m_Chart_take_level, od_m_Chart_take_level, .func (PySem.W.fnOf "take_level" "Chart.take_level" (defArgs s_Chart_take_level) (defBody s_Chart_take_level) (defScope s_Chart_take_level) .none kV_m_Chart_take_level dc_m_Chart_take_level pm_m_Chart_take_level an_m_Chart_take_level cd_m_Chart_take_level ct_m_Chart_take_level), sl_m_Chart_take_level⟩)
    (e_m_Chart_take_level : PySem.W.codeIn K cd_m_Chart_take_level "Chart.take_level" = true)
    (p_m_Chart_take_level : PySem.W.keepIn K (.ref f_m_Chart_take_level) = true)
    (a_m_Chart_rise : PySem.W.findIn K (.ref C_Chart) "rise" = some (some (.ref f_m_Chart_rise)))
    (y_m_Chart_rise : PySem.W.isFn K (.ref f_m_Chart_rise) = true)
    (l_m_Chart_rise : K.lookup f_m_Chart_rise = some ⟨oc_m_Chart_rise, od_m_Chart_rise, .func (PySem.W.fnOf "rise" "Chart.rise" (defArgs s_Chart_rise) (defBody s_Chart_rise) (defScope s_Chart_rise) .none kV_m_Chart_rise dc_m_Chart_rise pm_m_Chart_rise an_m_Chart_rise cd_m_Chart_rise ct_m_Chart_rise), sl_m_Chart_rise⟩)
    (e_m_Chart_rise : PySem.W.codeIn K cd_m_Chart_rise "Chart.rise" = true)
    (p_m_Chart_rise : PySem.W.keepIn K (.ref f_m_Chart_rise) = true)
    (g_Wood : PySem.W.nsIn K mainGlobals "Wood" = some (some (.ref C_Wood)))
    (pg_Wood : PySem.W.plainGet K C_Wood Str.empty = true)
    (hd_Wood : PySem.W.hasDictIn K C_Wood = true)
    (po_Wood : PySem.W.plainOver K C_Wood = true)
    (sa_Wood : PySem.W.findIn K (.ref C_Wood) "__setattr__" = some (some (.builtin "object.__setattr__")))
    (mk_Wood : PySem.W.makesIn K C_Wood = true)
    (kc_Wood : PySem.W.keepIn K (.ref C_Wood) = true)
    (ha_Wood : PySem.W.findIn K (.ref C_Wood) "__class__" = some (some (.builtin "object.__class__")))
    (hn_Wood : PySem.W.specialIn K (.builtin "object.__class__") "__get__" = some (some (.builtin "getset_descriptor.__get__")))
    (ht_Wood : PySem.W.takesIn K (.builtin "object.__class__") = some true)
    (hm_Wood : PySem.W.mroIn K C_Wood (.type "object") = some true)
    (tc_Wood : PySem.W.typeIn K (.ref C_Wood) = some (.type "type"))
    (ic_Wood : PySem.W.isClsIn K C_Wood = true)
    (n_Wood_rules : PySem.W.findIn K (.ref C_Wood) "rules" = some none)
    (n_Wood_signs : PySem.W.findIn K (.ref C_Wood) "signs" = some none)
    (n_Wood_peak : PySem.W.findIn K (.ref C_Wood) "peak" = some none)
    (n_Wood_paths : PySem.W.findIn K (.ref C_Wood) "paths" = some none)
    (a_i_Wood : PySem.W.findIn K (.ref C_Wood) "__init__" = some (some (.ref f_i_Wood)))
    (y_i_Wood : PySem.W.isFn K (.ref f_i_Wood) = true)
    (l_i_Wood : K.lookup f_i_Wood = some ⟨oc_i_Wood, od_i_Wood, .func (PySem.W.fnOf "__init__" "Wood.__init__" (defArgs s_Wood_init) (defBody s_Wood_init) (defScope s_Wood_init) .none kV_i_Wood dc_i_Wood pm_i_Wood an_i_Wood cd_i_Wood ct_i_Wood), sl_i_Wood⟩)
    (e_i_Wood : PySem.W.codeIn K cd_i_Wood "Wood.__init__" = true)
    (p_i_Wood : PySem.W.keepIn K (.ref f_i_Wood) = true)
    (a_m_Wood_reach : PySem.W.findIn K (.ref C_Wood) "reach" = some (some (.ref f_m_Wood_reach)))
    (y_m_Wood_reach : PySem.W.isFn K (.ref f_m_Wood_reach) = true)
    (l_m_Wood_reach : K.lookup f_m_Wood_reach = some ⟨oc_m_Wood_reach, od_m_Wood_reach, .func (PySem.W.fnOf "reach" "Wood.reach" (defArgs s_Wood_reach) (defBody s_Wood_reach) (defScope s_Wood_reach) .none kV_m_Wood_reach dc_m_Wood_reach pm_m_Wood_reach an_m_Wood_reach cd_m_Wood_reach ct_m_Wood_reach), sl_m_Wood_reach⟩)
    (e_m_Wood_reach : PySem.W.codeIn K cd_m_Wood_reach "Wood.reach" = true)
    (p_m_Wood_reach : PySem.W.keepIn K (.ref f_m_Wood_reach) = true)
    (a_m_Wood_told_grammar : PySem.W.findIn K (.ref C_Wood) "told_grammar" = some (some (.ref f_m_Wood_told_grammar)))
    (y_m_Wood_told_grammar : PySem.W.isFn K (.ref f_m_Wood_told_grammar) = true)
    (l_m_Wood_told_grammar : K.lookup f_m_Wood_told_grammar = some ⟨oc_m_Wood_told_grammar, od_m_Wood_told_grammar, .func (PySem.W.fnOf "told_grammar" "Wood.told_grammar" (defArgs s_Wood_told_grammar) (defBody s_Wood_told_grammar) (defScope s_Wood_told_grammar) .none kV_m_Wood_told_grammar dc_m_Wood_told_grammar pm_m_Wood_told_grammar an_m_Wood_told_grammar cd_m_Wood_told_grammar ct_m_Wood_told_grammar), sl_m_Wood_told_grammar⟩)
    (e_m_Wood_told_grammar : PySem.W.codeIn K cd_m_Wood_told_grammar "Wood.told_grammar" = true)
    (p_m_Wood_told_grammar : PySem.W.keepIn K (.ref f_m_Wood_told_grammar) = true)
    (a_m_Wood_top : PySem.W.findIn K (.ref C_Wood) "top" = some (some (.ref f_m_Wood_top)))
    (y_m_Wood_top : PySem.W.isFn K (.ref f_m_Wood_top) = true)
    (l_m_Wood_top : K.lookup f_m_Wood_top = some ⟨oc_m_Wood_top, od_m_Wood_top, .func (PySem.W.fnOf "top" "Wood.top" (defArgs s_Wood_top) (defBody s_Wood_top) (defScope s_Wood_top) .none kV_m_Wood_top dc_m_Wood_top pm_m_Wood_top an_m_Wood_top cd_m_Wood_top ct_m_Wood_top), sl_m_Wood_top⟩)
    (e_m_Wood_top : PySem.W.codeIn K cd_m_Wood_top "Wood.top" = true)
    (p_m_Wood_top : PySem.W.keepIn K (.ref f_m_Wood_top) = true)
    (a_m_Wood_nodes : PySem.W.findIn K (.ref C_Wood) "nodes" = some (some (.ref f_m_Wood_nodes)))
    (y_m_Wood_nodes : PySem.W.isFn K (.ref f_m_Wood_nodes) = true)
    (l_m_Wood_nodes : K.lookup f_m_Wood_nodes = some ⟨oc_m_Wood_nodes, od_m_Wood_nodes, .func (PySem.W.fnOf "nodes" "Wood.nodes" (defArgs s_Wood_nodes) (defBody s_Wood_nodes) (defScope s_Wood_nodes) .none kV_m_Wood_nodes dc_m_Wood_nodes pm_m_Wood_nodes an_m_Wood_nodes cd_m_Wood_nodes ct_m_Wood_nodes), sl_m_Wood_nodes⟩)
    (e_m_Wood_nodes : PySem.W.codeIn K cd_m_Wood_nodes "Wood.nodes" = true)
    (p_m_Wood_nodes : PySem.W.keepIn K (.ref f_m_Wood_nodes) = true)
    (a_m_Wood_ways : PySem.W.findIn K (.ref C_Wood) "ways" = some (some (.ref f_m_Wood_ways)))
    (y_m_Wood_ways : PySem.W.isFn K (.ref f_m_Wood_ways) = true)
    (l_m_Wood_ways : K.lookup f_m_Wood_ways = some ⟨oc_m_Wood_ways, od_m_Wood_ways, .func (PySem.W.fnOf "ways" "Wood.ways" (defArgs s_Wood_ways) (defBody s_Wood_ways) (defScope s_Wood_ways) .none kV_m_Wood_ways dc_m_Wood_ways pm_m_Wood_ways an_m_Wood_ways cd_m_Wood_ways ct_m_Wood_ways), sl_m_Wood_ways⟩)
    (e_m_Wood_ways : PySem.W.codeIn K cd_m_Wood_ways "Wood.ways" = true)
    (p_m_Wood_ways : PySem.W.keepIn K (.ref f_m_Wood_ways) = true)
    (g_ForestError : PySem.W.nsIn K mainGlobals "ForestError" = some (some (.ref C_ForestError)))
    (ex_ForestError : PySem.W.excIn K C_ForestError [.type "ValueError", .type "Exception", .type "BaseException", .type "object"] "ValueError.__new__" = true)
    (kc_ForestError : PySem.W.keepIn K (.ref C_ForestError) = true)
    (bc_ForestError : PySem.W.subIn K (.ref C_ForestError) (.type "BaseException") = some true)
    (tc_ForestError : PySem.W.typeIn K (.ref C_ForestError) = some (.type "type"))
    (ic_ForestError : PySem.W.isClsIn K C_ForestError = true)
    (ga_ForestError : PySem.W.findIn K (.ref C_ForestError) "__getattribute__" = some (some (.builtin "BaseException.__getattribute__")))
    (gk_ForestError : PySem.W.findIn K (.ref C_ForestError) "__getattr__" = some none)
    (hd_ForestError : PySem.W.hasDictIn K C_ForestError = true)
    (ha_ForestError : PySem.W.findIn K (.ref C_ForestError) "__class__" = some (some (.builtin "object.__class__")))
    (hn_ForestError : PySem.W.specialIn K (.builtin "object.__class__") "__get__" = some (some (.builtin "getset_descriptor.__get__")))
    (ht_ForestError : PySem.W.takesIn K (.builtin "object.__class__") = some true)
    (hm_ForestError : PySem.W.mroIn K C_ForestError (.type "object") = some true)
    (ve_ForestError : PySem.W.subIn K (.ref C_ForestError) (.type "ValueError") = some true)
    (g_NoGrammar : PySem.W.nsIn K mainGlobals "NoGrammar" = some (some (.ref C_NoGrammar)))
    (ex_NoGrammar : PySem.W.excIn K C_NoGrammar [.type "ValueError", .type "Exception", .type "BaseException", .type "object"] "ValueError.__new__" = true)
    (kc_NoGrammar : PySem.W.keepIn K (.ref C_NoGrammar) = true)
    (bc_NoGrammar : PySem.W.subIn K (.ref C_NoGrammar) (.type "BaseException") = some true)
    (tc_NoGrammar : PySem.W.typeIn K (.ref C_NoGrammar) = some (.type "type"))
    (ic_NoGrammar : PySem.W.isClsIn K C_NoGrammar = true)
    (ga_NoGrammar : PySem.W.findIn K (.ref C_NoGrammar) "__getattribute__" = some (some (.builtin "BaseException.__getattribute__")))
    (gk_NoGrammar : PySem.W.findIn K (.ref C_NoGrammar) "__getattr__" = some none)
    (hd_NoGrammar : PySem.W.hasDictIn K C_NoGrammar = true)
    (ha_NoGrammar : PySem.W.findIn K (.ref C_NoGrammar) "__class__" = some (some (.builtin "object.__class__")))
    (hn_NoGrammar : PySem.W.specialIn K (.builtin "object.__class__") "__get__" = some (some (.builtin "getset_descriptor.__get__")))
    (ht_NoGrammar : PySem.W.takesIn K (.builtin "object.__class__") = some true)
    (hm_NoGrammar : PySem.W.mroIn K C_NoGrammar (.type "object") = some true)
    (ve_NoGrammar : PySem.W.subIn K (.ref C_NoGrammar) (.type "ValueError") = some true)
    (g_NoText : PySem.W.nsIn K mainGlobals "NoText" = some (some (.ref C_NoText)))
    (ex_NoText : PySem.W.excIn K C_NoText [.type "ValueError", .type "Exception", .type "BaseException", .type "object"] "ValueError.__new__" = true)
    (kc_NoText : PySem.W.keepIn K (.ref C_NoText) = true)
    (bc_NoText : PySem.W.subIn K (.ref C_NoText) (.type "BaseException") = some true)
    (tc_NoText : PySem.W.typeIn K (.ref C_NoText) = some (.type "type"))
    (ic_NoText : PySem.W.isClsIn K C_NoText = true)
    (ga_NoText : PySem.W.findIn K (.ref C_NoText) "__getattribute__" = some (some (.builtin "BaseException.__getattribute__")))
    (gk_NoText : PySem.W.findIn K (.ref C_NoText) "__getattr__" = some none)
    (hd_NoText : PySem.W.hasDictIn K C_NoText = true)
    (ha_NoText : PySem.W.findIn K (.ref C_NoText) "__class__" = some (some (.builtin "object.__class__")))
    (hn_NoText : PySem.W.specialIn K (.builtin "object.__class__") "__get__" = some (some (.builtin "getset_descriptor.__get__")))
    (ht_NoText : PySem.W.takesIn K (.builtin "object.__class__") = some true)
    (hm_NoText : PySem.W.mroIn K C_NoText (.type "object") = some true)
    (ve_NoText : PySem.W.subIn K (.ref C_NoText) (.type "ValueError") = some true)
    (g_NoRow : PySem.W.nsIn K mainGlobals "NoRow" = some (some (.ref C_NoRow)))
    (ex_NoRow : PySem.W.excIn K C_NoRow [.type "ValueError", .type "Exception", .type "BaseException", .type "object"] "ValueError.__new__" = true)
    (kc_NoRow : PySem.W.keepIn K (.ref C_NoRow) = true)
    (bc_NoRow : PySem.W.subIn K (.ref C_NoRow) (.type "BaseException") = some true)
    (tc_NoRow : PySem.W.typeIn K (.ref C_NoRow) = some (.type "type"))
    (ic_NoRow : PySem.W.isClsIn K C_NoRow = true)
    (ga_NoRow : PySem.W.findIn K (.ref C_NoRow) "__getattribute__" = some (some (.builtin "BaseException.__getattribute__")))
    (gk_NoRow : PySem.W.findIn K (.ref C_NoRow) "__getattr__" = some none)
    (hd_NoRow : PySem.W.hasDictIn K C_NoRow = true)
    (ha_NoRow : PySem.W.findIn K (.ref C_NoRow) "__class__" = some (some (.builtin "object.__class__")))
    (hn_NoRow : PySem.W.specialIn K (.builtin "object.__class__") "__get__" = some (some (.builtin "getset_descriptor.__get__")))
    (ht_NoRow : PySem.W.takesIn K (.builtin "object.__class__") = some true)
    (hm_NoRow : PySem.W.mroIn K C_NoRow (.type "object") = some true)
    (ve_NoRow : PySem.W.subIn K (.ref C_NoRow) (.type "ValueError") = some true)
    (g_NoNumber : PySem.W.nsIn K mainGlobals "NoNumber" = some (some (.ref C_NoNumber)))
    (ex_NoNumber : PySem.W.excIn K C_NoNumber [.type "ValueError", .type "Exception", .type "BaseException", .type "object"] "ValueError.__new__" = true)
    (kc_NoNumber : PySem.W.keepIn K (.ref C_NoNumber) = true)
    (bc_NoNumber : PySem.W.subIn K (.ref C_NoNumber) (.type "BaseException") = some true)
    (tc_NoNumber : PySem.W.typeIn K (.ref C_NoNumber) = some (.type "type"))
    (ic_NoNumber : PySem.W.isClsIn K C_NoNumber = true)
    (ga_NoNumber : PySem.W.findIn K (.ref C_NoNumber) "__getattribute__" = some (some (.builtin "BaseException.__getattribute__")))
    (gk_NoNumber : PySem.W.findIn K (.ref C_NoNumber) "__getattr__" = some none)
    (hd_NoNumber : PySem.W.hasDictIn K C_NoNumber = true)
    (ha_NoNumber : PySem.W.findIn K (.ref C_NoNumber) "__class__" = some (some (.builtin "object.__class__")))
    (hn_NoNumber : PySem.W.specialIn K (.builtin "object.__class__") "__get__" = some (some (.builtin "getset_descriptor.__get__")))
    (ht_NoNumber : PySem.W.takesIn K (.builtin "object.__class__") = some true)
    (hm_NoNumber : PySem.W.mroIn K C_NoNumber (.type "object") = some true)
    (ve_NoNumber : PySem.W.subIn K (.ref C_NoNumber) (.type "ValueError") = some true)
    (g_TooGreat : PySem.W.nsIn K mainGlobals "TooGreat" = some (some (.ref C_TooGreat)))
    (ex_TooGreat : PySem.W.excIn K C_TooGreat [.type "ValueError", .type "Exception", .type "BaseException", .type "object"] "ValueError.__new__" = true)
    (kc_TooGreat : PySem.W.keepIn K (.ref C_TooGreat) = true)
    (bc_TooGreat : PySem.W.subIn K (.ref C_TooGreat) (.type "BaseException") = some true)
    (tc_TooGreat : PySem.W.typeIn K (.ref C_TooGreat) = some (.type "type"))
    (ic_TooGreat : PySem.W.isClsIn K C_TooGreat = true)
    (ga_TooGreat : PySem.W.findIn K (.ref C_TooGreat) "__getattribute__" = some (some (.builtin "BaseException.__getattribute__")))
    (gk_TooGreat : PySem.W.findIn K (.ref C_TooGreat) "__getattr__" = some none)
    (hd_TooGreat : PySem.W.hasDictIn K C_TooGreat = true)
    (ha_TooGreat : PySem.W.findIn K (.ref C_TooGreat) "__class__" = some (some (.builtin "object.__class__")))
    (hn_TooGreat : PySem.W.specialIn K (.builtin "object.__class__") "__get__" = some (some (.builtin "getset_descriptor.__get__")))
    (ht_TooGreat : PySem.W.takesIn K (.builtin "object.__class__") = some true)
    (hm_TooGreat : PySem.W.mroIn K C_TooGreat (.type "object") = some true)
    (ve_TooGreat : PySem.W.subIn K (.ref C_TooGreat) (.type "ValueError") = some true)
    (su_Chart_Chart : PySem.W.subIn K (.ref C_Chart) (.ref C_Chart) = some true)
    (su_Chart_Wood : PySem.W.subIn K (.ref C_Chart) (.ref C_Wood) = some false)
    (su_Wood_Chart : PySem.W.subIn K (.ref C_Wood) (.ref C_Chart) = some false)
    (su_Wood_Wood : PySem.W.subIn K (.ref C_Wood) (.ref C_Wood) = some true)
    (a_wall : PySem.W.nsIn K mainGlobals "_wall" = some (some (.ref f_wall)))
    (l_wall : K.lookup f_wall = some ⟨oc_wall, od_wall, .func (PySem.W.fnOf "_wall" "_wall" (defArgs s_wall) (defBody s_wall) (defScope s_wall) .none kV_wall dc_wall pm_wall an_wall cd_wall ct_wall), sl_wall⟩)
    (e_wall : PySem.W.codeIn K cd_wall "_wall" = true)
    (p_wall : PySem.W.keepIn K (.ref f_wall) = true)
    (a_is_whole : PySem.W.nsIn K mainGlobals "is_whole" = some (some (.ref f_is_whole)))
    (l_is_whole : K.lookup f_is_whole = some ⟨oc_is_whole, od_is_whole, .func (PySem.W.fnOf "is_whole" "is_whole" (defArgs s_is_whole) (defBody s_is_whole) (defScope s_is_whole) .none kV_is_whole dc_is_whole pm_is_whole an_is_whole cd_is_whole ct_is_whole), sl_is_whole⟩)
    (e_is_whole : PySem.W.codeIn K cd_is_whole "is_whole" = true)
    (p_is_whole : PySem.W.keepIn K (.ref f_is_whole) = true)
    (a_may_stand : PySem.W.nsIn K mainGlobals "may_stand" = some (some (.ref f_may_stand)))
    (l_may_stand : K.lookup f_may_stand = some ⟨oc_may_stand, od_may_stand, .func (PySem.W.fnOf "may_stand" "may_stand" (defArgs s_may_stand) (defBody s_may_stand) (defScope s_may_stand) .none kV_may_stand dc_may_stand pm_may_stand an_may_stand cd_may_stand ct_may_stand), sl_may_stand⟩)
    (e_may_stand : PySem.W.codeIn K cd_may_stand "may_stand" = true)
    (p_may_stand : PySem.W.keepIn K (.ref f_may_stand) = true)
    (a_is_sign : PySem.W.nsIn K mainGlobals "is_sign" = some (some (.ref f_is_sign)))
    (l_is_sign : K.lookup f_is_sign = some ⟨oc_is_sign, od_is_sign, .func (PySem.W.fnOf "is_sign" "is_sign" (defArgs s_is_sign) (defBody s_is_sign) (defScope s_is_sign) .none kV_is_sign dc_is_sign pm_is_sign an_is_sign cd_is_sign ct_is_sign), sl_is_sign⟩)
    (e_is_sign : PySem.W.codeIn K cd_is_sign "is_sign" = true)
    (p_is_sign : PySem.W.keepIn K (.ref f_is_sign) = true)
    (a_is_name : PySem.W.nsIn K mainGlobals "is_name" = some (some (.ref f_is_name)))
    (l_is_name : K.lookup f_is_name = some ⟨oc_is_name, od_is_name, .func (PySem.W.fnOf "is_name" "is_name" (defArgs s_is_name) (defBody s_is_name) (defScope s_is_name) .none kV_is_name dc_is_name pm_is_name an_is_name cd_is_name ct_is_name), sl_is_name⟩)
    (e_is_name : PySem.W.codeIn K cd_is_name "is_name" = true)
    (p_is_name : PySem.W.keepIn K (.ref f_is_name) = true)
    (a_checked_text : PySem.W.nsIn K mainGlobals "checked_text" = some (some (.ref f_checked_text)))
    (l_checked_text : K.lookup f_checked_text = some ⟨oc_checked_text, od_checked_text, .func (PySem.W.fnOf "checked_text" "checked_text" (defArgs s_checked_text) (defBody s_checked_text) (defScope s_checked_text) .none kV_checked_text dc_checked_text pm_checked_text an_checked_text cd_checked_text ct_checked_text), sl_checked_text⟩)
    (e_checked_text : PySem.W.codeIn K cd_checked_text "checked_text" = true)
    (p_checked_text : PySem.W.keepIn K (.ref f_checked_text) = true)
    (a_owners : PySem.W.nsIn K mainGlobals "owners" = some (some (.ref f_owners)))
    (l_owners : K.lookup f_owners = some ⟨oc_owners, od_owners, .func (PySem.W.fnOf "owners" "owners" (defArgs s_owners) (defBody s_owners) (defScope s_owners) .none kV_owners dc_owners pm_owners an_owners cd_owners ct_owners), sl_owners⟩)
    (e_owners : PySem.W.codeIn K cd_owners "owners" = true)
    (p_owners : PySem.W.keepIn K (.ref f_owners) = true)
    (a_settled : PySem.W.nsIn K mainGlobals "settled" = some (some (.ref f_settled)))
    (l_settled : K.lookup f_settled = some ⟨oc_settled, od_settled, .func (PySem.W.fnOf "settled" "settled" (defArgs s_settled) (defBody s_settled) (defScope s_settled) .none kV_settled dc_settled pm_settled an_settled cd_settled ct_settled), sl_settled⟩)
    (e_settled : PySem.W.codeIn K cd_settled "settled" = true)
    (p_settled : PySem.W.keepIn K (.ref f_settled) = true)
    (a_put_together : PySem.W.nsIn K mainGlobals "put_together" = some (some (.ref f_put_together)))
    (l_put_together : K.lookup f_put_together = some ⟨oc_put_together, od_put_together, .func (PySem.W.fnOf "put_together" "put_together" (defArgs s_put_together) (defBody s_put_together) (defScope s_put_together) .none kV_put_together dc_put_together pm_put_together an_put_together cd_put_together ct_put_together), sl_put_together⟩)
    (e_put_together : PySem.W.codeIn K cd_put_together "put_together" = true)
    (p_put_together : PySem.W.keepIn K (.ref f_put_together) = true)
    (a_of_way : PySem.W.nsIn K mainGlobals "of_way" = some (some (.ref f_of_way)))
    (l_of_way : K.lookup f_of_way = some ⟨oc_of_way, od_of_way, .func (PySem.W.fnOf "of_way" "of_way" (defArgs s_of_way) (defBody s_of_way) (defScope s_of_way) .none kV_of_way dc_of_way pm_of_way an_of_way cd_of_way ct_of_way), sl_of_way⟩)
    (e_of_way : PySem.W.codeIn K cd_of_way "of_way" = true)
    (p_of_way : PySem.W.keepIn K (.ref f_of_way) = true)
    (a_first_rows : PySem.W.nsIn K mainGlobals "first_rows" = some (some (.ref f_first_rows)))
    (l_first_rows : K.lookup f_first_rows = some ⟨oc_first_rows, od_first_rows, .func (PySem.W.fnOf "first_rows" "first_rows" (defArgs s_first_rows) (defBody s_first_rows) (defScope s_first_rows) .none kV_first_rows dc_first_rows pm_first_rows an_first_rows cd_first_rows ct_first_rows), sl_first_rows⟩)
    (e_first_rows : PySem.W.codeIn K cd_first_rows "first_rows" = true)
    (p_first_rows : PySem.W.keepIn K (.ref f_first_rows) = true)
    (a_all_rows : PySem.W.nsIn K mainGlobals "all_rows" = some (some (.ref f_all_rows)))
    (l_all_rows : K.lookup f_all_rows = some ⟨oc_all_rows, od_all_rows, .func (PySem.W.fnOf "all_rows" "all_rows" (defArgs s_all_rows) (defBody s_all_rows) (defScope s_all_rows) .none kV_all_rows dc_all_rows pm_all_rows an_all_rows cd_all_rows ct_all_rows), sl_all_rows⟩)
    (e_all_rows : PySem.W.codeIn K cd_all_rows "all_rows" = true)
    (p_all_rows : PySem.W.keepIn K (.ref f_all_rows) = true)
    (a_told : PySem.W.nsIn K mainGlobals "told" = some (some (.ref f_told)))
    (l_told : K.lookup f_told = some ⟨oc_told, od_told, .func (PySem.W.fnOf "told" "told" (defArgs s_told) (defBody s_told) (defScope s_told) (.ref D_told) kV_told dc_told pm_told an_told cd_told ct_told), sl_told⟩)
    (ld_told : K.lookup D_told = some ⟨oc2_told, od2_told, .seq #[Value.int 60 tk0_told] n2_told, sl2_told⟩)
    (e_told : PySem.W.codeIn K cd_told "told" = true)
    (p_told : PySem.W.keepIn K (.ref f_told) = true)
    (a_best : PySem.W.nsIn K mainGlobals "best" = some (some (.ref f_best)))
    (l_best : K.lookup f_best = some ⟨oc_best, od_best, .func (PySem.W.fnOf "best" "best" (defArgs s_best) (defBody s_best) (defScope s_best) .none kV_best dc_best pm_best an_best cd_best ct_best), sl_best⟩)
    (e_best : PySem.W.codeIn K cd_best "best" = true)
    (p_best : PySem.W.keepIn K (.ref f_best) = true)
    (a_prices : PySem.W.nsIn K mainGlobals "prices" = some (some (.ref f_prices)))
    (l_prices : K.lookup f_prices = some ⟨oc_prices, od_prices, .func (PySem.W.fnOf "prices" "prices" (defArgs s_prices) (defBody s_prices) (defScope s_prices) .none kV_prices dc_prices pm_prices an_prices cd_prices ct_prices), sl_prices⟩)
    (e_prices : PySem.W.codeIn K cd_prices "prices" = true)
    (p_prices : PySem.W.keepIn K (.ref f_prices) = true)
    (a_are_parts : PySem.W.nsIn K mainGlobals "are_parts" = some (some (.ref f_are_parts)))
    (l_are_parts : K.lookup f_are_parts = some ⟨oc_are_parts, od_are_parts, .func (PySem.W.fnOf "are_parts" "are_parts" (defArgs s_are_parts) (defBody s_are_parts) (defScope s_are_parts) .none kV_are_parts dc_are_parts pm_are_parts an_are_parts cd_are_parts ct_are_parts), sl_are_parts⟩)
    (e_are_parts : PySem.W.codeIn K cd_are_parts "are_parts" = true)
    (p_are_parts : PySem.W.keepIn K (.ref f_are_parts) = true)
    (a_is_rule : PySem.W.nsIn K mainGlobals "is_rule" = some (some (.ref f_is_rule)))
    (l_is_rule : K.lookup f_is_rule = some ⟨oc_is_rule, od_is_rule, .func (PySem.W.fnOf "is_rule" "is_rule" (defArgs s_is_rule) (defBody s_is_rule) (defScope s_is_rule) .none kV_is_rule dc_is_rule pm_is_rule an_is_rule cd_is_rule ct_is_rule), sl_is_rule⟩)
    (e_is_rule : PySem.W.codeIn K cd_is_rule "is_rule" = true)
    (p_is_rule : PySem.W.keepIn K (.ref f_is_rule) = true)
    (a_checked : PySem.W.nsIn K mainGlobals "checked" = some (some (.ref f_checked)))
    (l_checked : K.lookup f_checked = some ⟨oc_checked, od_checked, .func (PySem.W.fnOf "checked" "checked" (defArgs s_checked) (defBody s_checked) (defScope s_checked) .none kV_checked dc_checked pm_checked an_checked cd_checked ct_checked), sl_checked⟩)
    (e_checked : PySem.W.codeIn K cd_checked "checked" = true)
    (p_checked : PySem.W.keepIn K (.ref f_checked) = true)
    (a_rules_by_head : PySem.W.nsIn K mainGlobals "rules_by_head" = some (some (.ref f_rules_by_head)))
    (l_rules_by_head : K.lookup f_rules_by_head = some ⟨oc_rules_by_head, od_rules_by_head, .func (PySem.W.fnOf "rules_by_head" "rules_by_head" (defArgs s_rules_by_head) (defBody s_rules_by_head) (defScope s_rules_by_head) .none kV_rules_by_head dc_rules_by_head pm_rules_by_head an_rules_by_head cd_rules_by_head ct_rules_by_head), sl_rules_by_head⟩)
    (e_rules_by_head : PySem.W.codeIn K cd_rules_by_head "rules_by_head" = true)
    (p_rules_by_head : PySem.W.keepIn K (.ref f_rules_by_head) = true)
    (a_first_nodes : PySem.W.nsIn K mainGlobals "first_nodes" = some (some (.ref f_first_nodes)))
    (l_first_nodes : K.lookup f_first_nodes = some ⟨oc_first_nodes, od_first_nodes, .func (PySem.W.fnOf "first_nodes" "first_nodes" (defArgs s_first_nodes) (defBody s_first_nodes) (defScope s_first_nodes) .none kV_first_nodes dc_first_nodes pm_first_nodes an_first_nodes cd_first_nodes ct_first_nodes), sl_first_nodes⟩)
    (e_first_nodes : PySem.W.codeIn K cd_first_nodes "first_nodes" = true)
    (p_first_nodes : PySem.W.keepIn K (.ref f_first_nodes) = true)
    (a_heights_over : PySem.W.nsIn K mainGlobals "heights_over" = some (some (.ref f_heights_over)))
    (l_heights_over : K.lookup f_heights_over = some ⟨oc_heights_over, od_heights_over, .func (PySem.W.fnOf "heights_over" "heights_over" (defArgs s_heights_over) (defBody s_heights_over) (defScope s_heights_over) .none kV_heights_over dc_heights_over pm_heights_over an_heights_over cd_heights_over ct_heights_over), sl_heights_over⟩)
    (e_heights_over : PySem.W.codeIn K cd_heights_over "heights_over" = true)
    (p_heights_over : PySem.W.keepIn K (.ref f_heights_over) = true)
    (a_ways_of_parts : PySem.W.nsIn K mainGlobals "ways_of_parts" = some (some (.ref f_ways_of_parts)))
    (l_ways_of_parts : K.lookup f_ways_of_parts = some ⟨oc_ways_of_parts, od_ways_of_parts, .func (PySem.W.fnOf "ways_of_parts" "ways_of_parts" (defArgs s_ways_of_parts) (defBody s_ways_of_parts) (defScope s_ways_of_parts) .none kV_ways_of_parts dc_ways_of_parts pm_ways_of_parts an_ways_of_parts cd_ways_of_parts ct_ways_of_parts), sl_ways_of_parts⟩)
    (e_ways_of_parts : PySem.W.codeIn K cd_ways_of_parts "ways_of_parts" = true)
    (p_ways_of_parts : PySem.W.keepIn K (.ref f_ways_of_parts) = true)
    (a_ways_of_head : PySem.W.nsIn K mainGlobals "ways_of_head" = some (some (.ref f_ways_of_head)))
    (l_ways_of_head : K.lookup f_ways_of_head = some ⟨oc_ways_of_head, od_ways_of_head, .func (PySem.W.fnOf "ways_of_head" "ways_of_head" (defArgs s_ways_of_head) (defBody s_ways_of_head) (defScope s_ways_of_head) .none kV_ways_of_head dc_ways_of_head pm_ways_of_head an_ways_of_head cd_ways_of_head ct_ways_of_head), sl_ways_of_head⟩)
    (e_ways_of_head : PySem.W.codeIn K cd_ways_of_head "ways_of_head" = true)
    (p_ways_of_head : PySem.W.keepIn K (.ref f_ways_of_head) = true)
    (a_ways_over : PySem.W.nsIn K mainGlobals "ways_over" = some (some (.ref f_ways_over)))
    (l_ways_over : K.lookup f_ways_over = some ⟨oc_ways_over, od_ways_over, .func (PySem.W.fnOf "ways_over" "ways_over" (defArgs s_ways_over) (defBody s_ways_over) (defScope s_ways_over) .none kV_ways_over dc_ways_over pm_ways_over an_ways_over cd_ways_over ct_ways_over), sl_ways_over⟩)
    (e_ways_over : PySem.W.codeIn K cd_ways_over "ways_over" = true)
    (p_ways_over : PySem.W.keepIn K (.ref f_ways_over) = true)
    (a_law_cell_at : PySem.W.nsIn K mainGlobals "_law_cell_at" = some (some (.ref f_law_cell_at)))
    (l_law_cell_at : K.lookup f_law_cell_at = some ⟨oc_law_cell_at, od_law_cell_at, .func (PySem.W.fnOf "_law_cell_at" "_law_cell_at" (defArgs s_law_cell_at) (defBody s_law_cell_at) (defScope s_law_cell_at) .none kV_law_cell_at dc_law_cell_at pm_law_cell_at an_law_cell_at cd_law_cell_at ct_law_cell_at), sl_law_cell_at⟩)
    (e_law_cell_at : PySem.W.codeIn K cd_law_cell_at "_law_cell_at" = true)
    (p_law_cell_at : PySem.W.keepIn K (.ref f_law_cell_at) = true)
    (a_law_mixed : PySem.W.nsIn K mainGlobals "_law_mixed" = some (some (.ref f_law_mixed)))
    (l_law_mixed : K.lookup f_law_mixed = some ⟨oc_law_mixed, od_law_mixed, .func (PySem.W.fnOf "_law_mixed" "_law_mixed" (defArgs s_law_mixed) (defBody s_law_mixed) (defScope s_law_mixed) .none kV_law_mixed dc_law_mixed pm_law_mixed an_law_mixed cd_law_mixed ct_law_mixed), sl_law_mixed⟩)
    (e_law_mixed : PySem.W.codeIn K cd_law_mixed "_law_mixed" = true)
    (p_law_mixed : PySem.W.keepIn K (.ref f_law_mixed) = true)
    (a_law_signs : PySem.W.nsIn K mainGlobals "_law_signs" = some (some (.ref f_law_signs)))
    (l_law_signs : K.lookup f_law_signs = some ⟨oc_law_signs, od_law_signs, .func (PySem.W.fnOf "_law_signs" "_law_signs" (defArgs s_law_signs) (defBody s_law_signs) (defScope s_law_signs) .none kV_law_signs dc_law_signs pm_law_signs an_law_signs cd_law_signs ct_law_signs), sl_law_signs⟩)
    (e_law_signs : PySem.W.codeIn K cd_law_signs "_law_signs" = true)
    (p_law_signs : PySem.W.keepIn K (.ref f_law_signs) = true)
    (a_law_names : PySem.W.nsIn K mainGlobals "_law_names" = some (some (.ref f_law_names)))
    (l_law_names : K.lookup f_law_names = some ⟨oc_law_names, od_law_names, .func (PySem.W.fnOf "_law_names" "_law_names" (defArgs s_law_names) (defBody s_law_names) (defScope s_law_names) .none kV_law_names dc_law_names pm_law_names an_law_names cd_law_names ct_law_names), sl_law_names⟩)
    (e_law_names : PySem.W.codeIn K cd_law_names "_law_names" = true)
    (p_law_names : PySem.W.keepIn K (.ref f_law_names) = true)
    (a_law_worths : PySem.W.nsIn K mainGlobals "_law_worths" = some (some (.ref f_law_worths)))
    (l_law_worths : K.lookup f_law_worths = some ⟨oc_law_worths, od_law_worths, .func (PySem.W.fnOf "_law_worths" "_law_worths" (defArgs s_law_worths) (defBody s_law_worths) (defScope s_law_worths) .none kV_law_worths dc_law_worths pm_law_worths an_law_worths cd_law_worths ct_law_worths), sl_law_worths⟩)
    (e_law_worths : PySem.W.codeIn K cd_law_worths "_law_worths" = true)
    (p_law_worths : PySem.W.keepIn K (.ref f_law_worths) = true)
    (a_law_keys : PySem.W.nsIn K mainGlobals "_law_keys" = some (some (.ref f_law_keys)))
    (l_law_keys : K.lookup f_law_keys = some ⟨oc_law_keys, od_law_keys, .func (PySem.W.fnOf "_law_keys" "_law_keys" (defArgs s_law_keys) (defBody s_law_keys) (defScope s_law_keys) .none kV_law_keys dc_law_keys pm_law_keys an_law_keys cd_law_keys ct_law_keys), sl_law_keys⟩)
    (e_law_keys : PySem.W.codeIn K cd_law_keys "_law_keys" = true)
    (p_law_keys : PySem.W.keepIn K (.ref f_law_keys) = true)
    (a_law : PySem.W.nsIn K mainGlobals "law" = some (some (.ref f_law)))
    (l_law : K.lookup f_law = some ⟨oc_law, od_law, .func (PySem.W.fnOf "law" "law" (defArgs s_law) (defBody s_law) (defScope s_law) .none kV_law dc_law pm_law an_law cd_law ct_law), sl_law⟩)
    (e_law : PySem.W.codeIn K cd_law "law" = true)
    (p_law : PySem.W.keepIn K (.ref f_law) = true)
    : ∃ fd : FuncData, (∀ (s : Shared) (v : Value), BindsTo s fd ⟨[v], []⟩ [("_law_script", v)]) ∧ ∀ base : Heap, K.In base → base.Ns mainGlobals mg → FnOk l.prog w K mg base (L2.CX l.prog w) 8 fa fd ["_law_script"] (sp1 (R_law K)) := by
  have e := hfa.symm.trans (PySem.W.mg_of X G a_law)
  cases e
  have T : Txt K mg ⟨0, C_ForestError, C_NoGrammar, C_NoText, C_NoRow, C_NoNumber, C_TooGreat, C_Chart, C_Wood⟩ := {
    b_bool := ⟨PySem.W.mg_none_of X G b_bool⟩,
    b_enumerate := ⟨PySem.W.mg_none_of X G b_enumerate⟩,
    b_int := ⟨PySem.W.mg_none_of X G b_int⟩,
    b_isinstance := ⟨PySem.W.mg_none_of X G b_isinstance⟩,
    b_len := ⟨PySem.W.mg_none_of X G b_len⟩,
    b_list := ⟨PySem.W.mg_none_of X G b_list⟩,
    b_ord := ⟨PySem.W.mg_none_of X G b_ord⟩,
    b_range := ⟨PySem.W.mg_none_of X G b_range⟩,
    b_reversed := ⟨PySem.W.mg_none_of X G b_reversed⟩,
    b_sorted := ⟨PySem.W.mg_none_of X G b_sorted⟩,
    b_str := ⟨PySem.W.mg_none_of X G b_str⟩,
    b_sum := ⟨PySem.W.mg_none_of X G b_sum⟩,
    b_tuple := ⟨PySem.W.mg_none_of X G b_tuple⟩,
    k_MOST_SIGNS := ⟨_, PySem.W.mg_of X G k_MOST_SIGNS⟩,
    k_MOST := ⟨_, PySem.W.mg_of X G k_MOST⟩,
    k_LONGEST := ⟨_, PySem.W.mg_of X G k_LONGEST⟩,
    k_MOST_RULES := ⟨_, PySem.W.mg_of X G k_MOST_RULES⟩,
    k_MOST_PARTS := ⟨_, PySem.W.mg_of X G k_MOST_PARTS⟩,
    k_MOST_WORTH := ⟨_, PySem.W.mg_of X G k_MOST_WORTH⟩,
    c_Chart := ⟨PySem.W.mg_of X G g_Chart, ⟨pg_Chart, hd_Chart, po_Chart, sa_Chart⟩, mk_Chart, kc_Chart, ha_Chart, hn_Chart, ht_Chart, hm_Chart, tc_Chart, ic_Chart⟩,
    n_Chart_rules := n_Chart_rules,
    n_Chart_heights := n_Chart_heights,
    n_Chart_level := n_Chart_level,
    n_Chart_queue := n_Chart_queue,
    n_Chart_higher := n_Chart_higher,
    n_Chart_ends := n_Chart_ends,
    n_Chart_behind := n_Chart_behind,
    i_Chart := ⟨f_i_Chart, _, ⟨mk_Chart, a_i_Chart, y_i_Chart, kc_Chart⟩, (fun_mk (st := s_Chart_init) l_i_Chart e_i_Chart p_i_Chart), ((fun_mk (st := s_Chart_init) l_i_Chart e_i_Chart p_i_Chart).binds (ps := ["self", "rules"]) fun _ _ _ _ _ _ us hl => match us, hl with | [_, _], _ => rfl)⟩,
    m_Chart_offer := ⟨f_m_Chart_offer, _, ⟨a_m_Chart_offer, y_m_Chart_offer, p_m_Chart_offer⟩, (fun_mk (st := s_Chart_offer) l_m_Chart_offer e_m_Chart_offer p_m_Chart_offer), ((fun_mk (st := s_Chart_offer) l_m_Chart_offer e_m_Chart_offer p_m_Chart_offer).binds (ps := ["self", "node"]) fun _ _ _ _ _ _ us hl => match us, hl with | [_, _], _ => rfl)⟩,
    m_Chart_take_part := ⟨f_m_Chart_take_part, _, ⟨a_m_Chart_take_part, y_m_Chart_take_part, p_m_Chart_take_part⟩, (fun_mk (st := s_Chart_take_part) l_m_Chart_take_part e_m_Chart_take_part p_m_Chart_take_part), ((fun_mk (st := s_Chart_take_part) l_m_Chart_take_part e_m_Chart_take_part p_m_Chart_take_part).binds (ps := ["self", "part", "i", "j"]) fun _ _ _ _ _ _ us hl => match us, hl with | [_, _, _, _], _ => rfl)⟩,
    m_Chart_take_parts := ⟨f_m_Chart_take_parts, _, ⟨a_m_Chart_take_parts, y_m_Chart_take_parts, p_m_Chart_take_parts⟩, (fun_mk (st := s_Chart_take_parts) l_m_Chart_take_parts e_m_Chart_take_parts p_m_Chart_take_parts), ((fun_mk (st := s_Chart_take_parts) l_m_Chart_take_parts e_m_Chart_take_parts p_m_Chart_take_parts).binds (ps := ["self", "r", "d", "i", "j"]) fun _ _ _ _ _ _ us hl => match us, hl with | [_, _, _, _, _], _ => rfl)⟩,
    m_Chart_take_level := ⟨f_m_Chart_take_level, _, ⟨a_m_Chart_take_level, y_m_Chart_take_level, p_m_Chart_take_level⟩, (fun_mk (st := s_Chart_take_level) l_m_Chart_take_level e_m_Chart_take_level p_m_Chart_take_level), ((fun_mk (st := s_Chart_take_level) l_m_Chart_take_level e_m_Chart_take_level p_m_Chart_take_level).binds (ps := ["self"]) fun _ _ _ _ _ _ us hl => match us, hl with | [_], _ => rfl)⟩,
    m_Chart_rise := ⟨f_m_Chart_rise, _, ⟨a_m_Chart_rise, y_m_Chart_rise, p_m_Chart_rise⟩, (fun_mk (st := s_Chart_rise) l_m_Chart_rise e_m_Chart_rise p_m_Chart_rise), ((fun_mk (st := s_Chart_rise) l_m_Chart_rise e_m_Chart_rise p_m_Chart_rise).binds (ps := ["self"]) fun _ _ _ _ _ _ us hl => match us, hl with | [_], _ => rfl)⟩,
    c_Wood := ⟨PySem.W.mg_of X G g_Wood, ⟨pg_Wood, hd_Wood, po_Wood, sa_Wood⟩, mk_Wood, kc_Wood, ha_Wood, hn_Wood, ht_Wood, hm_Wood, tc_Wood, ic_Wood⟩,
    n_Wood_rules := n_Wood_rules,
    n_Wood_signs := n_Wood_signs,
    n_Wood_peak := n_Wood_peak,
    n_Wood_paths := n_Wood_paths,
    i_Wood := ⟨f_i_Wood, _, ⟨mk_Wood, a_i_Wood, y_i_Wood, kc_Wood⟩, (fun_mk (st := s_Wood_init) l_i_Wood e_i_Wood p_i_Wood), ((fun_mk (st := s_Wood_init) l_i_Wood e_i_Wood p_i_Wood).binds (ps := ["self", "grammar", "text"]) fun _ _ _ _ _ _ us hl => match us, hl with | [_, _, _], _ => rfl)⟩,
    m_Wood_reach := ⟨f_m_Wood_reach, _, ⟨a_m_Wood_reach, y_m_Wood_reach, p_m_Wood_reach⟩, (fun_mk (st := s_Wood_reach) l_m_Wood_reach e_m_Wood_reach p_m_Wood_reach), ((fun_mk (st := s_Wood_reach) l_m_Wood_reach e_m_Wood_reach p_m_Wood_reach).binds (ps := ["self", "heights"]) fun _ _ _ _ _ _ us hl => match us, hl with | [_, _], _ => rfl)⟩,
    m_Wood_told_grammar := ⟨f_m_Wood_told_grammar, _, ⟨a_m_Wood_told_grammar, y_m_Wood_told_grammar, p_m_Wood_told_grammar⟩, (fun_mk (st := s_Wood_told_grammar) l_m_Wood_told_grammar e_m_Wood_told_grammar p_m_Wood_told_grammar), ((fun_mk (st := s_Wood_told_grammar) l_m_Wood_told_grammar e_m_Wood_told_grammar p_m_Wood_told_grammar).binds (ps := ["self"]) fun _ _ _ _ _ _ us hl => match us, hl with | [_], _ => rfl)⟩,
    m_Wood_top := ⟨f_m_Wood_top, _, ⟨a_m_Wood_top, y_m_Wood_top, p_m_Wood_top⟩, (fun_mk (st := s_Wood_top) l_m_Wood_top e_m_Wood_top p_m_Wood_top), ((fun_mk (st := s_Wood_top) l_m_Wood_top e_m_Wood_top p_m_Wood_top).binds (ps := ["self"]) fun _ _ _ _ _ _ us hl => match us, hl with | [_], _ => rfl)⟩,
    m_Wood_nodes := ⟨f_m_Wood_nodes, _, ⟨a_m_Wood_nodes, y_m_Wood_nodes, p_m_Wood_nodes⟩, (fun_mk (st := s_Wood_nodes) l_m_Wood_nodes e_m_Wood_nodes p_m_Wood_nodes), ((fun_mk (st := s_Wood_nodes) l_m_Wood_nodes e_m_Wood_nodes p_m_Wood_nodes).binds (ps := ["self"]) fun _ _ _ _ _ _ us hl => match us, hl with | [_], _ => rfl)⟩,
    m_Wood_ways := ⟨f_m_Wood_ways, _, ⟨a_m_Wood_ways, y_m_Wood_ways, p_m_Wood_ways⟩, (fun_mk (st := s_Wood_ways) l_m_Wood_ways e_m_Wood_ways p_m_Wood_ways), ((fun_mk (st := s_Wood_ways) l_m_Wood_ways e_m_Wood_ways p_m_Wood_ways).binds (ps := ["self", "node"]) fun _ _ _ _ _ _ us hl => match us, hl with | [_, _], _ => rfl)⟩,
    x_ForestError := ⟨PySem.W.mg_of X G g_ForestError, ex_ForestError, kc_ForestError, bc_ForestError, tc_ForestError, ic_ForestError, ga_ForestError, gk_ForestError, hd_ForestError, ha_ForestError, hn_ForestError, ht_ForestError, hm_ForestError, ve_ForestError⟩,
    x_NoGrammar := ⟨PySem.W.mg_of X G g_NoGrammar, ex_NoGrammar, kc_NoGrammar, bc_NoGrammar, tc_NoGrammar, ic_NoGrammar, ga_NoGrammar, gk_NoGrammar, hd_NoGrammar, ha_NoGrammar, hn_NoGrammar, ht_NoGrammar, hm_NoGrammar, ve_NoGrammar⟩,
    x_NoText := ⟨PySem.W.mg_of X G g_NoText, ex_NoText, kc_NoText, bc_NoText, tc_NoText, ic_NoText, ga_NoText, gk_NoText, hd_NoText, ha_NoText, hn_NoText, ht_NoText, hm_NoText, ve_NoText⟩,
    x_NoRow := ⟨PySem.W.mg_of X G g_NoRow, ex_NoRow, kc_NoRow, bc_NoRow, tc_NoRow, ic_NoRow, ga_NoRow, gk_NoRow, hd_NoRow, ha_NoRow, hn_NoRow, ht_NoRow, hm_NoRow, ve_NoRow⟩,
    x_NoNumber := ⟨PySem.W.mg_of X G g_NoNumber, ex_NoNumber, kc_NoNumber, bc_NoNumber, tc_NoNumber, ic_NoNumber, ga_NoNumber, gk_NoNumber, hd_NoNumber, ha_NoNumber, hn_NoNumber, ht_NoNumber, hm_NoNumber, ve_NoNumber⟩,
    x_TooGreat := ⟨PySem.W.mg_of X G g_TooGreat, ex_TooGreat, kc_TooGreat, bc_TooGreat, tc_TooGreat, ic_TooGreat, ga_TooGreat, gk_TooGreat, hd_TooGreat, ha_TooGreat, hn_TooGreat, ht_TooGreat, hm_TooGreat, ve_TooGreat⟩,
    s_Chart_Chart := su_Chart_Chart,
    s_Chart_Wood := su_Chart_Wood,
    s_Wood_Chart := su_Wood_Chart,
    s_Wood_Wood := su_Wood_Wood,
    f_wall := ⟨f_wall, _, PySem.W.mg_of X G a_wall, (fun_mk (st := s_wall) l_wall e_wall p_wall), ((fun_mk (st := s_wall) l_wall e_wall p_wall).binds (ps := ["k"]) fun _ _ _ _ _ _ us hl => match us, hl with | [_], _ => rfl)⟩,
    f_is_whole := ⟨f_is_whole, _, PySem.W.mg_of X G a_is_whole, (fun_mk (st := s_is_whole) l_is_whole e_is_whole p_is_whole), ((fun_mk (st := s_is_whole) l_is_whole e_is_whole p_is_whole).binds (ps := ["thing"]) fun _ _ _ _ _ _ us hl => match us, hl with | [_], _ => rfl)⟩,
    f_may_stand := ⟨f_may_stand, _, PySem.W.mg_of X G a_may_stand, (fun_mk (st := s_may_stand) l_may_stand e_may_stand p_may_stand), ((fun_mk (st := s_may_stand) l_may_stand e_may_stand p_may_stand).binds (ps := ["sign"]) fun _ _ _ _ _ _ us hl => match us, hl with | [_], _ => rfl)⟩,
    f_is_sign := ⟨f_is_sign, _, PySem.W.mg_of X G a_is_sign, (fun_mk (st := s_is_sign) l_is_sign e_is_sign p_is_sign), ((fun_mk (st := s_is_sign) l_is_sign e_is_sign p_is_sign).binds (ps := ["thing"]) fun _ _ _ _ _ _ us hl => match us, hl with | [_], _ => rfl)⟩,
    f_is_name := ⟨f_is_name, _, PySem.W.mg_of X G a_is_name, (fun_mk (st := s_is_name) l_is_name e_is_name p_is_name), ((fun_mk (st := s_is_name) l_is_name e_is_name p_is_name).binds (ps := ["thing"]) fun _ _ _ _ _ _ us hl => match us, hl with | [_], _ => rfl)⟩,
    f_checked_text := ⟨f_checked_text, _, PySem.W.mg_of X G a_checked_text, (fun_mk (st := s_checked_text) l_checked_text e_checked_text p_checked_text), ((fun_mk (st := s_checked_text) l_checked_text e_checked_text p_checked_text).binds (ps := ["thing"]) fun _ _ _ _ _ _ us hl => match us, hl with | [_], _ => rfl)⟩,
    f_owners := ⟨f_owners, _, PySem.W.mg_of X G a_owners, (fun_mk (st := s_owners) l_owners e_owners p_owners), ((fun_mk (st := s_owners) l_owners e_owners p_owners).binds (ps := ["wood"]) fun _ _ _ _ _ _ us hl => match us, hl with | [_], _ => rfl)⟩,
    f_settled := ⟨f_settled, _, PySem.W.mg_of X G a_settled, (fun_mk (st := s_settled) l_settled e_settled p_settled), ((fun_mk (st := s_settled) l_settled e_settled p_settled).binds (ps := ["wood"]) fun _ _ _ _ _ _ us hl => match us, hl with | [_], _ => rfl)⟩,
    f_put_together := ⟨f_put_together, _, PySem.W.mg_of X G a_put_together, (fun_mk (st := s_put_together) l_put_together e_put_together p_put_together), ((fun_mk (st := s_put_together) l_put_together e_put_together p_put_together).binds (ps := ["one", "other"]) fun _ _ _ _ _ _ us hl => match us, hl with | [_, _], _ => rfl)⟩,
    f_of_way := ⟨f_of_way, _, PySem.W.mg_of X G a_of_way, (fun_mk (st := s_of_way) l_of_way e_of_way p_of_way), ((fun_mk (st := s_of_way) l_of_way e_of_way p_of_way).binds (ps := ["known", "way", "many"]) fun _ _ _ _ _ _ us hl => match us, hl with | [_, _, _], _ => rfl)⟩,
    f_first_rows := ⟨f_first_rows, _, PySem.W.mg_of X G a_first_rows, (fun_mk (st := s_first_rows) l_first_rows e_first_rows p_first_rows), ((fun_mk (st := s_first_rows) l_first_rows e_first_rows p_first_rows).binds (ps := ["rules", "known", "node", "ways", "many"]) fun _ _ _ _ _ _ us hl => match us, hl with | [_, _, _, _, _], _ => rfl)⟩,
    f_all_rows := ⟨f_all_rows, _, PySem.W.mg_of X G a_all_rows, (fun_mk (st := s_all_rows) l_all_rows e_all_rows p_all_rows), ((fun_mk (st := s_all_rows) l_all_rows e_all_rows p_all_rows).binds (ps := ["wood", "many"]) fun _ _ _ _ _ _ us hl => match us, hl with | [_, _], _ => rfl)⟩,
    f_told := (atD_mk (st := s_told) (its := [Value.int 60 tk0_told]) (PySem.W.mg_of X G a_told) l_told e_told p_told ld_told (.cons ⟨_, rfl⟩ .nil) (by decide) (by decide) (fun _ _ _ _ _ _ _ us its h h' => match us, its, h, h' with | [_, _], [_], _, _ => ⟨_, rfl, rfl⟩) (fun _ _ _ _ _ _ _ us its h h' => match us, its, h, h' with | [_], [_], _, _ => ⟨_, rfl, rfl⟩)),
    f_best := ⟨f_best, _, PySem.W.mg_of X G a_best, (fun_mk (st := s_best) l_best e_best p_best), ((fun_mk (st := s_best) l_best e_best p_best).binds (ps := ["wood"]) fun _ _ _ _ _ _ us hl => match us, hl with | [_], _ => rfl)⟩,
    f_prices := ⟨f_prices, _, PySem.W.mg_of X G a_prices, (fun_mk (st := s_prices) l_prices e_prices p_prices), ((fun_mk (st := s_prices) l_prices e_prices p_prices).binds (ps := ["wood"]) fun _ _ _ _ _ _ us hl => match us, hl with | [_], _ => rfl)⟩,
    f_are_parts := ⟨f_are_parts, _, PySem.W.mg_of X G a_are_parts, (fun_mk (st := s_are_parts) l_are_parts e_are_parts p_are_parts), ((fun_mk (st := s_are_parts) l_are_parts e_are_parts p_are_parts).binds (ps := ["thing"]) fun _ _ _ _ _ _ us hl => match us, hl with | [_], _ => rfl)⟩,
    f_is_rule := ⟨f_is_rule, _, PySem.W.mg_of X G a_is_rule, (fun_mk (st := s_is_rule) l_is_rule e_is_rule p_is_rule), ((fun_mk (st := s_is_rule) l_is_rule e_is_rule p_is_rule).binds (ps := ["thing"]) fun _ _ _ _ _ _ us hl => match us, hl with | [_], _ => rfl)⟩,
    f_checked := ⟨f_checked, _, PySem.W.mg_of X G a_checked, (fun_mk (st := s_checked) l_checked e_checked p_checked), ((fun_mk (st := s_checked) l_checked e_checked p_checked).binds (ps := ["thing"]) fun _ _ _ _ _ _ us hl => match us, hl with | [_], _ => rfl)⟩,
    f_rules_by_head := ⟨f_rules_by_head, _, PySem.W.mg_of X G a_rules_by_head, (fun_mk (st := s_rules_by_head) l_rules_by_head e_rules_by_head p_rules_by_head), ((fun_mk (st := s_rules_by_head) l_rules_by_head e_rules_by_head p_rules_by_head).binds (ps := ["rules"]) fun _ _ _ _ _ _ us hl => match us, hl with | [_], _ => rfl)⟩,
    f_first_nodes := ⟨f_first_nodes, _, PySem.W.mg_of X G a_first_nodes, (fun_mk (st := s_first_nodes) l_first_nodes e_first_nodes p_first_nodes), ((fun_mk (st := s_first_nodes) l_first_nodes e_first_nodes p_first_nodes).binds (ps := ["rules", "signs"]) fun _ _ _ _ _ _ us hl => match us, hl with | [_, _], _ => rfl)⟩,
    f_heights_over := ⟨f_heights_over, _, PySem.W.mg_of X G a_heights_over, (fun_mk (st := s_heights_over) l_heights_over e_heights_over p_heights_over), ((fun_mk (st := s_heights_over) l_heights_over e_heights_over p_heights_over).binds (ps := ["rules", "signs"]) fun _ _ _ _ _ _ us hl => match us, hl with | [_, _], _ => rfl)⟩,
    f_ways_of_parts := ⟨f_ways_of_parts, _, PySem.W.mg_of X G a_ways_of_parts, (fun_mk (st := s_ways_of_parts) l_ways_of_parts e_ways_of_parts p_ways_of_parts), ((fun_mk (st := s_ways_of_parts) l_ways_of_parts e_ways_of_parts p_ways_of_parts).binds (ps := ["rules", "heights", "node"]) fun _ _ _ _ _ _ us hl => match us, hl with | [_, _, _], _ => rfl)⟩,
    f_ways_of_head := ⟨f_ways_of_head, _, PySem.W.mg_of X G a_ways_of_head, (fun_mk (st := s_ways_of_head) l_ways_of_head e_ways_of_head p_ways_of_head), ((fun_mk (st := s_ways_of_head) l_ways_of_head e_ways_of_head p_ways_of_head).binds (ps := ["rules", "by", "heights", "node"]) fun _ _ _ _ _ _ us hl => match us, hl with | [_, _, _, _], _ => rfl)⟩,
    f_ways_over := ⟨f_ways_over, _, PySem.W.mg_of X G a_ways_over, (fun_mk (st := s_ways_over) l_ways_over e_ways_over p_ways_over), ((fun_mk (st := s_ways_over) l_ways_over e_ways_over p_ways_over).binds (ps := ["rules", "by", "heights", "node"]) fun _ _ _ _ _ _ us hl => match us, hl with | [_, _, _, _], _ => rfl)⟩,
    f_law_cell_at := ⟨f_law_cell_at, _, PySem.W.mg_of X G a_law_cell_at, (fun_mk (st := s_law_cell_at) l_law_cell_at e_law_cell_at p_law_cell_at), ((fun_mk (st := s_law_cell_at) l_law_cell_at e_law_cell_at p_law_cell_at).binds (ps := ["_law_script", "_law_k"]) fun _ _ _ _ _ _ us hl => match us, hl with | [_, _], _ => rfl)⟩,
    f_law_mixed := ⟨f_law_mixed, _, PySem.W.mg_of X G a_law_mixed, (fun_mk (st := s_law_mixed) l_law_mixed e_law_mixed p_law_mixed), ((fun_mk (st := s_law_mixed) l_law_mixed e_law_mixed p_law_mixed).binds (ps := ["_law_script", "_law_k"]) fun _ _ _ _ _ _ us hl => match us, hl with | [_, _], _ => rfl)⟩,
    f_law_signs := ⟨f_law_signs, _, PySem.W.mg_of X G a_law_signs, (fun_mk (st := s_law_signs) l_law_signs e_law_signs p_law_signs), ((fun_mk (st := s_law_signs) l_law_signs e_law_signs p_law_signs).binds (ps := ["_law_cell"]) fun _ _ _ _ _ _ us hl => match us, hl with | [_], _ => rfl)⟩,
    f_law_names := ⟨f_law_names, _, PySem.W.mg_of X G a_law_names, (fun_mk (st := s_law_names) l_law_names e_law_names p_law_names), ((fun_mk (st := s_law_names) l_law_names e_law_names p_law_names).binds (ps := ["_law_cell"]) fun _ _ _ _ _ _ us hl => match us, hl with | [_], _ => rfl)⟩,
    f_law_worths := ⟨f_law_worths, _, PySem.W.mg_of X G a_law_worths, (fun_mk (st := s_law_worths) l_law_worths e_law_worths p_law_worths), ((fun_mk (st := s_law_worths) l_law_worths e_law_worths p_law_worths).binds (ps := ["_law_script", "_law_many", "_law_way"]) fun _ _ _ _ _ _ us hl => match us, hl with | [_, _, _], _ => rfl)⟩,
    f_law_keys := ⟨f_law_keys, _, PySem.W.mg_of X G a_law_keys, (fun_mk (st := s_law_keys) l_law_keys e_law_keys p_law_keys), ((fun_mk (st := s_law_keys) l_law_keys e_law_keys p_law_keys).binds (ps := ["_law_rules", "_law_twice"]) fun _ _ _ _ _ _ us hl => match us, hl with | [_, _], _ => rfl)⟩ }
  exact ⟨PySem.W.fnOf "law" "law" (defArgs s_law) (defBody s_law) (defScope s_law) .none kV_law dc_law pm_law an_law cd_law ct_law, fun s v => .of_eq rfl, fun base _ _ => ok_law (fun_mk (st := s_law) l_law e_law p_law) T⟩
theorem walk {l : PySem.W.OpenLaw} {q : Program} {loose : List Str} {XP : (Str → Option Value) → Heap → Prop} {YP : World → Heap → Prop} {d : DefRec} {K : Params → PySem.W.Frag} (hn : l.most = some 63) (hdf : d.params.defaults = [])
    (hY : ∀ (w : World) (h : Heap), YP w h → (K w.params).In h)
    (F : ∀ (w : World) (mg : Str → Option Value) (fa : Addr) (h : Heap), (K w.params).In h → h.Ns mainGlobals mg → mg d.name = some (.ref fa) →
      ∃ fd : FuncData, (∀ (s : Shared) (u : Value), BindsTo s fd ⟨[u], []⟩ [("_law_script", u)]) ∧ ∀ base : Heap, (K w.params).In base → base.Ns mainGlobals mg → FnOk l.prog w (K w.params) mg base (L2.CX l.prog w) 8 fa fd ["_law_script"] (sp1 (R_law (K w.params)))) :
    PySem.W.WalkO q loose XP YP l.row.toRowW d [] (fun f vs => PySem.call f vs) :=
  L2.walk_of (n := 63) (k := 8) (x := "_law_script") (CX := fun w => L2.CX l.prog w) (sp := fun w => sp1 (R_law (K w.params))) hn (by decide) hdf ⟨rfl, by decide, by decide⟩ hY F (fun _ _ a ns hl _ hS => ⟨_, rfl, a, ns, rfl, hS, hl, fun _ => rfl⟩) fun w H s e s' h => by
    obtain ⟨_, _, _, _, _, _, _, _, _, _, _, _, z⟩ := h
    exact z
end Lw
open PySem PySem.W PyProof.Rows
set_option maxRecDepth 100000 in
set_option maxHeartbeats 0 in
theorem PySem.Challenge.cw_forestread_k65_many_rules_holds : PySem.Challenge.rw_forestread_k65_many_rules.Holds := by
  w_on; o_law; k_head; (case hw => w_witness2)
  k_fill
  refine Lw.walk (l := PySem.Challenge.rw_forestread_k65_many_rules) rfl rfl (fun w h Y => PySem.W.kIn_of Y) ?F
  case F =>
    intro w mg fa h KX G hmg
    refine' Lw.all_mk KX G hmg ?b_bool ?b_enumerate ?b_int ?b_isinstance ?b_len ?b_list ?b_ord ?b_range ?b_reversed ?b_sorted ?b_str ?b_sum ?b_tuple ?k_MOST_SIGNS ?k_MOST ?k_LONGEST ?k_MOST_RULES ?k_MOST_PARTS ?k_MOST_WORTH ?g_Chart ?pg_Chart ?hd_Chart ?po_Chart ?sa_Chart ?mk_Chart ?kc_Chart ?ha_Chart ?hn_Chart ?ht_Chart ?hm_Chart ?tc_Chart ?ic_Chart ?n_Chart_rules ?n_Chart_heights ?n_Chart_level ?n_Chart_queue ?n_Chart_higher ?n_Chart_ends ?n_Chart_behind ?a_i_Chart ?y_i_Chart ?l_i_Chart ?e_i_Chart ?p_i_Chart ?a_m_Chart_offer ?y_m_Chart_offer ?l_m_Chart_offer ?e_m_Chart_offer ?p_m_Chart_offer ?a_m_Chart_take_part ?y_m_Chart_take_part ?l_m_Chart_take_part ?e_m_Chart_take_part ?p_m_Chart_take_part ?a_m_Chart_take_parts ?y_m_Chart_take_parts ?l_m_Chart_take_parts ?e_m_Chart_take_parts ?p_m_Chart_take_parts ?a_m_Chart_take_level ?y_m_Chart_take_level ?l_m_Chart_take_level ?e_m_Chart_take_level ?p_m_Chart_take_level ?a_m_Chart_rise ?y_m_Chart_rise ?l_m_Chart_rise ?e_m_Chart_rise ?p_m_Chart_rise ?g_Wood ?pg_Wood ?hd_Wood ?po_Wood ?sa_Wood ?mk_Wood ?kc_Wood ?ha_Wood ?hn_Wood ?ht_Wood ?hm_Wood ?tc_Wood ?ic_Wood ?n_Wood_rules ?n_Wood_signs ?n_Wood_peak ?n_Wood_paths ?a_i_Wood ?y_i_Wood ?l_i_Wood ?e_i_Wood ?p_i_Wood ?a_m_Wood_reach ?y_m_Wood_reach ?l_m_Wood_reach ?e_m_Wood_reach ?p_m_Wood_reach ?a_m_Wood_told_grammar ?y_m_Wood_told_grammar ?l_m_Wood_told_grammar ?e_m_Wood_told_grammar ?p_m_Wood_told_grammar ?a_m_Wood_top ?y_m_Wood_top ?l_m_Wood_top ?e_m_Wood_top ?p_m_Wood_top ?a_m_Wood_nodes ?y_m_Wood_nodes ?l_m_Wood_nodes ?e_m_Wood_nodes ?p_m_Wood_nodes ?a_m_Wood_ways ?y_m_Wood_ways ?l_m_Wood_ways ?e_m_Wood_ways ?p_m_Wood_ways ?g_ForestError ?ex_ForestError ?kc_ForestError ?bc_ForestError ?tc_ForestError ?ic_ForestError ?ga_ForestError ?gk_ForestError ?hd_ForestError ?ha_ForestError ?hn_ForestError ?ht_ForestError ?hm_ForestError ?ve_ForestError ?g_NoGrammar ?ex_NoGrammar ?kc_NoGrammar ?bc_NoGrammar ?tc_NoGrammar ?ic_NoGrammar ?ga_NoGrammar ?gk_NoGrammar ?hd_NoGrammar ?ha_NoGrammar ?hn_NoGrammar ?ht_NoGrammar ?hm_NoGrammar ?ve_NoGrammar ?g_NoText ?ex_NoText ?kc_NoText ?bc_NoText ?tc_NoText ?ic_NoText ?ga_NoText ?gk_NoText ?hd_NoText ?ha_NoText ?hn_NoText ?ht_NoText ?hm_NoText ?ve_NoText ?g_NoRow ?ex_NoRow ?kc_NoRow ?bc_NoRow ?tc_NoRow ?ic_NoRow ?ga_NoRow ?gk_NoRow ?hd_NoRow ?ha_NoRow ?hn_NoRow ?ht_NoRow ?hm_NoRow ?ve_NoRow ?g_NoNumber ?ex_NoNumber ?kc_NoNumber ?bc_NoNumber ?tc_NoNumber ?ic_NoNumber ?ga_NoNumber ?gk_NoNumber ?hd_NoNumber ?ha_NoNumber ?hn_NoNumber ?ht_NoNumber ?hm_NoNumber ?ve_NoNumber ?g_TooGreat ?ex_TooGreat ?kc_TooGreat ?bc_TooGreat ?tc_TooGreat ?ic_TooGreat ?ga_TooGreat ?gk_TooGreat ?hd_TooGreat ?ha_TooGreat ?hn_TooGreat ?ht_TooGreat ?hm_TooGreat ?ve_TooGreat ?su_Chart_Chart ?su_Chart_Wood ?su_Wood_Chart ?su_Wood_Wood ?a_wall ?l_wall ?e_wall ?p_wall ?a_is_whole ?l_is_whole ?e_is_whole ?p_is_whole ?a_may_stand ?l_may_stand ?e_may_stand ?p_may_stand ?a_is_sign ?l_is_sign ?e_is_sign ?p_is_sign ?a_is_name ?l_is_name ?e_is_name ?p_is_name ?a_checked_text ?l_checked_text ?e_checked_text ?p_checked_text ?a_owners ?l_owners ?e_owners ?p_owners ?a_settled ?l_settled ?e_settled ?p_settled ?a_put_together ?l_put_together ?e_put_together ?p_put_together ?a_of_way ?l_of_way ?e_of_way ?p_of_way ?a_first_rows ?l_first_rows ?e_first_rows ?p_first_rows ?a_all_rows ?l_all_rows ?e_all_rows ?p_all_rows ?a_told ?l_told ?ld_told ?e_told ?p_told ?a_best ?l_best ?e_best ?p_best ?a_prices ?l_prices ?e_prices ?p_prices ?a_are_parts ?l_are_parts ?e_are_parts ?p_are_parts ?a_is_rule ?l_is_rule ?e_is_rule ?p_is_rule ?a_checked ?l_checked ?e_checked ?p_checked ?a_rules_by_head ?l_rules_by_head ?e_rules_by_head ?p_rules_by_head ?a_first_nodes ?l_first_nodes ?e_first_nodes ?p_first_nodes ?a_heights_over ?l_heights_over ?e_heights_over ?p_heights_over ?a_ways_of_parts ?l_ways_of_parts ?e_ways_of_parts ?p_ways_of_parts ?a_ways_of_head ?l_ways_of_head ?e_ways_of_head ?p_ways_of_head ?a_ways_over ?l_ways_over ?e_ways_over ?p_ways_over ?a_law_cell_at ?l_law_cell_at ?e_law_cell_at ?p_law_cell_at ?a_law_mixed ?l_law_mixed ?e_law_mixed ?p_law_mixed ?a_law_signs ?l_law_signs ?e_law_signs ?p_law_signs ?a_law_names ?l_law_names ?e_law_names ?p_law_names ?a_law_worths ?l_law_worths ?e_law_worths ?p_law_worths ?a_law_keys ?l_law_keys ?e_law_keys ?p_law_keys ?a_law ?l_law ?e_law ?p_law
    (case b_bool => k_is)
    (case b_enumerate => k_is)
    (case b_int => k_is)
    (case b_isinstance => k_is)
    (case b_len => k_is)
    (case b_list => k_is)
    (case b_ord => k_is)
    (case b_range => k_is)
    (case b_reversed => k_is)
    (case b_sorted => k_is)
    (case b_str => k_is)
    (case b_sum => k_is)
    (case b_tuple => k_is)
    (case k_MOST_SIGNS => k_is)
    (case k_MOST => k_is)
    (case k_LONGEST => k_is)
    (case k_MOST_RULES => k_is)
    (case k_MOST_PARTS => k_is)
    (case k_MOST_WORTH => k_is)
    (case g_Chart => k_is)
    (case pg_Chart => k_is)
    (case hd_Chart => k_is)
    (case po_Chart => k_is)
    (case sa_Chart => k_is)
    (case mk_Chart => k_is)
    (case kc_Chart => k_is)
    (case ha_Chart => k_is)
    (case hn_Chart => k_is)
    (case ht_Chart => k_is)
    (case hm_Chart => k_is)
    (case tc_Chart => k_is)
    (case ic_Chart => k_is)
    (case n_Chart_rules => k_is)
    (case n_Chart_heights => k_is)
    (case n_Chart_level => k_is)
    (case n_Chart_queue => k_is)
    (case n_Chart_higher => k_is)
    (case n_Chart_ends => k_is)
    (case n_Chart_behind => k_is)
    (case a_i_Chart => k_is)
    (case y_i_Chart => k_is)
    (case l_i_Chart => k_is)
    (case e_i_Chart => k_is)
    (case p_i_Chart => k_is)
    (case a_m_Chart_offer => k_is)
    (case y_m_Chart_offer => k_is)
    (case l_m_Chart_offer => k_is)
    (case e_m_Chart_offer => k_is)
    (case p_m_Chart_offer => k_is)
    (case a_m_Chart_take_part => k_is)
    (case y_m_Chart_take_part => k_is)
    (case l_m_Chart_take_part => k_is)
    (case e_m_Chart_take_part => k_is)
    (case p_m_Chart_take_part => k_is)
    (case a_m_Chart_take_parts => k_is)
    (case y_m_Chart_take_parts => k_is)
    (case l_m_Chart_take_parts => k_is)
    (case e_m_Chart_take_parts => k_is)
    (case p_m_Chart_take_parts => k_is)
    (case a_m_Chart_take_level => k_is)
    (case y_m_Chart_take_level => k_is)
    (case l_m_Chart_take_level => k_is)
    (case e_m_Chart_take_level => k_is)
    (case p_m_Chart_take_level => k_is)
    (case a_m_Chart_rise => k_is)
    (case y_m_Chart_rise => k_is)
    (case l_m_Chart_rise => k_is)
    (case e_m_Chart_rise => k_is)
    (case p_m_Chart_rise => k_is)
    (case g_Wood => k_is)
    (case pg_Wood => k_is)
    (case hd_Wood => k_is)
    (case po_Wood => k_is)
    (case sa_Wood => k_is)
    (case mk_Wood => k_is)
    (case kc_Wood => k_is)
    (case ha_Wood => k_is)
    (case hn_Wood => k_is)
    (case ht_Wood => k_is)
    (case hm_Wood => k_is)
    (case tc_Wood => k_is)
    (case ic_Wood => k_is)
    (case n_Wood_rules => k_is)
    (case n_Wood_signs => k_is)
    (case n_Wood_peak => k_is)
    (case n_Wood_paths => k_is)
    (case a_i_Wood => k_is)
    (case y_i_Wood => k_is)
    (case l_i_Wood => k_is)
    (case e_i_Wood => k_is)
    (case p_i_Wood => k_is)
    (case a_m_Wood_reach => k_is)
    (case y_m_Wood_reach => k_is)
    (case l_m_Wood_reach => k_is)
    (case e_m_Wood_reach => k_is)
    (case p_m_Wood_reach => k_is)
    (case a_m_Wood_told_grammar => k_is)
    (case y_m_Wood_told_grammar => k_is)
    (case l_m_Wood_told_grammar => k_is)
    (case e_m_Wood_told_grammar => k_is)
    (case p_m_Wood_told_grammar => k_is)
    (case a_m_Wood_top => k_is)
    (case y_m_Wood_top => k_is)
    (case l_m_Wood_top => k_is)
    (case e_m_Wood_top => k_is)
    (case p_m_Wood_top => k_is)
    (case a_m_Wood_nodes => k_is)
    (case y_m_Wood_nodes => k_is)
    (case l_m_Wood_nodes => k_is)
    (case e_m_Wood_nodes => k_is)
    (case p_m_Wood_nodes => k_is)
    (case a_m_Wood_ways => k_is)
    (case y_m_Wood_ways => k_is)
    (case l_m_Wood_ways => k_is)
    (case e_m_Wood_ways => k_is)
    (case p_m_Wood_ways => k_is)
    (case g_ForestError => k_is)
    (case ex_ForestError => k_exc)
    (case kc_ForestError => k_is)
    (case bc_ForestError => k_is)
    (case tc_ForestError => k_is)
    (case ic_ForestError => k_is)
    (case ga_ForestError => k_is)
    (case gk_ForestError => k_is)
    (case hd_ForestError => k_is)
    (case ha_ForestError => k_is)
    (case hn_ForestError => k_is)
    (case ht_ForestError => k_is)
    (case hm_ForestError => k_is)
    (case ve_ForestError => k_is)
    (case g_NoGrammar => k_is)
    (case ex_NoGrammar => k_exc)
    (case kc_NoGrammar => k_is)
    (case bc_NoGrammar => k_is)
    (case tc_NoGrammar => k_is)
    (case ic_NoGrammar => k_is)
    (case ga_NoGrammar => k_is)
    (case gk_NoGrammar => k_is)
    (case hd_NoGrammar => k_is)
    (case ha_NoGrammar => k_is)
    (case hn_NoGrammar => k_is)
    (case ht_NoGrammar => k_is)
    (case hm_NoGrammar => k_is)
    (case ve_NoGrammar => k_is)
    (case g_NoText => k_is)
    (case ex_NoText => k_exc)
    (case kc_NoText => k_is)
    (case bc_NoText => k_is)
    (case tc_NoText => k_is)
    (case ic_NoText => k_is)
    (case ga_NoText => k_is)
    (case gk_NoText => k_is)
    (case hd_NoText => k_is)
    (case ha_NoText => k_is)
    (case hn_NoText => k_is)
    (case ht_NoText => k_is)
    (case hm_NoText => k_is)
    (case ve_NoText => k_is)
    (case g_NoRow => k_is)
    (case ex_NoRow => k_exc)
    (case kc_NoRow => k_is)
    (case bc_NoRow => k_is)
    (case tc_NoRow => k_is)
    (case ic_NoRow => k_is)
    (case ga_NoRow => k_is)
    (case gk_NoRow => k_is)
    (case hd_NoRow => k_is)
    (case ha_NoRow => k_is)
    (case hn_NoRow => k_is)
    (case ht_NoRow => k_is)
    (case hm_NoRow => k_is)
    (case ve_NoRow => k_is)
    (case g_NoNumber => k_is)
    (case ex_NoNumber => k_exc)
    (case kc_NoNumber => k_is)
    (case bc_NoNumber => k_is)
    (case tc_NoNumber => k_is)
    (case ic_NoNumber => k_is)
    (case ga_NoNumber => k_is)
    (case gk_NoNumber => k_is)
    (case hd_NoNumber => k_is)
    (case ha_NoNumber => k_is)
    (case hn_NoNumber => k_is)
    (case ht_NoNumber => k_is)
    (case hm_NoNumber => k_is)
    (case ve_NoNumber => k_is)
    (case g_TooGreat => k_is)
    (case ex_TooGreat => k_exc)
    (case kc_TooGreat => k_is)
    (case bc_TooGreat => k_is)
    (case tc_TooGreat => k_is)
    (case ic_TooGreat => k_is)
    (case ga_TooGreat => k_is)
    (case gk_TooGreat => k_is)
    (case hd_TooGreat => k_is)
    (case ha_TooGreat => k_is)
    (case hn_TooGreat => k_is)
    (case ht_TooGreat => k_is)
    (case hm_TooGreat => k_is)
    (case ve_TooGreat => k_is)
    (case su_Chart_Chart => first | k_is | rfl | decide)
    (case su_Chart_Wood => first | k_is | rfl | decide)
    (case su_Wood_Chart => first | k_is | rfl | decide)
    (case su_Wood_Wood => first | k_is | rfl | decide)
    (case a_wall => k_is)
    (case l_wall => k_is)
    (case e_wall => k_is)
    (case p_wall => k_is)
    (case a_is_whole => k_is)
    (case l_is_whole => k_is)
    (case e_is_whole => k_is)
    (case p_is_whole => k_is)
    (case a_may_stand => k_is)
    (case l_may_stand => k_is)
    (case e_may_stand => k_is)
    (case p_may_stand => k_is)
    (case a_is_sign => k_is)
    (case l_is_sign => k_is)
    (case e_is_sign => k_is)
    (case p_is_sign => k_is)
    (case a_is_name => k_is)
    (case l_is_name => k_is)
    (case e_is_name => k_is)
    (case p_is_name => k_is)
    (case a_checked_text => k_is)
    (case l_checked_text => k_is)
    (case e_checked_text => k_is)
    (case p_checked_text => k_is)
    (case a_owners => k_is)
    (case l_owners => k_is)
    (case e_owners => k_is)
    (case p_owners => k_is)
    (case a_settled => k_is)
    (case l_settled => k_is)
    (case e_settled => k_is)
    (case p_settled => k_is)
    (case a_put_together => k_is)
    (case l_put_together => k_is)
    (case e_put_together => k_is)
    (case p_put_together => k_is)
    (case a_of_way => k_is)
    (case l_of_way => k_is)
    (case e_of_way => k_is)
    (case p_of_way => k_is)
    (case a_first_rows => k_is)
    (case l_first_rows => k_is)
    (case e_first_rows => k_is)
    (case p_first_rows => k_is)
    (case a_all_rows => k_is)
    (case l_all_rows => k_is)
    (case e_all_rows => k_is)
    (case p_all_rows => k_is)
    (case a_told => k_is)
    (case l_told => k_is)
    (case ld_told => k_is)
    (case e_told => k_is)
    (case p_told => k_is)
    (case a_best => k_is)
    (case l_best => k_is)
    (case e_best => k_is)
    (case p_best => k_is)
    (case a_prices => k_is)
    (case l_prices => k_is)
    (case e_prices => k_is)
    (case p_prices => k_is)
    (case a_are_parts => k_is)
    (case l_are_parts => k_is)
    (case e_are_parts => k_is)
    (case p_are_parts => k_is)
    (case a_is_rule => k_is)
    (case l_is_rule => k_is)
    (case e_is_rule => k_is)
    (case p_is_rule => k_is)
    (case a_checked => k_is)
    (case l_checked => k_is)
    (case e_checked => k_is)
    (case p_checked => k_is)
    (case a_rules_by_head => k_is)
    (case l_rules_by_head => k_is)
    (case e_rules_by_head => k_is)
    (case p_rules_by_head => k_is)
    (case a_first_nodes => k_is)
    (case l_first_nodes => k_is)
    (case e_first_nodes => k_is)
    (case p_first_nodes => k_is)
    (case a_heights_over => k_is)
    (case l_heights_over => k_is)
    (case e_heights_over => k_is)
    (case p_heights_over => k_is)
    (case a_ways_of_parts => k_is)
    (case l_ways_of_parts => k_is)
    (case e_ways_of_parts => k_is)
    (case p_ways_of_parts => k_is)
    (case a_ways_of_head => k_is)
    (case l_ways_of_head => k_is)
    (case e_ways_of_head => k_is)
    (case p_ways_of_head => k_is)
    (case a_ways_over => k_is)
    (case l_ways_over => k_is)
    (case e_ways_over => k_is)
    (case p_ways_over => k_is)
    (case a_law_cell_at => k_is)
    (case l_law_cell_at => k_is)
    (case e_law_cell_at => k_is)
    (case p_law_cell_at => k_is)
    (case a_law_mixed => k_is)
    (case l_law_mixed => k_is)
    (case e_law_mixed => k_is)
    (case p_law_mixed => k_is)
    (case a_law_signs => k_is)
    (case l_law_signs => k_is)
    (case e_law_signs => k_is)
    (case p_law_signs => k_is)
    (case a_law_names => k_is)
    (case l_law_names => k_is)
    (case e_law_names => k_is)
    (case p_law_names => k_is)
    (case a_law_worths => k_is)
    (case l_law_worths => k_is)
    (case e_law_worths => k_is)
    (case p_law_worths => k_is)
    (case a_law_keys => k_is)
    (case l_law_keys => k_is)
    (case e_law_keys => k_is)
    (case p_law_keys => k_is)
    (case a_law => k_is)
    (case l_law => k_is)
    (case e_law => k_is)
    (case p_law => k_is)
