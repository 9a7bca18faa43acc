import PyProof.Rows.All
import Wide.All
import OpenK.AllK
import Wide.FinOn
import HandS.ForMost
import HandS.ForExc
import HandS.Flow
import HandS.IsInst
import HandS.Wide
import HandS.Walk
import HandS.ExcIs
import HandS.TryElse
import HandS.TryMany
import HandS.HotCalls
import HandS.SuiteRaise
import HandS.TupAny
import HandS.Small
import HandS.SetKeys
import HandS.DictComp
import HandS.Rev
import HandS.More
import HandS.ExcValue
import KE.DataFind
import HandS.ReplaceLit
import HandS.ReplaceList
import KE.GoesEnum
import KE.KDictKeyed
import KE.KDictWalk
import HandS.TupLen
import HandS.SortKw
import KE.DataMinMax
import KE.KDictDisplayH
import HandS.TupMul
import HandS.TupLe
import PyProof.ListMulRight
import KE.KeyNested
import KE.SortData
import HandS.Defaults
import HandS.CallSlots
import PySem.Challenge.RW_forestread_k82_grammars_written
set_option Elab.async false
set_option linter.all false
set_option maxRecDepth 100000
set_option maxHeartbeats 2000000
set_option autoImplicit false
/-! Weakest wishes of the pieces of a text: eW, tW, aW, sW, bW; rules by syntax. -/
namespace G
open PySem PySem.Spec PyProof.Rows L2 TL
structure eW (X : Cx) (e : Expr) (σ : L2.St) (H : Hp) (Q : VK) : Prop where
  run : ∀ pins s, Inv X pins σ H s → wpAny (model X.prog X.w) X.A (eval e X.env) (EP X pins σ Q) X.xe s
structure tW (X : Cx) (e : Expr) (σ : L2.St) (H : Hp) (Q : Bool → Hp → Prop) : Prop where
  run : ∀ pins s, Inv X pins σ H s → wpAny (model X.prog X.w) X.A (isTrue e X.env (eval e X.env)) (TP X pins σ Q) X.xe s
structure cW (X : Cx) (e : Expr) (σ : L2.St) (H : Hp) (Q : Bool → Hp → Prop) : Prop where
  run : ∀ whole pins s, Inv X pins σ H s → wpAny (model X.prog X.w) X.A (isTrue e X.env whole) (TP X pins σ Q) X.xe s
structure aW (X : Cx) (es : List Expr) (σ : L2.St) (H : Hp) (Q : List V → Hp → Prop) : Prop where
  run : ∀ pos pins s, Inv X pins σ H s → wpAny (model X.prog X.w) X.A (spliced (backTo pos (starEach es X.env))) (AP X pins σ Q) X.xe s
structure sW (X : Cx) (st : Stmt) (D : Ends) (σ : L2.St) (H : Hp) : Prop where
  run : ∀ pins s, Inv X pins σ H s → wpAny (model X.prog X.w) X.A (exec st X.env) (SP X pins D) X.xe s
structure bW (X : Cx) (b : List Stmt) (D : Ends) (σ : L2.St) (H : Hp) : Prop where
  run : ∀ pins s, Inv X pins σ H s → wpAny (model X.prog X.w) X.A (execs b X.env) (SP X pins D) X.xe s
structure gW (X : Cx) (e : Expr) (v : V) (σ : L2.St) (H : Hp) (Q : L2.St → Hp → Prop) : Prop where
  run : ∀ pins s u, Inv X pins σ H s → RelV v u → wpAny (model X.prog X.w) X.A (assign e X.env u) (fun _ s' => ∃ σ' H', Inv X pins σ' H' s' ∧ Q σ' H') X.xe s
structure oW (X : Cx) (f : Value → Value → Sem Value) (x y : V) (H : Hp) (Q : VK) : Prop where
  run : ∀ pins s σ v u, Inv X pins σ H s → RelV x v → RelV y u → wpAny (model X.prog X.w) X.A (f v u) (EP X pins σ Q) X.xe s
structure uW (X : Cx) (f : Value → Sem Value) (x : V) (H : Hp) (Q : VK) : Prop where
  run : ∀ pins s σ v, Inv X pins σ H s → RelV x v → wpAny (model X.prog X.w) X.A (f v) (EP X pins σ Q) X.xe s
structure kW (X : Cx) (f : Value) (xs : List V) (H : Hp) (Q : VK) : Prop where
  run : ∀ pins s σ us, Inv X pins σ H s → Vals xs us → wpAny (model X.prog X.w) X.A (call f us) (EP X pins σ Q) X.xe s
section
variable {X : Cx} {e : Expr} {es : List Expr} {st : Stmt} {b : List Stmt}
theorem PEw : PE X e (eW X e) := ⟨fun pins s _ _ _ I h => h.run pins s I⟩
theorem PTw : PT X e (tW X e) := ⟨fun pins s _ _ _ I h => h.run pins s I⟩
theorem PWw : PW X e (cW X e) := ⟨fun wh pins s _ _ _ I h => h.run wh pins s I⟩
theorem PAw : PA X es (aW X es) := ⟨fun pos pins s _ _ _ I h => h.run pos pins s I⟩
theorem PSw : PS X st (sW X st) := ⟨fun pins s _ _ _ I h => h.run pins s I⟩
theorem PBw : PSs X b (bW X b) := ⟨fun pins s _ _ _ I h => h.run pins s I⟩
theorem PGw : PG X e (gW X e) := ⟨fun pins s _ _ v u _ I r h => h.run pins s u I r⟩
theorem OPw {f : Value → Value → Sem Value} : OpR X f (oW X f) := fun pins s σ H x y v u Q I rx ry h => h.run pins s σ v u I rx ry
theorem UNw {f : Value → Sem Value} : UnR X f (uW X f) := fun pins s σ H x v Q I rx h => h.run pins s σ v I rx
theorem KRw {f : Value} : CallR X f (kW X f) := fun pins s σ H xs us Q I r h => h.run pins s σ us I r
theorem eI {t : TE} {σ : L2.St} {H : Hp} {Q : VK} (h : PE X e t) (q : t σ H Q) : eW X e σ H Q := ⟨fun pins s I => h.run pins s σ H Q I q⟩
theorem tI {t : TT} {σ : L2.St} {H : Hp} {Q : Bool → Hp → Prop} (h : PT X e t) (q : t σ H Q) : tW X e σ H Q := ⟨fun pins s I => h.run pins s σ H Q I q⟩
theorem cI {t : TT} {σ : L2.St} {H : Hp} {Q : Bool → Hp → Prop} (h : PW X e t) (q : t σ H Q) : cW X e σ H Q := ⟨fun wh pins s I => h.run wh pins s σ H Q I q⟩
theorem aI {t : TA} {σ : L2.St} {H : Hp} {Q : List V → Hp → Prop} (h : PA X es t) (q : t σ H Q) : aW X es σ H Q := ⟨fun pos pins s I => h.run pos pins s σ H Q I q⟩
theorem sI {t : TS} {D : Ends} {σ : L2.St} {H : Hp} (h : PS X st t) (q : t D σ H) : sW X st D σ H := ⟨fun pins s I => h.run pins s σ H D I q⟩
theorem bI {t : TS} {D : Ends} {σ : L2.St} {H : Hp} (h : PSs X b t) (q : t D σ H) : bW X b D σ H := ⟨fun pins s I => h.run pins s σ H D I q⟩
theorem gI {t : TG} {v : V} {σ : L2.St} {H : Hp} {Q : L2.St → Hp → Prop} (h : PG X e t) (q : t v σ H Q) : gW X e v σ H Q := ⟨fun pins s u I r => h.run pins s σ H v u Q I r q⟩
theorem oI {f : Value → Value → Sem Value} {r : R2} {x y : V} {H : Hp} {Q : VK} (h : OpR X f r) (q : r x y H Q) : oW X f x y H Q := ⟨fun pins s σ v u I rx ry => h pins s σ H x y v u Q I rx ry q⟩
theorem uI {f : Value → Sem Value} {r : V → Hp → VK → Prop} {x : V} {H : Hp} {Q : VK} (h : UnR X f r) (q : r x H Q) : uW X f x H Q := ⟨fun pins s σ v I rx => h pins s σ H x v Q I rx q⟩
theorem kI {f : Value} {r : List V → Hp → VK → Prop} {xs : List V} {H : Hp} {Q : VK} (h : CallR X f r) (q : r xs H Q) : kW X f xs H Q := ⟨fun pins s σ us I rx => h pins s σ H xs us Q I rx q⟩
theorem eMono {σ : L2.St} {H : Hp} {Q Q' : VK} (h : eW X e σ H Q) (i : ∀ v H', Q v H' → Q' v H') : eW X e σ H Q' := ⟨fun pins s I => wpAny_mono (h.run pins s I) (fun _ _ ⟨v, H', a, b, c⟩ => ⟨v, H', a, b, i v H' c⟩) fun _ _ x => x⟩
theorem tMono {σ : L2.St} {H : Hp} {Q Q' : Bool → Hp → Prop} (h : tW X e σ H Q) (i : ∀ v H', Q v H' → Q' v H') : tW X e σ H Q' := ⟨fun pins s I => wpAny_mono (h.run pins s I) (fun _ _ ⟨H', a, c⟩ => ⟨H', a, i _ H' c⟩) fun _ _ x => x⟩
end

/-! ### what a context tells -/
def cxr (P : Program) (w : World) (K : PySem.W.Frag) (mg : Str → Option Value) (base : Heap) (N : List Str) (q : Str) (st : Stmt) (f : Addr) (cd : Value) (A : Around) (outer : List Env) (s : Shared) (H : Hp) (E : XK) : Cx := cxOf (L2.CX P w) P w K mg base N q (defScope st) f cd A outer s H E
class CxN (X : Cx) (N : outParam (List Str)) : Prop where h : X.N = N
class CxK (X : Cx) (K : outParam PySem.W.Frag) : Prop where h : X.K = K
class CxM (X : Cx) (mg : outParam (Str → Option Value)) : Prop where h : X.mg = mg
class CxC (X : Cx) : Prop where h : X.calm = true
class CxO (X : Cx) : Prop where h : PassesOwn (model X.prog X.w) X.A X.env X.xe
class CxT (X : Cx) (W : outParam WX) : Prop where h : Takes X W
/-- the slot of a name -/
class Slt (N : List Str) (x : Str) (i : outParam Nat) : Prop where h : N[i]? = some x
instance (priority := high) slt0 {x : Str} {N : List Str} : Slt (x :: N) x 0 := ⟨rfl⟩
instance slt1 {x y : Str} {N : List Str} {i : Nat} [s : Slt N x i] : Slt (y :: N) x (i + 1) := ⟨s.h⟩
class Blt (x : Str) (v : outParam Value) : Prop where h : bootBuiltins x = some v
instance : Blt "len" (.builtin "len") := ⟨boot_len⟩
instance : Blt "isinstance" (.builtin "isinstance") := ⟨boot_isinstance⟩
instance : Blt "min" (.builtin "min") := ⟨boot_min⟩
instance : Blt "max" (.builtin "max") := ⟨boot_max⟩
instance : Blt "sorted" (.builtin "sorted") := ⟨boot_sorted⟩
instance : Blt "sum" (.builtin "sum") := ⟨boot_sum⟩
instance : Blt "any" (.builtin "any") := ⟨boot_any⟩
instance : Blt "all" (.builtin "all") := ⟨boot_all⟩
instance : Blt "abs" (.builtin "abs") := ⟨boot_abs⟩
instance : Blt "ord" (.builtin "ord") := ⟨boot_ord⟩
instance : Blt "chr" (.builtin "chr") := ⟨boot_chr⟩
instance : Blt "range" (.type "range") := ⟨boot_range⟩
instance : Blt "list" (.type "list") := ⟨boot_list⟩
instance : Blt "tuple" (.type "tuple") := ⟨boot_tuple⟩
instance : Blt "int" (.type "int") := ⟨boot_int⟩
instance : Blt "str" (.type "str") := ⟨boot_str⟩
instance : Blt "bool" (.type "bool") := ⟨boot_bool⟩
instance : Blt "set" (.type "set") := ⟨boot_set⟩
instance : Blt "dict" (.type "dict") := ⟨boot_dict⟩
instance : Blt "enumerate" (.type "enumerate") := ⟨boot_enumerate⟩
instance : Blt "zip" (.type "zip") := ⟨boot_zip⟩
instance : Blt "reversed" (.type "reversed") := ⟨boot_reversed⟩
instance : Blt "ValueError" (.type "ValueError") := ⟨by decide +kernel⟩
/-- what a name of the module holds -/
class Gn (mg : Str → Option Value) (x : Str) (v : outParam (Option Value)) : Prop where h : mg x = v
section
variable {P : Program} {w : World} {K : PySem.W.Frag} {mg : Str → Option Value} {base : Heap} {N : List Str} {q : Str} {st : Stmt} {f : Addr} {cd : Value} {A : Around} {outer : List Env} {s : Shared} {H : Hp} {E : XK}
instance : CxN (cxr P w K mg base N q st f cd A outer s H E) N := ⟨rfl⟩
instance : CxK (cxr P w K mg base N q st f cd A outer s H E) K := ⟨rfl⟩
instance : CxM (cxr P w K mg base N q st f cd A outer s H E) mg := ⟨rfl⟩
instance : CxC (cxr P w K mg base N q st f cd A outer s H E) := ⟨rfl⟩
instance : CxO (cxr P w K mg base N q st f cd A outer s H E) := ⟨passes_of (X := cxr P w K mg base N q st f cd A outer s H E) rfl⟩
instance : CxT (cxr P w K mg base N q st f cd A outer s H E) (fun cls d _ H => E cls d H) := ⟨takes_of (X := cxr P w K mg base N q st f cd A outer s H E) rfl rfl rfl rfl⟩
end
section
variable {X : Cx} {s : Shared} {H : Hp} {sc : Scope} {ce : Env} {fp : List Addr} {pn : List (Addr × Obj)} {xe : Value → Shared → Prop} {a : Addr}
instance {N : List Str} [c : CxN X N] : CxN (X.blk s H sc ce fp) N := ⟨c.h⟩
instance {K : PySem.W.Frag} [c : CxK X K] : CxK (X.blk s H sc ce fp) K := ⟨c.h⟩
instance {mg : Str → Option Value} [c : CxM X mg] : CxM (X.blk s H sc ce fp) mg := ⟨c.h⟩
instance [c : CxC X] : CxC (X.blk s H sc ce fp) := ⟨c.h⟩
instance : CxT (X.blk s H sc ce fp) (fun _ _ _ _ => False) := ⟨takes0⟩
instance {N : List Str} [c : CxN X N] : CxN (X.tr pn xe) N := ⟨c.h⟩
instance {K : PySem.W.Frag} [c : CxK X K] : CxK (X.tr pn xe) K := ⟨c.h⟩
instance {mg : Str → Option Value} [c : CxM X mg] : CxM (X.tr pn xe) mg := ⟨c.h⟩
instance [c : CxC X] : CxC (X.tr pn xe) := ⟨c.h⟩
instance {N : List Str} [c : CxN X N] : CxN (X.suite a pn) N := ⟨c.h⟩
instance {K : PySem.W.Frag} [c : CxK X K] : CxK (X.suite a pn) K := ⟨c.h⟩
instance {mg : Str → Option Value} [c : CxM X mg] : CxM (X.suite a pn) mg := ⟨c.h⟩
end

/-! ### expressions -/
section
variable {X : Cx} {σ : L2.St} {H : Hp} {Q : VK} {pos p2 p3 p4 : Pos} {a b c : Expr} {rest : List Expr}
theorem e_var {N : List Str} {x : Str} {i : Nat} {v : V} [cn : CxN X N] [sl : Slt N x i] (hs : σ[i]? = some (some v)) (q : Q v H)
    (hv : Vis X.env.scope x := by first | exact Or.inl rfl | exact Or.inr (Or.inl rfl) | exact Or.inr (Or.inr rfl)) (hd : (x == ("__debug__" : Str)) = false := by decide) (hcd : (x == ("__classdict__" : Str)) = false := by decide) : eW X (.Name x pos) σ H Q :=
  eI (pe_var (i := i) (by rw [cn.h]; exact sl.h) hv hd hcd) ⟨v, hs, q⟩
theorem e_int {i : Int} {j : Nat} (q : Q (.int i) H) : eW X (.Constant (.int i) j pos) σ H Q := eI pe_int q
theorem e_bl {i : Bool} {j : Nat} (q : Q (.bl i) H) : eW X (.Constant (.bool i) j pos) σ H Q := eI pe_bl q
theorem e_non {j : Nat} (q : Q .non H) : eW X (.Constant .none j pos) σ H Q := eI pe_non q
theorem e_str {x : Str} {j : Nat} (q : Q (.str x) H) : eW X (.Constant (.str x) j pos) σ H Q := eI pe_str q
theorem e_glob {mg : Str → Option Value} {x : Str} {u : Value} {v : V} [cm : CxM X mg] [g : Gn mg x (some u)] (r : RelV v u) (q : Q v H) (hg : Gl X x := by rfl) (hd : (x == ("__debug__" : Str)) = false := by decide) : eW X (.Name x pos) σ H Q :=
  eI (pe_glob hg (by rw [cm.h]; exact g.h) r hd) q
theorem e_globR {mg : Str → Option Value} {x : Str} {f : Addr} [cm : CxM X mg] [g : Gn mg x (some (.ref f))] (q : Q (.ref f) H) (hg : Gl X x := by rfl) (hd : (x == ("__debug__" : Str)) = false := by decide) : eW X (.Name x pos) σ H Q :=
  eI (pe_glob (v := .ref f) hg (by rw [cm.h]; exact g.h) rfl hd) q
theorem e_globI {mg : Str → Option Value} {x : Str} {i : Int} {t : Tok} [cm : CxM X mg] [g : Gn mg x (some (.int i t))] (q : Q (.int i) H) (hg : Gl X x := by rfl) (hd : (x == ("__debug__" : Str)) = false := by decide) : eW X (.Name x pos) σ H Q :=
  eI (pe_glob (v := .int i) hg (by rw [cm.h]; exact g.h) ⟨_, rfl⟩ hd) q
theorem e_globS {mg : Str → Option Value} {x : Str} {i : Str} {t : Tok} [cm : CxM X mg] [g : Gn mg x (some (.str i t))] (q : Q (.str i) H) (hg : Gl X x := by rfl) (hd : (x == ("__debug__" : Str)) = false := by decide) : eW X (.Name x pos) σ H Q :=
  eI (pe_glob (v := .str i) hg (by rw [cm.h]; exact g.h) ⟨_, rfl⟩ hd) q
theorem e_ty {mg : Str → Option Value} {x : Str} {n : String} [cm : CxM X mg] [g : Gn mg x none] [bl : Blt x (.type n)] (q : Q (.ty n) H) (hg : Gl X x := by rfl) (hn : x ≠ "__name__" := by decide) (hd : (x == ("__debug__" : Str)) = false := by decide) : eW X (.Name x pos) σ H Q :=
  eI (pe_bltn (v := .ty n) hg (by rw [cm.h]; exact g.h) bl.h rfl hn hd) q
theorem e_bin {op : Operator} (h : eW X a σ H fun x H1 => eW X b σ H1 fun y H2 => oW X (binaryOp op) x y H2 Q) : eW X (.BinOp a op b pos) σ H Q := eI (pe_op OPw PEw PEw) h
theorem e_un {op : UnaryOp} (h : eW X a σ H fun x H1 => uW X (unaryOp op) x H1 Q) : eW X (.UnaryOp op a pos) σ H Q := eI (pe_un UNw PEw) h
theorem e_cmp {op : CmpOp} (h : eW X a σ H fun x H1 => eW X b σ H1 fun y H2 => oW X (compareOp op) x y H2 Q) (hm : behindInMarks op b = false := by first | exact nomark _ | rfl) : eW X (.Compare a [op] [b] pos) σ H Q := eI (pe_cmpR OPw PEw PEw hm) h
theorem e_isN {j : Nat} (h : eW X a σ H fun x H1 => Q (.bl (decide (x = .non))) H1) : eW X (.Compare a [.Is] [.Constant .none j p2] pos) σ H Q := eI (pe_cmp (pc_isN PEw) rfl) h
theorem e_notN {j : Nat} (h : eW X a σ H fun x H1 => Q (.bl (!decide (x = .non))) H1) : eW X (.Compare a [.IsNot] [.Constant .none j p2] pos) σ H Q := eI (pe_cmp (pc_notN PEw) rfl) h
theorem e_ifE {t : Expr} (h : tW X t σ H fun k H1 => if k = true then eW X a σ H1 Q else eW X b σ H1 Q) : eW X (.IfExp t a b pos) σ H Q := eI (pe_ifExp PTw PEw PEw) h
theorem e_one {op : BoolOp} (h : eW X a σ H Q) : eW X (.BoolOp op [a] pos) σ H Q := eI (pe_one PEw) h
theorem e_and (h : eW X a σ H fun x H1 => ∃ k, x = .bl k ∧ if k = true then eW X (.BoolOp .And (b :: rest) pos) σ H1 Q else Q (.bl false) H1) : eW X (.BoolOp .And (a :: b :: rest) pos) σ H Q := eI (pe_and PEw PEw) h
theorem e_or (h : eW X a σ H fun x H1 => ∃ k, x = .bl k ∧ if k = true then Q (.bl true) H1 else eW X (.BoolOp .Or (b :: rest) pos) σ H1 Q) : eW X (.BoolOp .Or (a :: b :: rest) pos) σ H Q := eI (pe_or PEw PEw) h
theorem e_not (h : eW X a σ H fun x H1 => ∃ k, x = .bl k ∧ Q (.bl (!k)) H1) : eW X (.UnaryOp .Not a pos) σ H Q := eI (pe_not PEw) h
theorem e_tup {es : List Expr} {k : Nat} (h : aW X es σ H fun xs H1 => xs.length ≤ sizeLine ∧ ∀ p, H1 p = none → Q (.ref p) (upd H1 p (.tup xs))) : eW X (.Tuple es k pos) σ H Q := eI (pe_tup PAw) h
theorem e_lst {es : List Expr} (h : aW X es σ H fun xs H1 => xs.length ≤ sizeLine ∧ ∀ p, H1 p = none → Q (.ref p) (upd H1 p (.lst xs))) : eW X (.List es pos) σ H Q := eI (pe_lst PAw) h
/-- and, or of two truths whose joint answer is told -/
theorem e_andJ {d : Bool} (h : eW X a σ H fun x H1 => ∃ k, x = .bl k ∧ (k = true → ∀ Q' : VK, Q' (.bl d) H1 → eW X (.BoolOp .And (b :: rest) pos) σ H1 Q') ∧ Q (.bl (k && d)) H1) : eW X (.BoolOp .And (a :: b :: rest) pos) σ H Q :=
  e_and (eMono h fun x H1 ⟨k, e, h1, h2⟩ => ⟨k, e, by cases k with | true => exact (h1 rfl _ h2) | false => exact h2⟩)
theorem e_orJ {d : Bool} (h : eW X a σ H fun x H1 => ∃ k, x = .bl k ∧ (k = false → ∀ Q' : VK, Q' (.bl d) H1 → eW X (.BoolOp .Or (b :: rest) pos) σ H1 Q') ∧ Q (.bl (k || d)) H1) : eW X (.BoolOp .Or (a :: b :: rest) pos) σ H Q :=
  e_or (eMono h fun x H1 ⟨k, e, h1, h2⟩ => ⟨k, e, by cases k with | true => exact h2 | false => exact (h1 rfl _ h2)⟩)
/-- a chain of two comparisons -/
theorem e_chain {op op' : CmpOp} (h : eW X a σ H fun x H1 => eW X b σ H1 fun y H2 => oW X (compareOp op) x y H2 fun z H3 => ∃ k, z = .bl k ∧ (if k = true then eW X c σ H3 (fun w' H4 => oW X (compareOp op') y w' H4 Q) else Q (.bl false) H3))
    (hm : lastMarks [op, op'] [b, c] = false := by with_unfolding_all rfl) : eW X (.Compare a [op, op'] [b, c] pos) σ H Q := eI (pe_chain OPw OPw PEw PEw PEw hm) h
theorem t_chain {op op' : CmpOp} {R : Bool → Hp → Prop} (h : eW X a σ H fun x H1 => eW X b σ H1 fun y H2 => oW X (compareOp op) x y H2 fun z H3 => ∃ k, z = .bl k ∧ (if k = true then eW X c σ H3 (fun w' H4 => oW X (compareOp op') y w' H4 fun u H5 => ∃ k, u = .bl k ∧ R k H5) else (∃ k', V.bl false = .bl k' ∧ R k' H3)))
    (hm : lastMarks [op, op'] [b, c] = false := by with_unfolding_all rfl) : tW X (.Compare a [op, op'] [b, c] pos) σ H R := tI (pt_chain OPw OPw PEw PEw PEw hm) h

/-! ### arguments -/
theorem a_nil {R : List V → Hp → Prop} (h : R [] H) : aW X [] σ H R := aI pa_nil h
theorem a_cons {es : List Expr} {R : List V → Hp → Prop} (h : eW X a σ H fun x H1 => aW X es σ H1 fun xs H2 => R (x :: xs) H2) (hs : starEach (a :: es) X.env = (false, eval a X.env) :: starEach es X.env := by rfl) : aW X (a :: es) σ H R := aI (pa_cons PEw PAw hs) h

/-! ### tests -/
variable {R : Bool → Hp → Prop}
theorem t_val {e : Expr} (h : eW X e σ H fun x H1 => ∃ k, x = .bl k ∧ R k H1) (he : ∀ whole, isTrue e X.env whole = (do let v ← whole; standAt e.pos; holding [v] (truthy v)) := by intro _; rfl) : tW X e σ H R := tI (pt_val PEw he) h
theorem t_tru {e : Expr} (h : eW X e σ H fun x H1 => ∃ k, TruV X.K x H1 k ∧ R k H1) (he : ∀ whole, isTrue e X.env whole = (do let v ← whole; standAt e.pos; holding [v] (truthy v)) := by intro _; rfl) : tW X e σ H R := tI (pt_truth PEw he) h
theorem t_cmp {op : CmpOp} (h : eW X a σ H fun x H1 => eW X b σ H1 fun y H2 => oW X (compareOp op) x y H2 fun z H3 => ∃ k, z = .bl k ∧ R k H3) (hm : behindInMarks op b = false := by first | exact nomark _ | rfl) : tW X (.Compare a [op] [b] pos) σ H R := tI (pt_cmpR OPw PEw PEw hm) h
theorem t_isN {j : Nat} (h : eW X a σ H fun x H1 => R (decide (x = .non)) H1) : tW X (.Compare a [.Is] [.Constant .none j p2] pos) σ H R := tI (pt_cmp (pc_isN PEw) rfl) (eMono h fun _ _ q => ⟨_, rfl, q⟩)
theorem t_notN {j : Nat} (h : eW X a σ H fun x H1 => R (!decide (x = .non)) H1) : tW X (.Compare a [.IsNot] [.Constant .none j p2] pos) σ H R := tI (pt_cmp (pc_notN PEw) rfl) (eMono h fun _ _ q => ⟨_, rfl, q⟩)
theorem t_not (h : tW X a σ H fun k H1 => R (!k) H1) : tW X (.UnaryOp .Not a pos) σ H R := tI (pt_not PTw) h
theorem t_and (h : cW X (.BoolOp .And rest pos) σ H R) : tW X (.BoolOp .And rest pos) σ H R := tI (PWw).pt h
theorem t_or (h : cW X (.BoolOp .Or rest pos) σ H R) : tW X (.BoolOp .Or rest pos) σ H R := tI (PWw).pt h
theorem c_and1 (h : tW X a σ H R) : cW X (.BoolOp .And [a] pos) σ H R := cI (pw_and1 PTw) h
theorem c_or1 (h : tW X a σ H R) : cW X (.BoolOp .Or [a] pos) σ H R := cI (pw_or1 PTw) h
theorem c_and (h : tW X a σ H fun k H1 => if k = true then cW X (.BoolOp .And (b :: rest) pos) σ H1 R else R false H1) : cW X (.BoolOp .And (a :: b :: rest) pos) σ H R := cI (pw_and PTw PWw) h
theorem c_or (h : tW X a σ H fun k H1 => if k = true then R true H1 else cW X (.BoolOp .Or (b :: rest) pos) σ H1 R) : cW X (.BoolOp .Or (a :: b :: rest) pos) σ H R := cI (pw_or PTw PWw) h
/-- .. joined: the answer of both is told -/
theorem c_andJ {d : Bool} (h : tW X a σ H fun k H1 => (k = true → ∀ R' : Bool → Hp → Prop, R' d H1 → cW X (.BoolOp .And (b :: rest) pos) σ H1 R') ∧ R (k && d) H1) : cW X (.BoolOp .And (a :: b :: rest) pos) σ H R :=
  c_and (tMono h fun k H1 ⟨h1, h2⟩ => by cases k with | true => exact (h1 rfl _ h2) | false => exact h2)
theorem c_orJ {d : Bool} (h : tW X a σ H fun k H1 => (k = false → ∀ R' : Bool → Hp → Prop, R' d H1 → cW X (.BoolOp .Or (b :: rest) pos) σ H1 R') ∧ R (k || d) H1) : cW X (.BoolOp .Or (a :: b :: rest) pos) σ H R :=
  c_or (tMono h fun k H1 ⟨h1, h2⟩ => by cases k with | true => exact h2 | false => exact (h1 rfl _ h2))
end

/-! ### statements -/
@[reducible] def Dsq (X : Cx) (more : List Stmt) (D : Ends) : Ends := { D with nx := bW X more D }
@[reducible] def Dlp (D : Ends) (N : L2.St → Hp → Prop) : Ends := { D with nx := N, ct := N, bk := D.nx }
@[reducible] def Dnx (D : Ends) (N : L2.St → Hp → Prop) : Ends := { D with nx := N }
section
variable {X : Cx} {σ : L2.St} {H : Hp} {D : Ends} {pos p2 p3 p4 : Pos} {e it tg : Expr} {st : Stmt} {body more : List Stmt}
theorem b_nil (h : D.nx σ H) : bW X [] D σ H := bI pss_nil h
theorem b_cons (h : sW X st (Dsq X more D) σ H) : bW X (st :: more) D σ H := bI (pss_cons PSw PBw) h
theorem b_one (h : sW X st D σ H) : bW X [st] D σ H := bI (pss_one PSw) h
theorem s_ret (h : eW X e σ H D.rt) : sW X (.Return (some e) pos) D σ H := sI (ps_ret PEw) h
theorem s_retN (h : D.rt .non H) : sW X (.Return none pos) D σ H := sI ps_retN h
theorem s_pass (h : D.nx σ H) : sW X (.Pass pos) D σ H := sI ps_pass h
theorem s_brk (h : D.bk σ H) : sW X (.Break pos) D σ H := sI ps_break h
theorem s_cont (h : D.ct σ H) : sW X (.Continue pos) D σ H := sI ps_continue h
theorem s_expr (h : eW X e σ H fun _ H1 => D.nx σ H1) (hs : swapsWith e none pos.line X.env = pure false := by rfl) : sW X (.Expr e pos) D σ H := sI (ps_expr PEw hs) h
theorem s_if {t : Expr} {x y : List Stmt} (h : tW X t σ H fun k H1 => if k = true then bW X x D σ H1 else bW X y D σ H1) : sW X (.If t x y pos) D σ H := sI (ps_if PTw PBw PBw) h
class NdN (N : List Str) : Prop where h : N.Nodup
theorem s_set {N : List Str} {x : Str} {i : Nat} [cn : CxN X N] [sl : Slt N x i] [nd : NdN N] (h : eW X e σ H fun v H1 => D.nx (σ.set i (some v)) H1) (hx : Loc X.env.scope x := by first | exact Or.inl rfl | exact Or.inr rfl) (hs : swapsWith e (some (.Name x p2)) pos.line X.env = pure false := by rfl)
    (hf : X.fn x = true ∨ X.env.scope.names.lookup x = some .local := by first | exact .inl rfl | exact .inr rfl | assumption) : sW X (.Assign [.Name x p2] e pos) D σ H :=
  sI (ps_set (i := i) (by rw [cn.h]; exact nd.h) (by rw [cn.h]; exact sl.h) hx PEw hs hf) h
theorem g_name {N : List Str} {x : Str} {i : Nat} {v : V} {Q : L2.St → Hp → Prop} [cn : CxN X N] [sl : Slt N x i] [nd : NdN N] (h : Q (σ.set i (some v)) H) (hx : Loc X.env.scope x := by first | exact Or.inl rfl | exact Or.inr rfl)
    (hf : X.fn x = true ∨ X.env.scope.names.lookup x = some .local := by first | exact .inl rfl | exact .inr rfl | assumption) : gW X (.Name x pos) v σ H Q :=
  gI (pg_name (i := i) (by rw [cn.h]; exact nd.h) (by rw [cn.h]; exact sl.h) hx hf) h
theorem s_asg (h : eW X e σ H fun v H1 => gW X tg v σ H1 D.nx) (hs : swapsWithSole [tg] e pos.line X.env = pure false := by rfl) (hw : swappedStores [tg] e X.env = pure none := by rfl)
    (h1 : (assignEach [tg] X.env).map (·.2) = [assign tg X.env] := by rfl) : sW X (.Assign [tg] e pos) D σ H := sI (ps_asg PEw PGw hs hw h1) h
/-- while: W by what is left -/
theorem s_while {c : Expr} [ow : CxO X] (W : Nat → L2.St → Hp → Prop) (m : Nat) (h0 : W m σ H)
    (h : ∀ m σ H, W m σ H → tW X c σ H fun b H1 => if b = true then bW X body (Dlp D fun σ' H' => ∃ m', m' < m ∧ W m' σ' H') σ H1 else D.nx σ H1) : sW X (.While c body [] pos) D σ H :=
  sI (ps_while ow.h PTw PBw) ⟨W, ⟨m, h0⟩, fun m σ H w => tMono (h m σ H w) fun b H1 q => by
    cases b with
    | true => exact ⟨_, fun _ _ z => z, q⟩
    | false => exact q⟩
theorem s_forL [ow : CxO X] [cc : CxC X] (h : eW X it σ H fun x H1 => ∃ a xs, x = .ref a ∧ SqL X.K H1 a xs ∧ ∃ Pv : Nat → L2.St → Hp → Prop, Pv 0 σ H1 ∧ (∀ i σ' H', i ≤ xs.length → Pv i σ' H' → SqL X.K H' a xs) ∧
      (∀ i v σ' H', xs[i]? = some v → Pv i σ' H' → gW X tg v σ' H' fun σ2 H2 => bW X body (Dlp D (Pv (i + 1))) σ2 H2) ∧ ∀ σ' H', Pv xs.length σ' H' → D.nx σ' H') (hs : ∀ x, foldedSetIterable it X.env x = pure x := by intro _; rfl) : sW X (.For tg it body [] pos) D σ H :=
  sI (ps_for ow.h cc.h (pi_list PEw) PGw PBw hs) (eMono h fun x H1 ⟨a, xs, e1, e2, Pv, q0, q1, q2, q3⟩ => ⟨a, e1, ⟨xs, e2⟩, for_list (K := X.K) (a := a) (xs := xs) Pv q0 q1 q2 q3⟩)
theorem s_forT [ow : CxO X] [cc : CxC X] (h : eW X it σ H fun x H1 => ∃ a xs, x = .ref a ∧ SqT X.K H1 a xs ∧ ∃ Pv : Nat → L2.St → Hp → Prop, Pv 0 σ H1 ∧ (∀ i σ' H', i ≤ xs.length → Pv i σ' H' → SqT X.K H' a xs) ∧
      (∀ i v σ' H', xs[i]? = some v → Pv i σ' H' → gW X tg v σ' H' fun σ2 H2 => bW X body (Dlp D (Pv (i + 1))) σ2 H2) ∧ ∀ σ' H', Pv xs.length σ' H' → D.nx σ' H') (hs : ∀ x, foldedSetIterable it X.env x = pure x := by intro _; rfl) : sW X (.For tg it body [] pos) D σ H :=
  sI (ps_for ow.h cc.h (pi_tup PEw) PGw PBw hs) (eMono h fun x H1 ⟨a, xs, e1, e2, Pv, q0, q1, q2, q3⟩ => ⟨a, e1, ⟨xs, e2⟩, for_tup (K := X.K) (a := a) (xs := xs) Pv q0 q1 q2 q3⟩)
end

/-! ### values -/
section
variable {X : Cx} {H : Hp} {Q : VK} {i j : Int} {k l : Bool} {x y : V} {z u : Str}
theorem o_add (q : Q (.int (i + j)) H) : oW X (binaryOp .Add) (.int i) (.int j) H Q := oI op_add ⟨_, _, rfl, rfl, q⟩
theorem o_sub (q : Q (.int (i - j)) H) : oW X (binaryOp .Sub) (.int i) (.int j) H Q := oI op_sub ⟨_, _, rfl, rfl, q⟩
theorem o_mul (h : CMulW i j) (q : Q (.int (i * j)) H) : oW X (binaryOp .Mult) (.int i) (.int j) H Q := oI op_mulW ⟨_, _, rfl, rfl, h, q⟩
theorem o_mulS (h : CMul i j) (q : Q (.int (i * j)) H) : oW X (binaryOp .Mult) (.int i) (.int j) H Q := oI op_mul ⟨_, _, rfl, rfl, h, q⟩
theorem o_mod (h : 0 < j) (q : Q (.int (i % j)) H) : oW X (binaryOp .Mod) (.int i) (.int j) H Q := oI op_mod ⟨_, _, rfl, rfl, h, q⟩
theorem o_div (h : CDiv i j) (q : Q (.int (i / j)) H) : oW X (binaryOp .FloorDiv) (.int i) (.int j) H Q := oI op_fdiv ⟨_, _, rfl, rfl, h, q⟩
theorem o_pow (h : CPow i j) (q : Q (.int (i ^ j.toNat)) H) : oW X (binaryOp .Pow) (.int i) (.int j) H Q := oI op_pow ⟨_, _, rfl, rfl, h, q⟩
theorem o_cat (h : z.length + u.length ≤ sizeLine) (q : Q (.str (z ++ u)) H) : oW X (binaryOp .Add) (.str z) (.str u) H Q := oI op_add_str ⟨_, _, rfl, rfl, h, q⟩
theorem o_lt (q : Q (.bl (decide (i < j))) H) : oW X (compareOp .Lt) (.int i) (.int j) H Q := oI op_lt ⟨_, _, rfl, rfl, q⟩
theorem o_le (q : Q (.bl (decide (i ≤ j))) H) : oW X (compareOp .LtE) (.int i) (.int j) H Q := oI op_le ⟨_, _, rfl, rfl, q⟩
theorem o_gt (q : Q (.bl (decide (j < i))) H) : oW X (compareOp .Gt) (.int i) (.int j) H Q := oI op_gt ⟨_, _, rfl, rfl, q⟩
theorem o_ge (q : Q (.bl (decide (j ≤ i))) H) : oW X (compareOp .GtE) (.int i) (.int j) H Q := oI op_ge ⟨_, _, rfl, rfl, q⟩
theorem o_eqI (q : Q (.bl (decide (i = j))) H) : oW X (compareOp .Eq) (.int i) (.int j) H Q := oI op_eq ⟨rfl, by rw [show decide (V.int i = V.int j) = decide (i = j) from decide_eq_decide.mpr ⟨fun e => V.int.inj e, fun e => by rw [e]⟩]; exact q⟩
theorem o_neI (q : Q (.bl (!decide (i = j))) H) : oW X (compareOp .NotEq) (.int i) (.int j) H Q := oI op_ne ⟨rfl, by rw [show decide (V.int i = V.int j) = decide (i = j) from decide_eq_decide.mpr ⟨fun e => V.int.inj e, fun e => by rw [e]⟩]; exact q⟩
theorem o_eqS (q : Q (.bl (decide (z = u))) H) : oW X (compareOp .Eq) (.str z) (.str u) H Q := oI op_eq ⟨rfl, by rw [show decide (V.str z = V.str u) = decide (z = u) from decide_eq_decide.mpr ⟨fun e => V.str.inj e, fun e => by rw [e]⟩]; exact q⟩
theorem o_neS (q : Q (.bl (!decide (z = u))) H) : oW X (compareOp .NotEq) (.str z) (.str u) H Q := oI op_ne ⟨rfl, by rw [show decide (V.str z = V.str u) = decide (z = u) from decide_eq_decide.mpr ⟨fun e => V.str.inj e, fun e => by rw [e]⟩]; exact q⟩
theorem o_eqB (q : Q (.bl (decide (k = l))) H) : oW X (compareOp .Eq) (.bl k) (.bl l) H Q := oI op_eq ⟨rfl, by rw [show decide (V.bl k = V.bl l) = decide (k = l) from decide_eq_decide.mpr ⟨fun e => V.bl.inj e, fun e => by rw [e]⟩]; exact q⟩
theorem o_neB (q : Q (.bl (!decide (k = l))) H) : oW X (compareOp .NotEq) (.bl k) (.bl l) H Q := oI op_ne ⟨rfl, by rw [show decide (V.bl k = V.bl l) = decide (k = l) from decide_eq_decide.mpr ⟨fun e => V.bl.inj e, fun e => by rw [e]⟩]; exact q⟩
theorem u_neg (q : Q (.int (-i)) H) : uW X (unaryOp .USub) (.int i) H Q := uI un_neg ⟨_, rfl, q⟩
end
theorem iteD {p : Prop} [Decidable p] {A B : Prop} (h1 : p → A) (h2 : ¬ p → B) : if decide p = true then A else B := by
  by_cases h : p
  · rw [if_pos (decide_eq_true h)]; exact h1 h
  · rw [decide_eq_false h, if_neg Bool.false_ne_true]; exact h2 h
theorem iteND {p : Prop} [Decidable p] {A B : Prop} (h1 : ¬ p → A) (h2 : p → B) : if (!decide p) = true then A else B := by
  by_cases h : p
  · rw [decide_eq_true h]; exact iteF (h2 h)
  · rw [decide_eq_false h]; exact iteT (h1 h)
theorem iteB {k : Bool} {A B : Prop} (h1 : k = true → A) (h2 : k = false → B) : if k = true then A else B := by
  cases k with
  | true => exact iteT (h1 rfl)
  | false => exact iteF (h2 rfl)

/-! ### calls -/
section
variable {X : Cx} {σ : L2.St} {H : Hp} {Q : VK} {pos p2 p3 p4 apos : Pos} {a e : Expr} {es : List Expr} {P : Program} {w : World} {K : PySem.W.Frag} {mg : Str → Option Value} {base : Heap}
/-- a def of the module by its name: where it stands, how it binds, its promise -/
structure Df (P : Program) (w : World) (K : PySem.W.Frag) (mg : Str → Option Value) (base : Heap) (x : Str) (k : Nat) (ps : List Str) (sp : Sp) : Prop where
  ex : ∃ (f : Addr) (fd : FuncData), mg x = some (.ref f) ∧ PySem.W.keepIn K (.ref f) = true ∧ Binds K fd ps [] ∧ FnOk P w K mg base (L2.CX P w) k f fd ps sp
theorem e_call {x : Str} {k : Nat} {ps : List Str} {sp : Sp} {W : WX} [ct : CxT X W] (F : Df X.prog X.w X.K X.mg X.base x k ps sp) (hr : Room k X.A) (h : aW X (e :: es) σ H fun vs H1 => sp vs H1 Q fun cls d H' => W cls d σ H')
    (hg : Gl X x := by rfl) (hdb : (x == ("__debug__" : Str)) = false := by decide) (he : starEach (e :: es) X.env = (false, eval e X.env) :: starEach es X.env := by rfl) (hpl : (backTo pos (starEach es X.env)).any (·.1) = false := by rfl) : eW X (.Call (.Name x p2) (e :: es) [] pos) σ H Q := by
  obtain ⟨f, fd, h1, h2, h3, h4⟩ := F.ex
  exact eI (pe_callS (E := WE W) h4 hr hg h1 h2 h3 (fun σ => passAt ct.h σ) PAw hdb he hpl) h
theorem e_call0 {x : Str} {k : Nat} {ps : List Str} {sp : Sp} (F : Df X.prog X.w X.K X.mg X.base x k ps sp) (hr : Room k X.A) (h : sp [] H Q E0)
    (hg : Gl X x := by rfl) (hdb : (x == ("__debug__" : Str)) = false := by decide) : eW X (.Call (.Name x p2) [] [] pos) σ H Q := by
  obtain ⟨f, fd, h1, h2, h3, h4⟩ := F.ex
  exact eI (pe_call0 (E := E0) h4 hr hg h1 h2 h3 .nil passL hdb) h
theorem e_callB {x : Str} {id : String} [cm : CxM X mg] [g : Gn mg x none] [bl : Blt x (.builtin id)] (h : aW X (e :: es) σ H fun vs H1 => kW X (.builtin id) vs H1 Q)
    (hg : Gl X x := by rfl) (hn : x ≠ "__name__" := by decide) (hdb : (x == ("__debug__" : Str)) = false := by decide) (he : starEach (e :: es) X.env = (false, eval e X.env) :: starEach es X.env := by rfl) (hpl : (backTo pos (starEach es X.env)).any (·.1) = false := by rfl) : eW X (.Call (.Name x p2) (e :: es) [] pos) σ H Q :=
  eI (pe_callB KRw hg (by rw [cm.h]; exact g.h) bl.h PAw hn hdb he hpl) h
theorem e_callTy {x : Str} {id : String} [cm : CxM X mg] [g : Gn mg x none] [bl : Blt x (.type id)] (h : aW X (e :: es) σ H fun vs H1 => kW X (.type id) vs H1 Q)
    (hg : Gl X x := by rfl) (hn : x ≠ "__name__" := by decide) (hdb : (x == ("__debug__" : Str)) = false := by decide) (he : starEach (e :: es) X.env = (false, eval e X.env) :: starEach es X.env := by rfl) (hpl : (backTo pos (starEach es X.env)).any (·.1) = false := by rfl) : eW X (.Call (.Name x p2) (e :: es) [] pos) σ H Q :=
  eI (pe_callTy KRw hg (by rw [cm.h]; exact g.h) bl.h PAw hn hdb he hpl) h
end
/-! ### defs and classes of the text -/
structure At (K : PySem.W.Frag) (mg : Str → Option Value) (x q : Str) (st : Stmt) (ps : List Str) : Prop where
  ex : ∃ (f : Addr) (fd : FuncData), mg x = some (.ref f) ∧ Fun K x q st f fd ∧ Binds K fd ps []
structure MAt (K : PySem.W.Frag) (C : Addr) (x q : Str) (st : Stmt) (ps : List Str) : Prop where
  ex : ∃ (f : Addr) (fd : FuncData), Meth K C x f ∧ Fun K x q st f fd ∧ Binds K fd ps []
structure InitF (K : PySem.W.Frag) (C : Addr) (q : Str) (st : Stmt) (ps : List Str) : Prop where
  ex : ∃ (f : Addr) (fd : FuncData), Mk K C f ∧ Fun K "__init__" q st f fd ∧ Binds K fd ps []
structure ClsF (K : PySem.W.Frag) (mg : Str → Option Value) (x : Str) (C : Addr) : Prop where
  mg : mg x = some (.ref C)
  cl : Cls K C
  mks : PySem.W.makesIn K C = true
  kp : PySem.W.keepIn K (.ref C) = true
  ha : PySem.W.findIn K (.ref C) "__class__" = some (some (.builtin "object.__class__"))
  hn : PySem.W.specialIn K (.builtin "object.__class__") "__get__" = some (some (.builtin "getset_descriptor.__get__"))
  ht : PySem.W.takesIn K (.builtin "object.__class__") = some true
  hm : PySem.W.mroIn K C (.type "object") = some true
  ty : PySem.W.typeIn K (.ref C) = some (.type "type")
  ic : PySem.W.isClsIn K C = true
structure ExcF (K : PySem.W.Frag) (mg : Str → Option Value) (x : Str) (C : Addr) : Prop where
  mg : mg x = some (.ref C)
  ex : PySem.W.excIn K C [.type "ValueError", .type "Exception", .type "BaseException", .type "object"] "ValueError.__new__" = true
  kp : PySem.W.keepIn K (.ref C) = true
  be : PySem.W.subIn K (.ref C) (.type "BaseException") = some true
  ty : PySem.W.typeIn K (.ref C) = some (.type "type")
  ic : PySem.W.isClsIn K C = true
  ga : PySem.W.findIn K (.ref C) "__getattribute__" = some (some (.builtin "BaseException.__getattribute__"))
  gk : PySem.W.findIn K (.ref C) "__getattr__" = some none
  hd : PySem.W.hasDictIn K C = true
  ha : PySem.W.findIn K (.ref C) "__class__" = some (some (.builtin "object.__class__"))
  hn : PySem.W.specialIn K (.builtin "object.__class__") "__get__" = some (some (.builtin "getset_descriptor.__get__"))
  ht : PySem.W.takesIn K (.builtin "object.__class__") = some true
  hm : PySem.W.mroIn K C (.type "object") = some true
  ve : PySem.W.subIn K (.ref C) (.type "ValueError") = some true
structure Md (P : Program) (w : World) (K : PySem.W.Frag) (mg : Str → Option Value) (base : Heap) (C : Addr) (x : Str) (k : Nat) (ps : List Str) (sp : Sp) : Prop where
  ex : ∃ (f : Addr) (fd : FuncData), Meth K C x f ∧ Binds K fd ps [] ∧ FnOk P w K mg base (L2.CX P w) k f fd ps sp
/-! ### promises by the number of the arguments -/
def sp0 (R : Hp → VK → XK → Prop) : Sp := fun vs H Q E => vs = [] ∧ R H Q E
def sp1 (R : V → Hp → VK → XK → Prop) : Sp := fun vs H Q E => ∃ a, vs = [a] ∧ R a H Q E
def sp2 (R : V → V → Hp → VK → XK → Prop) : Sp := fun vs H Q E => ∃ a b, vs = [a, b] ∧ R a b H Q E
def sp3 (R : V → V → V → Hp → VK → XK → Prop) : Sp := fun vs H Q E => ∃ a b c, vs = [a, b, c] ∧ R a b c H Q E
def sp4 (R : V → V → V → V → Hp → VK → XK → Prop) : Sp := fun vs H Q E => ∃ a b c d, vs = [a, b, c, d] ∧ R a b c d H Q E
def sp5 (R : V → V → V → V → V → Hp → VK → XK → Prop) : Sp := fun vs H Q E => ∃ a b c d e, vs = [a, b, c, d, e] ∧ R a b c d e H Q E
def sp6 (R : V → V → V → V → V → V → Hp → VK → XK → Prop) : Sp := fun vs H Q E => ∃ a b c d e f, vs = [a, b, c, d, e, f] ∧ R a b c d e f H Q E
section
variable {vs : List V} {H : Hp} {Q : VK} {E : XK}
theorem sp0_len {R} (h : sp0 R vs H Q E) : vs.length = 0 := by obtain ⟨rfl, _⟩ := h; rfl
theorem sp1_len {R} (h : sp1 R vs H Q E) : vs.length = 1 := by obtain ⟨_, rfl, _⟩ := h; rfl
theorem sp2_len {R} (h : sp2 R vs H Q E) : vs.length = 2 := by obtain ⟨_, _, rfl, _⟩ := h; rfl
theorem sp3_len {R} (h : sp3 R vs H Q E) : vs.length = 3 := by obtain ⟨_, _, _, rfl, _⟩ := h; rfl
theorem sp4_len {R} (h : sp4 R vs H Q E) : vs.length = 4 := by obtain ⟨_, _, _, _, rfl, _⟩ := h; rfl
theorem sp5_len {R} (h : sp5 R vs H Q E) : vs.length = 5 := by obtain ⟨_, _, _, _, _, rfl, _⟩ := h; rfl
theorem sp6_len {R} (h : sp6 R vs H Q E) : vs.length = 6 := by obtain ⟨_, _, _, _, _, _, rfl, _⟩ := h; rfl
end
section
variable {X : Cx} {σ : L2.St} {H : Hp} {Q : VK} {pos p2 p3 p4 apos : Pos} {a e o : Expr} {es : List Expr} {mg : Str → Option Value} {C : Addr}
/-- o.m(e, ..), o.m() of an own class -/
theorem e_meth {m : Str} {k : Nat} {ps : List Str} {sp : Sp} (c : Cls X.K C) (F : Md X.prog X.w X.K X.mg X.base C m k ps sp) (hr : Room k X.A)
    (h : eW X o σ H fun x H1 => ∃ a dx fs, x = .ref a ∧ H1 a = some (.ins C dx fs) ∧ fs.lookup m = none ∧ aW X (e :: es) σ H1 fun vs H2 => sp (x :: vs) H2 Q E0) {pl : Sem Bool}
    (hst : starEach (e :: es) X.env = (false, eval e X.env) :: starEach es X.env := by rfl) (hpl : (backTo pos (starEach es X.env)).any (·.1) = false := by rfl)
    (ht : eval (.Call (.Attribute o m apos) (e :: es) [] pos) X.env = (do
      let ov ← eval o X.env
      standAt apos.atName
      let (f, first) ← holding [ov] (getMethod ov m pl)
      callWith pos f first (backTo pos (starEach (e :: es) X.env)) (backToKw pos (keywordEach [] X.env))) := by rfl) : eW X (.Call (.Attribute o m apos) (e :: es) [] pos) σ H Q := by
  obtain ⟨f, fd, h1, h2, h3⟩ := F.ex
  exact eI (pe_meth (E := E0) PEw c h1 h3 hr h2 .nil passL PAw hst hpl ht) (eMono h fun x H1 ⟨a, dx, fs, q1, q2, q3, q4⟩ => ⟨a, dx, fs, q1, q2, q3, by simpa only [List.append_nil] using q4⟩)
theorem e_meth0 {m : Str} {k : Nat} {ps : List Str} {sp : Sp} (c : Cls X.K C) (F : Md X.prog X.w X.K X.mg X.base C m k ps sp) (hr : Room k X.A)
    (h : eW X o σ H fun x H1 => ∃ a dx fs, x = .ref a ∧ H1 a = some (.ins C dx fs) ∧ fs.lookup m = none ∧ sp [x] H1 Q E0) {pl : Sem Bool}
    (ht : eval (.Call (.Attribute o m apos) [] [] pos) X.env = (do
      let ov ← eval o X.env
      standAt apos.atName
      let (f, first) ← holding [ov] (getMethod ov m pl)
      callWith pos f first (backTo pos (starEach [] X.env)) (backToKw pos (keywordEach [] X.env))) := by rfl) : eW X (.Call (.Attribute o m apos) [] [] pos) σ H Q := by
  obtain ⟨f, fd, h1, h2, h3⟩ := F.ex
  exact eI (pe_meth0 (E := E0) PEw c h1 h3 hr h2 .nil passL ht) h
theorem run_makeO {pins : List (Addr × Obj)} {s : Shared} (hm : PySem.W.makesIn X.K C = true) (hi : PySem.W.findIn X.K (.ref C) "__init__" = some (some (.builtin "object.__init__"))) (I : Inv X pins σ H s)
    (h : ∀ x dx, H x = none → H dx = none → dx ≠ x → Q (.ref x) (upd (upd H dx (.own x)) x (.ins C dx []))) : wpAny (model X.prog X.w) X.A (call (.ref C) []) (EP X pins σ Q) X.xe s := by
  have hq := h (s.heap.objs.size + 1) s.heap.objs.size (I.hok.fresh (Nat.le_succ _)) (I.hok.fresh (Nat.le_refl _)) (Nat.ne_of_lt (Nat.lt_succ_self _))
  have I2 := Inv.made (C := C) I
  have KX := I.kIn
  refine wpAny_call (make_map0 KX hm hi (fun self => PySem.W.Looks.of_pure (PySem.W.oi_bind self)) ?_)
  obtain ⟨hh, g, d, t, os⟩ := s
  have Y := PySem.W.makes_of (M := model X.prog X.w) KX hm
  have t1 : PySem.W.Looks (model X.prog X.w) ((hh.push PySem.W.emptyDict).push (PySem.W.instObj C hh.objs.size)) (typeOf (.ref (hh.objs.size + 1))) (.ref C) := (PySem.W.Looks.ld (by
    have z := Heap.get?_push_size (hh.push PySem.W.emptyDict) (o := PySem.W.instObj C hh.objs.size) rfl
    rw [Heap.size_push] at z
    exact z)).andThen .now
  have t2 : PySem.W.Looks (model X.prog X.w) ((hh.push PySem.W.emptyDict).push (PySem.W.instObj C hh.objs.size)) (isInstance (.ref (hh.objs.size + 1)) (.type "object")) true := t1.andThen (Y.top.keeps fun b o e => Heap.get?_push_of_some _ (Heap.get?_push_of_some _ e))
  refine codeAny_call_builtin PySem.W.oi_plain PySem.W.entry_oi (@PySem.W.check_slot (model X.prog X.w) _ _ _ "object.__init__" "object" "__init__" (.ref (hh.objs.size + 1)) [] [] _ PySem.W.oi_kind PySem.W.oi_split t2 (PySem.W.oi_args (.ref (hh.objs.size + 1))) ?_)
  rw [PySem.W.oi_run]
  exact wpAny_pure ⟨rfl, .ref (hh.objs.size + 1), _, I2, rfl, hq⟩
theorem e_makeO {x : Str} [cm : CxM X mg] [g : Gn mg x (some (.ref C))] (hm : PySem.W.makesIn X.K C = true) (hk : PySem.W.keepIn X.K (.ref C) = true) (hi : PySem.W.findIn X.K (.ref C) "__init__" = some (some (.builtin "object.__init__")))
    (h : ∀ x dx, H x = none → H dx = none → dx ≠ x → Q (.ref x) (upd (upd H dx (.own x)) x (.ins C dx []))) (hg : Gl X x := by rfl) (hdb : (x == ("__debug__" : Str)) = false := by decide) : eW X (.Call (.Name x p2) [] [] pos) σ H Q := ⟨fun pins s I =>
  wpAny_Call_Name_kw (ld_glob I hg (by rw [cm.h]; exact g.h) (PySem.W.callWith_K0 I.kIn hk (run_makeO hm hi I h)) hdb)⟩
end
/-! ### isinstance -/
section
variable {X : Cx} {H : Hp} {Q : VK}
theorem k_isi {x c : V} {t u : Value} {b : Bool} (hc : ClsV c u) (hx : TyX X.K H x t) (e : PySem.W.kitOne X.K t u = some b) (q : Q (.bl b) H) : kW X (.builtin "isinstance") [x, c] H Q := kI call_isi ⟨_, _, _, _, _, rfl, hc, hx, e, q⟩
theorem ClsF.tyX {K : PySem.W.Frag} {mg : Str → Option Value} {x : Str} {C a dx : Addr} {fs : List (Str × V)} (T : ClsF K mg x C) (h : H a = some (.ins C dx fs)) : TyX K H (.ref a) (.ref C) := .base (.ins h T.cl T.ha T.hn T.ht T.hm)
theorem kit_refs {K : PySem.W.Frag} {C D : Addr} {b : Bool} (hs : PySem.W.subIn K (.ref C) (.ref D) = some b) (ic : PySem.W.isClsIn K D = true) (ty : PySem.W.typeIn K (.ref D) = some (.type "type")) (ne : C ≠ D) : PySem.W.kitOne K (.ref C) (.ref D) = some b := by
  have e1 : ((PySem.W.clsIn K D).isSome && PySem.W.typeIn K (.ref D) == some (.type "type")) = true := by
    have h2 : (PySem.W.clsIn K D).isSome = true := ic
    rw [h2, ty]; rfl
  have e2 : (Value.ref C == Value.ref D) = false := by simp [ne]
  show (if (Value.ref C == Value.ref D) = true then some true else if ((PySem.W.clsIn K D).isSome && PySem.W.typeIn K (.ref D) == some (.type "type")) = true then PySem.W.subIn K (.ref C) (.ref D) else none) = some b
  rw [e2, if_neg Bool.false_ne_true, if_pos e1]
  exact hs
theorem kit_self {K : PySem.W.Frag} {C : Addr} : PySem.W.kitOne K (.ref C) (.ref C) = some true := by
  show (if (Value.ref C == Value.ref C) = true then some true else _) = some true
  rw [if_pos (by simp)]
end
/-! ### subscripts, equality of data -/
structure iW (X : Cx) (x y : V) (H : Hp) (Q : VK) : Prop where
  run : ∀ (value slice : Expr) pins s σ v u, Inv X pins σ H s → RelV x v → RelV y u → subscripted slice false v u = operate [v, u] (getItem v u) → wpAny (model X.prog X.w) X.A (subscriptTail value slice v u) (EP X pins σ Q) X.xe s
section
variable {X : Cx} {σ : L2.St} {H : Hp} {Q : VK} {pos p2 p3 : Pos} {a b : Expr} {x y v : V} {p : Addr} {xs : List V} {i : Int}
theorem e_ix (h : eW X a σ H fun x H1 => eW X b σ H1 fun y H2 => iW X x y H2 Q) (hs : PlainIx b := by exact fun _ _ => rfl) : eW X (.Subscript a b pos) σ H Q :=
  eI (pe_ix (r := iW X) (fun value slice pins s σ H x y v u Q I rx ry h hs => h.run value slice pins s σ v u I rx ry hs) PEw PEw hs) h
theorem iI {r : R2} (h : IxR X r) (q : r x y H Q) : iW X x y H Q := ⟨fun value slice pins s σ v u I rx ry hs => h value slice pins s σ H x y v u Q I rx ry q hs⟩
theorem i_lst (h : SqL X.K H p xs) (e : atI xs i = some v) (q : Q v H) : iW X (.ref p) (.int i) H Q := iI ix_list ⟨_, _, _, _, rfl, rfl, h, e, q⟩
theorem i_tup (h : SqT X.K H p xs) (e : atI xs i = some v) (q : Q v H) : iW X (.ref p) (.int i) H Q := iI ix_tup ⟨_, _, _, _, rfl, rfl, h, e, q⟩
theorem i_str {z : Str} {c : Nat} (hz : z.length ≤ sizeLine) (e : atI z.cps.toList i = some c) (q : Q (.str ⟨#[c]⟩) H) : iW X (.str z) (.int i) H Q := iI ix_str ⟨_, _, _, rfl, rfl, hz, e, q⟩
theorem o_eqD {d e : PyData} (hu : X.A.units + 64 < cLine) (hx : Dp X.K H x d) (hy : Dp X.K H y e) (sd : SeqAt.shaped d = true) (se : SeqAt.shaped e = true) (q : Q (.bl (PyData.eqv d e)) H) : oW X (compareOp .Eq) x y H Q := oI (op_eqD hu) ⟨d, e, hx, hy, sd, se, q⟩
theorem o_neD {d e : PyData} (hu : X.A.units + 64 < cLine) (hx : Dp X.K H x d) (hy : Dp X.K H y e) (sd : SeqAt.shaped d = true) (se : SeqAt.shaped e = true) (q : Q (.bl (!PyData.eqv d e)) H) : oW X (compareOp .NotEq) x y H Q := oI (op_neD hu) ⟨d, e, hx, hy, sd, se, q⟩
theorem k_min {j : Int} [cc : CxC X] (q : Q (.int (if j < i then j else i)) H) : kW X (.builtin "min") [.int i, .int j] H Q := kI (call_min2 cc.h) ⟨_, _, rfl, q⟩
theorem k_max {j : Int} [cc : CxC X] (q : Q (.int (if j > i then j else i)) H) : kW X (.builtin "max") [.int i, .int j] H Q := kI (call_max2 cc.h) ⟨_, _, rfl, q⟩
end
theorem atI_nat {α : Type} {xs : List α} {i : Int} {v : α} (h0 : 0 ≤ i) (h : xs[i.toNat]? = some v) : atI xs i = some v := by
  have hl := (List.getElem?_eq_some_iff.mp h).1
  unfold atI ixN
  rw [if_pos h0, if_pos (by omega)]
  exact h
theorem atI_all {α : Type} {xs : List α} {i : Int} {P : α → Prop} (h0 : 0 ≤ i) (h1 : i < xs.length) (hp : ∀ x ∈ xs, P x) : ∃ v, atI xs i = some v ∧ P v := by
  have hl : i.toNat < xs.length := by omega
  exact ⟨xs[i.toNat], atI_nat h0 (List.getElem?_eq_getElem hl), hp _ (List.getElem_mem hl)⟩
theorem TyB {K : PySem.W.Frag} {H : Hp} : (∀ i, TyX K H (.int i) (.type "int")) ∧ (∀ b, TyX K H (.bl b) (.type "bool")) ∧ (∀ z, TyX K H (.str z) (.type "str")) ∧ TyX K H .non (.type "NoneType") := ⟨fun _ => .base (.int _), fun _ => .base (.bl _), fun _ => .base (.str _), .base .non⟩
theorem TyL {K : PySem.W.Frag} {H : Hp} {p : Addr} {xs : List V} (h : H p = some (.lst xs)) : TyX K H (.ref p) (.type "list") := .base (.lst h)
theorem TyT {K : PySem.W.Frag} {H : Hp} {p : Addr} {xs : List V} (h : H p = some (.tup xs)) : TyX K H (.ref p) (.type "tuple") := .base (.tup h)
section
variable {X : Cx} {H : Hp} {Q : VK}
/-- isinstance of a value told by its type's name, of a built-in type -/
theorem k_isB {x : V} {t n : String} {b : Bool} (hx : TyX X.K H x (.type t)) (e : kitB t n = some b) (q : Q (.bl b) H) : kW X (.builtin "isinstance") [x, .ty n] H Q := k_isi (.ty n) hx (kit_ty e) q
end
theorem kb_int_int : kitB "int" "int" = some true := by decide +kernel
theorem kb_int_bool : kitB "int" "bool" = some false := by decide +kernel
theorem kb_bool_int : kitB "bool" "int" = some true := by decide +kernel
theorem kb_bool_bool : kitB "bool" "bool" = some true := by decide +kernel
theorem p60 : (10 : Int) ^ (60 : Int).toNat = 1000000000000000000000000000000000000000000000000000000000000 := by decide
theorem p30 : (10 : Int) ^ (30 : Int).toNat = 1000000000000000000000000000000 := by decide
section
variable {X : Cx} {H : Hp} {Q : VK}
theorem o_p60 (q : Q (.int 1000000000000000000000000000000000000000000000000000000000000) H) : oW X (binaryOp .Pow) (.int 10) (.int 60) H Q := oI op_pow ⟨_, _, rfl, rfl, ⟨by decide, by decide, by decide⟩, by show Q (.int ((10 : Int) ^ (60 : Int).toNat)) H; rw [p60]; exact q⟩
theorem o_p30 (q : Q (.int 1000000000000000000000000000000) H) : oW X (binaryOp .Pow) (.int 10) (.int 30) H Q := oI op_pow ⟨_, _, rfl, rfl, ⟨by decide, by decide, by decide⟩, by show Q (.int ((10 : Int) ^ (30 : Int).toNat)) H; rw [p30]; exact q⟩
end
/-- a new list, its heap by what is known of it -/
theorem e_lstN {X : Cx} {σ : L2.St} {H : Hp} {Q : VK} {pos : Pos} {es : List Expr} (h : aW X es σ H fun xs H1 => Nat.ble xs.length 1000 = true ∧ ∀ p H2, Same H1 H2 → H1 p = none → H2 p = some (.lst xs) → (∀ b, b ≠ p → H2 b = H1 b) → Q (.ref p) H2) : eW X (.List es pos) σ H Q :=
  e_lst ⟨fun pos pins s I => wpAny_mono (h.run pos pins s I) (fun us s' ⟨vs, H', a, b, c, d⟩ => ⟨vs, H', a, b, Nat.le_trans (Nat.le_of_ble_eq_true c) (by decide), fun p hp => d p _ (fun x o e => by rw [upd_ne (ne_of_none e hp)]; exact e) hp upd_same fun x hx => upd_ne hx⟩) fun _ _ x => x⟩
theorem e_tupN {X : Cx} {σ : L2.St} {H : Hp} {Q : VK} {pos : Pos} {es : List Expr} {k : Nat} (h : aW X es σ H fun xs H1 => Nat.ble xs.length 1000 = true ∧ ∀ p H2, Same H1 H2 → H1 p = none → H2 p = some (.tup xs) → (∀ b, b ≠ p → H2 b = H1 b) → Q (.ref p) H2) : eW X (.Tuple es k pos) σ H Q :=
  e_tup ⟨fun pos pins s I => wpAny_mono (h.run pos pins s I) (fun us s' ⟨vs, H', a, b, c, d⟩ => ⟨vs, H', a, b, Nat.le_trans (Nat.le_of_ble_eq_true c) (by decide), fun p hp => d p _ (fun x o e => by rw [upd_ne (ne_of_none e hp)]; exact e) hp upd_same fun x hx => upd_ne hx⟩) fun _ _ x => x⟩
section
variable {X : Cx} {H : Hp} {Q : VK} {p : Addr} {xs : List V} {z : Str}
theorem k_lenL (h : SqL X.K H p xs) (q : Q (.int (xs.length : Int)) H) : kW X (.builtin "len") [.ref p] H Q := kI call_len_seq ⟨_, _, rfl, .inl h, q⟩
theorem k_lenT (h : SqT X.K H p xs) (q : Q (.int (xs.length : Int)) H) : kW X (.builtin "len") [.ref p] H Q := kI call_len_seq ⟨_, _, rfl, .inr h, q⟩
theorem k_lenS (h : z.length ≤ sizeLine) (q : Q (.int (z.length : Int)) H) : kW X (.builtin "len") [.str z] H Q := kI call_len_str ⟨_, rfl, h, q⟩
end
theorem Same.made' {H : Hp} {x dx C : Addr} (nx : H x = Option.none) (nd : H dx = Option.none) : Same H (upd (upd H dx (.own x)) x (.ins C dx [])) := fun b o e => by
  rw [upd_ne (ne_of_none e nx), upd_ne (ne_of_none e nd)]
  exact e
def R_law (K : PySem.W.Frag) : V → Hp → VK → XK → Prop := fun x H Q _ => ∃ (a : Addr) (ns : List Int), x = .ref a ∧ SqL K H a (ns.map V.int) ∧ ns.length ≤ 63 ∧ ∀ H', Q (.bl true) H'
/-! ### targets that are tuples -/
structure hW (X : Cx) (es : List Expr) (vs : List V) (σ : L2.St) (H : Hp) (Q : L2.St → Hp → Prop) : Prop where
  run : ∀ pins s us, Inv X pins σ H s → Vals vs us → wpAny (model X.prog X.w) X.A (assignInOrder ((assignEach es X.env).map (·.2)) us) (fun _ s' => ∃ σ' H', Inv X pins σ' H' s' ∧ Q σ' H') X.xe s
section
variable {X : Cx} {σ : L2.St} {H : Hp} {pos : Pos} {e : Expr} {es : List Expr} {Q : L2.St → Hp → Prop}
theorem PHw : PGs X es (hW X es) := ⟨fun pins s _ _ vs us _ I r h => h.run pins s us I r⟩
theorem h_nil (h : Q σ H) : hW X [] [] σ H Q := ⟨fun pins s us I r => pgs_nil.run pins s σ H [] us Q I r ⟨rfl, h⟩⟩
theorem h_cons {v : V} {vs : List V} (h : gW X e v σ H fun σ1 H1 => hW X es vs σ1 H1 Q) (hs : (assignEach (e :: es) X.env).map (·.2) = assign e X.env :: (assignEach es X.env).map (·.2) := by rfl) : hW X (e :: es) (v :: vs) σ H Q :=
  ⟨fun pins s us I r => (pgs_cons PGw PHw hs).run pins s σ H (v :: vs) us Q I r ⟨v, vs, rfl, h⟩⟩
theorem g_tup {k n : Nat} {v : V} [cc : CxC X] (h : ∃ a xs, v = .ref a ∧ SqT X.K H a xs ∧ xs.length = n ∧ hW X es xs σ H Q)
    (hn : (assignEach es X.env).length = n := by rfl) (hst : (assignEach es X.env).findIdx? (·.1) = none := by rfl) : gW X (.Tuple es k pos) v σ H Q := gI (pg_tup cc.h PHw hn hst) h
end
section
variable {X : Cx} {σ : L2.St} {H : Hp} {pos : Pos} {es : List Expr} {Q : L2.St → Hp → Prop}
theorem g_lst {k n : Nat} {v : V} [cc : CxC X] (h : ∃ a xs, v = .ref a ∧ SqL X.K H a xs ∧ xs.length = n ∧ hW X es xs σ H Q)
    (hn : (assignEach es X.env).length = n := by rfl) (hst : (assignEach es X.env).findIdx? (·.1) = none := by rfl) : gW X (.Tuple es k pos) v σ H Q := gI (pg_lst cc.h PHw hn hst) h
theorem is_h {vs : List V} (h : hW X es vs σ H Q) : hW X es vs σ H Q := h
end
theorem s_asgT {X : Cx} {σ : L2.St} {H : Hp} {D : Ends} {pos p2 : Pos} {e : Expr} {es : List Expr} {k : Nat} (h : eW X e σ H fun v H1 => gW X (.Tuple es k p2) v σ H1 D.nx) (hs : swapsWithSole [.Tuple es k p2] e pos.line X.env = pure false := by rfl) (hw : swappedStores [.Tuple es k p2] e X.env = pure none := by rfl)
    (h1 : (assignEach [.Tuple es k p2] X.env).map (·.2) = [assign (.Tuple es k p2) X.env] := by rfl) : sW X (.Assign [.Tuple es k p2] e pos) D σ H := s_asg h hs hw h1
def oV : Option Int → V
  | none => .non
  | some i => .int i
theorem TyO {K : PySem.W.Frag} {H : Hp} : TyX K H .non (.type "NoneType") := .base .non
/-! ### what is walked; for and comprehensions over any walk -/
structure jW (X : Cx) (tg it : Expr) (σ : L2.St) (H : Hp) (R : It → Hp → Prop) : Prop where
  run : ∀ pins s, Inv X pins σ H s → wpAny (model X.prog X.w) X.A (eval it X.env) (fun v s1 => wpAny (model X.prog X.w) X.A (pyIter v) (PIE X pins σ tg R) X.xe s1) X.xe s
structure mW (X : Cx) (id : String) (x : V) (xs : List V) (H : Hp) (Q : VK) : Prop where
  run : ∀ pins s σ v us, Inv X pins σ H s → RelV x v → Vals xs us → wpAny (model X.prog X.w) X.A (call (.builtin id) (v :: us)) (EP X pins σ Q) X.xe s
structure nW (X : Cx) (x : V) (lo hi : Option Int) (H : Hp) (Q : VK) : Prop where
  run : ∀ pins s σ v vl vu sl, Inv X pins σ H s → RelV x v → s.heap.IsSliceOf sl vl vu .none → IsPart vl lo → IsPart vu hi →
    ∃ T id, typeLookup (.type T) "__getitem__" = pure (some (.builtin id)) ∧ s.TypeIs v T ∧ wpAny (model X.prog X.w) X.A (getItem v (.ref sl)) (EP X pins σ Q) X.xe s
section
variable {X : Cx} {σ : L2.St} {H : Hp} {Q : VK} {D : Ends} {pos p2 p3 p4 p5 apos : Pos} {e o it tg elt c a b : Expr} {es : List Expr} {body : List Stmt} {R : It → Hp → Prop} {mg : Str → Option Value}
theorem PJw : PI X tg it (jW X tg it) := ⟨fun pins s _ _ _ I h => h.run pins s I⟩
theorem jI {wi : TI} (h : PI X tg it wi) (q : wi σ H R) : jW X tg it σ H R := ⟨fun pins s I => h.run pins s σ H R I q⟩
theorem MRw {id : String} : MtR X id (mW X id) := fun pins s σ H x xs v us Q I rx r h => h.run pins s σ v us I rx r
theorem mI {id : String} {r : V → List V → Hp → VK → Prop} {x : V} {xs : List V} (h : MtR X id r) (q : r x xs H Q) : mW X id x xs H Q := ⟨fun pins s σ v us I rx rs => h pins s σ H x xs v us Q I rx rs q⟩
theorem NRw : SlR X (nW X) := fun pins s σ H x v vl vu lo hi sl Q I rx h1 h2 h3 q => q.run pins s σ v vl vu sl I rx h1 h2 h3
theorem nI {r : V → Option Int → Option Int → Hp → VK → Prop} {x : V} {lo hi : Option Int} (h : SlR X r) (q : r x lo hi H Q) : nW X x lo hi H Q := ⟨fun pins s σ v vl vu sl I rx h1 h2 h3 => h pins s σ H x v vl vu lo hi sl Q I rx h1 h2 h3 q⟩
theorem j_list (h : eW X it σ H fun x H1 => ∃ a, x = .ref a ∧ (∃ xs, SqL X.K H1 a xs) ∧ R (Itl X.K a) H1) : jW X tg it σ H R := jI (pi_list PEw) h
theorem j_tup (h : eW X it σ H fun x H1 => ∃ a, x = .ref a ∧ (∃ xs, SqT X.K H1 a xs) ∧ R (Itt X.K a) H1) : jW X tg it σ H R := jI (pi_tup PEw) h
theorem j_str (h : eW X it σ H fun x H1 => ∃ z, x = .str z ∧ R (Its z) H1) : jW X tg it σ H R := jI (pi_str PEw) h
theorem j_rng1 [cm : CxM X mg] [g : Gn mg "range" none] (h : aW X [a] σ H fun vs H1 => ∃ j : Int, vs = [.int j] ∧ -(2 ^ 62) ≤ j ∧ j < 2 ^ 62 ∧ R (Itr 0 j.toNat) H1) (hg : Gl X "range" := by rfl) (hs : starEach [a] X.env = [(false, eval a X.env)] := by rfl) : jW X tg (.Call (.Name "range" p2) [a] [] pos) σ H R :=
  jI (pi_range1 hg (by rw [cm.h]; exact g.h) PAw hs) h
theorem j_rng2 [cm : CxM X mg] [g : Gn mg "range" none] (h : aW X [a, b] σ H fun vs H1 => ∃ i j : Int, vs = [.int i, .int j] ∧ (-(2 ^ 62) ≤ i ∧ i < 2 ^ 62 ∧ -(2 ^ 62) ≤ j ∧ j < 2 ^ 62) ∧ R (Itr i (j - i).toNat) H1) (hg : Gl X "range" := by rfl)
    (hs : starEach [a, b] X.env = [(false, eval a X.env), (false, eval b X.env)] := by rfl) (hs2 : starEach [b] X.env = [(false, eval b X.env)] := by rfl) : jW X tg (.Call (.Name "range" p2) [a, b] [] pos) σ H R :=
  jI (pi_range2 hg (by rw [cm.h]; exact g.h) PAw hs hs2) h
theorem j_rng3 [cm : CxM X mg] [g : Gn mg "range" none] (h : aW X [a, b, c] σ H fun vs H1 => ∃ (i j c : Int) (n : Nat), vs = [.int i, .int j, .int c] ∧ RgC i j c n ∧ R (Itc i c n) H1) (hg : Gl X "range" := by rfl)
    (hs : starEach [a, b, c] X.env = (false, eval a X.env) :: starEach [b, c] X.env := by rfl) (hpl : (backTo pos (starEach [b, c] X.env)).any (·.1) = false := by rfl) : jW X tg (.Call (.Name "range" p2) [a, b, c] [] pos) σ H R :=
  jI (pi_range3 hg (by rw [cm.h]; exact g.h) PAw hs hpl) h
theorem j_rev [cm : CxM X mg] [g : Gn mg "reversed" none] (h : aW X [a] σ H fun vs H1 => ∃ (a : Addr) (xs : List V), vs = [.ref a] ∧ SqL X.K H1 a xs ∧ R (Itv X.K a xs.length) H1) (hg : Gl X "reversed" := by rfl) (hs : starEach [a] X.env = [(false, eval a X.env)] := by rfl) : jW X tg (.Call (.Name "reversed" p2) [a] [] pos) σ H R :=
  jI (pi_reversed hg (by rw [cm.h]; exact g.h) PAw hs) h
theorem j_revT [cm : CxM X mg] [g : Gn mg "reversed" none] (h : eW X a σ H fun v H1 => ∃ (p : Addr) (xs : List V), v = .ref p ∧ SqT X.K H1 p xs ∧ R (RT.ItvT X.K p xs.length) H1) (hg : Gl X "reversed" := by rfl) (hs : starEach [a] X.env = (false, eval a X.env) :: starEach [] X.env := by rfl) : jW X tg (.Call (.Name "reversed" p2) [a] [] pos) σ H R :=
  jI (RT.pi_revA hg (by rw [cm.h]; exact g.h) PEw hs) (eMono h fun v H1 ⟨p, xs, e, q, r⟩ => ⟨p, xs, e, .inr ⟨q, r⟩⟩)
theorem walk_revT {K : PySem.W.Frag} {p : Addr} {xs : List V} : Walk (RT.ItvT K p xs.length) xs.length (fun H => SqT K H p xs) (fun i H x H' => H' = H ∧ xs[xs.length - 1 - i]? = some x) :=
  ⟨fun i _ hi q => ⟨hi, xs, xs[xs.length - 1 - i]'(by omega), q, by simp [show xs.length - 1 - i < xs.length by omega]⟩, fun _ _ => Nat.le_refl _, fun _ _ _ _ _ q y => ⟨y.1, y.2 xs q⟩⟩
theorem j_enum {elts : List Expr} {kk : Nat} [cm : CxM X mg] [g : Gn mg "enumerate" none] (h : aW X [a] σ H fun vs H1 => ∃ a xs, vs = [.ref a] ∧ SqL X.K H1 a xs ∧ R (Ite X.K a) H1) (hg : Gl X "enumerate" := by rfl) (hs : starEach [a] X.env = [(false, eval a X.env)] := by rfl) : jW X (.Tuple elts kk p3) (.Call (.Name "enumerate" p2) [a] [] pos) σ H R :=
  jI (pi_enum hg (by rw [cm.h]; exact g.h) PAw hs) h
theorem j_items {elts : List Expr} {kk : Nat} (h : eW X e σ H fun x H1 => ∃ d o kvs, x = .ref d ∧ H1 d = some (.frz o (.dK kvs)) ∧ R (Iti d o kvs) H1) (hbase : attributeBase e "items" X.env (eval e X.env) = eval e X.env := by rfl) (hline : (apos.endLine == pos.line) = true := by rfl) :
    jW X (.Tuple elts kk p3) (.Call (.Attribute e "items" apos) [] [] pos) σ H R := jI (pi_items PEw hbase hline) h
/-- for over any walk -/
theorem s_for [ow : CxO X] [cc : CxC X] (h : jW X tg it σ H fun J H1 => ∃ n G Y, Walk J n G Y ∧ ∃ Pv : Nat → L2.St → Hp → Prop, Pv 0 σ H1 ∧ (∀ i σ' H', i ≤ n → Pv i σ' H' → G H') ∧
      (∀ i x σ' H' H2, i < n → Pv i σ' H' → Y i H' x H2 → gW X tg x σ' H2 fun σ3 H3 => bW X body (Dlp D (Pv (i + 1))) σ3 H3) ∧ ∀ σ' H', Pv n σ' H' → D.nx σ' H')
    (hs : ∀ x, foldedSetIterable it X.env x = pure x := by intro _; rfl) : sW X (.For tg it body [] pos) D σ H :=
  sI (ps_for ow.h cc.h PJw PGw PBw hs) ⟨fun pins s I => wpAny_mono (h.run pins s I) (fun v s1 q => wpAny_mono q (fun u s2 ⟨i, fp, tn, J, H2, e, I2, T, t0, f2, n, G, Y, w, Pv, q0, q1, q2, q3⟩ => ⟨i, fp, tn, J, H2, e, I2, T, t0, f2, for_it w Pv q0 q1 q2 q3⟩) fun _ _ z => z) fun _ _ z => z⟩
/-- the parts of a comprehension, in every context of its block -/
def eB (X : Cx) (sc : Scope) (e : Expr) : TE := fun σ H Q => ∀ (s : Shared) (H0 : Hp) (C : Addr) (cl : List (Str × Addr)) (fp : List Addr), eW (X.blk s H0 sc (compEnvC sc cl C X.env) fp) e σ H Q
def tB' (X : Cx) (sc : Scope) (e : Expr) : TT := fun σ H Q => ∀ (s : Shared) (H0 : Hp) (C : Addr) (cl : List (Str × Addr)) (fp : List Addr), tW (X.blk s H0 sc (compEnvC sc cl C X.env) fp) e σ H Q
def gB (X : Cx) (sc : Scope) (e : Expr) : TG := fun v σ H Q => ∀ (s : Shared) (H0 : Hp) (C : Addr) (cl : List (Str × Addr)) (fp : List Addr), gW (X.blk s H0 sc (compEnvC sc cl C X.env) fp) e v σ H Q
theorem e_lc {sc : Scope} {N : List Str} {own : List (Str × Nat)} [cc : CxC X] [cn : CxN X N] [nd : NdN N] (ok : BlkOk N X.env.scope sc own)
    (h : jW X tg it σ H fun J H1 => ∃ n G Y, Walk J n G Y ∧ ∀ D, H1 D = none → ∃ Pv : Nat → Hp → Prop, Pv 0 (upd H1 D (.lst [])) ∧ (∀ i H', i ≤ n → Pv i H' → G H') ∧
      (∀ i x H' H2, i < n → Pv i H' → Y i H' x H2 → gB X sc tg x (wipe σ (own.map (·.2))) H2 fun σ3 H3 => wipe σ3 (own.map (·.2)) = wipe σ (own.map (·.2)) ∧ eB X sc elt σ3 H3 fun y H4 => ∃ acc, H4 D = some (.lst acc) ∧ acc.length < sizeLine ∧ Pv (i + 1) (upd H4 D (.lst (acc ++ [y])))) ∧
      ∀ H', Pv n H' → Q (.ref D) H') (hs : ∀ x, foldedSetIterable it X.env x = pure x := by intro _; rfl) : eW X (.ListComp elt [⟨tg, it, [], 0⟩] sc pos) σ H Q :=
  eI (pe_lc (g := gB X sc tg) (tt := tYes) (te := eB X sc elt) cc.h (by rw [cn.h]; exact nd.h) PJw (by rw [cn.h]; exact ok) (fun s H0 C cl fp => ⟨fun pins s' _ _ v u _ I r h => (h s H0 C cl fp).run pins s' u I r⟩) (fun _ _ _ _ _ => pts_nil) (fun s H0 C cl fp => ⟨fun pins s' _ _ _ I h => (h s H0 C cl fp).run pins s' I⟩) hs)
    ⟨fun pins s I => wpAny_mono (h.run pins s I) (fun v s1 q => wpAny_mono q (fun u s2 ⟨i, fp, tn, J, H2, e, I2, T, t0, f2, n, G, Y, w, k⟩ => ⟨i, fp, tn, J, H2, e, I2, T, t0, f2, fun D hD => by
      obtain ⟨Pv, q0, q1, q2, q3⟩ := k D hD
      exact lc_it w Pv q0 q1 (fun i x H' H2' hi p y s0 H0 C cl fp => ⟨fun pins s' u I r => wpAny_mono ((q2 i x H' H2' hi p y s0 H0 C cl fp).run pins s' u I r) (fun _ s'' ⟨σ', H'', I'', e1, e2⟩ => ⟨σ', H'', I'', e1, e2⟩) fun _ _ z => z⟩) q3⟩) fun _ _ z => z) fun _ _ z => z⟩
/-- .. with one if -/
theorem e_lcI {sc : Scope} {N : List Str} {own : List (Str × Nat)} [cc : CxC X] [cn : CxN X N] [nd : NdN N] (ok : BlkOk N X.env.scope sc own)
    (h : jW X tg it σ H fun J H1 => ∃ n G Y, Walk J n G Y ∧ ∀ D, H1 D = none → ∃ Pv : Nat → Hp → Prop, Pv 0 (upd H1 D (.lst [])) ∧ (∀ i H', i ≤ n → Pv i H' → G H') ∧
      (∀ i x H' H2, i < n → Pv i H' → Y i H' x H2 → gB X sc tg x (wipe σ (own.map (·.2))) H2 fun σ3 H3 => wipe σ3 (own.map (·.2)) = wipe σ (own.map (·.2)) ∧ tB' X sc c σ3 H3 fun k H4 => if k = true then eB X sc elt σ3 H4 fun y H5 => ∃ acc, H5 D = some (.lst acc) ∧ acc.length < sizeLine ∧ Pv (i + 1) (upd H5 D (.lst (acc ++ [y]))) else Pv (i + 1) H4) ∧
      ∀ H', Pv n H' → Q (.ref D) H') (hs : ∀ x, foldedSetIterable it X.env x = pure x := by intro _; rfl) : eW X (.ListComp elt [⟨tg, it, [c], 0⟩] sc pos) σ H Q :=
  eI (pe_lc (g := gB X sc tg) (tt := tB' X sc c) (te := eB X sc elt) cc.h (by rw [cn.h]; exact nd.h) PJw (by rw [cn.h]; exact ok) (fun s H0 C cl fp => ⟨fun pins s' _ _ v u _ I r h => (h s H0 C cl fp).run pins s' u I r⟩) (fun s H0 C cl fp => pts_one ⟨fun pins s' _ _ _ I h => (h s H0 C cl fp).run pins s' I⟩) (fun s H0 C cl fp => ⟨fun pins s' _ _ _ I h => (h s H0 C cl fp).run pins s' I⟩) hs)
    ⟨fun pins s I => wpAny_mono (h.run pins s I) (fun v s1 q => wpAny_mono q (fun u s2 ⟨i, fp, tn, J, H2, e, I2, T, t0, f2, n, G, Y, w, k⟩ => ⟨i, fp, tn, J, H2, e, I2, T, t0, f2, fun D hD => by
      obtain ⟨Pv, q0, q1, q2, q3⟩ := k D hD
      exact lc_it w Pv q0 q1 q2 q3⟩) fun _ _ z => z) fun _ _ z => z⟩
/-- name = [..] whose place is stored from within -/
theorem s_setLc {sc : Scope} {N : List Str} {own : List (Str × Nat)} {y : Str} {i : Nat} [cc : CxC X] [cn : CxN X N] [sl : Slt N y i] [nd : NdN N] (ok : BlkOk N X.env.scope sc own)
    (h : jW X tg it σ H fun J H1 => ∃ n G Y, Walk J n G Y ∧ ∀ D', H1 D' = none → ∃ Pv : Nat → Hp → Prop, Pv 0 (upd H1 D' (.lst [])) ∧ (∀ i H', i ≤ n → Pv i H' → G H') ∧
      (∀ i x H' H2, i < n → Pv i H' → Y i H' x H2 → gB X sc tg x (wipe σ (own.map (·.2))) H2 fun σ3 H3 => wipe σ3 (own.map (·.2)) = wipe σ (own.map (·.2)) ∧ eB X sc elt σ3 H3 fun y H4 => ∃ acc, H4 D' = some (.lst acc) ∧ acc.length < sizeLine ∧ Pv (i + 1) (upd H4 D' (.lst (acc ++ [y])))) ∧
      ∀ H', Pv n H' → D.nx (σ.set i (some (.ref D'))) H') (hyl : X.env.scope.names.lookup y = some .local := by rfl)
    (hsw : swapsWith (.ListComp elt [⟨tg, it, [], 0⟩] sc pos) (some (.Name y p2)) p3.line X.env = pure true := by exact sw_true rfl rfl rfl (by decide +kernel)) (hs : ∀ x, foldedSetIterable it X.env x = pure x := by intro _; rfl) : sW X (.Assign [.Name y p2] (.ListComp elt [⟨tg, it, [], 0⟩] sc pos) p3) D σ H :=
  sI (ps_setLc (i := i) (g := gB X sc tg) (tt := tYes) (te := eB X sc elt) cc.h (by rw [cn.h]; exact nd.h) (by rw [cn.h]; exact sl.h) hyl hsw PJw (by rw [cn.h]; exact ok) (fun s H0 C cl fp => ⟨fun pins s' _ _ v u _ I r h => (h s H0 C cl fp).run pins s' u I r⟩) (fun _ _ _ _ _ => pts_nil) (fun s H0 C cl fp => ⟨fun pins s' _ _ _ I h => (h s H0 C cl fp).run pins s' I⟩) hs)
    ⟨fun pins s I => wpAny_mono (h.run pins s I) (fun v s1 q => wpAny_mono q (fun u s2 ⟨j, fp, tn, J, H2, e, I2, T, t0, f2, n, G, Y, w, k⟩ => ⟨j, fp, tn, J, H2, e, I2, T, t0, f2, fun D' hD => by
      obtain ⟨Pv, q0, q1, q2, q3⟩ := k D' hD
      exact lc_it w Pv q0 q1 (fun i x H' H2' hi p y s0 H0 C cl fp => ⟨fun pins s' u I r => wpAny_mono ((q2 i x H' H2' hi p y s0 H0 C cl fp).run pins s' u I r) (fun _ s'' ⟨σ', H'', I'', e1, e2⟩ => ⟨σ', H'', I'', e1, e2⟩) fun _ _ z => z⟩) q3⟩) fun _ _ z => z) fun _ _ z => z⟩
/-- name = [.. if ..] whose place is stored from within -/
theorem s_setLcI {sc : Scope} {N : List Str} {own : List (Str × Nat)} {y : Str} {i : Nat} [cc : CxC X] [cn : CxN X N] [sl : Slt N y i] [nd : NdN N] (ok : BlkOk N X.env.scope sc own)
    (h : jW X tg it σ H fun J H1 => ∃ n G Y, Walk J n G Y ∧ ∀ D', H1 D' = none → ∃ Pv : Nat → Hp → Prop, Pv 0 (upd H1 D' (.lst [])) ∧ (∀ i H', i ≤ n → Pv i H' → G H') ∧
      (∀ i x H' H2, i < n → Pv i H' → Y i H' x H2 → gB X sc tg x (wipe σ (own.map (·.2))) H2 fun σ3 H3 => wipe σ3 (own.map (·.2)) = wipe σ (own.map (·.2)) ∧ tB' X sc c σ3 H3 fun k H4 => if k = true then eB X sc elt σ3 H4 fun y H5 => ∃ acc, H5 D' = some (.lst acc) ∧ acc.length < sizeLine ∧ Pv (i + 1) (upd H5 D' (.lst (acc ++ [y]))) else Pv (i + 1) H4) ∧
      ∀ H', Pv n H' → D.nx (σ.set i (some (.ref D'))) H') (hyl : X.env.scope.names.lookup y = some .local := by rfl)
    (hsw : swapsWith (.ListComp elt [⟨tg, it, [c], 0⟩] sc pos) (some (.Name y p2)) p3.line X.env = pure true := by exact sw_true rfl rfl rfl (by decide +kernel)) (hs : ∀ x, foldedSetIterable it X.env x = pure x := by intro _; rfl) : sW X (.Assign [.Name y p2] (.ListComp elt [⟨tg, it, [c], 0⟩] sc pos) p3) D σ H :=
  sI (ps_setLc (i := i) (g := gB X sc tg) (tt := tB' X sc c) (te := eB X sc elt) cc.h (by rw [cn.h]; exact nd.h) (by rw [cn.h]; exact sl.h) hyl hsw PJw (by rw [cn.h]; exact ok) (fun s H0 C cl fp => ⟨fun pins s' _ _ v u _ I r h => (h s H0 C cl fp).run pins s' u I r⟩) (fun s H0 C cl fp => pts_one ⟨fun pins s' _ _ _ I h => (h s H0 C cl fp).run pins s' I⟩) (fun s H0 C cl fp => ⟨fun pins s' _ _ _ I h => (h s H0 C cl fp).run pins s' I⟩) hs)
    ⟨fun pins s I => wpAny_mono (h.run pins s I) (fun v s1 q => wpAny_mono q (fun u s2 ⟨j, fp, tn, J, H2, e, I2, T, t0, f2, n, G, Y, w, k⟩ => ⟨j, fp, tn, J, H2, e, I2, T, t0, f2, fun D' hD => by
      obtain ⟨Pv, q0, q1, q2, q3⟩ := k D' hD
      exact lc_it w Pv q0 q1 q2 q3⟩) fun _ _ z => z) fun _ _ z => z⟩
/-! ### slices -/
structure pW (X : Cx) (e : Option Expr) (σ : L2.St) (H : Hp) (Q : Option Int → Hp → Prop) : Prop where
  run : ∀ pins s, Inv X pins σ H s → wpAny (model X.prog X.w) X.A (evalPart e X.env) (fun u s' => ∃ o H', Inv X pins σ H' s' ∧ IsPart u o ∧ Q o H') X.xe s
theorem p_none {R : Option Int → Hp → Prop} (h : R none H) : pW X none σ H R := ⟨fun pins s I => by
  have z := (po_none (X := X)).run pins s σ H R I h
  exact wpAny_mono z (fun u s' ⟨o, H', a, b, c⟩ => ⟨o, H', a, b, c⟩) fun _ _ z => z⟩
theorem p_some {R : Option Int → Hp → Prop} (h : eW X e σ H fun v H1 => ∃ i, v = .int i ∧ R (some i) H1) : pW X (some e) σ H R := ⟨fun pins s I => by
  have z := (po_some (X := X) (PEw (e := e))).run pins s σ H R I h
  exact wpAny_mono z (fun u s' ⟨o, H', a, b, c⟩ => ⟨o, H', a, b, c⟩) fun _ _ z => z⟩
theorem POw {e : Option Expr} : PO X e (pW X e) := ⟨fun pins s _ _ _ I h => h.run pins s I⟩
theorem e_slice {lo hi : Option Expr} (h : eW X e σ H fun x H1 => pW X lo σ H1 fun l H2 => pW X hi σ H2 fun u H3 => nW X x l u H3 Q) : eW X (.Subscript e (.Slice lo hi none p2) pos) σ H Q := eI (pe_slice NRw PEw POw POw) h
theorem n_str {z : Str} {lo hi : Option Int} (hz : z.length ≤ sizeLine) (q : Q (.str (cutS z lo hi)) H) : nW X (.str z) lo hi H Q := nI sl_str ⟨z, rfl, hz, q⟩
theorem n_lst {p : Addr} {xs : List V} {lo hi : Option Int} (h : SqL X.K H p xs) (q : ∀ l H2, Same H H2 → H l = none → H2 l = some (.lst (cutV xs lo hi)) → (∀ b, b ≠ l → H2 b = H b) → Q (.ref l) H2) : nW X (.ref p) lo hi H Q :=
  nI sl_list ⟨p, xs, rfl, h, fun l hl => q l _ (fun x o e => by rw [upd_ne (ne_of_none e hl)]; exact e) hl upd_same fun x hx => upd_ne hx⟩
/-! ### methods of built-in types -/
theorem e_bm {T id : String} {name : Str} (pa : PlainAttrs T) (slot : Slot T name id) (hty : typeOf (.builtin id) = pure (.type "method_descriptor")) (h : eW X o σ H fun x H1 => tyV X.K T x H1 ∧ aW X (e :: es) σ H1 fun xs H2 => mW X id x xs H2 Q)
    (hbase : attributeBase o name X.env (eval o X.env) = eval o X.env := by rfl)
    (hfew : ((backTo pos (starEach (e :: es) X.env)).all (fun x => !x.1) && (backToKw pos (keywordEach [] X.env)).all (fun x => x.1.isSome) && decide ((e :: es).length + ([] : List Keyword).length + (if ([] : List Keyword).isEmpty then 0 else 1) < 30)) = true := by rfl)
    (hline : (apos.endLine == pos.line) = true := by rfl) (hs : starEach (e :: es) X.env = (false, eval e X.env) :: starEach es X.env := by rfl) (hplain : (backTo pos (starEach es X.env)).any (·.1) = false := by rfl) : eW X (.Call (.Attribute o name apos) (e :: es) [] pos) σ H Q :=
  eI (pe_bm pa slot hty MRw PEw PAw hbase hfew hline hs hplain) h
theorem e_bm0 {T id : String} {name : Str} (pa : PlainAttrs T) (slot : Slot T name id) (hty : typeOf (.builtin id) = pure (.type "method_descriptor")) (h : eW X o σ H fun x H1 => tyV X.K T x H1 ∧ mW X id x [] H1 Q)
    (hbase : attributeBase o name X.env (eval o X.env) = eval o X.env := by rfl) (hline : (apos.endLine == pos.line) = true := by rfl) : eW X (.Call (.Attribute o name apos) [] [] pos) σ H Q := eI (pe_bm0 pa slot hty MRw PEw hbase hline) h
theorem m_append {l : Addr} {xs : List V} {y : V} (h : H l = some (.lst xs)) (hz : xs.length < 16000000) (q : ∀ H2, H2 l = some (.lst (xs ++ [y])) → (∀ b, b ≠ l → H2 b = H b) → Q .non H2) : mW X "list.append" (.ref l) [y] H Q :=
  mI mt_append ⟨l, xs, y, rfl, rfl, h, Nat.lt_of_lt_of_le hz (by decide), q _ upd_same fun b hb => upd_ne hb⟩
theorem m_extend {l b : Addr} {xs zs : List V} (h : H l = some (.lst xs)) (h2 : H b = some (.lst zs)) (hz : xs.length + zs.length ≤ 100000) (q : ∀ H2, H2 l = some (.lst (xs ++ zs)) → (∀ b, b ≠ l → H2 b = H b) → Q .non H2) : mW X "list.extend" (.ref l) [.ref b] H Q :=
  mI mt_extend ⟨l, b, xs, zs, rfl, rfl, h, h2, Nat.le_trans hz (by decide), q _ upd_same fun b hb => upd_ne hb⟩
theorem m_pop {l : Addr} {xs : List V} {y : V} (h : H l = some (.lst (xs ++ [y]))) (q : ∀ H2, H2 l = some (.lst xs) → (∀ b, b ≠ l → H2 b = H b) → Q y H2) : mW X "list.pop" (.ref l) [] H Q :=
  mI mt_pop ⟨l, _, y, rfl, rfl, h, by simp, q _ (by rw [List.dropLast_concat]; exact upd_same) fun b hb => upd_ne hb⟩
theorem m_reverse {l : Addr} {xs : List V} (h : H l = some (.lst xs)) (q : ∀ H2, H2 l = some (.lst xs.reverse) → (∀ b, b ≠ l → H2 b = H b) → Q .non H2) : mW X "list.reverse" (.ref l) [] H Q :=
  mI mt_reverse ⟨l, _, rfl, rfl, h, q _ upd_same fun b hb => upd_ne hb⟩
theorem e_append (h : eW X o σ H fun x H1 => tyV X.K "list" x H1 ∧ aW X [e] σ H1 fun xs H2 => mW X "list.append" x xs H2 Q) (hbase : attributeBase o "append" X.env (eval o X.env) = eval o X.env := by rfl)
    (hfew : ((backTo pos (starEach [e] X.env)).all (fun x => !x.1) && (backToKw pos (keywordEach [] X.env)).all (fun x => x.1.isSome) && decide ([e].length + ([] : List Keyword).length + (if ([] : List Keyword).isEmpty then 0 else 1) < 30)) = true := by rfl)
    (hline : (apos.endLine == pos.line) = true := by rfl) (hs : starEach [e] X.env = (false, eval e X.env) :: starEach [] X.env := by rfl) : eW X (.Call (.Attribute o "append" apos) [e] [] pos) σ H Q :=
  e_bm PySem.F.plainAttrs_list PySem.F.slot_list_append PySem.F.type_list_append h hbase hfew hline hs rfl
theorem e_extend (h : eW X o σ H fun x H1 => tyV X.K "list" x H1 ∧ aW X [e] σ H1 fun xs H2 => mW X "list.extend" x xs H2 Q) (hbase : attributeBase o "extend" X.env (eval o X.env) = eval o X.env := by rfl)
    (hfew : ((backTo pos (starEach [e] X.env)).all (fun x => !x.1) && (backToKw pos (keywordEach [] X.env)).all (fun x => x.1.isSome) && decide ([e].length + ([] : List Keyword).length + (if ([] : List Keyword).isEmpty then 0 else 1) < 30)) = true := by rfl)
    (hline : (apos.endLine == pos.line) = true := by rfl) (hs : starEach [e] X.env = (false, eval e X.env) :: starEach [] X.env := by rfl) : eW X (.Call (.Attribute o "extend" apos) [e] [] pos) σ H Q :=
  e_bm PySem.F.plainAttrs_list PySem.F.slot_list_extend PySem.F.type_list_extend h hbase hfew hline hs rfl
theorem e_pop (h : eW X o σ H fun x H1 => tyV X.K "list" x H1 ∧ mW X "list.pop" x [] H1 Q) (hbase : attributeBase o "pop" X.env (eval o X.env) = eval o X.env := by rfl) (hline : (apos.endLine == pos.line) = true := by rfl) : eW X (.Call (.Attribute o "pop" apos) [] [] pos) σ H Q :=
  e_bm0 PySem.F.plainAttrs_list PySem.F.slot_list_pop PySem.F.type_list_pop h hbase hline
theorem e_reverse (h : eW X o σ H fun x H1 => tyV X.K "list" x H1 ∧ mW X "list.reverse" x [] H1 Q) (hbase : attributeBase o "reverse" X.env (eval o X.env) = eval o X.env := by rfl) (hline : (apos.endLine == pos.line) = true := by rfl) : eW X (.Call (.Attribute o "reverse" apos) [] [] pos) σ H Q :=
  e_bm0 PySem.F.plainAttrs_list PySem.F.slot_list_reverse PySem.F.type_list_reverse h hbase hline
theorem ty_l {K : PySem.W.Frag} {p : Addr} {xs : List V} (h : H p = some (.lst xs)) : tyV K "list" (.ref p) H := .inl ⟨rfl, _, SqL.of h⟩
theorem e_join (h : eW X o σ H fun x H1 => (∃ a, x = .str a) ∧ eW X e σ H1 fun y H2 => mW X "str.join" x [y] H2 Q) (hs : starEach [e] X.env = [(false, eval e X.env)] := by rfl) (hbase : attributeBase o "join" X.env (eval o X.env) = eval o X.env := by rfl) (hline : (apos.endLine == pos.line) = true := by rfl) : eW X (.Call (.Attribute o "join" apos) [e] [] pos) σ H Q :=
  eI (pe_m1 PySem.F.slot_str_join PySem.F.type_str_join MRw PEw PEw hs hbase hline) h
theorem e_split (h : eW X o σ H fun x H1 => (∃ a, x = .str a) ∧ eW X e σ H1 fun y H2 => mW X "str.split" x [y] H2 Q) (hs : starEach [e] X.env = [(false, eval e X.env)] := by rfl) (hbase : attributeBase o "split" X.env (eval o X.env) = eval o X.env := by rfl) (hline : (apos.endLine == pos.line) = true := by rfl) : eW X (.Call (.Attribute o "split" apos) [e] [] pos) σ H Q :=
  eI (pe_m1 PySem.F.slot_str_split PySem.F.type_str_split MRw PEw PEw hs hbase hline) h
end
section
variable {X : Cx} {H : Hp} {Q : VK} {i j : Int} {z u : Str} {p : Addr} {xs : List V}
theorem o_leS (q : Q (.bl (!decide (tl u < tl z))) H) : oW X (compareOp .LtE) (.str z) (.str u) H Q := oI op_le_str ⟨_, _, rfl, rfl, q⟩
theorem o_ltS (q : Q (.bl (decide (tl z < tl u))) H) : oW X (compareOp .Lt) (.str z) (.str u) H Q := oI op_lt_str ⟨_, _, rfl, rfl, q⟩
theorem o_inC {c : Nat} (q : Q (.bl (decide (c ∈ tl z))) H) : oW X (compareOp .In) (.str ⟨#[c]⟩) (.str z) H Q := oI op_in_sign ⟨_, _, rfl, rfl, q⟩
theorem o_niC {c : Nat} (q : Q (.bl (!decide (c ∈ tl z))) H) : oW X (compareOp .NotIn) (.str ⟨#[c]⟩) (.str z) H Q := oI op_notIn_sign ⟨_, _, rfl, rfl, q⟩
theorem k_ordC {c : Nat} (q : Q (.int (c : Int)) H) : kW X (.builtin "ord") [.str ⟨#[c]⟩] H Q := kI call_ord ⟨_, rfl, rfl, q⟩
theorem k_strI (h : i.natAbs.log2 < 1920) (q : Q (.str (Str.ofString (toString i))) H) : kW X (.type "str") [.int i] H Q := kI call_str_int ⟨_, rfl, h, q⟩
theorem k_intS (h : PySem.intText? z = some i) (hz : z.length ≤ 640) (q : Q (.int i) H) : kW X (.type "int") [.str z] H Q := kI call_int_str ⟨_, _, rfl, h, hz, q⟩
theorem k_sum {ns : List Int} [cc : CxC X] (h : SqL X.K H p (ns.map V.int)) (q : Q (.int ns.sum) H) : kW X (.builtin "sum") [.ref p] H Q := kI (cr_sum cc.h) ⟨_, _, rfl, h, q⟩
theorem k_all {bs : List Bool} [cc : CxC X] (h : SqL X.K H p (bs.map V.bl)) (q : Q (.bl (bs.all id)) H) : kW X (.builtin "all") [.ref p] H Q := kI (cr_all cc.h) ⟨_, _, rfl, h, q⟩
theorem k_dictD {kvs : List (Key × V)} (h : Rd H p (.dK kvs)) (q : ∀ l H2, Same H H2 → H l = none → H2 l = some (.dK kvs) → (∀ b, b ≠ l → H2 b = H b) → Q (.ref l) H2) : kW X (.type "dict") [.ref p] H Q :=
  kI call_dictD ⟨_, _, rfl, h, fun l hl => q l _ (fun x o e => by rw [upd_ne (ne_of_none e hl)]; exact e) hl upd_same fun x hx => upd_ne hx⟩
theorem k_listL (h : SqL X.K H p xs ∨ SqT X.K H p xs) (q : ∀ l H2, Same H H2 → H l = none → H2 l = some (.lst xs) → (∀ b, b ≠ l → H2 b = H b) → Q (.ref l) H2) : kW X (.type "list") [.ref p] H Q :=
  kI call_list_of ⟨_, _, rfl, h, fun l hl => q l _ (fun x o e => by rw [upd_ne (ne_of_none e hl)]; exact e) hl upd_same fun x hx => upd_ne hx⟩
theorem k_tupL (h : SqL X.K H p xs) (q : ∀ l H2, Same H H2 → H l = none → H2 l = some (.tup xs) → (∀ b, b ≠ l → H2 b = H b) → Q (.ref l) H2) : kW X (.type "tuple") [.ref p] H Q :=
  kI call_tuple_of ⟨_, _, rfl, .inl ⟨h, fun l hl => q l _ (fun x o e => by rw [upd_ne (ne_of_none e hl)]; exact e) hl upd_same fun x hx => upd_ne hx⟩⟩
theorem o_catL {q2 : Addr} {zs : List V} (h1 : H p = some (.lst xs)) (h2 : H q2 = some (.lst zs)) (hz : xs.length + zs.length ≤ 100000) (q : ∀ l H2, Same H H2 → H l = none → H2 l = some (.lst (xs ++ zs)) → (∀ b, b ≠ l → H2 b = H b) → Q (.ref l) H2) : oW X (binaryOp .Add) (.ref p) (.ref q2) H Q :=
  oI op_cat ⟨_, _, _, _, rfl, rfl, h1, h2, Nat.le_trans hz (by decide), fun l hl => q l _ (fun x o e => by rw [upd_ne (ne_of_none e hl)]; exact e) hl upd_same fun x hx => upd_ne hx⟩
theorem m_join {ys : List Str} {a : Str} (h : SqL X.K H p (ys.map V.str) ∨ SqT X.K H p (ys.map V.str)) (hz : (ys.map Str.length).sum + ys.length * a.length ≤ 16777216) (q : Q (.str (Txt.join a ys)) H) : mW X "str.join" (.str a) [.ref p] H Q := by
  exact mI mt_join ⟨_, _, _, rfl, rfl, h, hz, q⟩
theorem m_split {a b : Str} (hb : (b.length == 0) = false) (ha : a.length ≤ 1000000) (q : ∀ l H2, Same H H2 → H l = none → H2 l = some (.lst ((Txt.split a b).map V.str)) → (∀ b, b ≠ l → H2 b = H b) → Q (.ref l) H2) : mW X "str.split" (.str a) [.str b] H Q :=
  mI mt_split ⟨_, _, rfl, rfl, hb, by rw [sizeLine_eq]; omega, fun l hl => q l _ (fun x o e => by rw [upd_ne (ne_of_none e hl)]; exact e) hl upd_same fun x hx => upd_ne hx⟩
end
/-! ### things of any kind -/
mutual
inductive Th (K : PySem.W.Frag) (H : Hp) : V → PyData → Prop
  | non : Th K H .non .none
  | bl (b : Bool) : Th K H (.bl b) (.bool b)
  | int (i : Int) : Th K H (.int i) (.int i)
  | str (x : Str) (h : x.length ≤ 1000000) : Th K H (.str x) (.str x)
  | lst {a : Addr} {xs : List V} {ds : List PyData} : SqL K H a xs → ThAll K H xs ds → Th K H (.ref a) (.list ds)
  | tup {a : Addr} {xs : List V} {ds : List PyData} : SqT K H a xs → ThAll K H xs ds → Th K H (.ref a) (.tuple ds)
  | dct {a : Addr} {kvs : List (Key × V)} : H a = some (.dK kvs) → Th K H (.ref a) (.dict [])
inductive ThAll (K : PySem.W.Frag) (H : Hp) : List V → List PyData → Prop
  | nil : ThAll K H [] []
  | cons {v : V} {vs : List V} {d : PyData} {ds : List PyData} : Th K H v d → ThAll K H vs ds → ThAll K H (v :: vs) (d :: ds)
end
def tyName : PyData → String
  | .none => "NoneType"
  | .bool _ => "bool"
  | .int _ => "int"
  | .str _ => "str"
  | .list _ => "list"
  | .tuple _ => "tuple"
  | .dict _ => "dict"
theorem Th.ty {K : PySem.W.Frag} {H : Hp} {v : V} {d : PyData} (h : Th K H v d) : TyX K H v (.type (tyName d)) := by
  cases h with
  | non => exact .base .non
  | bl b => exact .base (.bl b)
  | int i => exact .base (.int i)
  | str x _ => exact .base (.str x)
  | lst hs _ =>
    rcases hs with (h | ⟨o, h⟩) | ⟨o, its, n, h, hc, _⟩
    · exact .base (.lst h)
    · exact .base (.frz h)
    · exact .kList h hc
  | tup hs _ =>
    rcases hs with (h | ⟨o, h⟩) | ⟨o, its, n, h, hc, _⟩
    · exact .base (.tup h)
    · exact .fTuple h
    · exact .kTuple h hc
  | dct h => exact .base (.dK h)
/-- whether data is of the built-in type -/
def isK (d : PyData) (n : String) : Bool := match d with
  | .none => false
  | .bool _ => n == "bool" || n == "int"
  | .int _ => n == "int"
  | .str _ => n == "str"
  | .list _ => n == "list"
  | .tuple _ => n == "tuple"
  | .dict _ => n == "dict"
theorem kitTh (d : PyData) : kitB (tyName d) "str" = some (isK d "str") ∧ kitB (tyName d) "int" = some (isK d "int") ∧ kitB (tyName d) "bool" = some (isK d "bool") ∧ kitB (tyName d) "list" = some (isK d "list") ∧ kitB (tyName d) "tuple" = some (isK d "tuple") ∧ kitB (tyName d) "dict" = some (isK d "dict") := by
  cases d <;> (simp only [tyName, isK]; decide +kernel)
section
variable {X : Cx} {H : Hp} {Q : VK} {v : V} {d : PyData}
theorem k_isStr (h : Th X.K H v d) (q : Q (.bl (isK d "str")) H) : kW X (.builtin "isinstance") [v, .ty "str"] H Q := k_isB h.ty (kitTh d).1 q
theorem k_isInt (h : Th X.K H v d) (q : Q (.bl (isK d "int")) H) : kW X (.builtin "isinstance") [v, .ty "int"] H Q := k_isB h.ty (kitTh d).2.1 q
theorem k_isBool (h : Th X.K H v d) (q : Q (.bl (isK d "bool")) H) : kW X (.builtin "isinstance") [v, .ty "bool"] H Q := k_isB h.ty (kitTh d).2.2.1 q
theorem k_isList (h : Th X.K H v d) (q : Q (.bl (isK d "list")) H) : kW X (.builtin "isinstance") [v, .ty "list"] H Q := k_isB h.ty (kitTh d).2.2.2.1 q
theorem k_isTuple (h : Th X.K H v d) (q : Q (.bl (isK d "tuple")) H) : kW X (.builtin "isinstance") [v, .ty "tuple"] H Q := k_isB h.ty (kitTh d).2.2.2.2.1 q
theorem k_isDict (h : Th X.K H v d) (q : Q (.bl (isK d "dict")) H) : kW X (.builtin "isinstance") [v, .ty "dict"] H Q := k_isB h.ty (kitTh d).2.2.2.2.2 q
end
/-- what is tracked stands so in a greater heap -/
theorem sq_more {K : PySem.W.Frag} {H H' : Hp} {a : Addr} {xs : List V} (s : Same H H') (h : SqT K H a xs) : SqT K H' a xs := by
  rcases h with (h | ⟨o, h⟩) | h
  · exact .inl (.inl (s _ _ h))
  · exact .inl (.inr ⟨o, s _ _ h⟩)
  · exact .inr h
mutual
theorem Th.more {K : PySem.W.Frag} {H H' : Hp} (s : Same H H') : ∀ (d : PyData) (v : V), Th K H v d → Th K H' v d
  | .none, _, h => by cases h; exact .non
  | .bool _, _, h => by cases h; exact .bl _
  | .int _, _, h => by cases h; exact .int _
  | .str _, _, h => by cases h with | str _ h => exact .str _ h
  | .list ds, _, h => by cases h with | lst hs ha => exact .lst (s.seq hs) (ThAll.more s ds _ ha)
  | .tuple ds, _, h => by cases h with | tup hs ha => exact .tup (sq_more s hs) (ThAll.more s ds _ ha)
  | .dict _, _, h => by cases h with | dct hd => exact .dct (s _ _ hd)
theorem ThAll.more {K : PySem.W.Frag} {H H' : Hp} (s : Same H H') : ∀ (ds : List PyData) (vs : List V), ThAll K H vs ds → ThAll K H' vs ds
  | [], _, h => by cases h; exact .nil
  | d :: ds, _, h => by cases h with | cons h1 h2 => exact .cons (Th.more s d _ h1) (ThAll.more s ds _ h2)
end
theorem ThAll.len {K : PySem.W.Frag} {H : Hp} : ∀ {vs : List V} {ds : List PyData}, ThAll K H vs ds → vs.length = ds.length
  | _, _, .nil => rfl
  | _, _, .cons _ h => congrArg (· + 1) h.len
theorem ThAll.get {K : PySem.W.Frag} {H : Hp} : ∀ {vs : List V} {ds : List PyData} {i : Nat} {v : V}, ThAll K H vs ds → vs[i]? = some v → ∃ d, ds[i]? = some d ∧ Th K H v d
  | _, _, _, _, .nil, e => by simp at e
  | _, _, 0, _, .cons h _, e => by simp at e; subst e; exact ⟨_, rfl, h⟩
  | _, _, i + 1, v, .cons _ t, e => by
    obtain ⟨d, h1, h2⟩ := ThAll.get (i := i) (v := v) t (by simpa using e)
    exact ⟨d, by simpa using h1, h2⟩
theorem all_snoc {α : Type} {p : α → Bool} {l : List α} {i : Nat} {x : α} (h : l[i]? = some x) : (l.take (i + 1)).all p = ((l.take i).all p && p x) := by
  have hl := (List.getElem?_eq_some_iff.mp h).1
  have e := (List.getElem?_eq_some_iff.mp h).2
  rw [← List.take_append_getElem hl, List.all_append, e]
  simp
theorem all_cut {α : Type} {p : α → Bool} {l : List α} {i : Nat} {x : α} (h : l[i]? = some x) (hx : p x = false) : l.all p = false := by
  have hm := List.mem_of_getElem? h
  cases e : l.all p with
  | false => rfl
  | true => rw [List.all_eq_true.mp e x hm] at hx; cases hx
theorem sz1m {n : Nat} (h : n ≤ 1000000) : n ≤ sizeLine := Nat.le_trans h (by decide)
theorem lt1 (a b : Nat) : ([a] < [b]) ↔ a < b := by simp [List.cons_lt_cons_iff]
section
variable {X : Cx} {σ : L2.St} {H : Hp} {Q : VK} {D : Ends} {pos p2 p3 p4 p5 : Pos} {it tg elt c : Expr}
/-- a comprehension whose elements are told one by one and track nothing that a turn could change -/
theorem e_lcM {sc : Scope} {N : List Str} {own : List (Str × Nat)} [cc : CxC X] [cn : CxN X N] [nd : NdN N] (ok : BlkOk N X.env.scope sc own)
    (h : jW X tg it σ H fun J H1 => ∃ n G Y, Walk J n G Y ∧ ∃ ys : List V, ys.length = n ∧ ys.length ≤ 100000 ∧ (∀ H', Same H1 H' → G H') ∧
      (∀ i x H' H2, i < n → Same H1 H' → Y i H' x H2 → Same H' H2 ∧ gB X sc tg x (wipe σ (own.map (·.2))) H2 fun σ3 H3 => wipe σ3 (own.map (·.2)) = wipe σ (own.map (·.2)) ∧ Same H2 H3 ∧ eB X sc elt σ3 H3 fun y H4 => ys[i]? = some y ∧ Same H3 H4) ∧
      ∀ l H', Same H1 H' → H1 l = none → H' l = some (.lst ys) → Q (.ref l) H') (hs : ∀ x, foldedSetIterable it X.env x = pure x := by intro _; rfl) : eW X (.ListComp elt [⟨tg, it, [], 0⟩] sc pos) σ H Q := by
  refine e_lc ok ⟨fun pins s I => wpAny_mono (h.run pins s I) (fun v s1 q => wpAny_mono q (fun u s2 ⟨i, fp, tn, J, H2, e, I2, T, t0, f2, n, G, Y, w, ys, hl, hn, q1, q2, q3⟩ => ⟨i, fp, tn, J, H2, e, I2, T, t0, f2, n, G, Y, w, fun D' hD => ⟨fun i H' => Same H2 H' ∧ H' D' = some (.lst (ys.take i)), ⟨fun b o e => by rw [upd_ne (ne_of_none e hD)]; exact e, upd_same⟩, fun _ _ _ p => q1 _ p.1, fun i x H' H3 hi p y s0 H0 C cl fp => ?_, fun H' p => q3 D' H' p.1 hD (by rw [p.2, ← hl, List.take_length])⟩⟩) fun _ _ z => z) fun _ _ z => z⟩ hs
  obtain ⟨k1, k2⟩ := q2 i x H' H3 hi p.1 y
  refine ⟨fun pins s' u I r => wpAny_mono ((k2 s0 H0 C cl fp).run pins s' u I r) (fun _ s'' ⟨σ', H'', I'', e1, e2, e3⟩ => ⟨σ', H'', I'', e1, fun s0 H0 C cl fp => ⟨fun pins s' I => wpAny_mono ((e3 s0 H0 C cl fp).run pins s' I) (fun u s4 ⟨v4, H4, I4, r4, ev, e4⟩ => ⟨v4, H4, I4, r4, ys.take i, e4 _ _ (e2 _ _ (k1 _ _ p.2)), ?_, ?_, ?_⟩) fun _ _ z => z⟩⟩) fun _ _ z => z⟩
  · rw [List.length_take]
    exact Nat.lt_of_le_of_lt (Nat.min_le_left _ _) (Nat.lt_of_lt_of_le (Nat.lt_of_lt_of_le (hl ▸ hi) hn) (by decide))
  · intro b o e
    rw [upd_ne (ne_of_none e hD)]
    exact e4 _ _ (e2 _ _ (k1 _ _ (p.1 _ _ e)))
  · rw [upd_same]
    have q := (List.getElem?_eq_some_iff.mp ev).1
    rw [← List.take_append_getElem q, (List.getElem?_eq_some_iff.mp ev).2]
/-- a comprehension whose elements are told by a word of the turn and the element -/
theorem e_lcP {sc : Scope} {N : List Str} {own : List (Str × Nat)} [cc : CxC X] [cn : CxN X N] [nd : NdN N] (ok : BlkOk N X.env.scope sc own) (Pr : Nat → V → Prop)
    (h : jW X tg it σ H fun J H1 => ∃ n G Y, Walk J n G Y ∧ n ≤ 100000 ∧ (∀ H', Same H1 H' → G H') ∧
      (∀ i x H' H2, i < n → Same H1 H' → Y i H' x H2 → Same H' H2 ∧ gB X sc tg x (wipe σ (own.map (·.2))) H2 fun σ3 H3 => wipe σ3 (own.map (·.2)) = wipe σ (own.map (·.2)) ∧ Same H2 H3 ∧ eB X sc elt σ3 H3 fun y H4 => Pr i y ∧ Same H3 H4) ∧
      ∀ l H' ys, Same H1 H' → H1 l = none → H' l = some (.lst ys) → ys.length = n → (∀ i y, ys[i]? = some y → Pr i y) → Q (.ref l) H') (hs : ∀ x, foldedSetIterable it X.env x = pure x := by intro _; rfl) : eW X (.ListComp elt [⟨tg, it, [], 0⟩] sc pos) σ H Q := by
  refine e_lc ok ⟨fun pins s I => wpAny_mono (h.run pins s I) (fun v s1 q => wpAny_mono q (fun u s2 ⟨i, fp, tn, J, H2, e, I2, T, t0, f2, n, G, Y, w, hn, q1, q2, q3⟩ => ⟨i, fp, tn, J, H2, e, I2, T, t0, f2, n, G, Y, w, fun D' hD => ⟨fun i H' => Same H2 H' ∧ ∃ acc, H' D' = some (.lst acc) ∧ acc.length = i ∧ ∀ j z, acc[j]? = some z → Pr j z, ⟨fun b o e => by rw [upd_ne (ne_of_none e hD)]; exact e, [], upd_same, rfl, by simp⟩, fun _ _ _ p => q1 _ p.1, fun i x H' H3 hi p y s0 H0 C cl fp => ?_, fun H' p => by
    obtain ⟨p1, acc, p2, p3, p4⟩ := p
    exact q3 D' H' acc p1 hD p2 p3 p4⟩⟩) fun _ _ z => z) fun _ _ z => z⟩ hs
  obtain ⟨k1, k2⟩ := q2 i x H' H3 hi p.1 y
  obtain ⟨p1, acc, p2, p3, p4⟩ := p
  refine ⟨fun pins s' u I r => wpAny_mono ((k2 s0 H0 C cl fp).run pins s' u I r) (fun _ s'' ⟨σ', H'', I'', e1, e2, e3⟩ => ⟨σ', H'', I'', e1, fun s0 H0 C cl fp => ⟨fun pins s' I => wpAny_mono ((e3 s0 H0 C cl fp).run pins s' I) (fun u s4 ⟨v4, H4, I4, r4, ev, e4⟩ => ⟨v4, H4, I4, r4, acc, e4 _ _ (e2 _ _ (k1 _ _ p2)), ?_, ?_, acc ++ [v4], upd_same, ?_, ?_⟩) fun _ _ z => z⟩⟩) fun _ _ z => z⟩
  · rw [p3]
    exact Nat.lt_of_lt_of_le (Nat.lt_of_lt_of_le hi hn) (by decide)
  · intro b o e
    rw [upd_ne (ne_of_none e hD)]
    exact e4 _ _ (e2 _ _ (k1 _ _ (p1 _ _ e)))
  · rw [List.length_append, p3]; rfl
  · intro j z hz
    by_cases hj : j < i
    · rw [List.getElem?_append_left (by omega)] at hz
      exact p4 j z hz
    · rw [List.getElem?_append_right (by omega), p3] at hz
      have hj2 : j = i := by
        have := (List.getElem?_eq_some_iff.mp hz).1
        simp at this
        omega
      subst hj2
      simp at hz
      rw [← hz]
      exact ev
theorem s_setLcP {sc : Scope} {N : List Str} {own : List (Str × Nat)} {y : Str} {i : Nat} [cc : CxC X] [cn : CxN X N] [sl : Slt N y i] [nd : NdN N] (ok : BlkOk N X.env.scope sc own) (Pr : Nat → V → Prop)
    (h : jW X tg it σ H fun J H1 => ∃ n G Y, Walk J n G Y ∧ n ≤ 100000 ∧ (∀ H', Same H1 H' → G H') ∧
      (∀ i x H' H2, i < n → Same H1 H' → Y i H' x H2 → Same H' H2 ∧ gB X sc tg x (wipe σ (own.map (·.2))) H2 fun σ3 H3 => wipe σ3 (own.map (·.2)) = wipe σ (own.map (·.2)) ∧ Same H2 H3 ∧ eB X sc elt σ3 H3 fun y H4 => Pr i y ∧ Same H3 H4) ∧
      ∀ l H' ys, Same H1 H' → H1 l = none → H' l = some (.lst ys) → ys.length = n → (∀ i y, ys[i]? = some y → Pr i y) → D.nx (σ.set i (some (.ref l))) H') (hyl : X.env.scope.names.lookup y = some .local := by rfl)
    (hsw : swapsWith (.ListComp elt [⟨tg, it, [], 0⟩] sc pos) (some (.Name y p2)) p3.line X.env = pure true := by exact sw_true rfl rfl rfl (by decide +kernel)) (hs : ∀ x, foldedSetIterable it X.env x = pure x := by intro _; rfl) : sW X (.Assign [.Name y p2] (.ListComp elt [⟨tg, it, [], 0⟩] sc pos) p3) D σ H := by
  refine s_setLc ok ⟨fun pins s I => wpAny_mono (h.run pins s I) (fun v s1 q => wpAny_mono q (fun u s2 ⟨i, fp, tn, J, H2, e, I2, T, t0, f2, n, G, Y, w, hn, q1, q2, q3⟩ => ⟨i, fp, tn, J, H2, e, I2, T, t0, f2, n, G, Y, w, fun D' hD => ⟨fun i H' => Same H2 H' ∧ ∃ acc, H' D' = some (.lst acc) ∧ acc.length = i ∧ ∀ j z, acc[j]? = some z → Pr j z, ⟨fun b o e => by rw [upd_ne (ne_of_none e hD)]; exact e, [], upd_same, rfl, by simp⟩, fun _ _ _ p => q1 _ p.1, fun i x H' H3 hi p y s0 H0 C cl fp => ?_, fun H' p => by
    obtain ⟨p1, acc, p2, p3, p4⟩ := p
    exact q3 D' H' acc p1 hD p2 p3 p4⟩⟩) fun _ _ z => z) fun _ _ z => z⟩ hyl hsw hs
  obtain ⟨k1, k2⟩ := q2 i x H' H3 hi p.1 y
  obtain ⟨p1, acc, p2, p3, p4⟩ := p
  refine ⟨fun pins s' u I r => wpAny_mono ((k2 s0 H0 C cl fp).run pins s' u I r) (fun _ s'' ⟨σ', H'', I'', e1, e2, e3⟩ => ⟨σ', H'', I'', e1, fun s0 H0 C cl fp => ⟨fun pins s' I => wpAny_mono ((e3 s0 H0 C cl fp).run pins s' I) (fun u s4 ⟨v4, H4, I4, r4, ev, e4⟩ => ⟨v4, H4, I4, r4, acc, e4 _ _ (e2 _ _ (k1 _ _ p2)), ?_, ?_, acc ++ [v4], upd_same, ?_, ?_⟩) fun _ _ z => z⟩⟩) fun _ _ z => z⟩
  · rw [p3]
    exact Nat.lt_of_lt_of_le (Nat.lt_of_lt_of_le hi hn) (by decide)
  · intro b o e
    rw [upd_ne (ne_of_none e hD)]
    exact e4 _ _ (e2 _ _ (k1 _ _ (p1 _ _ e)))
  · rw [List.length_append, p3]; rfl
  · intro j z hz
    by_cases hj : j < i
    · rw [List.getElem?_append_left (by omega)] at hz
      exact p4 j z hz
    · rw [List.getElem?_append_right (by omega), p3] at hz
      have hj2 : j = i := by
        have := (List.getElem?_eq_some_iff.mp hz).1
        simp at this
        omega
      subst hj2
      simp at hz
      rw [← hz]
      exact ev
/-- raise X('..') -/
theorem s_raise {x m : Str} {C : Addr} {j : Nat} {W : WX} [cc : CxC X] [ct : CxT X W] (T : ExcF X.K X.mg x C) (h : W (.ref C) none σ H) (hg : Gl X x := by rfl) (hdb : (x == ("__debug__" : Str)) = false := by decide) : sW X (.Raise (some (.Call (.Name x p2) [.Constant (.str m) j p3] [] p4)) none pos) D σ H :=
  sI (ps_raise cc.h ct.h (pmk_own PySem.F.excBase_ValueError T.ex T.mg T.kp (raises_own T.be T.ty) hg hdb)) h
end
theorem range_map {α β : Type} (f : α → β) (d : β) : ∀ (l : List α), (List.range l.length).map (fun i => (l[i]?.map f).getD d) = l.map f
  | [] => rfl
  | a :: l => by
    rw [List.length_cons, List.range_succ_eq_map, List.map_cons, List.map_map, List.map_cons, ← range_map f d l]
    simp [Function.comp_def]
theorem sIx_nn (n d : Nat) {i : Int} (h : 0 ≤ i) : HT.sIx n d (some i) = min i.toNat n := by
  show (if i < 0 then (i + (n : Int)).toNat else min i.toNat n) = _
  rw [if_neg (by omega)]
theorem cutL_from {α : Type} (xs : List α) {n : Nat} (hn : xs.length = n) {i : Int} (h : 0 ≤ i) : (xs.drop (HT.sIx n 0 (some i))).take (HT.sIx n n none - HT.sIx n 0 (some i)) = xs.drop i.toNat := by
  rw [sIx_nn _ _ h, HT.sIx_none, ← hn]
  by_cases k : i.toNat ≤ xs.length
  · rw [Nat.min_eq_left k, List.take_of_length_le (by rw [List.length_drop]; omega)]
  · rw [Nat.min_eq_right (by omega), List.drop_length, List.drop_of_length_le (by omega)]
    simp
theorem cutL_to {α : Type} (xs : List α) {n : Nat} (hn : xs.length = n) {i : Int} (h : 0 ≤ i) : (xs.drop (HT.sIx n 0 none)).take (HT.sIx n n (some i) - HT.sIx n 0 none) = xs.take i.toNat := by
  rw [sIx_nn _ _ h, HT.sIx_none, ← hn, List.drop_zero, Nat.sub_zero]
  by_cases k : i.toNat ≤ xs.length
  · rw [Nat.min_eq_left k]
  · rw [Nat.min_eq_right (by omega), List.take_length, List.take_of_length_le (by omega)]
theorem cutL_mid {α : Type} (xs : List α) {n : Nat} (hn : xs.length = n) {i j : Int} (h : 0 ≤ i) (h2 : i ≤ j) : (xs.drop (HT.sIx n 0 (some i))).take (HT.sIx n n (some j) - HT.sIx n 0 (some i)) = (xs.drop i.toNat).take (j.toNat - i.toNat) := by
  rw [sIx_nn _ _ h, sIx_nn _ _ (by omega), ← hn]
  by_cases k : i.toNat ≤ xs.length
  · rw [Nat.min_eq_left k]
    by_cases k2 : j.toNat ≤ xs.length
    · rw [Nat.min_eq_left k2]
    · rw [Nat.min_eq_right (by omega), List.take_of_length_le (by rw [List.length_drop]; omega), List.take_of_length_le (by rw [List.length_drop]; omega)]
  · rw [Nat.min_eq_right (a := i.toNat) (by omega), List.drop_length, List.drop_of_length_le (by omega)]
    simp
theorem cutV_from (xs : List V) {i : Int} (h : 0 ≤ i) : cutV xs (some i) none = xs.drop i.toNat := cutL_from xs rfl h
theorem cutV_to (xs : List V) {i : Int} (h : 0 ≤ i) : cutV xs none (some i) = xs.take i.toNat := cutL_to xs rfl h
theorem cutV_mid (xs : List V) {i j : Int} (h : 0 ≤ i) (h2 : i ≤ j) : cutV xs (some i) (some j) = (xs.drop i.toNat).take (j.toNat - i.toNat) := cutL_mid xs rfl h h2
theorem cutV_last (xs : List V) : cutV xs none (some (-1)) = xs.dropLast := by
  have h : HT.sIx xs.length xs.length (some (-1)) = xs.length - 1 := by
    show (if (-1 : Int) < 0 then (-1 + (xs.length : Int)).toNat else min (-1 : Int).toNat xs.length) = _
    rw [if_pos (by decide)]
    omega
  unfold cutV
  rw [h, HT.sIx_none, List.drop_zero, Nat.sub_zero, List.dropLast_eq_take]
theorem cutS_from (z : Str) {i : Int} (h : 0 ≤ i) : tl (cutS z (some i) none) = (tl z).drop i.toNat := cutL_from (tl z) (len_tl z).symm h
theorem cutS_to (z : Str) {i : Int} (h : 0 ≤ i) : tl (cutS z none (some i)) = (tl z).take i.toNat := cutL_to (tl z) (len_tl z).symm h
theorem cutS_mid (z : Str) {i j : Int} (h : 0 ≤ i) (h2 : i ≤ j) : tl (cutS z (some i) (some j)) = ((tl z).drop i.toNat).take (j.toNat - i.toNat) := cutL_mid (tl z) (len_tl z).symm h h2

/-! ### data that == may be asked of -/
structure Sh (k : Nat) (d : PyData) : Prop where
  can : d.canLay0 = true
  dep : d.depth ≤ k
theorem Sh.int {k : Nat} (i : Int) : Sh k (.int i) := ⟨rfl, Nat.zero_le _⟩
theorem Sh.bl {k : Nat} (i : Bool) : Sh k (.bool i) := ⟨rfl, Nat.zero_le _⟩
theorem Sh.non {k : Nat} : Sh k .none := ⟨rfl, Nat.zero_le _⟩
theorem Sh.str {k : Nat} {z : Str} (h : ∀ c ∈ tl z, c < 1114112) : Sh k (.str z) := ⟨by
  show z.cps.all (· < 0x110000) = true
  rw [← Array.all_toList]
  exact List.all_eq_true.mpr fun c hc => decide_eq_true (h c hc), Nat.zero_le _⟩
theorem can_all : ∀ {ds : List PyData}, (∀ d ∈ ds, d.canLay0 = true) → PyData.canLayAll0 ds = true
  | [], _ => rfl
  | d :: ds, h => by
    show (d.canLay0 && PyData.canLayAll0 ds) = true
    rw [h d (List.mem_cons_self ..), can_all fun x hx => h x (List.mem_cons_of_mem _ hx)]
    rfl
theorem depth_all {k : Nat} : ∀ {ds : List PyData}, (∀ d ∈ ds, d.depth ≤ k) → PyData.depthAll ds ≤ k
  | [], _ => Nat.zero_le _
  | d :: ds, h => by
    show max d.depth (PyData.depthAll ds) ≤ k
    exact Nat.max_le.mpr ⟨h d (List.mem_cons_self ..), depth_all fun x hx => h x (List.mem_cons_of_mem _ hx)⟩
theorem Sh.lst {k : Nat} {ds : List PyData} (h : ∀ d ∈ ds, Sh k d) : Sh (k + 1) (.list ds) := ⟨can_all fun d hd => (h d hd).can, Nat.succ_le_succ (depth_all fun d hd => (h d hd).dep)⟩
theorem Sh.tup {k : Nat} {ds : List PyData} (h : ∀ d ∈ ds, Sh k d) : Sh (k + 1) (.tuple ds) := ⟨can_all fun d hd => (h d hd).can, Nat.succ_le_succ (depth_all fun d hd => (h d hd).dep)⟩
theorem Sh.ok {k : Nat} {d : PyData} (h : Sh k d) (hk : k ≤ 64 := by decide) : SeqAt.shaped d = true := by
  show (d.canLay0 && decide (d.depth ≤ 64)) = true
  rw [h.can, decide_eq_true (Nat.le_trans h.dep hk)]
  rfl
theorem Sh.refl {k : Nat} {d : PyData} (h : Sh k d) : PyData.eqv d d = true := SeqAt.eqv_refl d h.can
theorem dp_strs {K : PySem.W.Frag} {H : Hp} : ∀ (l : List Str), DpAll K H (l.map V.str) (l.map PyData.str)
  | [] => .nil
  | z :: l => .cons (.str z) (dp_strs l)
theorem dp_ints {K : PySem.W.Frag} {H : Hp} : ∀ (l : List Int), DpAll K H (l.map V.int) (l.map PyData.int)
  | [] => .nil
  | z :: l => .cons (.int z) (dp_ints l)

/-! ### what kind of goal stands here -/
/-- a word of one value, once for all that follows -/
theorem eVia {X : Cx} {e : Expr} {σ : L2.St} {H : Hp} {Q : VK} (v : V) (h1 : ∀ Q' : VK, Q' v H → eW X e σ H Q') (h2 : Q v H) : eW X e σ H Q := h1 Q h2
/-- .., where the heap may grow -/
theorem eViaS {X : Cx} {e : Expr} {σ : L2.St} {H : Hp} {Q : VK} (P : V → Hp → Prop) (h1 : ∀ Q' : VK, (∀ v H', P v H' → Q' v H') → eW X e σ H Q') (h2 : ∀ v H', P v H' → Q v H') : eW X e σ H Q := h1 Q h2
theorem oMono {X : Cx} {f : Value → Value → Sem Value} {x y : V} {H : Hp} {Q Q' : VK} (h : oW X f x y H Q) (i : ∀ v H', Q v H' → Q' v H') : oW X f x y H Q' := ⟨fun pins s σ v u I rx ry => wpAny_mono (h.run pins s σ v u I rx ry) (fun _ _ ⟨v, H', a, b, c⟩ => ⟨v, H', a, b, i v H' c⟩) fun _ _ x => x⟩
theorem e_chainJ {X : Cx} {σ : L2.St} {H : Hp} {Q : VK} {pos : Pos} {a b c : Expr} {op op' : CmpOp} {d : Bool} (h : eW X a σ H fun x H1 => eW X b σ H1 fun y H2 => oW X (compareOp op) x y H2 fun z H3 => ∃ k, z = .bl k ∧ (k = true → ∀ Q' : VK, Q' (.bl d) H3 → eW X c σ H3 (fun w' H4 => oW X (compareOp op') y w' H4 Q')) ∧ Q (.bl (k && d)) H3)
    (hm : lastMarks [op, op'] [b, c] = false := by with_unfolding_all rfl) : eW X (.Compare a [op, op'] [b, c] pos) σ H Q :=
  e_chain (eMono h fun x H1 h1 => eMono h1 fun y H2 h2 => oMono h2 fun z H3 ⟨k, e, h3, q⟩ => ⟨k, e, by
    cases k with
    | true => exact iteT (h3 rfl _ q)
    | false => exact iteF q⟩) hm
theorem s_augA {X : Cx} {σ : L2.St} {H : Hp} {D : Ends} {pos p2 : Pos} {e : Expr} {N : List Str} {x : Str} {i : Nat} {v : Int} [cn : CxN X N] [sl : Slt N x i] [nd : NdN N] (hs : σ[i]? = some (some (.int v))) (h : eW X e σ H fun y H1 => ∃ j, y = .int j ∧ D.nx (σ.set i (some (.int (v + j)))) H1) (hx : Loc X.env.scope x := by first | exact Or.inl rfl | exact Or.inr rfl)
    (hf : X.fn x = true ∨ X.env.scope.names.lookup x = some .local := by first | exact .inl rfl | exact .inr rfl | assumption) : sW X (.AugAssign (.Name x p2) .Add e pos) D σ H :=
  sI (ps_aug (i := i) (by rw [cn.h]; exact nd.h) (by rw [cn.h]; exact sl.h) hx PEw ip_add hf) ⟨.int v, hs, eMono h fun y H1 ⟨j, e, q⟩ => ⟨v, j, rfl, e, q⟩⟩
theorem e_neg {X : Cx} {a : Expr} {σ : L2.St} {H : Hp} {Q : VK} {pos : Pos} (h : eW X a σ H fun x H1 => ∃ i, x = .int i ∧ Q (.int (-i)) H1) : eW X (.UnaryOp .USub a pos) σ H Q := e_un (eMono h fun x H1 ⟨i, e, q⟩ => by subst e; exact u_neg q)
/-- a test of one truth, once for all that follows -/
theorem tVia {X : Cx} {e : Expr} {σ : L2.St} {H : Hp} {R : Bool → Hp → Prop} (b : Bool) (P : Hp → Prop) (h1 : ∀ R' : Bool → Hp → Prop, (∀ H', P H' → R' b H') → tW X e σ H R') (h2 : ∀ H', P H' → R b H') : tW X e σ H R := h1 R h2
/-! ### dict displays -/
theorem sameU {H : Hp} {p : Addr} {o : HO} (hp : H p = none) : Same H (upd H p o) := fun x u e => by rw [upd_ne (ne_of_none e hp)]; exact e
section
variable {X : Cx} {σ : L2.St} {H : Hp} {Q : VK} {pos : Pos} {a b : Expr}
theorem e_dct0 (h : ∀ p H2, Same H H2 → H p = none → H2 p = some (.dK []) → (∀ b, b ≠ p → H2 b = H b) → Q (.ref p) H2) : eW X (.Dict [] [] pos) σ H Q :=
  eI pe_dnewK fun p hp => h p _ (sameU hp) hp upd_same fun _ hb => upd_ne hb
theorem e_dct1 (h : ∀ p H', Same H H' → H p = none → H' p = some (.dK []) → (∀ b, b ≠ p → H' b = H b) → eW X a σ H' fun x H1 => eW X b σ H1 fun y H2 => H2 p = some (.dK []) ∧ ∃ k : Key, x = kV k ∧ ∀ H3, H3 p = some (.dK (mergeK [] [(k, y)])) → (∀ b, b ≠ p → H3 b = H2 b) → Q (.ref p) H3) : eW X (.Dict [some a] [b] pos) σ H Q :=
  eI (pe_disp (pps_cons PEw PEw pps_nil) rfl rfl (fun z => nomatch z) (Nat.le_of_ble_eq_true rfl)) fun p hp => eMono (h p _ (sameU hp) hp upd_same fun _ hb => upd_ne hb) fun x H1 h1 => eMono h1 fun y H2 ⟨e, k, ek, q⟩ => ⟨e, [(k, y)], by rw [ek]; rfl, Nat.le_of_ble_eq_true rfl, q _ upd_same fun _ hb => upd_ne hb⟩
end
/-! ### tuples: parts and sums; dicts -/
/-- all that is a tuple stays -/
def TS (H H' : Hp) : Prop := ∀ b xs, H b = some (.tup xs) → H' b = some (.tup xs)
theorem TS.refl (H : Hp) : TS H H := fun _ _ h => h
theorem TS.trans {H H1 H2 : Hp} (a : TS H H1) (b : TS H1 H2) : TS H H2 := fun c o h => b c o (a c o h)
theorem Same.ts {H H' : Hp} (s : Same H H') : TS H H' := fun _ _ h => s _ _ h
/-- a list's or dict's place is stored anew: tuples stay -/
theorem TS.but {H H' : Hp} {l : Addr} {o : HO} (h : H l = some o) (hn : ∀ xs, o ≠ .tup xs) (k : ∀ b, b ≠ l → H' b = H b) : TS H H' := fun b xs e => by
  rw [k b fun z => hn xs (by rw [z, h] at e; exact Option.some.inj e)]
  exact e
theorem TS.butL {H H' : Hp} {l : Addr} {ys : List V} (h : H l = some (.lst ys)) (k : ∀ b, b ≠ l → H' b = H b) : TS H H' := TS.but h (fun _ z => nomatch z) k
theorem TS.butD {H H' : Hp} {l : Addr} {ys : List (Key × V)} (h : H l = some (.dK ys)) (k : ∀ b, b ≠ l → H' b = H b) : TS H H' := TS.but h (fun _ z => nomatch z) k
section
variable {X : Cx} {σ : L2.St} {H : Hp} {Q : VK} {pos p2 : Pos} {p q : Addr} {xs ys : List V} {lo hi : Option Int}
theorem n_tup (h : H p = some (.tup xs)) (k : ∀ t H2, Same H H2 → H2 t = some (.tup (cutV xs lo hi)) → Q (.ref t) H2) : nW X (.ref p) lo hi H Q :=
  nI sl_tupA ⟨p, xs, rfl, SqT.of h, fun ⟨e1, e2⟩ => k p H (Same.refl _) (by
    have e : cutV xs lo hi = xs := by
      unfold cutV
      rw [e1, e2, List.drop_zero, Nat.sub_zero, List.take_length]
    rw [e]; exact h), fun _ t ht => k t _ (sameU ht) upd_same⟩
theorem n_tupS (h : SqT X.K H p xs) (k : ∀ t H2, Same H H2 → SqT X.K H2 t (cutV xs lo hi) → Q (.ref t) H2) : nW X (.ref p) lo hi H Q :=
  nI sl_tupA ⟨p, xs, rfl, h, fun ⟨e1, e2⟩ => k p H (Same.refl _) (by
    have e : cutV xs lo hi = xs := by
      unfold cutV
      rw [e1, e2, List.drop_zero, Nat.sub_zero, List.take_length]
    rw [e]; exact h), fun _ t ht => k t _ (sameU ht) (SqT.of upd_same)⟩
theorem o_catT (h1 : H p = some (.tup xs)) (h2 : H q = some (.tup ys)) (hz : xs.length + ys.length ≤ 100000) (k : ∀ t H2, Same H H2 → H2 t = some (.tup (xs ++ ys)) → Q (.ref t) H2) : oW X (binaryOp .Add) (.ref p) (.ref q) H Q :=
  oI op_catA ⟨p, q, xs, ys, rfl, rfl, SqT.of h1, SqT.of h2, Nat.le_trans hz (by decide), fun e => k q H (Same.refl _) (by rw [e]; exact h2), fun _ e => k p H (Same.refl _) (by rw [e, List.append_nil]; exact h1), fun _ _ t ht => k t _ (sameU ht) upd_same⟩
theorem k_listD {d : Addr} {kvs : List (Key × V)} [cc : CxC X] (h : H d = some (.dK kvs)) (k : ∀ l H2, Same H H2 → H l = none → H2 l = some (.lst (kvs.map fun kv => kV kv.1)) → (∀ b, b ≠ l → H2 b = H b) → Q (.ref l) H2) : kW X (.type "list") [.ref d] H Q :=
  kI (call_listD cc.h) ⟨d, kvs, rfl, .inl h, fun l hl => k l _ (sameU hl) hl upd_same fun b hb => upd_ne hb⟩
/-- o[i] = v, o a dict whose keys are ints and texts -/
theorem g_setD {o i : Expr} {v : V} {R : L2.St → Hp → Prop} (hu : X.A.units + 1 < cLine) (h : eW X o σ H fun x H1 => eW X i σ H1 fun y H2 => ∃ d kvs k, x = .ref d ∧ H2 d = some (.dK kvs) ∧ y = kV k ∧ kvs.length ≤ 100000 ∧ ∀ H3, H3 d = some (.dK (putK kvs k v)) → (∀ b, b ≠ d → H3 b = H2 b) → R σ H3)
    (ha : ∀ v, assign (.Subscript o i pos) X.env v = (holding [v] (eval o X.env) >>= fun ov => holding [v, ov] (eval i X.env) >>= fun iv => standAt pos >>= fun _ => holding [v, ov, iv] (setItem ov iv v) >>= fun _ => release [v, ov, iv] []) := by intro _; rfl) : gW X (.Subscript o i pos) v σ H R :=
  gI (pg_sub PEw PEw (set_dict hu) ha) (eMono h fun x H1 h1 => eMono h1 fun y H2 ⟨d, kvs, k, e1, e2, e3, e4, q⟩ => ⟨d, _, e1, by rw [e3]; exact .k e2 (Nat.lt_of_le_of_lt e4 (by decide)), q _ upd_same fun b hb => upd_ne hb⟩)
theorem g_setL {o i : Expr} {v : V} {R : L2.St → Hp → Prop} (h : eW X o σ H fun x H1 => eW X i σ H1 fun y H2 => ∃ p xs k j, x = .ref p ∧ y = .int k ∧ H2 p = some (.lst xs) ∧ ixN xs.length k = some j ∧ ∀ H3, H3 p = some (.lst (xs.set j v)) → (∀ b, b ≠ p → H3 b = H2 b) → R σ H3)
    (ha : ∀ v, assign (.Subscript o i pos) X.env v = (holding [v] (eval o X.env) >>= fun ov => holding [v, ov] (eval i X.env) >>= fun iv => standAt pos >>= fun _ => holding [v, ov, iv] (setItem ov iv v) >>= fun _ => release [v, ov, iv] []) := by intro _; rfl) : gW X (.Subscript o i pos) v σ H R :=
  gI (pg_sub PEw PEw set_list ha) (eMono h fun x H1 h1 => eMono h1 fun y H2 ⟨p, xs, k, j, e1, e2, e3, e4, q⟩ => ⟨p, xs, k, j, e1, e2, e3, e4, q _ upd_same fun b hb => upd_ne hb⟩)
/-- a comprehension, its elements by a word of the heap that holds while tuples stay -/
theorem lcH_h {it tg elt : Expr} {sc : Scope} {own : List (Str × Nat)} {R : Addr → Hp → Prop} (Pr : Nat → V → Hp → Prop) (hP : ∀ i y H H', TS H H' → Pr i y H → Pr i y H')
    (h : jW X tg it σ H fun J H1 => ∃ n G Y, Walk J n G Y ∧ n ≤ 100000 ∧ (∀ H', Same H1 H' → G H') ∧
      (∀ i x H' H2, i < n → Same H1 H' → Y i H' x H2 → Same H' H2 ∧ gB X sc tg x (wipe σ (own.map (·.2))) H2 fun σ3 H3 => wipe σ3 (own.map (·.2)) = wipe σ (own.map (·.2)) ∧ Same H2 H3 ∧ eB X sc elt σ3 H3 fun y H4 => Pr i y H4 ∧ Same H3 H4) ∧
      ∀ l H' ys, Same H1 H' → H1 l = none → H' l = some (.lst ys) → ys.length = n → (∀ i y, ys[i]? = some y → Pr i y H') → R l H') :
    jW X tg it σ H fun J H1 => ∃ n G Y, Walk J n G Y ∧ ∀ D, H1 D = none → ∃ Pv : Nat → Hp → Prop, Pv 0 (upd H1 D (.lst [])) ∧ (∀ i H', i ≤ n → Pv i H' → G H') ∧
      (∀ i x H' H2, i < n → Pv i H' → Y i H' x H2 → gB X sc tg x (wipe σ (own.map (·.2))) H2 fun σ3 H3 => wipe σ3 (own.map (·.2)) = wipe σ (own.map (·.2)) ∧ eB X sc elt σ3 H3 fun y H4 => ∃ acc, H4 D = some (.lst acc) ∧ acc.length < sizeLine ∧ Pv (i + 1) (upd H4 D (.lst (acc ++ [y])))) ∧
      ∀ H', Pv n H' → R D H' := by
  refine ⟨fun pins s I => wpAny_mono (h.run pins s I) (fun v s1 q => wpAny_mono q (fun u s2 ⟨i, fp, tn, J, H2, e, I2, T, t0, f2, n, G, Y, w, hn, q1, q2, q3⟩ => ⟨i, fp, tn, J, H2, e, I2, T, t0, f2, n, G, Y, w, fun D' hD => ⟨fun i H' => Same H2 H' ∧ ∃ acc, H' D' = some (.lst acc) ∧ acc.length = i ∧ ∀ j z, acc[j]? = some z → Pr j z H', ⟨sameU hD, [], upd_same, rfl, by simp⟩, fun _ _ _ p => q1 _ p.1, fun i x H' H3 hi p y s0 H0 C cl fp => ?_, fun H' p => by
    obtain ⟨p1, acc, p2, p3, p4⟩ := p
    exact q3 D' H' acc p1 hD p2 p3 p4⟩⟩) fun _ _ z => z) fun _ _ z => z⟩
  obtain ⟨k1, k2⟩ := q2 i x H' H3 hi p.1 y
  obtain ⟨p1, acc, p2, p3, p4⟩ := p
  refine ⟨fun pins s' u I r => wpAny_mono ((k2 s0 H0 C cl fp).run pins s' u I r) (fun _ s'' ⟨σ', H'', I'', e1, e2, e3⟩ => ⟨σ', H'', I'', e1, fun s0 H0 C cl fp => ⟨fun pins s' I => wpAny_mono ((e3 s0 H0 C cl fp).run pins s' I) (fun u s4 ⟨v4, H4, I4, r4, ev, e4⟩ => ⟨v4, H4, I4, r4, acc, e4 _ _ (e2 _ _ (k1 _ _ p2)), ?_, ?_, acc ++ [v4], upd_same, ?_, ?_⟩) fun _ _ z => z⟩⟩) fun _ _ z => z⟩
  · rw [p3]
    exact Nat.lt_of_lt_of_le (Nat.lt_of_lt_of_le hi hn) (by decide)
  · intro b o e
    rw [upd_ne (ne_of_none e hD)]
    exact e4 _ _ (e2 _ _ (k1 _ _ (p1 _ _ e)))
  · rw [List.length_append, p3]; rfl
  · have k4 := e4 _ _ (e2 _ _ (k1 _ _ p2))
    have up : TS H4 (upd H4 D' (.lst (acc ++ [v4]))) := TS.butL k4 fun b hb => upd_ne hb
    intro j z hz
    by_cases hj : j < i
    · rw [List.getElem?_append_left (by omega)] at hz
      exact hP _ _ _ _ ((TS.trans (Same.ts k1) (TS.trans (Same.ts e2) (Same.ts e4))).trans up) (p4 j z hz)
    · rw [List.getElem?_append_right (by omega), p3] at hz
      have hj2 : j = i := by
        have := (List.getElem?_eq_some_iff.mp hz).1
        simp at this
        omega
      subst hj2
      simp at hz
      rw [← hz]
      exact hP _ _ _ _ up ev
theorem e_lcH {it tg elt : Expr} {sc : Scope} {N : List Str} {own : List (Str × Nat)} [cc : CxC X] [cn : CxN X N] [nd : NdN N] (ok : BlkOk N X.env.scope sc own) (Pr : Nat → V → Hp → Prop) (hP : ∀ i y H H', TS H H' → Pr i y H → Pr i y H')
    (h : jW X tg it σ H fun J H1 => ∃ n G Y, Walk J n G Y ∧ n ≤ 100000 ∧ (∀ H', Same H1 H' → G H') ∧
      (∀ i x H' H2, i < n → Same H1 H' → Y i H' x H2 → Same H' H2 ∧ gB X sc tg x (wipe σ (own.map (·.2))) H2 fun σ3 H3 => wipe σ3 (own.map (·.2)) = wipe σ (own.map (·.2)) ∧ Same H2 H3 ∧ eB X sc elt σ3 H3 fun y H4 => Pr i y H4 ∧ Same H3 H4) ∧
      ∀ l H' ys, Same H1 H' → H1 l = none → H' l = some (.lst ys) → ys.length = n → (∀ i y, ys[i]? = some y → Pr i y H') → Q (.ref l) H') (hs : ∀ x, foldedSetIterable it X.env x = pure x := by intro _; rfl) : eW X (.ListComp elt [⟨tg, it, [], 0⟩] sc pos) σ H Q :=
  e_lc ok (lcH_h (R := fun l H' => Q (.ref l) H') Pr hP h) hs
theorem s_setLcH {it tg elt : Expr} {sc : Scope} {N : List Str} {own : List (Str × Nat)} {y : Str} {i : Nat} {D : Ends} {p3 : Pos} [cc : CxC X] [cn : CxN X N] [sl : Slt N y i] [nd : NdN N] (ok : BlkOk N X.env.scope sc own) (Pr : Nat → V → Hp → Prop) (hP : ∀ i y H H', TS H H' → Pr i y H → Pr i y H')
    (h : jW X tg it σ H fun J H1 => ∃ n G Y, Walk J n G Y ∧ n ≤ 100000 ∧ (∀ H', Same H1 H' → G H') ∧
      (∀ i x H' H2, i < n → Same H1 H' → Y i H' x H2 → Same H' H2 ∧ gB X sc tg x (wipe σ (own.map (·.2))) H2 fun σ3 H3 => wipe σ3 (own.map (·.2)) = wipe σ (own.map (·.2)) ∧ Same H2 H3 ∧ eB X sc elt σ3 H3 fun y H4 => Pr i y H4 ∧ Same H3 H4) ∧
      ∀ l H' ys, Same H1 H' → H1 l = none → H' l = some (.lst ys) → ys.length = n → (∀ i y, ys[i]? = some y → Pr i y H') → D.nx (σ.set i (some (.ref l))) H') (hyl : X.env.scope.names.lookup y = some .local := by rfl)
    (hsw : swapsWith (.ListComp elt [⟨tg, it, [], 0⟩] sc pos) (some (.Name y p2)) p3.line X.env = pure true := by exact sw_true rfl rfl rfl (by decide +kernel)) (hs : ∀ x, foldedSetIterable it X.env x = pure x := by intro _; rfl) : sW X (.Assign [.Name y p2] (.ListComp elt [⟨tg, it, [], 0⟩] sc pos) p3) D σ H :=
  s_setLc ok (lcH_h (R := fun l H' => D.nx (σ.set i (some (.ref l))) H') Pr hP h) hyl hsw hs
/-- a comprehension, its elements by a word of the heap that holds while all but the comprehension's own list stays -/
theorem lcK_h {it tg elt : Expr} {sc : Scope} {own : List (Str × Nat)} {R : Addr → Hp → Prop} (Pr : Nat → V → Hp → Prop) (hP : ∀ i y H H', Same H H' → Pr i y H → Pr i y H') (hK : ∀ i y H H' D acc, H D = some (.lst acc) → (∀ (j : Nat) z, acc[j]? = some z → Pr j z H) → (∀ b, b ≠ D → H' b = H b) → Pr i y H → Pr i y H')
    (h : jW X tg it σ H fun J H1 => ∃ n G Y, Walk J n G Y ∧ n ≤ 100000 ∧ (∀ H', Same H1 H' → G H') ∧
      (∀ i x H' H2, i < n → Same H1 H' → Y i H' x H2 → Same H' H2 ∧ gB X sc tg x (wipe σ (own.map (·.2))) H2 fun σ3 H3 => wipe σ3 (own.map (·.2)) = wipe σ (own.map (·.2)) ∧ Same H2 H3 ∧ eB X sc elt σ3 H3 fun y H4 => Pr i y H4 ∧ Same H3 H4) ∧
      ∀ l H' ys, Same H1 H' → H1 l = none → H' l = some (.lst ys) → ys.length = n → (∀ i y, ys[i]? = some y → Pr i y H') → R l H') :
    jW X tg it σ H fun J H1 => ∃ n G Y, Walk J n G Y ∧ ∀ D, H1 D = none → ∃ Pv : Nat → Hp → Prop, Pv 0 (upd H1 D (.lst [])) ∧ (∀ i H', i ≤ n → Pv i H' → G H') ∧
      (∀ i x H' H2, i < n → Pv i H' → Y i H' x H2 → gB X sc tg x (wipe σ (own.map (·.2))) H2 fun σ3 H3 => wipe σ3 (own.map (·.2)) = wipe σ (own.map (·.2)) ∧ eB X sc elt σ3 H3 fun y H4 => ∃ acc, H4 D = some (.lst acc) ∧ acc.length < sizeLine ∧ Pv (i + 1) (upd H4 D (.lst (acc ++ [y])))) ∧
      ∀ H', Pv n H' → R D H' := by
  refine ⟨fun pins s I => wpAny_mono (h.run pins s I) (fun v s1 q => wpAny_mono q (fun u s2 ⟨i, fp, tn, J, H2, e, I2, T, t0, f2, n, G, Y, w, hn, q1, q2, q3⟩ => ⟨i, fp, tn, J, H2, e, I2, T, t0, f2, n, G, Y, w, fun D' hD => ⟨fun i H' => Same H2 H' ∧ ∃ acc, H' D' = some (.lst acc) ∧ acc.length = i ∧ ∀ j z, acc[j]? = some z → Pr j z H', ⟨sameU hD, [], upd_same, rfl, by simp⟩, fun _ _ _ p => q1 _ p.1, fun i x H' H3 hi p y s0 H0 C cl fp => ?_, fun H' p => by
    obtain ⟨p1, acc, p2, p3, p4⟩ := p
    exact q3 D' H' acc p1 hD p2 p3 p4⟩⟩) fun _ _ z => z) fun _ _ z => z⟩
  obtain ⟨k1, k2⟩ := q2 i x H' H3 hi p.1 y
  obtain ⟨p1, acc, p2, p3, p4⟩ := p
  refine ⟨fun pins s' u I r => wpAny_mono ((k2 s0 H0 C cl fp).run pins s' u I r) (fun _ s'' ⟨σ', H'', I'', e1, e2, e3⟩ => ⟨σ', H'', I'', e1, fun s0 H0 C cl fp => ⟨fun pins s' I => wpAny_mono ((e3 s0 H0 C cl fp).run pins s' I) (fun u s4 ⟨v4, H4, I4, r4, ev, e4⟩ => ⟨v4, H4, I4, r4, acc, e4 _ _ (e2 _ _ (k1 _ _ p2)), ?_, ?_, acc ++ [v4], upd_same, ?_, ?_⟩) fun _ _ z => z⟩⟩) fun _ _ z => z⟩
  · rw [p3]
    exact Nat.lt_of_lt_of_le (Nat.lt_of_lt_of_le hi hn) (by decide)
  · intro b o e
    rw [upd_ne (ne_of_none e hD)]
    exact e4 _ _ (e2 _ _ (k1 _ _ (p1 _ _ e)))
  · rw [List.length_append, p3]; rfl
  · have k4 := e4 _ _ (e2 _ _ (k1 _ _ p2))
    have sm : Same H' H4 := k1.trans (e2.trans e4)
    have pa : ∀ (j : Nat) z, acc[j]? = some z → Pr j z H4 := fun j z hz => hP _ _ _ _ sm (p4 j z hz)
    have up : ∀ i y, Pr i y H4 → Pr i y (upd H4 D' (.lst (acc ++ [v4]))) := fun i y h => hK _ _ _ _ _ _ k4 pa (fun b hb => upd_ne hb) h
    intro j z hz
    by_cases hj : j < i
    · rw [List.getElem?_append_left (by omega)] at hz
      exact up _ _ (pa j z hz)
    · rw [List.getElem?_append_right (by omega), p3] at hz
      have hj2 : j = i := by
        have := (List.getElem?_eq_some_iff.mp hz).1
        simp at this
        omega
      subst hj2
      simp at hz
      rw [← hz]
      exact up _ _ ev
theorem e_lcK {it tg elt : Expr} {sc : Scope} {N : List Str} {own : List (Str × Nat)} [cc : CxC X] [cn : CxN X N] [nd : NdN N] (ok : BlkOk N X.env.scope sc own) (Pr : Nat → V → Hp → Prop) (hP : ∀ i y H H', Same H H' → Pr i y H → Pr i y H') (hK : ∀ i y H H' D acc, H D = some (.lst acc) → (∀ (j : Nat) z, acc[j]? = some z → Pr j z H) → (∀ b, b ≠ D → H' b = H b) → Pr i y H → Pr i y H')
    (h : jW X tg it σ H fun J H1 => ∃ n G Y, Walk J n G Y ∧ n ≤ 100000 ∧ (∀ H', Same H1 H' → G H') ∧
      (∀ i x H' H2, i < n → Same H1 H' → Y i H' x H2 → Same H' H2 ∧ gB X sc tg x (wipe σ (own.map (·.2))) H2 fun σ3 H3 => wipe σ3 (own.map (·.2)) = wipe σ (own.map (·.2)) ∧ Same H2 H3 ∧ eB X sc elt σ3 H3 fun y H4 => Pr i y H4 ∧ Same H3 H4) ∧
      ∀ l H' ys, Same H1 H' → H1 l = none → H' l = some (.lst ys) → ys.length = n → (∀ i y, ys[i]? = some y → Pr i y H') → Q (.ref l) H') (hs : ∀ x, foldedSetIterable it X.env x = pure x := by intro _; rfl) : eW X (.ListComp elt [⟨tg, it, [], 0⟩] sc pos) σ H Q :=
  e_lc ok (lcK_h (R := fun l H' => Q (.ref l) H') Pr hP hK h) hs
theorem s_setLcK {it tg elt : Expr} {sc : Scope} {N : List Str} {own : List (Str × Nat)} {y : Str} {i : Nat} {D : Ends} {p3 : Pos} [cc : CxC X] [cn : CxN X N] [sl : Slt N y i] [nd : NdN N] (ok : BlkOk N X.env.scope sc own) (Pr : Nat → V → Hp → Prop) (hP : ∀ i y H H', Same H H' → Pr i y H → Pr i y H') (hK : ∀ i y H H' D acc, H D = some (.lst acc) → (∀ (j : Nat) z, acc[j]? = some z → Pr j z H) → (∀ b, b ≠ D → H' b = H b) → Pr i y H → Pr i y H')
    (h : jW X tg it σ H fun J H1 => ∃ n G Y, Walk J n G Y ∧ n ≤ 100000 ∧ (∀ H', Same H1 H' → G H') ∧
      (∀ i x H' H2, i < n → Same H1 H' → Y i H' x H2 → Same H' H2 ∧ gB X sc tg x (wipe σ (own.map (·.2))) H2 fun σ3 H3 => wipe σ3 (own.map (·.2)) = wipe σ (own.map (·.2)) ∧ Same H2 H3 ∧ eB X sc elt σ3 H3 fun y H4 => Pr i y H4 ∧ Same H3 H4) ∧
      ∀ l H' ys, Same H1 H' → H1 l = none → H' l = some (.lst ys) → ys.length = n → (∀ i y, ys[i]? = some y → Pr i y H') → D.nx (σ.set i (some (.ref l))) H') (hyl : X.env.scope.names.lookup y = some .local := by rfl)
    (hsw : swapsWith (.ListComp elt [⟨tg, it, [], 0⟩] sc pos) (some (.Name y p2)) p3.line X.env = pure true := by exact sw_true rfl rfl rfl (by decide +kernel)) (hs : ∀ x, foldedSetIterable it X.env x = pure x := by intro _; rfl) : sW X (.Assign [.Name y p2] (.ListComp elt [⟨tg, it, [], 0⟩] sc pos) p3) D σ H :=
  s_setLc ok (lcK_h (R := fun l H' => D.nx (σ.set i (some (.ref l))) H') Pr hP hK h) hyl hsw hs
end
/-! ### a text so often -/
theorem fold_app : ∀ (n : Nat) (a : Array Nat) (z : Array Nat), ((List.replicate n z).foldl (· ++ ·) a).toList = a.toList ++ (List.replicate n z.toList).flatten
  | 0, a, z => by simp
  | n + 1, a, z => by
    rw [List.replicate_succ, List.foldl_cons, fold_app n, Array.toList_append, List.replicate_succ, List.flatten_cons, List.append_assoc]
theorem o_repS {X : Cx} {H : Hp} {Q : VK} {z : Str} {n : Int} (h0 : 0 ≤ n) (h1 : n ≤ 100000) (hz : z.length ≤ 100) (q : ∀ y, tl y = (List.replicate n.toNat (tl z)).flatten → Q (.str y) H) : oW X (binaryOp .Mult) (.str z) (.int n) H Q := by
  refine ⟨fun pins s σ v u I rx ry => ?_⟩
  obtain ⟨t, rfl⟩ := rx
  obtain ⟨t', rfl⟩ := ry
  have hm : z.length * n.toNat ≤ 100 * 100000 := Nat.mul_le_mul hz (by omega)
  refine PySem.P.mul_str (by rw [decide_eq_false (by omega), decide_eq_false (by omega)]; rfl) (fun c _ => ?_) (fun _ _ => ?_) ?_
  · have : (z.length : Int) ≤ (2 ^ 63 - 1) / n := by
      refine Int.le_ediv_of_mul_le (by omega) ?_
      have e : (z.length : Int) * n = ((z.length * n.toNat : Nat) : Int) := by
        rw [Int.natCast_mul, Int.toNat_of_nonneg h0]
      rw [e]
      omega
    omega
  · show decide (z.length * n.toNat > sizeLine) = false
    rw [sizeLine_eq]
    exact decide_eq_false (by omega)
  · by_cases c : n < 1
    · rw [if_pos c]
      refine ⟨by decide, ⟨.str Str.empty, H, I.tok _, ⟨_, rfl⟩, q _ ?_⟩⟩
      have : n.toNat = 0 := by omega
      rw [this]
      rfl
    · rw [if_neg c]
      by_cases c2 : (n == 1 || z.length == 0) = true
      · rw [if_pos c2]
        refine ⟨.str z, H, I.tok _, ⟨t, rfl⟩, q z ?_⟩
        rcases Bool.or_eq_true_iff.mp c2 with c3 | c3
        · have : n = 1 := beq_iff_eq.mp c3
          subst this
          simp
        · have e : tl z = [] := List.eq_nil_of_length_eq_zero (by rw [← len_tl]; exact beq_iff_eq.mp c3)
          rw [e]
          simp
      · rw [if_neg c2]
        have e : tl (⟨(List.replicate n.toNat z.cps).foldl (· ++ ·) #[]⟩ : Str) = (List.replicate n.toNat (tl z)).flatten := by
          show ((List.replicate n.toNat z.cps).foldl (· ++ ·) #[]).toList = _
          rw [fold_app]
          rfl
        refine ⟨?_, ⟨.str _, H, I.tok _, ⟨_, rfl⟩, q _ e⟩⟩
        rw [len_tl, e, List.length_flatten, List.map_replicate, List.sum_replicate_nat, ← len_tl, Nat.mul_comm, sizeLine_eq]
        omega
/-! ### exceptions: try, what a clause names, isinstance of what is caught -/
def trX (X : Cx) (pn : List (Addr × Obj)) (xe : Value → Shared → Prop) : Cx := X.tr pn xe
def suX (X : Cx) (a : Addr) (pn : List (Addr × Obj)) : Cx := X.suite a pn
theorem bMono {X : Cx} {b : List Stmt} {D : Ends} {σ : L2.St} {H : Hp} {nx : L2.St → Hp → Prop} (h : bW X b D σ H) (i : ∀ σ' H', D.nx σ' H' → nx σ' H') : bW X b { D with nx := nx } σ H := ⟨fun pins s I => wpAny_mono (h.run pins s I) (fun f s1 q => by
  cases f with
  | next => obtain ⟨σ', H', a, c⟩ := q; exact ⟨σ', H', a, i _ _ c⟩
  | brk => exact q
  | cont => exact q
  | ret v => exact q) fun _ _ x => x⟩
theorem sMono {X : Cx} {st : Stmt} {D : Ends} {σ : L2.St} {H : Hp} (nx : L2.St → Hp → Prop) (h : sW X st (Dnx D nx) σ H) (i : ∀ σ' H', nx σ' H' → D.nx σ' H') : sW X st D σ H := ⟨fun pins s I => wpAny_mono (h.run pins s I) (fun f s1 q => by
  cases f with
  | next => obtain ⟨σ', H', a, c⟩ := q; exact ⟨σ', H', a, i _ _ c⟩
  | brk => exact q
  | cont => exact q
  | ret v => exact q) fun _ _ x => x⟩
section
variable {X : Cx} {pn : List (Addr × Obj)} {xe : Value → Shared → Prop} {a : Addr}
instance {N : List Str} [c : CxN X N] : CxN (trX X pn xe) N := ⟨c.h⟩
instance {K : PySem.W.Frag} [c : CxK X K] : CxK (trX X pn xe) K := ⟨c.h⟩
instance {mg : Str → Option Value} [c : CxM X mg] : CxM (trX X pn xe) mg := ⟨c.h⟩
instance [c : CxC X] : CxC (trX X pn xe) := ⟨c.h⟩
instance {N : List Str} [c : CxN X N] : CxN (suX X a pn) N := ⟨c.h⟩
instance {K : PySem.W.Frag} [c : CxK X K] : CxK (suX X a pn) K := ⟨c.h⟩
instance {mg : Str → Option Value} [c : CxM X mg] : CxM (suX X a pn) mg := ⟨c.h⟩
instance : CxO (suX X a pn) := ⟨PassesOwn.never⟩
instance : CxT (suX X a pn) (fun _ _ _ _ => False) := ⟨takes0 (X := suX X a pn)⟩
end
section
variable {K : PySem.W.Frag} {mg : Str → Option Value} {x y : Str} {C D : Addr} {b : Bool}
theorem ExcF.excC (T : ExcF K mg x C) : ExcC K C := ⟨T.ga, T.gk, T.be, T.hd, T.ha, T.hn, T.ht, T.hm⟩
theorem ExcF.self (T : ExcF K mg x C) : PySem.W.subIn K (.ref C) (.ref C) = some true := by
  have q := T.ex
  unfold PySem.W.excIn at q
  show PySem.W.mroIn K C (.ref C) = some true
  unfold PySem.W.mroIn PySem.W.clsIn
  split at q
  · rename_i dd cd sl ho
    rw [ho]
    dsimp only
    split at q
    · rename_i C' bm k0 k1 k2 k3 n k5 hm hs
      simp only [Bool.and_eq_true, beq_iff_eq] at q
      obtain ⟨⟨⟨⟨⟨e, _⟩, _⟩, _⟩, _⟩, _⟩ := q
      subst e
      rw [Option.bind_some, hm]
      simp
    · cases q
  · cases q
theorem ExcF.kit (TD : ExcF K mg x D) (TC : ExcF K mg y C) (h : PySem.W.subIn K (.ref D) (.ref C) = some b) : PySem.W.kitOne K (.ref D) (.ref C) = some b := by
  by_cases e : D = C
  · subst e
    rw [TD.self] at h
    cases h
    exact kit_self
  · exact kit_refs h TC.ic TC.ty e
theorem ExcF.kitVE (TD : ExcF K mg x D) : PySem.W.kitOne K (.ref D) (.type "ValueError") = some true := by
  have e2 : (Value.ref D == Value.type "ValueError") = false := by simp
  have e3 : PySem.W.kitMeta "ValueError" = true := by decide +kernel
  show (if (Value.ref D == Value.type "ValueError") = true then some true else if PySem.W.kitMeta "ValueError" = true then PySem.W.subIn K (.ref D) (.type "ValueError") else none) = some true
  rw [e2, if_neg Bool.false_ne_true, if_pos e3]
  exact TD.ve
theorem ExcF.exm (TC : ExcF K mg y C) (h : PySem.W.subIn K (.ref D) (.ref C) = some b) : PySem.W.exmOne K (.ref D) (.ref C) = some b := PySem.W.exm_ref TC.be TC.hd TC.ty h
theorem kit_none {t : Value} : ∀ {cs : List Addr}, (∀ c ∈ cs, PySem.W.kitOne K t (.ref c) = some false) → PySem.W.kitAny K t (cs.map Value.ref) = some false
  | [], _ => rfl
  | c :: cs, h => by
    show (match PySem.W.kitOne K t (.ref c) with
      | some true => some true
      | some false => PySem.W.kitAny K t (cs.map Value.ref)
      | none => none) = some false
    rw [h c List.mem_cons_self]
    exact kit_none fun d hd => h d (List.mem_cons_of_mem _ hd)
theorem vals_refs : ∀ {cs : List Addr} {its : List Value}, Vals (cs.map V.ref) its → its = cs.map Value.ref
  | [], _, .nil => rfl
  | c :: cs, _, .cons r t => by
    have e : _ = Value.ref c := r
    rw [e, vals_refs t]
    rfl
end
section
variable {X : Cx} {σ : L2.St} {H : Hp} {D : Ends} {Q : VK} {pos pos' np p2 p3 p4 : Pos} {st b₀ : Stmt} {body suite orelse : List Stmt} {N : List Str} {x y n : Str} {a C E : Addr} {oe : Obj} {pn : List (Addr × Obj)} {b : Bool} {mg : Str → Option Value}
/-- isinstance(e, C), e what the suite holds -/
theorem k_isE (TD : ExcF X.K mg x E) (TC : ExcF X.K mg y C) (hz : Zc (.ref E) none oe) (hf : ∃ vs, oe.data = .fields vs) (h : PySem.W.subIn X.K (.ref E) (.ref C) = some b) (q : Q (.bl b) H) : kW (suX X a ((a, oe) :: pn)) (.builtin "isinstance") [.ref a, .ref C] H Q :=
  kI (X := X.suite a ((a, oe) :: pn)) (call_isE TD.excC hz hf) ⟨_, _, _, rfl, fun _ r => r, TD.kit TC h, q⟩
theorem k_isEV (TD : ExcF X.K mg x E) (hz : Zc (.ref E) none oe) (hf : ∃ vs, oe.data = .fields vs) (q : Q (.bl true) H) : kW (suX X a ((a, oe) :: pn)) (.builtin "isinstance") [.ref a, .ty "ValueError"] H Q :=
  kI (X := X.suite a ((a, oe) :: pn)) (call_isE TD.excC hz hf) ⟨_, _, _, rfl, fun _ r => r, TD.kitVE, q⟩
/-- isinstance(e, (C1, C2, ..)), none of them -/
theorem k_isEN {t : Addr} (cs : List Addr) (TD : ExcF X.K mg x E) (hz : Zc (.ref E) none oe) (hf : ∃ vs, oe.data = .fields vs) (ht : H t = some (.tup (cs.map V.ref))) (h : ∀ c ∈ cs, PySem.W.kitOne X.K (.ref E) (.ref c) = some false) (q : Q (.bl false) H) :
    kW (suX X a ((a, oe) :: pn)) (.builtin "isinstance") [.ref a, .ref t] H Q := by
  refine ⟨fun pins s σ us I r => ?_⟩
  cases r with
  | cons rx rr =>
    cases rr with
    | cons rt rr =>
      cases rr
      cases rx
      cases rt
      obtain ⟨hget, _⟩ := I.pin (a, oe) (List.mem_append.mpr (.inl List.mem_cons_self))
      obtain ⟨vs, hv⟩ := hf
      have J : PySem.W.InstAt s.heap a oe E none := by
        obtain ⟨oc, od, oda, osl⟩ := oe
        obtain ⟨h1, h2⟩ := hz
        dsimp only at h1 h2 hv
        subst h1 h2 hv
        exact ⟨hget, rfl, rfl, trivial⟩
      have C := TD.excC
      obtain ⟨_, its, rv, ho⟩ : ObjOk X.prog X.w H s.heap t (.tup (cs.map V.ref)) := I.hok t _ ht
      have e := vals_refs rv
      subst e
      obtain ⟨⟨oc, dd, dt, osl⟩, hg, e1, nn, e2⟩ := ho
      dsimp only at e1 e2
      subst e1 e2
      exact PySem.W.kia_tup (PySem.W.handS_kitx_exc C.hg C.hk C.hs C.hd C.ha C.hn C.ht C.hm) I.kIn J hg (kit_none h) (fun z => nomatch z) fun tk => ⟨.bl false, H, I.kept (t' := tk) fun _ _ z => z, rfl, q⟩
theorem k_intB {k : Bool} (q : Q (.int (if k then 1 else 0)) H) : kW X (.type "int") [.bl k] H Q := kI call_int1 (.inr ⟨k, rfl, q⟩)
/-- try: body, except x as n: suite -/
theorem s_tryAs {i : Nat} {Wout : WX} [cn : CxN X N] [sl : Slt N n i] [nd : NdN N] [ct : CxT X Wout] (T : ExcF X.K X.mg x C) (W : WX)
    (hw : ∀ cls d σ' H', W cls d σ' H' → (PySem.W.exmOne X.K cls (.ref C) = some true ∧ ∀ a oe pn, H' a = none → Zc cls d oe → (∃ vs, oe.data = .fields vs) →
        bW (suX X a ((a, oe) :: pn)) (b₀ :: suite) { nx := fun σ' H' => D.nx (σ'.set i none) H', rt := D.rt, bk := fun σ' H' => D.bk (σ'.set i none) H', ct := fun σ' H' => D.ct (σ'.set i none) H' } (σ'.set i (some (.ref a))) H') ∨
      (PySem.W.exmOne X.K cls (.ref C) = some false ∧ Wout cls d σ' H'))
    (hb : ∀ pn xe, CxT (trX X pn xe) W → CxO (trX X pn xe) → bW (trX X pn xe) body D σ H)
    (hg : Gl X x := by rfl) (hdb : (x == ("__debug__" : Str)) = false := by decide) (hln : X.env.kindOf n = some .local := by rfl) (hs : X.stack = X.env :: X.outer := by rfl) (hf : X.env.frame = some X.env.locals := by rfl) :
    sW X (.Try body [.ExceptHandler (some (.Name x np)) (some n) (b₀ :: suite) pos'] [] [] pos) D σ H :=
  sI (ps_try_as hs hf (by rw [cn.h]; exact nd.h) (by rw [cn.h]; exact sl.h) hln ⟨hg, hdb, .inl T.mg⟩ ct.h
    (tb := fun W' D' σ' H' => ∀ pn xe, CxT (trX X pn xe) W' → CxO (trX X pn xe) → bW (trX X pn xe) body D' σ' H')
    (ts := fun a cls d D' σ' H' => ∀ oe pn, Zc cls d oe → (∃ vs, oe.data = .fields vs) → bW (suX X a ((a, oe) :: pn)) (b₀ :: suite) D' σ' H')
    (fun W' pn xe tk ow => ⟨fun pins s σ H D I q => (q pn xe ⟨tk⟩ ⟨ow⟩).run pins s I⟩)
    (fun a oe cls d pn hz hf => ⟨fun pins s σ H D I q => (q oe pn hz hf).run pins s I⟩))
   (fun pn xe c1 c2 => hb pn xe ⟨c1.h.imp fun cls d σ' H' w => (hw cls d σ' H' w).elim (fun ⟨h1, h2⟩ => ⟨true, h1, fun _ a ha oe pn hz hf => h2 a oe pn ha hz hf, fun z => nomatch z⟩) fun ⟨h1, h2⟩ => ⟨false, h1, (fun z => nomatch z), fun _ => h2⟩⟩ c2)
/-- try: body, except x: suite, else: orelse -/
theorem s_tryElse {Wout : WX} [ct : CxT X Wout] (T : ExcF X.K X.mg x C) (W : WX)
    (hw : ∀ cls d σ' H', W cls d σ' H' → (PySem.W.exmOne X.K cls (.ref C) = some true ∧ ∀ a oe pn, H' a = none → Zc cls d oe → (∃ vs, oe.data = .fields vs) → bW (suX X a ((a, oe) :: pn)) (b₀ :: suite) D σ' H') ∨ (PySem.W.exmOne X.K cls (.ref C) = some false ∧ Wout cls d σ' H'))
    (hb : ∀ pn xe, CxT (trX X pn xe) W → CxO (trX X pn xe) → bW (trX X pn xe) body (Dsq X orelse D) σ H)
    (hg : Gl X x := by rfl) (hdb : (x == ("__debug__" : Str)) = false := by decide) (hs : X.stack = X.env :: X.outer := by rfl) (hf : X.env.frame = some X.env.locals := by rfl) :
    sW X (.Try body [.ExceptHandler (some (.Name x np)) none (b₀ :: suite) pos'] orelse [] pos) D σ H :=
  sI (ps_try_onlyE (u := bW X orelse) PBw hs hf ⟨hg, hdb, .inl T.mg⟩ ct.h
    (tb := fun W' D' σ' H' => ∀ pn xe, CxT (trX X pn xe) W' → CxO (trX X pn xe) → bW (trX X pn xe) body D' σ' H')
    (ts := fun a cls d D' σ' H' => ∀ oe pn, Zc cls d oe → (∃ vs, oe.data = .fields vs) → bW (suX X a ((a, oe) :: pn)) (b₀ :: suite) D' σ' H')
    (fun W' pn xe tk ow => ⟨fun pins s σ H D I q => (q pn xe ⟨tk⟩ ⟨ow⟩).run pins s I⟩)
    (fun a oe cls d pn hz hf => ⟨fun pins s σ H D I q => (q oe pn hz hf).run pins s I⟩))
   (fun pn xe c1 c2 => hb pn xe ⟨c1.h.imp fun cls d σ' H' w => (hw cls d σ' H' w).elim (fun ⟨h1, h2⟩ => ⟨true, h1, fun _ a ha oe pn hz hf => h2 a oe pn ha hz hf, fun z => nomatch z⟩) fun ⟨h1, h2⟩ => ⟨false, h1, (fun z => nomatch z), fun _ => h2⟩⟩ c2)
/-- try: body, except x: suite -/
theorem s_tryOnly {Wout : WX} [ct : CxT X Wout] (T : ExcF X.K X.mg x C) (W : WX)
    (hw : ∀ cls d σ' H', W cls d σ' H' → (PySem.W.exmOne X.K cls (.ref C) = some true ∧ ∀ a oe pn, H' a = none → Zc cls d oe → (∃ vs, oe.data = .fields vs) → bW (suX X a ((a, oe) :: pn)) (b₀ :: suite) D σ' H') ∨ (PySem.W.exmOne X.K cls (.ref C) = some false ∧ Wout cls d σ' H'))
    (hb : ∀ pn xe, CxT (trX X pn xe) W → CxO (trX X pn xe) → bW (trX X pn xe) body D σ H)
    (hg : Gl X x := by rfl) (hdb : (x == ("__debug__" : Str)) = false := by decide) (hs : X.stack = X.env :: X.outer := by rfl) (hf : X.env.frame = some X.env.locals := by rfl) :
    sW X (.Try body [.ExceptHandler (some (.Name x np)) none (b₀ :: suite) pos'] [] [] pos) D σ H :=
  s_tryElse T W hw (fun pn xe c1 c2 => ⟨fun pins s I => (bMono (hb pn xe c1 c2) (fun σ' H' q => b_nil q)).run pins s I⟩) hg hdb hs hf
end
/-! ### try with clauses of any kind -/
theorem wp_forIn {M : Model} {A : Around} {E : Value → Shared → Prop} {α β : Type} {f : α → β → Sem (ForInStep β)} {init : β} {s : Shared} {Q : β → Shared → Prop} : ∀ L : List α, (∀ c ∈ L, ∀ R : ForInStep β → Shared → Prop, R (.yield init) s → wpAny M A (f c init) R E s) → Q init s → wpAny M A (forIn L init f) Q E s
  | [], _, q => by rw [List.forIn_nil]; exact wpAny_pure q
  | c :: L, h, q => by
    rw [List.forIn_cons]
    exact wpAny_bind (h c (List.mem_cons_self ..) _ (wp_forIn L (fun d hd => h d (List.mem_cons_of_mem _ hd)) q))
theorem exm_none {M : Model} {K : PySem.W.Frag} {cs : List Addr} {cls : Value} {tp e : Addr} {h : Heap} (X : K.In h) (LT : PySem.W.Looks M h (typeOf (.ref e)) cls) (hp : h.get? tp = some { cls := .type "tuple", data := .seq (cs.map Value.ref).toArray })
    (hx : ∀ c ∈ cs, PySem.W.exmOne K cls (.ref c) = some false) : PySem.W.Looks M h (excMatches (.ref e) (.ref tp)) false := by
  intro A Q E s k₀ q
  obtain ⟨hh, g, d, tk, os⟩ := s
  have k : ∀ b o, h.get? b = some o → hh.get? b = some o := k₀
  have LTT : PySem.W.Looks M h (isInstance (.ref tp) (.type "tuple")) true := ((PySem.W.Looks.ld hp).andThen .now).andThen (PySem.W.Looks.of_pure isSubtype_tuple_tuple)
  have hpp := k _ _ hp
  unfold excMatches
  refine wpAny_bind ((LTT.keeps k).at ?_)
  dsimp only
  rw [if_pos rfl]
  first
    | refine wpAny_bind (wpAny_seqItems hpp rfl ?_)
    | refine wpAny_bind (wpAny_bind (wpAny_seqItems hpp rfl (wpAny_pure ?_)))
  dsimp only [Option.getD_some, Option.getD]
  have get : ∀ v ∈ cs.map Value.ref, PySem.W.exmOne K cls v = some false := fun v hv => by
    obtain ⟨c, hc, rfl⟩ := List.mem_map.mp hv
    exact hx c hc
  refine wpAny_bind (wpAny_pure (wpAny_bind (wp_forIn _ (fun c hc R r => ?_) ?_)))
  · have L1 := (PySem.W.exm_cls (M := M) X (get c hc)).1.keeps k
    refine wpAny_bind (L1.at ?_)
    rw [if_neg (by decide)]
    exact wpAny_pure r
  · refine wpAny_bind ((LT.keeps k).at ?_)
    refine wpAny_bind (wp_forIn _ (fun c hc R r => ?_) ?_)
    · have L1 := (PySem.W.exm_cls (M := M) X (get c hc)).2.keeps k
      refine wpAny_bind (L1.at ?_)
      rw [if_neg (by decide)]
      exact wpAny_pure r
    · exact wpAny_pure q
/-- an exception that was caught, kept -/
def ExK (cls : Value) (d : Option Addr) (a : Addr) : HO := .ext fun h => ∃ (oe : Obj) (vs : Array Value), h.get? a = some oe ∧ Zc cls d oe ∧ oe.data = .fields vs
theorem exK_ok {P : Program} {w : World} {H : Hp} {h : Heap} {a : Addr} {cls : Value} {d : Option Addr} {oe : Obj} {vs : Array Value} (e : h.get? a = some oe) (z : Zc cls d oe) (q : oe.data = .fields vs) : ObjOk P w H h a (ExK cls d a) :=
  ⟨⟨oe, vs, e, z, q⟩, ⟨oe, e⟩, fun _ _ ⟨o, v, q, r⟩ k => ⟨o, v, k o q, r⟩⟩
/-- what stood unseen is seen -/
theorem lay_old {X : Cx} {pins : List (Addr × Obj)} {σ : L2.St} {H : Hp} {s : Shared} {a : Addr} {o : HO} (I : Inv X pins σ H s) (hn : H a = none) (h0 : X.s_0.heap.get? a = none) (nl : a ≠ X.env.locals) (nc : ∀ v, ¬ s.heap.IsCell a v)
    (np : ∀ p ∈ X.pn ++ pins, p.1 ≠ a) (new : ObjOk X.prog X.w (upd H a o) s.heap a o) : Inv X pins σ (upd H a o) s where
  ok := I.ok
  os := I.os
  bare := I.bare
  base := { keep := I.base.keep, slot := I.base.slot, there := I.base.there
            free := fun b u q n x => by rw [upd_ne fun z => by rw [z, h0] at q; cases q]; exact I.base.free b u q n x
            tups := fun b xs q => by
              have t := I.base.tups b xs q
              rw [upd_ne fun z => by rw [z, hn] at t; cases t]; exact t
            frzs := fun b u xs q => by
              have t := I.base.frzs b u xs q
              rw [upd_ne fun z => by rw [z, hn] at t; cases t]; exact t
            tbls := fun b ps q => by
              obtain ⟨m, t⟩ := I.base.tbls b ps q
              exact ⟨m, by rw [upd_ne fun z => by rw [z, hn] at t; cases t]; exact t⟩ }
  loc := I.loc
  cell := I.cell
  free := by rw [upd_ne (Ne.symm nl)]; exact I.free
  freeC := fun x c e => by
    rw [upd_ne fun z => by
      obtain ⟨v, hv⟩ := I.cell x c e
      rw [z] at hv
      exact nc v hv]
    exact I.freeC x c e
  pin := fun p hp => by
    obtain ⟨q1, q2, q3⟩ := I.pin p hp
    exact ⟨q1, by rw [upd_ne (np p hp)]; exact q2, q3⟩
  hok := HOk.laidN I.hok (fun _ _ z => z) hn new
  len := I.len
/-- the ends of a suite: what is held is kept -/
def keptD (D : Ends) (f : L2.St → L2.St) (cls : Value) (d : Option Addr) (a : Addr) : Ends where
  nx := fun σ H => ∀ H2, Same H H2 → H2 a = some (ExK cls d a) → D.nx (f σ) H2
  rt := fun v H => ∀ H2, Same H H2 → H2 a = some (ExK cls d a) → D.rt v H2
  bk := fun σ H => ∀ H2, Same H H2 → H2 a = some (ExK cls d a) → D.bk (f σ) H2
  ct := fun σ H => ∀ H2, Same H H2 → H2 a = some (ExK cls d a) → D.ct (f σ) H2
/-- the names of a tuple of classes -/
inductive Tst (X : Cx) : List Expr → List Addr → Prop
  | nil : Tst X [] []
  | cons {x : Str} {c : Addr} {np : Pos} {es : List Expr} {cs : List Addr} (hc : Names X x (.ref c)) (hs : starEach (.Name x np :: es) X.env = (false, eval (.Name x np) X.env) :: starEach es X.env) (t : Tst X es cs) : Tst X (.Name x np :: es) (c :: cs)
/-- what the clauses do with an exception of the class cls -/
inductive Caught (X : Cx) (D : Ends) (Wout : WX) (cls : Value) (d : Option Addr) (σ : L2.St) (H : Hp) : List ExceptHandler → Prop
  | out (w : Wout cls d σ H) : Caught X D Wout cls d σ H []
  | skip {x : Str} {c : Addr} {np pos : Pos} {nm : Option Str} {b₀ : Stmt} {suite : List Stmt} {hds : List ExceptHandler} (hc : Names X x (.ref c)) (hx : PySem.W.exmOne X.K cls (.ref c) = some false) (r : Caught X D Wout cls d σ H hds) : Caught X D Wout cls d σ H (.ExceptHandler (some (.Name x np)) nm (b₀ :: suite) pos :: hds)
  | skipT {es : List Expr} {k : Nat} {cs : List Addr} {tp pos : Pos} {nm : Option Str} {b₀ : Stmt} {suite : List Stmt} {hds : List ExceptHandler} (t : Tst X es cs) (hz : cs.length ≤ 1000) (hx : ∀ c ∈ cs, PySem.W.exmOne X.K cls (.ref c) = some false) (r : Caught X D Wout cls d σ H hds) :
      Caught X D Wout cls d σ H (.ExceptHandler (some (.Tuple es k tp)) nm (b₀ :: suite) pos :: hds)
  | hit {x : Str} {c : Addr} {np pos : Pos} {b₀ : Stmt} {suite : List Stmt} {hds : List ExceptHandler} (hc : Names X x (.ref c)) (hx : PySem.W.exmOne X.K cls (.ref c) = some true)
      (q : ∀ a oe pn, H a = none → Zc cls d oe → (∃ vs, oe.data = .fields vs) → bW (suX X a ((a, oe) :: pn)) (b₀ :: suite) (keptD D id cls d a) σ H) : Caught X D Wout cls d σ H (.ExceptHandler (some (.Name x np)) none (b₀ :: suite) pos :: hds)
  | hitAs {x n : Str} {i : Nat} {c : Addr} {np pos : Pos} {b₀ : Stmt} {suite : List Stmt} {hds : List ExceptHandler} (hN : X.N.Nodup) (hi : X.N[i]? = some n) (hln : X.env.kindOf n = some .local) (hc : Names X x (.ref c)) (hx : PySem.W.exmOne X.K cls (.ref c) = some true)
      (q : ∀ a oe pn, H a = none → Zc cls d oe → (∃ vs, oe.data = .fields vs) → bW (suX X a ((a, oe) :: pn)) (b₀ :: suite) (keptD D (·.set i none) cls d a) (σ.set i (some (.ref a))) H) : Caught X D Wout cls d σ H (.ExceptHandler (some (.Name x np)) (some n) (b₀ :: suite) pos :: hds)
theorem tst_name {X : Cx} {a : Addr} {pn pins : List (Addr × Obj)} {σ : L2.St} {H : Hp} {s : Shared} {x : Str} {np : Pos} {c : Value} (hc : Names X x c) (S : Inv (X.suite a pn) pins σ H s) {Q : Value → Shared → Prop} {E : Value → Shared → Prop} (q : Q c s) :
    wpAny (model X.prog X.w) (X.A.mark (some (.ref a))) (eval (.Name x np) X.env) Q E s := by
  obtain ⟨hg, hdb, hm | ⟨hm, hv, hn⟩⟩ := hc
  · exact ld_glob (X := X.suite a pn) S hg hm q hdb
  · exact ld_blt (X := X.suite a pn) S hg hm hv q hn hdb
theorem tst_run {X : Cx} {a : Addr} {pn pins : List (Addr × Obj)} {σ : L2.St} {H : Hp} {s : Shared} {pos : Pos} (S : Inv (X.suite a pn) pins σ H s) {E : Value → Shared → Prop} : ∀ {es : List Expr} {cs : List Addr}, Tst X es cs → ∀ {Q : List Value → Shared → Prop}, Q (cs.map Value.ref) s →
    wpAny (model X.prog X.w) (X.A.mark (some (.ref a))) (spliced (backTo pos (starEach es X.env))) Q E s
  | _, _, .nil, Q, q => wpAny_pure q
  | _, _, .cons hc hs t, Q, q => by
    rw [hs]
    show wpAny _ _ (spliced ((false, eval _ X.env) :: backTo pos _)) _ _ s
    exact Calls.spliced_cons (tst_name hc S (tst_run S t q))
theorem s_tryC {X : Cx} {σ : L2.St} {H : Hp} {D : Ends} {pos : Pos} {body orelse : List Stmt} {h₀ : ExceptHandler} {hds : List ExceptHandler} {Wout : WX} [ct : CxT X Wout] (W : WX)
    (hw : ∀ cls d σ' H', W cls d σ' H' → Caught X D Wout cls d σ' H' (h₀ :: hds))
    (hb : ∀ pn xe, CxT (trX X pn xe) W → CxO (trX X pn xe) → bW (trX X pn xe) body (Dsq X orelse D) σ H)
    (hs : X.stack = X.env :: X.outer := by rfl) (hf : X.env.frame = some X.env.locals := by rfl) (hex : X.ex = [] := by rfl) : sW X (.Try body (h₀ :: hds) orelse [] pos) D σ H := by
  refine ⟨fun pins s I => ?_⟩
  have ok := I.ok
  have fr0 : X.A.frames = some (X.env :: X.outer) := by rw [ok.frames, hs]
  refine wpAny_Try_except ?_
  refine wpAny_mono ((hb (X.pn ++ pins) (fun e s1 => wpAny (model X.prog X.w) X.A (noteFrame e X.env) (fun _ s2 => wpAny (model X.prog X.w) X.A (setFlight e none) (fun _ s3 => wpAny (model X.prog X.w) X.A (handleBy e X.env (h₀ :: hds)) (SP X pins D) X.xe s3) X.xe s2) X.xe s1)
    ⟨fun u s' xx => ?_⟩ ⟨PassesOwn.looking⟩).run [] s (I.toTry _)) (fun f s1 hsp => ?_) (fun e s1 he => he)
  · obtain ⟨a, B, sI, pins', σ', H', cls, d, rfl, J0, nb, up, sky, na, os, ag, w⟩ := xx
    have JJ : Inv X pins σ' H' sI := J0.ofTry ok
    have sky2 : Sky B (X.env :: X.outer) a (Zc cls d) X.env.locals s'.heap := by rw [← hs]; exact sky
    show wpAny (model X.prog X.w) X.A (noteFrame (.ref a) X.env) _ _ _
    refine Sky.land Zc.steady fr0 hf sky2 fun h3 fl3 up3 => ?_
    have aB : B.get? a = none := fl3.2.1
    have nfr : a ∉ frs (X.env :: X.outer) := fun hm => by
      obtain ⟨oe3, vs3, he3, _, hd3⟩ := fl3.there
      obtain ⟨_, o', e', hnf⟩ := fl3.2.2.1.mem hm; rw [he3] at e'; cases e'; exact hnf _ hd3
    have nL : a ≠ X.env.locals := fun z => nfr (List.mem_filterMap.mpr ⟨X.env, List.mem_cons_self .., by rw [hf, z]⟩)
    have nF : a ∉ X.fs := fun hm => by
      obtain ⟨e, he, q⟩ := List.mem_filterMap.mp hm; exact nfr (List.mem_filterMap.mpr ⟨e, List.mem_cons_of_mem _ he, q⟩)
    have ngr : ∀ o, ¬ sI.heap.get? a = some o := fun o e => by
      have t := nb a o e (by show a ∉ frs X.stack; rw [hs]; exact nfr); rw [aB] at t; cases t
    have h0 : X.s_0.heap.get? a = none := by
      cases e : X.s_0.heap.get? a with
      | none => rfl
      | some o => obtain ⟨o', q⟩ := JJ.base.there a o e (by rw [hex]; simp); exact absurd q (ngr o')
    have np : ∀ p ∈ X.pn ++ pins, p.1 ≠ a := fun p hp z => ngr p.2 (by rw [← z]; exact (JJ.pin p hp).1)
    have fac : ∀ h, HandSPX.FlyingZ B (X.env :: X.outer) a (Zc cls d) h → sI.heap.UpToSlots h → Inv X pins σ' H' { s' with heap := h } ∧ ∃ oe, Zc cls d oe ∧ (∃ vs, oe.data = .fields vs) ∧ h.get? a = some oe ∧ Inv (X.suite a ((a, oe) :: (X.pn ++ pins))) [] σ' H' { s' with heap := h } := fun h fl u => by
      obtain ⟨oe, vs, he, hz, hd⟩ := fl.there
      have J : Inv X pins σ' H' { s' with heap := h } := JJ.landed nb fl.1 u os ag
      exact ⟨J, oe, hz, ⟨vs, hd⟩, he, J.suite he hd na nL nF⟩
    have kept6 : ∀ {oe : Obj} {σ6 : L2.St} {H6 : Hp} {s6 : Shared}, Zc cls d oe → (∃ vs, oe.data = .fields vs) → Inv (X.suite a ((a, oe) :: (X.pn ++ pins))) [] σ6 H6 s6 → Inv X pins σ6 (upd H6 a (ExK cls d a)) s6 ∧ Same H6 (upd H6 a (ExK cls d a)) := fun {oe σ6 H6 s6} hz hd S6 => by
      obtain ⟨vs, hd⟩ := hd
      obtain ⟨p1, p2, p3, p4, p5⟩ := S6.pin (a, oe) (List.mem_append_left _ (List.mem_cons_self ..))
      exact ⟨lay_old (S6.unsuite ok) p2 h0 nL (fun v ⟨o, q1, q2⟩ => by rw [p1] at q1; cases q1; exact p5 v q2) np (exK_ok p1 hz hd), sameU p2⟩
    have go : ∀ {hs2 : List ExceptHandler}, Caught X D Wout cls d σ' H' hs2 → ∀ h, HandSPX.FlyingZ B (X.env :: X.outer) a (Zc cls d) h → sI.heap.UpToSlots h → wpAny (model X.prog X.w) X.A (handleBy (.ref a) X.env hs2) (SP X pins D) X.xe { s' with heap := h } := by
      intro hs2 hk
      induction hk with
      | out w =>
        intro h fl u
        refine wpAny_handleBy_nil ?_
        obtain ⟨_, _, _, oe, vs, T, oT, ts, he, hz, hd, h1, hr⟩ := id fl
        unfold PySem.passOn; refine wpAny_bind (wpAny_field he hd h1 ?_); rw [if_neg (show ¬ ((Value.ref T == Value.none) = true) from by simp)]
        have fin : wpAny (model X.prog X.w) X.A (setFlight (.ref a) X.env.frame) (fun _ s4 => wpAny (model X.prog X.w) X.A (throw (.ref a) : Sem Flow) (SP X pins D) X.xe s4) X.xe { s' with heap := h } := by
          rw [hf]; exact HandSPX.setFlight_upZ fl fun h4 hh4 up4 => wpAny_throw (ct.h _ _ ⟨a, B, sI, pins, σ', H', cls, d, rfl, JJ, nb, u.trans up4, .inr (.inr (by rw [hs]; exact hh4)), na, os, ag, w⟩)
        first | exact wpAny_bind (wpAny_pure (wpAny_bind fin)) | exact wpAny_bind fin
      | skip hc hx r ih =>
        intro h fl u
        obtain ⟨J, oe, hz, hd, he, S⟩ := fac h fl u
        refine wpAny_handleBy_cons (codeAny_handlers_test ?_) (by intro q; cases q)
        have LT : PySem.W.Looks (model X.prog X.w) h (typeOf (.ref a)) cls := fun A Q E s k q => wpAny_typeOf_ref (k _ _ he) (by rw [hz.1]; exact q)
        refine tst_name hc S ((PySem.W.exm_one (M := model X.prog X.w) J.kIn LT hx).here ?_)
        exact ih h fl u
      | @skipT es k cs tp pos nm b₀ suite hds t hz1 hx r ih =>
        intro h fl u
        obtain ⟨J, oe, hz, hd, he, S⟩ := fac h fl u
        refine wpAny_handleBy_cons (codeAny_handlers_test ?_) (by intro q; cases q)
        refine wpAny_Tuple_spliced (tst_run S t ⟨by rw [List.length_map]; exact Nat.le_trans hz1 (by decide), ?_⟩)
        have kp : ∀ b o, h.get? b = some o → (h.push { cls := .type "tuple", data := .seq (cs.map Value.ref).toArray }).get? b = some o := fun b o e => Heap.get?_push_of_some _ e
        have fl2 : HandSPX.FlyingZ B (X.env :: X.outer) a (Zc cls d) (h.push { cls := .type "tuple", data := .seq (cs.map Value.ref).toArray }) := by
          obtain ⟨q1, q2, q3, oe', vs, T, oT, ts, r1, r2, r3, r4, r5, r6, r7, r8⟩ := id fl
          exact ⟨fun b o e => kp b o (q1 b o e), q2, q3.of_keeps fun b o e _ => ⟨o, kp b o e, rfl⟩, oe', vs, T, oT, ts, kp _ _ r1, r2, r3, r4, r5, r6, kp _ _ r7, r8⟩
        have u2 : sI.heap.UpToSlots (h.push { cls := .type "tuple", data := .seq (cs.map Value.ref).toArray }) := u.trans fun b o e _ => ⟨o.slots, kp b o e⟩
        have LT : PySem.W.Looks (model X.prog X.w) (h.push { cls := .type "tuple", data := .seq (cs.map Value.ref).toArray }) (typeOf (.ref a)) cls := fun A Q E s k q => wpAny_typeOf_ref (k _ _ (kp _ _ he)) (by rw [hz.1]; exact q)
        refine (exm_none (M := model X.prog X.w) (fac _ fl2 u2).1.kIn LT (Heap.get?_push_size _ rfl) hx).here ?_
        exact ih _ fl2 u2
      | hit hc hx q =>
        intro h fl u
        obtain ⟨J, oe, hz, hd, he, S⟩ := fac h fl u
        refine wpAny_handleBy_cons (codeAny_handlers_test ?_) (by intro q; cases q)
        have LT : PySem.W.Looks (model X.prog X.w) h (typeOf (.ref a)) cls := fun A Q E s k q => wpAny_typeOf_ref (k _ _ he) (by rw [hz.1]; exact q)
        refine tst_name hc S ((PySem.W.exm_one (M := model X.prog X.w) J.kIn LT hx).here ?_)
        refine codeAny_handlers_suite (HandSPX.lands_againZ fl fun h4 fl4 up4 => ?_)
        obtain ⟨J4, oe4, hz4, hd4, he4, S4⟩ := fac h4 fl4 (u.trans up4)
        refine wpAny_mono ((q a oe4 (X.pn ++ pins) na hz4 hd4).run [] _ S4) (fun f s6 hsp => ?_) fun _ _ z => False.elim z
        cases f with
        | next => obtain ⟨σ6, H6, S6, q6⟩ := hsp; obtain ⟨k1, k2⟩ := kept6 hz4 hd4 S6; exact ⟨_, _, k1, q6 _ k2 upd_same⟩
        | brk => obtain ⟨σ6, H6, S6, q6⟩ := hsp; obtain ⟨k1, k2⟩ := kept6 hz4 hd4 S6; exact ⟨_, _, k1, q6 _ k2 upd_same⟩
        | cont => obtain ⟨σ6, H6, S6, q6⟩ := hsp; obtain ⟨k1, k2⟩ := kept6 hz4 hd4 S6; exact ⟨_, _, k1, q6 _ k2 upd_same⟩
        | ret v => obtain ⟨v6, σ6, H6, S6, r6, q6⟩ := hsp; obtain ⟨k1, k2⟩ := kept6 hz4 hd4 S6; exact ⟨_, _, _, k1, r6, q6 _ k2 upd_same⟩
      | @hitAs x n i c np pos b₀ suite hds hN hi hln hc hx q =>
        intro h fl u
        obtain ⟨J, oe, hz, hd, he, S⟩ := fac h fl u
        refine wpAny_handleBy_cons (codeAny_handlers_test ?_) (by intro q; cases q)
        have LT : PySem.W.Looks (model X.prog X.w) h (typeOf (.ref a)) cls := fun A Q E s k q => wpAny_typeOf_ref (k _ _ he) (by rw [hz.1]; exact q)
        refine tst_name hc S ((PySem.W.exm_one (M := model X.prog X.w) J.kIn LT hx).here ?_)
        refine codeAny_handlers_suite_as (HandSPX.lands_againZ fl fun h4 fl4 up4 => ?_)
        obtain ⟨J4, oe4, hz4, hd4, he4, S4⟩ := fac h4 fl4 (u.trans up4)
        have hloc : Loc X.env.scope n := .inl hln
        refine store_ok (X := X.suite a ((a, oe4) :: (X.pn ++ pins))) (v := .ref a) S4 hN hi hloc rfl (fun s5 S5 => ?_) (.inr hln)
        refine wpAny_mono ((q a oe4 (X.pn ++ pins) na hz4 hd4).run [] s5 S5) (fun f s6 hsp => ?_) fun _ _ z => False.elim z
        cases f with
        | next => obtain ⟨σ6, H6, S6, q6⟩ := hsp; obtain ⟨k1, k2⟩ := kept6 hz4 hd4 S6; exact gone_ok k1 hN hi hln fun s7 J7 => ⟨_, _, J7, q6 _ k2 upd_same⟩
        | brk => obtain ⟨σ6, H6, S6, q6⟩ := hsp; obtain ⟨k1, k2⟩ := kept6 hz4 hd4 S6; exact gone_ok k1 hN hi hln fun s7 J7 => ⟨_, _, J7, q6 _ k2 upd_same⟩
        | cont => obtain ⟨σ6, H6, S6, q6⟩ := hsp; obtain ⟨k1, k2⟩ := kept6 hz4 hd4 S6; exact gone_ok k1 hN hi hln fun s7 J7 => ⟨_, _, J7, q6 _ k2 upd_same⟩
        | ret v => obtain ⟨v6, σ6, H6, S6, r6, q6⟩ := hsp; obtain ⟨k1, k2⟩ := kept6 hz4 hd4 S6; exact gone_ok k1 hN hi hln fun s7 J7 => ⟨_, _, _, J7, r6, q6 _ k2 upd_same⟩
    exact go (hw cls d σ' H' w) h3 fl3 (up.trans up3)
  · cases f with
    | next => obtain ⟨σ2, H2, J2, q⟩ := hsp; exact q.run pins s1 (J2.ofTry ok)
    | brk => obtain ⟨σ2, H2, J2, q⟩ := hsp; exact ⟨σ2, H2, J2.ofTry ok, q⟩
    | cont => obtain ⟨σ2, H2, J2, q⟩ := hsp; exact ⟨σ2, H2, J2.ofTry ok, q⟩
    | ret v => obtain ⟨v, σ2, H2, J2, r, q⟩ := hsp; exact ⟨v, σ2, H2, J2.ofTry ok, r, q⟩
section
variable {X : Cx} {H : Hp} {Q : VK} {x y : Str} {a C E : Addr} {b : Bool} {mg : Str → Option Value}
theorem instK {pins : List (Addr × Obj)} {σ : L2.St} {s : Shared} (I : Inv X pins σ H s) (hk : H a = some (ExK (.ref E) none a)) : ∃ oe, PySem.W.InstAt s.heap a oe E none := by
  obtain ⟨⟨oe, vs, e, z, hv⟩, _⟩ : ObjOk X.prog X.w H s.heap a (ExK (.ref E) none a) := I.hok a _ hk
  refine ⟨oe, ?_⟩
  obtain ⟨oc, od, oda, osl⟩ := oe
  obtain ⟨h1, h2⟩ := z
  dsimp only at h1 h2 hv
  subst h1 h2 hv
  exact ⟨e, rfl, rfl, trivial⟩
/-- isinstance(e, C), e an exception that was caught and kept -/
theorem k_isK (TD : ExcF X.K mg x E) (TC : ExcF X.K mg y C) (hk : H a = some (ExK (.ref E) none a)) (h : PySem.W.subIn X.K (.ref E) (.ref C) = some b) (q : Q (.bl b) H) : kW X (.builtin "isinstance") [.ref a, .ref C] H Q := by
  refine ⟨fun pins s σ us I r => ?_⟩
  cases r with
  | cons rx rr =>
    cases rr with
    | cons rt rr =>
      cases rr; cases rx; cases rt
      obtain ⟨oe, J⟩ := instK I hk
      have K := TD.excC
      exact PySem.W.kia_one (PySem.W.handS_kitx_exc K.hg K.hk K.hs K.hd K.ha K.hn K.ht K.hm) I.kIn J (TD.kit TC h) (fun z => nomatch z) fun tk => ⟨.bl b, H, I.kept (t' := tk) fun _ _ z => z, rfl, q⟩
theorem k_isKV (TD : ExcF X.K mg x E) (hk : H a = some (ExK (.ref E) none a)) (q : Q (.bl true) H) : kW X (.builtin "isinstance") [.ref a, .ty "ValueError"] H Q := by
  refine ⟨fun pins s σ us I r => ?_⟩
  cases r with
  | cons rx rr =>
    cases rr with
    | cons rt rr =>
      cases rr; cases rx; cases rt
      obtain ⟨oe, J⟩ := instK I hk
      have K := TD.excC
      exact PySem.W.kia_one (PySem.W.handS_kitx_exc K.hg K.hk K.hs K.hd K.ha K.hn K.ht K.hm) I.kIn J TD.kitVE (fun z => nomatch z) fun tk => ⟨.bl true, H, I.kept (t' := tk) fun _ _ z => z, rfl, q⟩
end
/-! ### list(reversed(xs)) -/
section
open RT
section
variable {prog : Program} {w : World} {A : Around} {E : Value → Shared → Prop} {s : Shared}
theorem wpAny_extend_rev {R : Result → Shared → Prop} (hh : A.handled = none) {it l : Addr} {items : Array Value} (S : Addr) (res : Value) (c₀ : Nat) (hS : s.heap.get? S = some { cls := .type "list", data := .seq #[] c₀ })
    (hit : s.heap.IsRevIter it l ((items.size : Int) - 1)) (hl : s.heap.IsList l items) (hne : l ≠ it) (hSi : S ≠ it) (hSl : S ≠ l) (hn : items.size ≤ sizeLine)
    (hR : ∀ h' tk acc' c', (∀ b o, b ≠ S → b ≠ it → s.heap.get? b = some o → h'.get? b = some o) → h'.get? S = some { cls := .type "list", dict := none, data := .seq acc' c', slots := #[] } →
      ItemsOf (fun i v => items[items.size - 1 - i]? = some v) acc' items.size → R (.ok (.ret res)) { s with heap := h', toks := tk }) :
    wpAny (model prog w) A.in1 (Builtin.List.listExtendWith (.ref S) (.ref it) res)
      (fun fin s' => match fin with | .done f => R (.ok f) s' | .again c' => c'.quiet = true ∧ codeAny (model prog w) A c' R s') (fun e s' => R (.error e) s') s := by
  have W := (Walks.listRev (prog := prog) (w := w) (A := A.in1) hh it l hne items).toS
  have hSf : S ∉ [it, l] := by simp only [List.mem_cons, List.not_mem_nil, or_false, not_or]; exact ⟨hSi, hSl⟩
  have hT : s.TypeIs (.ref it) "list_reverseiterator" := Heap.IsRevIter.typeIs hit
  have h1 : Builtin.List.listSameRef (.ref S) (.ref it) = false := by simp [Builtin.List.listSameRef, hSi]
  unfold Builtin.List.listExtendWith
  refine wpAny_bind (wpAny_typeOf hT ?_)
  rw [if_neg (by rw [h1]; decide)]
  refine wpAny_bind (wpAny_pyIter_revIter hit ?_)
  refine wpAny_bind (wpAny_holding ?_)
  unfold Builtin.List.listLengthHint
  refine wpAny_bind (wpAny_specialOf hT nolen_lri ?_)
  show wpAny _ A.in1 (specialOf (Value.ref it) (Str.ofString "__length_hint__") >>= _) _ _ _
  refine wpAny_bind (wpAny_specialOf hT hint_lri ?_)
  generalize hid : ("list_reverseiterator.__length_hint__" : String) = id0
  wp_delta
  rw [show splitId id0 = some ("list_reverseiterator", "__length_hint__") from by subst hid; decide +kernel]
  subst hid
  refine wpAny_bind (wpAny_isInstance (b := true) hT (by rw [isSubtype_type]; kernel_rfl) ?_)
  refine wpAny_pure ?_
  rw [if_neg (by decide)]
  have e0 : ((items.size : Nat) : Int) - 1 - ((0 : Nat) : Int) = (items.size : Int) - 1 := by omega
  refine wpAny_pure ⟨plainId_quiet F.plain_extend_loop _, codeAny_extend_loopS W hn _ hSf _ items.size 0 _ _ _ rfl (Nat.zero_le _) ⟨Nat.zero_le _, by rw [e0]; exact hit, hl⟩ hS (ItemsOf.nil _) fun s' acc' c' hm hS' hacc => ?_⟩
  rw [Moved.eq_with hm]
  refine hR s'.heap s'.toks acc' c' (fun b o hb hb2 e => hm.heap b o (fun hmem => ?_) e) hS' hacc
  rcases List.mem_cons.mp hmem with e' | hmem
  · exact hb e'
  · exact hb2 (List.mem_singleton.mp hmem)
theorem call_list_rev {it l : Addr} {items : Array Value} {Q : Value → Shared → Prop} (hh : A.handled = none) (hit : s.heap.IsRevIter it l ((items.size : Int) - 1)) (hl : s.heap.IsList l items) (hne : l ≠ it) (hn : items.size ≤ sizeLine)
    (hQ : ∀ h' tk acc' c', (∀ b o, b ≠ it → s.heap.get? b = some o → h'.get? b = some o) →
      h'.get? s.heap.objs.size = some { cls := .type "list", dict := none, data := .seq acc' c', slots := #[] } → ItemsOf (fun i v => items[items.size - 1 - i]? = some v) acc' items.size → Q (.ref s.heap.objs.size) { s with heap := h', toks := tk }) :
    wpAny (model prog w) A (call (.type "list") [.ref it]) Q E s := by
  obtain ⟨oi, hoi, _⟩ := id hit
  obtain ⟨ol, hol, _⟩ := id hl
  have hSi : s.heap.objs.size ≠ it := Nat.ne_of_gt (Heap.lt_size hoi)
  have hSl : s.heap.objs.size ≠ l := Nat.ne_of_gt (Heap.lt_size hol)
  refine callType_codes (Q₁ := fun obj s₁ => obj = .ref s.heap.objs.size ∧ s₁ = { s with heap := s.heap.push { cls := .type "list", data := .seq #[] } }) F.called_list (F.typeCall_list_1 _) F.entry_list_init
    (code_list_new _ ⟨rfl, rfl⟩) fun obj s₁ h₁ => ?_
  obtain ⟨rfl, rfl⟩ := h₁
  have hS : (s.heap.push { cls := .type "list", data := .seq #[] }).get? s.heap.objs.size = some { cls := .type "list", data := .seq #[] } := Heap.get?_push_size _ rfl
  have hit1 : (s.heap.push { cls := .type "list", data := .seq #[] }).IsRevIter it l ((items.size : Int) - 1) := hit.at fun o e => Heap.get?_push_of_some _ e
  have hl1 : (s.heap.push { cls := .type "list", data := .seq #[] }).IsList l items := hl.push _
  refine ⟨⟨_, hS, rfl⟩, F.args_list_init_2 _ _, ?_⟩
  show wpAny _ _ (do let old ← Builtin.List.listItems (.ref s.heap.objs.size); Builtin.List.listUpdate (.ref s.heap.objs.size) (fun _ => #[]); letGo old.toList.reverse; Builtin.List.listExtendWith (.ref s.heap.objs.size) (.ref it) .none) _ _ _
  refine wpAny_bind ?_
  unfold Builtin.List.listItems
  refine wpAny_bind (wpAny_seqItems hS rfl (wpAny_pure ?_))
  show wpAny _ _ (updateSeq s.heap.objs.size (fun _ => #[]) >>= fun _ => letGo (#[] : Array Value).toList.reverse >>= fun _ => Builtin.List.listExtendWith (.ref s.heap.objs.size) (.ref it) .none) _ _ _
  refine wpAny_bind (wpAny_updateSeq hS rfl ?_)
  have hS₂ := Heap.get?_update_self (Obj.mapSeq (fun _ => (#[] : Array Value))) hS rfl
  have oth : ∀ b o, b ≠ s.heap.objs.size → (s.heap.push { cls := .type "list", data := .seq #[] }).get? b = some o → ((s.heap.push { cls := .type "list", data := .seq #[] }).update s.heap.objs.size (Obj.mapSeq (fun _ => (#[] : Array Value)))).get? b = some o :=
    fun b o hb e => (Heap.get?_update_other _ _ (Ne.symm hb)).trans e
  have hit2 : ((s.heap.push { cls := .type "list", data := .seq #[] }).update s.heap.objs.size (Obj.mapSeq (fun _ => (#[] : Array Value)))).IsRevIter it l ((items.size : Int) - 1) := hit1.at fun o e => oth it o hSi.symm e
  have hl2 : ((s.heap.push { cls := .type "list", data := .seq #[] }).update s.heap.objs.size (Obj.mapSeq (fun _ => (#[] : Array Value)))).IsList l items := by
    obtain ⟨o, ho, r⟩ := hl1
    exact ⟨o, oth l o hSl.symm ho, r⟩
  refine wpAny_bind (wpAny_letGo ?_)
  refine wpAny_extend_rev (s := { s with heap := (s.heap.push { cls := .type "list", data := .seq #[] }).update s.heap.objs.size (Obj.mapSeq (fun _ => (#[] : Array Value))) }) (R := wants (fun r s₂ => r = Value.none ∧ Q (Value.ref s.heap.objs.size) s₂) E) (A := A.in1) hh s.heap.objs.size .none _ hS₂ hit2 hl2 hne hSi hSl hn fun h' tk acc' c' hk hS' hacc => ?_
  exact ⟨rfl, hQ h' tk acc' c' (fun b o hb e => hk b o (Nat.ne_of_lt (Heap.lt_size e)) hb (oth b o (Nat.ne_of_lt (Heap.lt_size e)) (Heap.get?_push_of_some _ e))) hS' hacc⟩
end
/-- list(reversed(xs)), xs a list -/
theorem e_listRev {X : Cx} {σ : L2.St} {H : Hp} {Q : VK} {e : Expr} {p p2 pos pos2 : Pos} {mg : Str → Option Value} [cc : CxC X] [cm : CxM X mg] [g1 : Gn mg "list" none] [g2 : Gn mg "reversed" none]
    (h : eW X e σ H fun v H1 => ∃ (a : Addr) (xs : List V), v = .ref a ∧ SqL X.K H1 a xs ∧ ∀ l H2, Same H1 H2 → H1 l = none → H2 l = some (.lst xs.reverse) → (∀ b, b ≠ l → H2 b = H1 b) → Q (.ref l) H2)
    (hg : Gl X "list" := by rfl) (hg2 : Gl X "reversed" := by rfl) (hs : starEach [e] X.env = (false, eval e X.env) :: starEach [] X.env := by rfl)
    (hs2 : starEach [.Call (.Name "reversed" p2) [e] [] pos2] X.env = (false, eval (.Call (.Name "reversed" p2) [e] [] pos2) X.env) :: starEach [] X.env := by rfl) : eW X (.Call (.Name "list" p) [.Call (.Name "reversed" p2) [e] [] pos2] [] pos) σ H Q := by
  refine ⟨fun pins s I => ?_⟩
  have hm : X.mg "list" = none := by rw [cm.h]; exact g1.h
  have hm2 : X.mg "reversed" = none := by rw [cm.h]; exact g2.h
  refine Call_ (ld_blt I hg hm boot_list (PyProof.Rows.callWith_type1 (args_cons (Call_ (ld_blt I hg2 hm2 PyProof.Rows.boot_reversed (PyProof.Rows.callWith_type1 (args_cons (thn (h.run pins s I) fun u s1 ⟨v, H1, I1, r1, q1⟩ => args_nil ?_) hs) hs rfl))) hs2) hs2 rfl))
  obtain ⟨a, xs, ev, hq, q⟩ := q1
  subst ev
  obtain rfl : u = Value.ref a := r1
  obtain ⟨its, rv, p', hz⟩ := I1.list hq
  refine call_reversed_list p'.isList (args_nil ?_)
  have k0 : ∀ b o, s1.heap.get? b = some o → (s1.heap.push (revObj a ((its.toArray.size : Int) - 1))).get? b = some o := fun b o e => Heap.get?_push_of_some _ e
  have I2 : Inv X pins σ H1 { s1 with heap := s1.heap.push (revObj a ((its.toArray.size : Int) - 1)) } := I1.kept (t' := s1.toks) k0
  obtain ⟨f0, f1, f2, f3, f4, f5⟩ := I1.fpOk (H' := H1) (b := s1.heap.objs.size) (Nat.le_refl _) (I1.hok.fresh (Nat.le_refl _))
  have hl := p'.isList
  obtain ⟨ol, hol, _⟩ := id hl
  have hne : a ≠ s1.heap.objs.size := Nat.ne_of_lt (Heap.lt_size hol)
  have hn : its.toArray.size ≤ sizeLine := by rw [List.size_toArray, ← rv.length]; exact hz
  refine call_list_rev (s := { s1 with heap := s1.heap.push (revObj a ((its.toArray.size : Int) - 1)) }) (I1.ok.hd cc.h) ⟨_, Heap.get?_push_size _ rfl, rfl, rfl⟩ (hl.push _) hne hn fun h' tk acc c' hk hS hi => ?_
  have I3 : Inv X pins σ H1 { s1 with heap := h', toks := tk } := I2.turned (t' := tk) (fun b o hb e => hk b o hb e) f0 f1 f3 f4 f5
  have hn1 : H1 (s1.heap.push (revObj a ((its.toArray.size : Int) - 1))).objs.size = none := I2.hok.fresh (Nat.le_refl _)
  refine ⟨.ref _, upd H1 (s1.heap.push (revObj a ((its.toArray.size : Int) - 1))).objs.size (.lst xs.reverse), I1.laid (t' := tk) (fun b u e => hk b u (Nat.ne_of_lt (Heap.lt_size e)) (k0 b u e)) ?_ ⟨by rw [List.length_reverse]; exact hz, acc.toList, c', RT.vals_rev rv hi, by simpa using hS⟩, rfl, q _ _ (sameU hn1) hn1 upd_same fun b hb => upd_ne hb⟩
  show s1.heap.objs.size ≤ _
  rw [Heap.size_push]
  omega
end
/-! ### comprehensions with one if, told turn by turn -/
section
variable {X : Cx} {σ : L2.St} {H : Hp} {Q : VK} {pos p2 p3 : Pos} {it tg elt cnd : Expr} {D : Ends}
theorem lcF_h {sc : Scope} {own : List (Str × Nat)} {R : Addr → Hp → Prop} (c : Nat → Bool) (ys : Nat → V)
    (h : jW X tg it σ H fun J H1 => ∃ n G Y, Walk J n G Y ∧ n ≤ 100000 ∧ (∀ H', Same H1 H' → G H') ∧
      (∀ i x H' H2, i < n → Same H1 H' → Y i H' x H2 → Same H' H2 ∧ gB X sc tg x (wipe σ (own.map (·.2))) H2 fun σ3 H3 => wipe σ3 (own.map (·.2)) = wipe σ (own.map (·.2)) ∧ Same H2 H3 ∧ tB' X sc cnd σ3 H3 fun k H4 => Same H3 H4 ∧ k = c i ∧ (k = true → eB X sc elt σ3 H4 fun y H5 => y = ys i ∧ Same H4 H5)) ∧
      ∀ l H', Same H1 H' → H1 l = none → H' l = some (.lst (((List.range n).filter c).map ys)) → R l H') :
    jW X tg it σ H fun J H1 => ∃ n G Y, Walk J n G Y ∧ ∀ D, H1 D = none → ∃ Pv : Nat → Hp → Prop, Pv 0 (upd H1 D (.lst [])) ∧ (∀ i H', i ≤ n → Pv i H' → G H') ∧
      (∀ i x H' H2, i < n → Pv i H' → Y i H' x H2 → gB X sc tg x (wipe σ (own.map (·.2))) H2 fun σ3 H3 => wipe σ3 (own.map (·.2)) = wipe σ (own.map (·.2)) ∧ tB' X sc cnd σ3 H3 fun k H4 => if k = true then eB X sc elt σ3 H4 fun y H5 => ∃ acc, H5 D = some (.lst acc) ∧ acc.length < sizeLine ∧ Pv (i + 1) (upd H5 D (.lst (acc ++ [y]))) else Pv (i + 1) H4) ∧
      ∀ H', Pv n H' → R D H' := by
  refine ⟨fun pins s I => wpAny_mono (h.run pins s I) (fun v s1 q => wpAny_mono q (fun u s2 ⟨i, fp, tn, J, H2, e, I2, T, t0, f2, n, G, Y, w, hn, q1, q2, q3⟩ => ⟨i, fp, tn, J, H2, e, I2, T, t0, f2, n, G, Y, w, fun D' hD => ⟨fun i H' => Same H2 H' ∧ H' D' = some (.lst (((List.range i).filter c).map ys)), ⟨sameU hD, upd_same⟩, fun _ _ _ p => q1 _ p.1, fun i x H' H3 hi p y s0 H0 C cl fp => ?_, fun H' p => q3 D' H' p.1 hD p.2⟩⟩) fun _ _ z => z) fun _ _ z => z⟩
  obtain ⟨k1, k2⟩ := q2 i x H' H3 hi p.1 y
  obtain ⟨p1, p2⟩ := p
  have step : (List.range (i + 1)).filter c = (List.range i).filter c ++ (if c i = true then [i] else []) := by
    rw [List.range_succ, List.filter_append]
    congr 1
    by_cases q : c i = true
    · rw [if_pos q, List.filter_cons_of_pos q, List.filter_nil]
    · rw [if_neg q, List.filter_cons_of_neg q, List.filter_nil]
  refine ⟨fun pins s' u I r => wpAny_mono ((k2 s0 H0 C cl fp).run pins s' u I r) (fun _ s'' ⟨σ', H'', I'', e1, e2, e3⟩ => ⟨σ', H'', I'', e1, fun s0 H0 C cl fp => ⟨fun pins s' I => wpAny_mono ((e3 s0 H0 C cl fp).run pins s' I) (fun u s4 ⟨H4, I4, e4, ek, ey⟩ => ⟨H4, I4, ?_⟩) fun _ _ z => z⟩⟩) fun _ _ z => z⟩
  have s4' : Same H' H4 := fun b o q => e4 _ _ (e2 _ _ (k1 _ _ q))
  cases u with
  | false =>
    refine iteF ⟨fun b o q => s4' _ _ (p1 _ _ q), ?_⟩
    rw [step, if_neg (by rw [← ek]; exact Bool.false_ne_true), List.append_nil]
    exact s4' _ _ p2
  | true =>
    refine iteT fun s0 H0 C cl fp => ⟨fun pins s' I => wpAny_mono ((ey rfl s0 H0 C cl fp).run pins s' I) (fun u s5 ⟨v5, H5, I5, r5, ev, e5⟩ => ⟨v5, H5, I5, r5, _, e5 _ _ (s4' _ _ p2), ?_, ?_, ?_⟩) fun _ _ z => z⟩
    · rw [List.length_map]
      have := List.length_filter_le c (List.range i)
      rw [List.length_range] at this
      rw [sizeLine_eq]
      omega
    · intro b o e
      rw [upd_ne (ne_of_none e hD)]
      exact e5 _ _ (s4' _ _ (p1 _ _ e))
    · rw [upd_same, step, if_pos ek.symm, List.map_append, ev]
      rfl
theorem e_lcF {sc : Scope} {N : List Str} {own : List (Str × Nat)} [cc : CxC X] [cn : CxN X N] [nd : NdN N] (ok : BlkOk N X.env.scope sc own) (c : Nat → Bool) (ys : Nat → V)
    (h : jW X tg it σ H fun J H1 => ∃ n G Y, Walk J n G Y ∧ n ≤ 100000 ∧ (∀ H', Same H1 H' → G H') ∧
      (∀ i x H' H2, i < n → Same H1 H' → Y i H' x H2 → Same H' H2 ∧ gB X sc tg x (wipe σ (own.map (·.2))) H2 fun σ3 H3 => wipe σ3 (own.map (·.2)) = wipe σ (own.map (·.2)) ∧ Same H2 H3 ∧ tB' X sc cnd σ3 H3 fun k H4 => Same H3 H4 ∧ k = c i ∧ (k = true → eB X sc elt σ3 H4 fun y H5 => y = ys i ∧ Same H4 H5)) ∧
      ∀ l H', Same H1 H' → H1 l = none → H' l = some (.lst (((List.range n).filter c).map ys)) → Q (.ref l) H') (hs : ∀ x, foldedSetIterable it X.env x = pure x := by intro _; rfl) : eW X (.ListComp elt [⟨tg, it, [cnd], 0⟩] sc pos) σ H Q :=
  e_lcI ok (lcF_h (R := fun l H' => Q (.ref l) H') c ys h) hs
theorem s_setLcF {sc : Scope} {N : List Str} {own : List (Str × Nat)} {y : Str} {i : Nat} [cc : CxC X] [cn : CxN X N] [sl : Slt N y i] [nd : NdN N] (ok : BlkOk N X.env.scope sc own) (c : Nat → Bool) (ys : Nat → V)
    (h : jW X tg it σ H fun J H1 => ∃ n G Y, Walk J n G Y ∧ n ≤ 100000 ∧ (∀ H', Same H1 H' → G H') ∧
      (∀ i x H' H2, i < n → Same H1 H' → Y i H' x H2 → Same H' H2 ∧ gB X sc tg x (wipe σ (own.map (·.2))) H2 fun σ3 H3 => wipe σ3 (own.map (·.2)) = wipe σ (own.map (·.2)) ∧ Same H2 H3 ∧ tB' X sc cnd σ3 H3 fun k H4 => Same H3 H4 ∧ k = c i ∧ (k = true → eB X sc elt σ3 H4 fun y H5 => y = ys i ∧ Same H4 H5)) ∧
      ∀ l H', Same H1 H' → H1 l = none → H' l = some (.lst (((List.range n).filter c).map ys)) → D.nx (σ.set i (some (.ref l))) H') (hyl : X.env.scope.names.lookup y = some .local := by rfl)
    (hsw : swapsWith (.ListComp elt [⟨tg, it, [cnd], 0⟩] sc pos) (some (.Name y p2)) p3.line X.env = pure true := by exact sw_true rfl rfl rfl (by decide +kernel)) (hs : ∀ x, foldedSetIterable it X.env x = pure x := by intro _; rfl) : sW X (.Assign [.Name y p2] (.ListComp elt [⟨tg, it, [cnd], 0⟩] sc pos) p3) D σ H :=
  s_setLcI ok (lcF_h (R := fun l H' => D.nx (σ.set i (some (.ref l))) H') c ys h) hyl hsw hs
theorem lcG_h {sc : Scope} {own : List (Str × Nat)} {R : Addr → Hp → Prop}
    (h : jW X tg it σ H fun J H1 => ∃ c : Nat → Bool, ∃ ys : Nat → V, ∃ n G Y, Walk J n G Y ∧ n ≤ 100000 ∧ (∀ H', Same H1 H' → G H') ∧
      (∀ i x H' H2, i < n → Same H1 H' → Y i H' x H2 → Same H' H2 ∧ gB X sc tg x (wipe σ (own.map (·.2))) H2 fun σ3 H3 => wipe σ3 (own.map (·.2)) = wipe σ (own.map (·.2)) ∧ Same H2 H3 ∧ tB' X sc cnd σ3 H3 fun k H4 => Same H3 H4 ∧ k = c i ∧ (k = true → eB X sc elt σ3 H4 fun y H5 => y = ys i ∧ Same H4 H5)) ∧
      ∀ l H', Same H1 H' → H1 l = none → H' l = some (.lst (((List.range n).filter c).map ys)) → R l H') :
    jW X tg it σ H fun J H1 => ∃ n G Y, Walk J n G Y ∧ ∀ D, H1 D = none → ∃ Pv : Nat → Hp → Prop, Pv 0 (upd H1 D (.lst [])) ∧ (∀ i H', i ≤ n → Pv i H' → G H') ∧
      (∀ i x H' H2, i < n → Pv i H' → Y i H' x H2 → gB X sc tg x (wipe σ (own.map (·.2))) H2 fun σ3 H3 => wipe σ3 (own.map (·.2)) = wipe σ (own.map (·.2)) ∧ tB' X sc cnd σ3 H3 fun k H4 => if k = true then eB X sc elt σ3 H4 fun y H5 => ∃ acc, H5 D = some (.lst acc) ∧ acc.length < sizeLine ∧ Pv (i + 1) (upd H5 D (.lst (acc ++ [y]))) else Pv (i + 1) H4) ∧
      ∀ H', Pv n H' → R D H' := by
  refine ⟨fun pins s I => wpAny_mono (h.run pins s I) (fun v s1 q => wpAny_mono q (fun u s2 ⟨i, fp, tn, J, H2, e, I2, T, t0, f2, c, ys, n, G, Y, w, hn, q1, q2, q3⟩ => ⟨i, fp, tn, J, H2, e, I2, T, t0, f2, n, G, Y, w, fun D' hD => ⟨fun i H' => Same H2 H' ∧ H' D' = some (.lst (((List.range i).filter c).map ys)), ⟨sameU hD, upd_same⟩, fun _ _ _ p => q1 _ p.1, fun i x H' H3 hi p y s0 H0 C cl fp => ?_, fun H' p => q3 D' H' p.1 hD p.2⟩⟩) fun _ _ z => z) fun _ _ z => z⟩
  obtain ⟨k1, k2⟩ := q2 i x H' H3 hi p.1 y
  obtain ⟨p1, p2⟩ := p
  have step : (List.range (i + 1)).filter c = (List.range i).filter c ++ (if c i = true then [i] else []) := by
    rw [List.range_succ, List.filter_append]
    congr 1
    by_cases q : c i = true
    · rw [if_pos q, List.filter_cons_of_pos q, List.filter_nil]
    · rw [if_neg q, List.filter_cons_of_neg q, List.filter_nil]
  refine ⟨fun pins s' u I r => wpAny_mono ((k2 s0 H0 C cl fp).run pins s' u I r) (fun _ s'' ⟨σ', H'', I'', e1, e2, e3⟩ => ⟨σ', H'', I'', e1, fun s0 H0 C cl fp => ⟨fun pins s' I => wpAny_mono ((e3 s0 H0 C cl fp).run pins s' I) (fun u s4 ⟨H4, I4, e4, ek, ey⟩ => ⟨H4, I4, ?_⟩) fun _ _ z => z⟩⟩) fun _ _ z => z⟩
  have s4' : Same H' H4 := fun b o q => e4 _ _ (e2 _ _ (k1 _ _ q))
  cases u with
  | false =>
    refine iteF ⟨fun b o q => s4' _ _ (p1 _ _ q), ?_⟩
    rw [step, if_neg (by rw [← ek]; exact Bool.false_ne_true), List.append_nil]
    exact s4' _ _ p2
  | true =>
    refine iteT fun s0 H0 C cl fp => ⟨fun pins s' I => wpAny_mono ((ey rfl s0 H0 C cl fp).run pins s' I) (fun u s5 ⟨v5, H5, I5, r5, ev, e5⟩ => ⟨v5, H5, I5, r5, _, e5 _ _ (s4' _ _ p2), ?_, ?_, ?_⟩) fun _ _ z => z⟩
    · rw [List.length_map]
      have := List.length_filter_le c (List.range i)
      rw [List.length_range] at this
      rw [sizeLine_eq]
      omega
    · intro b o e
      rw [upd_ne (ne_of_none e hD)]
      exact e5 _ _ (s4' _ _ (p1 _ _ e))
    · rw [upd_same, step, if_pos ek.symm, List.map_append, ev]
      rfl
theorem e_lcG {sc : Scope} {N : List Str} {own : List (Str × Nat)} [cc : CxC X] [cn : CxN X N] [nd : NdN N] (ok : BlkOk N X.env.scope sc own)
    (h : jW X tg it σ H fun J H1 => ∃ c : Nat → Bool, ∃ ys : Nat → V, ∃ n G Y, Walk J n G Y ∧ n ≤ 100000 ∧ (∀ H', Same H1 H' → G H') ∧
      (∀ i x H' H2, i < n → Same H1 H' → Y i H' x H2 → Same H' H2 ∧ gB X sc tg x (wipe σ (own.map (·.2))) H2 fun σ3 H3 => wipe σ3 (own.map (·.2)) = wipe σ (own.map (·.2)) ∧ Same H2 H3 ∧ tB' X sc cnd σ3 H3 fun k H4 => Same H3 H4 ∧ k = c i ∧ (k = true → eB X sc elt σ3 H4 fun y H5 => y = ys i ∧ Same H4 H5)) ∧
      ∀ l H', Same H1 H' → H1 l = none → H' l = some (.lst (((List.range n).filter c).map ys)) → Q (.ref l) H') (hs : ∀ x, foldedSetIterable it X.env x = pure x := by intro _; rfl) : eW X (.ListComp elt [⟨tg, it, [cnd], 0⟩] sc pos) σ H Q :=
  e_lcI ok (lcG_h (R := fun l H' => Q (.ref l) H') h) hs
theorem s_setLcG {sc : Scope} {N : List Str} {own : List (Str × Nat)} {y : Str} {i : Nat} [cc : CxC X] [cn : CxN X N] [sl : Slt N y i] [nd : NdN N] (ok : BlkOk N X.env.scope sc own)
    (h : jW X tg it σ H fun J H1 => ∃ c : Nat → Bool, ∃ ys : Nat → V, ∃ n G Y, Walk J n G Y ∧ n ≤ 100000 ∧ (∀ H', Same H1 H' → G H') ∧
      (∀ i x H' H2, i < n → Same H1 H' → Y i H' x H2 → Same H' H2 ∧ gB X sc tg x (wipe σ (own.map (·.2))) H2 fun σ3 H3 => wipe σ3 (own.map (·.2)) = wipe σ (own.map (·.2)) ∧ Same H2 H3 ∧ tB' X sc cnd σ3 H3 fun k H4 => Same H3 H4 ∧ k = c i ∧ (k = true → eB X sc elt σ3 H4 fun y H5 => y = ys i ∧ Same H4 H5)) ∧
      ∀ l H', Same H1 H' → H1 l = none → H' l = some (.lst (((List.range n).filter c).map ys)) → D.nx (σ.set i (some (.ref l))) H') (hyl : X.env.scope.names.lookup y = some .local := by rfl)
    (hsw : swapsWith (.ListComp elt [⟨tg, it, [cnd], 0⟩] sc pos) (some (.Name y p2)) p3.line X.env = pure true := by exact sw_true rfl rfl rfl (by decide +kernel)) (hs : ∀ x, foldedSetIterable it X.env x = pure x := by intro _; rfl) : sW X (.Assign [.Name y p2] (.ListComp elt [⟨tg, it, [cnd], 0⟩] sc pos) p3) D σ H :=
  s_setLcI ok (lcG_h (R := fun l H' => D.nx (σ.set i (some (.ref l))) H') h) hyl hsw hs
theorem e_lcQ {sc : Scope} {N : List Str} {own : List (Str × Nat)} [cc : CxC X] [cn : CxN X N] [nd : NdN N] (ok : BlkOk N X.env.scope sc own)
    (h : jW X tg it σ H fun J H1 => ∃ Pr : Nat → V → Prop, ∃ n G Y, Walk J n G Y ∧ n ≤ 100000 ∧ (∀ H', Same H1 H' → G H') ∧
      (∀ i x H' H2, i < n → Same H1 H' → Y i H' x H2 → Same H' H2 ∧ gB X sc tg x (wipe σ (own.map (·.2))) H2 fun σ3 H3 => wipe σ3 (own.map (·.2)) = wipe σ (own.map (·.2)) ∧ Same H2 H3 ∧ eB X sc elt σ3 H3 fun y H4 => Pr i y ∧ Same H3 H4) ∧
      ∀ l H' ys, Same H1 H' → H1 l = none → H' l = some (.lst ys) → ys.length = n → (∀ i y, ys[i]? = some y → Pr i y) → Q (.ref l) H') (hs : ∀ x, foldedSetIterable it X.env x = pure x := by intro _; rfl) : eW X (.ListComp elt [⟨tg, it, [], 0⟩] sc pos) σ H Q := by
  refine e_lc ok ⟨fun pins s I => wpAny_mono (h.run pins s I) (fun v s1 q => wpAny_mono q (fun u s2 ⟨i, fp, tn, J, H2, e, I2, T, t0, f2, Pr, n, G, Y, w, hn, q1, q2, q3⟩ => ⟨i, fp, tn, J, H2, e, I2, T, t0, f2, n, G, Y, w, fun D' hD => ⟨fun i H' => Same H2 H' ∧ ∃ acc, H' D' = some (.lst acc) ∧ acc.length = i ∧ ∀ j z, acc[j]? = some z → Pr j z, ⟨fun b o e => by rw [upd_ne (ne_of_none e hD)]; exact e, [], upd_same, rfl, by simp⟩, fun _ _ _ p => q1 _ p.1, fun i x H' H3 hi p y s0 H0 C cl fp => ?_, fun H' p => by
    obtain ⟨p1, acc, p2, p3, p4⟩ := p
    exact q3 D' H' acc p1 hD p2 p3 p4⟩⟩) fun _ _ z => z) fun _ _ z => z⟩ hs
  obtain ⟨k1, k2⟩ := q2 i x H' H3 hi p.1 y
  obtain ⟨p1, acc, p2, p3, p4⟩ := p
  refine ⟨fun pins s' u I r => wpAny_mono ((k2 s0 H0 C cl fp).run pins s' u I r) (fun _ s'' ⟨σ', H'', I'', e1, e2, e3⟩ => ⟨σ', H'', I'', e1, fun s0 H0 C cl fp => ⟨fun pins s' I => wpAny_mono ((e3 s0 H0 C cl fp).run pins s' I) (fun u s4 ⟨v4, H4, I4, r4, ev, e4⟩ => ⟨v4, H4, I4, r4, acc, e4 _ _ (e2 _ _ (k1 _ _ p2)), ?_, ?_, acc ++ [v4], upd_same, ?_, ?_⟩) fun _ _ z => z⟩⟩) fun _ _ z => z⟩
  · rw [p3]
    exact Nat.lt_of_lt_of_le (Nat.lt_of_lt_of_le hi hn) (by decide)
  · intro b o e
    rw [upd_ne (ne_of_none e hD)]
    exact e4 _ _ (e2 _ _ (k1 _ _ (p1 _ _ e)))
  · rw [List.length_append, p3]; rfl
  · intro j z hz
    by_cases hj : j < i
    · rw [List.getElem?_append_left (by omega)] at hz
      exact p4 j z hz
    · rw [List.getElem?_append_right (by omega), p3] at hz
      have hj2 : j = i := by
        have := (List.getElem?_eq_some_iff.mp hz).1
        simp at this
        omega
      subst hj2
      simp at hz
      rw [← hz]
      exact ev
theorem s_setLcQ {sc : Scope} {N : List Str} {own : List (Str × Nat)} {y : Str} {i : Nat} [cc : CxC X] [cn : CxN X N] [sl : Slt N y i] [nd : NdN N] (ok : BlkOk N X.env.scope sc own)
    (h : jW X tg it σ H fun J H1 => ∃ Pr : Nat → V → Prop, ∃ n G Y, Walk J n G Y ∧ n ≤ 100000 ∧ (∀ H', Same H1 H' → G H') ∧
      (∀ i x H' H2, i < n → Same H1 H' → Y i H' x H2 → Same H' H2 ∧ gB X sc tg x (wipe σ (own.map (·.2))) H2 fun σ3 H3 => wipe σ3 (own.map (·.2)) = wipe σ (own.map (·.2)) ∧ Same H2 H3 ∧ eB X sc elt σ3 H3 fun y H4 => Pr i y ∧ Same H3 H4) ∧
      ∀ l H' ys, Same H1 H' → H1 l = none → H' l = some (.lst ys) → ys.length = n → (∀ i y, ys[i]? = some y → Pr i y) → D.nx (σ.set i (some (.ref l))) H') (hyl : X.env.scope.names.lookup y = some .local := by rfl)
    (hsw : swapsWith (.ListComp elt [⟨tg, it, [], 0⟩] sc pos) (some (.Name y p2)) p3.line X.env = pure true := by exact sw_true rfl rfl rfl (by decide +kernel)) (hs : ∀ x, foldedSetIterable it X.env x = pure x := by intro _; rfl) : sW X (.Assign [.Name y p2] (.ListComp elt [⟨tg, it, [], 0⟩] sc pos) p3) D σ H := by
  refine s_setLc ok ⟨fun pins s I => wpAny_mono (h.run pins s I) (fun v s1 q => wpAny_mono q (fun u s2 ⟨i, fp, tn, J, H2, e, I2, T, t0, f2, Pr, n, G, Y, w, hn, q1, q2, q3⟩ => ⟨i, fp, tn, J, H2, e, I2, T, t0, f2, n, G, Y, w, fun D' hD => ⟨fun i H' => Same H2 H' ∧ ∃ acc, H' D' = some (.lst acc) ∧ acc.length = i ∧ ∀ j z, acc[j]? = some z → Pr j z, ⟨fun b o e => by rw [upd_ne (ne_of_none e hD)]; exact e, [], upd_same, rfl, by simp⟩, fun _ _ _ p => q1 _ p.1, fun i x H' H3 hi p y s0 H0 C cl fp => ?_, fun H' p => by
    obtain ⟨p1, acc, p2, p3, p4⟩ := p
    exact q3 D' H' acc p1 hD p2 p3 p4⟩⟩) fun _ _ z => z) fun _ _ z => z⟩ hyl hsw hs
  obtain ⟨k1, k2⟩ := q2 i x H' H3 hi p.1 y
  obtain ⟨p1, acc, p2, p3, p4⟩ := p
  refine ⟨fun pins s' u I r => wpAny_mono ((k2 s0 H0 C cl fp).run pins s' u I r) (fun _ s'' ⟨σ', H'', I'', e1, e2, e3⟩ => ⟨σ', H'', I'', e1, fun s0 H0 C cl fp => ⟨fun pins s' I => wpAny_mono ((e3 s0 H0 C cl fp).run pins s' I) (fun u s4 ⟨v4, H4, I4, r4, ev, e4⟩ => ⟨v4, H4, I4, r4, acc, e4 _ _ (e2 _ _ (k1 _ _ p2)), ?_, ?_, acc ++ [v4], upd_same, ?_, ?_⟩) fun _ _ z => z⟩⟩) fun _ _ z => z⟩
  · rw [p3]
    exact Nat.lt_of_lt_of_le (Nat.lt_of_lt_of_le hi hn) (by decide)
  · intro b o e
    rw [upd_ne (ne_of_none e hD)]
    exact e4 _ _ (e2 _ _ (k1 _ _ (p1 _ _ e)))
  · rw [List.length_append, p3]; rfl
  · intro j z hz
    by_cases hj : j < i
    · rw [List.getElem?_append_left (by omega)] at hz
      exact p4 j z hz
    · rw [List.getElem?_append_right (by omega), p3] at hz
      have hj2 : j = i := by
        have := (List.getElem?_eq_some_iff.mp hz).1
        simp at this
        omega
      subst hj2
      simp at hz
      rw [← hz]
      exact ev
end
theorem filter_ix {α : Type} (f : α → V) (p : α → Bool) (d : V) : ∀ (l : List α), ((List.range l.length).filter fun i => (l[i]?.map p).getD false).map (fun i => (l[i]?.map f).getD d) = (l.filter p).map f
  | [] => rfl
  | a :: l => by
    rw [List.length_cons, List.range_succ_eq_map, List.filter_cons, List.filter_map]
    have ih := filter_ix f p d l
    have e1 : ((fun i => ((a :: l)[i]?.map p).getD false) ∘ Nat.succ) = fun i => (l[i]?.map p).getD false := by
      funext i
      simp
    rw [e1]
    simp only [List.getElem?_cons_zero, Option.map_some, Option.getD_some]
    by_cases q : p a = true
    · rw [if_pos q, List.filter_cons_of_pos q, List.map_cons, List.map_cons, List.map_map, ← ih]
      simp [Function.comp_def]
    · rw [if_neg q, List.filter_cons_of_neg q, List.map_map, ← ih]
      simp [Function.comp_def]
/-! ### a dict that is walked is locked -/
def lockD (D : Ends) (d : Addr) (u : HO) (od : Obj) : Ends where
  nx := fun σ H => H d = some (.frz od u) ∧ ∀ H2, H2 d = some u → (∀ b, b ≠ d → H2 b = H b) → D.nx σ H2
  rt := fun v H => H d = some (.frz od u) ∧ ∀ H2, H2 d = some u → (∀ b, b ≠ d → H2 b = H b) → D.rt v H2
  bk := fun σ H => H d = some (.frz od u) ∧ ∀ H2, H2 d = some u → (∀ b, b ≠ d → H2 b = H b) → D.bk σ H2
  ct := fun σ H => H d = some (.frz od u) ∧ ∀ H2, H2 d = some u → (∀ b, b ≠ d → H2 b = H b) → D.ct σ H2
theorem s_lock {X : Cx} {st : Stmt} {D : Ends} {σ : L2.St} {H : Hp} {d : Addr} {u : HO} (hd : H d = some u) (mu : Mut (some u)) (h : ∀ od H1, H1 d = some (.frz od u) → (∀ b, b ≠ d → H1 b = H b) → sW X st (lockD D d u od) σ H1) : sW X st D σ H :=
  sI (ps_lock PSw) ⟨d, u, hd, mu, fun od => ⟨fun pins s I => wpAny_mono ((h od _ upd_same fun b hb => upd_ne hb).run pins s I) (fun f s1 q => by
    cases f with
    | next => obtain ⟨σ', H', a, e, c⟩ := q; exact ⟨σ', H', a, e, c _ upd_same fun b hb => upd_ne hb⟩
    | brk => obtain ⟨σ', H', a, e, c⟩ := q; exact ⟨σ', H', a, e, c _ upd_same fun b hb => upd_ne hb⟩
    | cont => obtain ⟨σ', H', a, e, c⟩ := q; exact ⟨σ', H', a, e, c _ upd_same fun b hb => upd_ne hb⟩
    | ret v => obtain ⟨x, σ', H', a, r, e, c⟩ := q; exact ⟨x, σ', H', a, r, e, c _ upd_same fun b hb => upd_ne hb⟩) fun _ _ z => z⟩⟩
/-! ### words that want that a token was given out; replace -/
structure eT (X : Cx) (e : Expr) (σ : L2.St) (H : Hp) (Q : VK) : Prop where
  run : ∀ pins s, 1 ≤ s.toks → Inv X pins σ H s → wpAny (model X.prog X.w) X.A (eval e X.env) (EP X pins σ Q) X.xe s
structure aT (X : Cx) (es : List Expr) (σ : L2.St) (H : Hp) (Q : List V → Hp → Prop) : Prop where
  run : ∀ pos pins s, 1 ≤ s.toks → Inv X pins σ H s → wpAny (model X.prog X.w) X.A (spliced (backTo pos (starEach es X.env))) (AP X pins σ Q) X.xe s
section
variable {X : Cx} {σ : L2.St} {H : Hp} {Q : VK} {R : List V → Hp → Prop} {pos p2 apos : Pos} {a o : Expr} {es : List Expr} {c y z : Str} {j k : Nat} {c0 c1 : Pos}
theorem eT_of (h : eW X a σ H Q) : eT X a σ H Q := ⟨fun pins s _ I => h.run pins s I⟩
theorem aT_of (h : aW X es σ H R) : aT X es σ H R := ⟨fun pos pins s _ I => h.run pos pins s I⟩
theorem aT_cons (h : eT X a σ H fun x H1 => aT X es σ H1 fun xs H2 => R (x :: xs) H2) (hs : starEach (a :: es) X.env = (false, eval a X.env) :: starEach es X.env := by rfl) : aT X (a :: es) σ H R := ⟨fun pos pins s ht I => by
  rw [hs]
  show wpAny _ _ (spliced ((false, eval a X.env) :: backTo pos (starEach es X.env))) _ _ s
  exact Calls.spliced_cons (wpAny_mono (PySem.wpAny_toks (h.run pins s ht I)) (fun u s1 ⟨hk, x, H1, I1, r1, q1⟩ => wpAny_mono (q1.run pos pins s1 (Nat.le_trans ht hk) I1) (fun us s2 ⟨xs, H2, I2, r2, q2⟩ => ⟨x :: xs, H2, I2, .cons r1 r2, q2⟩) fun _ _ w => w) fun _ _ w => w.2)⟩
theorem a_binS {op : Operator} (h : eW X a σ H fun x H1 => oW X (binaryOp op) x (.str c) H1 fun v H2 => aT X es σ H2 fun xs H3 => R (v :: xs) H3)
    (hs : starEach (.BinOp a op (.Constant (.str c) j p2) pos :: es) X.env = (false, eval (.BinOp a op (.Constant (.str c) j p2) pos) X.env) :: starEach es X.env := by rfl) : aW X (.BinOp a op (.Constant (.str c) j p2) pos :: es) σ H R := ⟨fun pos2 pins s I => by
  rw [hs]
  show wpAny _ _ (spliced ((false, eval _ X.env) :: backTo pos2 (starEach es X.env))) _ _ s
  exact Calls.spliced_cons (wpAny_BinOp (thn (h.run pins s I) fun v s1 ⟨x, H1, I1, r1, q1⟩ => Calls.Constant_str (wpAny_mono (PySem.wpAny_toks (q1.run pins _ σ v _ (I1.tok (s1.toks + 1)) r1 ⟨s1.toks, rfl⟩)) (fun u s3 ⟨hk, w, H3, I3, r3, q3⟩ =>
    wpAny_mono (q3.run pos2 pins s3 (Nat.le_trans (Nat.le_add_left 1 _) hk) I3) (fun us s4 ⟨xs, H4, I4, r4, q4⟩ => ⟨w :: xs, H4, I4, .cons r3 r4, q4⟩) fun _ _ w => w) fun _ _ w => w.2)))⟩
theorem eT_repl (h : eW X o σ H fun v H1 => ∃ x, v = .str x ∧ x.length + (x.length + 1) * z.length ≤ 16777216 ∧ Q (.str (Txt.replace x y z)) H1) (hyz : (y == z) = false := by decide)
    (hst : starEach [.Constant (.str y) j c0, .Constant (.str z) k c1] X.env = [(false, eval (.Constant (.str y) j c0) X.env), (false, eval (.Constant (.str z) k c1) X.env)] := by rfl)
    (hbase : attributeBase o "replace" X.env (eval o X.env) = eval o X.env := by rfl) (hline : (apos.endLine == pos.line) = true := by rfl) : eT X (.Call (.Attribute o "replace" apos) [.Constant (.str y) j c0, .Constant (.str z) k c1] [] pos) σ H Q :=
  ⟨fun pins s ht I => CwR.pet_replC PEw hyz hst hbase hline pins s σ H Q ht I h⟩
theorem e_lower (h : eW X o σ H fun v H1 => ∃ x, v = .str x ∧ x.length ≤ 5592405 ∧ Q (.str (Txt.lower x)) H1) (hbase : attributeBase o "lower" X.env (eval o X.env) = eval o X.env := by rfl) (hline : (apos.endLine == pos.line) = true := by rfl) : eW X (.Call (.Attribute o "lower" apos) [] [] pos) σ H Q :=
  eI (pe_lower PEw hbase hline) (eMono h fun v H1 ⟨x, e, hz, q⟩ => ⟨⟨x, e⟩, x, e, rfl, hz, q⟩)
end
/-! ### the longer walk: what stands in a heap, found by itself -/
theorem _root_.L2.Same.none {G H : Hp} {p : Addr} (s : Same G H) (h : H p = Option.none) : G p = Option.none := by
  cases e : G p with
  | none => rfl
  | some o => rw [s _ _ e] at h; cases h
theorem Same.at' {G H : Hp} {p : Addr} {o : HO} (s : Same G H) (h : G p = some o) : H p = some o := s _ _ h
theorem Same.seq' {K : PySem.W.Frag} {G H : Hp} {a : Addr} {xs : List V} (s : Same G H) (h : SqL K G a xs) : SqL K H a xs := s.seq h
theorem Same.seqT' {K : PySem.W.Frag} {G H : Hp} {a : Addr} {xs : List V} (s : Same G H) (h : SqT K G a xs) : SqT K H a xs := sq_more s h
theorem Same.th' {K : PySem.W.Frag} {G H : Hp} {v : V} {d : PyData} (s : Same G H) (h : Th K G v d) : Th K H v d := Th.more s d v h
theorem Same.thA' {K : PySem.W.Frag} {G H : Hp} {v : List V} {d : List PyData} (s : Same G H) (h : ThAll K G v d) : ThAll K H v d := ThAll.more s d v h
theorem Same.tr' {F G H : Hp} (s : Same G H) (h : Same F G) : Same F H := h.trans s
mutual
theorem Th.dp {K : PySem.W.Frag} {H : Hp} : ∀ (d : PyData) (v : V), Th K H v d → d.canLay0 = true → Dp K H v d
  | .none, _, h, _ => by cases h; exact .non
  | .bool _, _, h, _ => by cases h; exact .bl _
  | .int _, _, h, _ => by cases h; exact .int _
  | .str _, _, h, _ => by cases h; exact .str _
  | .list ds, _, h, c => by cases h with | lst hs ha => exact .lst hs (ThAll.dp ds _ ha c)
  | .tuple ds, _, h, c => by cases h with | tup hs ha => exact .tup hs (ThAll.dp ds _ ha c)
  | .dict _, _, _, c => by cases c
theorem ThAll.dp {K : PySem.W.Frag} {H : Hp} : ∀ (ds : List PyData) (vs : List V), ThAll K H vs ds → PyData.canLayAll0 ds = true → DpAll K H vs ds
  | [], _, h, _ => by cases h; exact .nil
  | d :: ds, _, h, c => by
    have c2 : (d.canLay0 && PyData.canLayAll0 ds) = true := c
    rw [Bool.and_eq_true] at c2
    cases h with | cons h1 h2 => exact .cons (Th.dp d _ h1 c2.1) (ThAll.dp ds _ h2 c2.2)
end
theorem Th.dpS {K : PySem.W.Frag} {H : Hp} {k : Nat} {d : PyData} {v : V} (h : Th K H v d) (s : Sh k d) : Dp K H v d := Th.dp d v h s.can
theorem vals_signs : ∀ (cs : List Nat) (vs : List Value), vs.length = cs.length → (∀ (j : Nat) (v : Value), vs[j]? = some v → ∃ c u, cs[j]? = some c ∧ v = Value.str ⟨#[c]⟩ u) → Vals (cs.map fun c => V.str ⟨#[c]⟩) vs
  | [], [], _, _ => .nil
  | c :: cs, v :: vs, h, k => by
    obtain ⟨c', u, e1, e2⟩ := k 0 v rfl
    cases e1
    exact .cons ⟨u, e2⟩ (vals_signs cs vs (by simpa using h) fun j w e => by simpa using k (j + 1) w (by simpa using e))
  | [], _ :: _, h, _ => by simp at h
  | _ :: _, [], h, _ => by simp at h
/-- list(s), s a text -/
theorem k_listS {X : Cx} {H : Hp} {Q : VK} {z : Str} [cc : CxC X] (hz : z.length ≤ 100000) (q : ∀ l H2, Same H H2 → H l = none → H2 l = some (.lst ((tl z).map fun c => V.str ⟨#[c]⟩)) → (∀ b, b ≠ l → H2 b = H b) → Q (.ref l) H2) : kW X (.type "list") [.str z] H Q := ⟨fun pins s σ us I r => by
  obtain ⟨u, rfl, rx⟩ := vals1 r
  obtain ⟨t, rfl⟩ := rx
  have hz2 : z.cps.size ≤ sizeLine := Nat.le_trans (show z.length ≤ 100000 from hz) (by decide)
  refine PySem.call_list_str (I.ok.hd cc.h) z t (fun h' tk acc' c' k e hit => ?_) hz2
  have hn := I.hok.fresh (Nat.le_refl s.heap.objs.size)
  refine ⟨.ref _, upd H s.heap.objs.size (.lst ((tl z).map fun c => V.str ⟨#[c]⟩)), I.laid (t' := tk) k (Nat.le_refl _) ⟨?_, acc'.toList, c', vals_signs _ _ ?_ fun j v hv => ?_, by simpa using e⟩, rfl, q _ _ (sameU hn) hn upd_same fun b hb => upd_ne hb⟩
  · rw [List.length_map]; exact hz2
  · rw [Array.length_toList, hit.1]
    rfl
  · obtain ⟨c, u, q1, q2⟩ := hit.2 j v (by simpa using hv)
    exact ⟨c, u, by simpa [tl] using q1, q2⟩⟩
/-! ### enumerate over a tuple, over a text -/
section
open PySem.Builtin PySem.W
set_option maxHeartbeats 2000000 in
theorem meets_enum1 {v : Value} {o : Obj} {H : Heap → Prop} (B : Begins v o H) :
    Meets (Builtin.«enumerate.__new__» ⟨[.type "enumerate", v], []⟩) (fun _ R s => H s.heap ∧
      R (.ok (.ret (.ref (s.heap.push o).objs.size))) { s with heap := (s.heap.push o).push { cls := .type "enumerate", data := .fields #[.none, .bool false, .ref s.heap.objs.size, rawInt 0, .none, .none] } }) :=
  .of_wp fun prog w A R s h => by
    obtain ⟨hp, g, d, tk, os⟩ := s; obtain ⟨h1, h⟩ := h
    have hsub := sub_enumerate
    have q1 : ∀ {A' : Around} {E : Value → Shared → Prop} {Q : Value → Shared → Prop}, Q (.ref hp.objs.size) ⟨hp.push o, g, d, tk, os⟩ → wpAny (model prog w) A' (pyIter v) Q E ⟨hp, g, d, tk, os⟩ :=
      fun q => B.iter prog w _ _ ⟨hp, g, d, tk, os⟩ _ h1 q
    wp_walk using q1
    refine wpAny_stack_any fun st => wpAny_pure ?_
    split
    · rename_i c _ _ _ _ _
      cases (c == Value.type "enumerate")
      · wp_walk using q1
        exact ⟨_, rfl, h⟩
      · wp_walk using q1
        exact ⟨_, rfl, h⟩
    · wp_walk using q1
      exact ⟨_, rfl, h⟩
theorem enum_begins1 {prog : Program} {w : World} {A : Around} {E : Value → Shared → Prop} {s : Shared} {v : Value} {o : Obj} {H : Heap → Prop} {Q : Value → Shared → Prop} (B : Begins v o H) (h1 : H s.heap)
    (h : ∀ h', IsEnum h' (s.heap.objs.size + 1) s.heap.objs.size 0 .none → h'.get? s.heap.objs.size = some o → h'.objs.size = s.heap.objs.size + 2 →
      (∀ b o, s.heap.get? b = some o → h'.get? b = some o) → Q (.ref (s.heap.objs.size + 1)) { s with heap := h' }) :
    wpAny (model prog w) A (call (.type "enumerate") [v]) Q E s := by
  refine callType_new F.called_enumerate (by decide) (F.typeCall_enumerate_1 _) (F.newCall_enumerate_1 _) (fun obj => F.args_object_init_2 obj _) F.entry_enumerate_new
    (meets_enum1 B) ⟨h1, ?_⟩
  have hz : (s.heap.push o).objs.size = s.heap.objs.size + 1 := Heap.size_push ..
  show _ ∧ _
  rw [hz]
  have he : IsEnum ((s.heap.push o).push { cls := .type "enumerate", data := .fields #[.none, .bool false, .ref s.heap.objs.size, rawInt 0, .none, .none] }) (s.heap.objs.size + 1) s.heap.objs.size 0 .none := by
    have := Heap.get?_push_size (s.heap.push o) (o := { cls := .type "enumerate", data := .fields #[.none, .bool false, .ref s.heap.objs.size, rawInt 0, .none, .none] }) rfl
    rw [hz] at this; exact this
  refine ⟨⟨_, he, rfl⟩, h _ he (Heap.get?_push_of_some _ (Heap.get?_push_size _ B.free)) (by rw [Heap.size_push, hz]) fun b o x => Heap.get?_push_of_some _ (Heap.get?_push_of_some _ x)⟩
def IteT (K : PySem.W.Frag) (a : Addr) : It :=
  ⟨fun i H => ∃ (xs : List V) (x : V), SqT K H a xs ∧ xs[i]? = some x, fun i H v H' => ∃ T x, v = .ref T ∧ H T = none ∧ H' = upd H T (.tup [.int (i : Nat), x]) ∧ ∀ xs, SqT K H a xs → xs[i]? = some x, fun i H => ∃ xs : List V, SqT K H a xs ∧ xs.length = i⟩
def IteS (z : Str) : It :=
  ⟨fun i _ => i < z.cps.size, fun i H v H' => ∃ T c, v = .ref T ∧ H T = none ∧ H' = upd H T (.tup [.int (i : Nat), .str ⟨#[c]⟩]) ∧ z.cps[i]? = some c, fun i _ => i = z.cps.size⟩
theorem enum_turn {X : Cx} {pins : List (Addr × Obj)} {s : Shared} {σ : L2.St} {H : Hp} {E : Value → Shared → Prop} {elts : List Expr} {kk : Nat} {tpos : Pos} {e it : Addr} {fp : List Addr} {n i : Nat} {Pu : Nat → Value → Prop} {St : Nat → Heap → Prop} {PV : V → Prop} {old : Value}
    (I : Inv X pins σ H s) (hf : ∀ b ∈ [e, it], FpOk X pins H b) (D : Draws X.prog X.w X.A.in1 it fp n Pu St) (he : IsEnum s.heap e it ((i : Nat) : Int) old) (hst : St i s.heap) (hlt : i < n) (hne : e ≠ it) (hef : e ∉ fp)
    (hPV : ∀ u, Pu i u → ∃ x, RelV x u ∧ PV x) :
    wpAny (model X.prog X.w) X.A (pyNext (.ref e)) (fun r s1 => ∃ u, r = some u ∧ wpAny (model X.prog X.w) X.A (letOwnedTupleGo (.Tuple elts kk tpos) (.ref e) u) (fun _ s2 => ∃ x H', Inv X pins σ H' s2 ∧ RelV x u ∧
      (∃ T y, x = .ref T ∧ H T = none ∧ H' = upd H T (.tup [.int (i : Nat), y]) ∧ PV y) ∧ ((∃ old, IsEnum s2.heap e it ((i + 1 : Nat) : Int) old) ∧ St (i + 1) s2.heap) ∧ ∀ b ∈ [e, it], H' b = none) E s1) E s := by
  have hel : e < s.heap.objs.size := Heap.lt_size he
  have hil : it < s.heap.objs.size := by obtain ⟨_, q⟩ := D.live _ _ hst; exact Heap.lt_size q
  refine wpAny_pyNext_enum_itemD D he hst hlt hne hef fun u h' tk hPu ho hst' hT hsz hk => ?_
  obtain ⟨x, ru, px⟩ := hPV u hPu
  refine ⟨_, rfl, wpAny_letOwnedTupleGo_enum (s := { s with heap := h', toks := tk + 1 }) ho fun h'' he' sb => ?_⟩
  have hT2 : h''.get? s.heap.objs.size = some { cls := .type "tuple", data := .seq #[.int i tk, u] } := (sb.2 _ (Nat.ne_of_gt hel)).trans hT
  have new : ObjOk X.prog X.w (upd H s.heap.objs.size (.tup [.int (i : Nat), x])) h'' s.heap.objs.size (.tup [.int (i : Nat), x]) :=
    ⟨by show 2 ≤ sizeLine; decide, [.int i tk, u], .cons ⟨_, rfl⟩ (.cons ru .nil), ⟨_, hT2, rfl, _, rfl⟩⟩
  have I1 : Inv X pins σ (upd H s.heap.objs.size (.tup [.int (i : Nat), x])) { s with heap := h'', toks := tk + 1 } :=
    I.turnedNew (ch := [e, it]) (fun b ob hb q => (sb.2 b (fun z => hb (by simp [z]))).trans (hk b ob (fun z => hb (by simp [z])) (fun z => hb (by simp [z])) q)) hf (Nat.le_refl _) new
  refine ⟨.ref s.heap.objs.size, _, I1, rfl, ⟨_, x, rfl, I.hok.fresh (Nat.le_refl _), rfl, px⟩, ⟨⟨u, ?_⟩, D.frame _ _ _ hst' fun b hb o q => (sb.2 b fun z => hef (z ▸ hb)).trans q⟩, fun b hb => ?_⟩
  · have e1 : ((i + 1 : Nat) : Int) = (i : Int) + 1 := by omega
    rw [e1]; exact he'
  · have hb' : b < s.heap.objs.size := by
      have e' : b = e ∨ b = it := by simpa using hb
      rcases e' with z | z
      · rw [z]; exact hel
      · rw [z]; exact hil
    rw [upd_ne (Nat.ne_of_lt hb')]
    exact (hf b hb).1
theorem turn_enumT {P : Program} {w : World} {K : PySem.W.Frag} {elts : List Expr} {kk : Nat} {tpos : Pos} (a e it : Addr) :
    Turn P w K (.Tuple elts kk tpos) (IteT K a) [e, it] e (fun i h => (∃ old, IsEnum h e it ((i : Nat) : Int) old) ∧ h.IsTupleIter it a i ∧ e ≠ it ∧ a ≠ it ∧ a ≠ e) where
  mem := by simp
  obj := fun i h st b hb => by
    obtain ⟨⟨old, he⟩, ⟨o, ho, hc, hd⟩, _⟩ := st
    have e' : b = e ∨ b = it := by simpa using hb
    rcases e' with z | z
    · rw [z]; exact ⟨_, he, fun v q => nomatch q⟩
    · rw [z]; exact ⟨o, ho, fun v q => by rw [hd] at q; cases q⟩
  keep := fun i h h' st k => let ⟨⟨old, he⟩, hi, hne⟩ := st; ⟨⟨old, k e (by simp) _ he⟩, hi.at fun o q => k it (by simp) o q, hne⟩
  item := by
    intro X hP hw hK hc i pins s σ H E I hf st hg
    subst hP hw hK
    obtain ⟨⟨old, he⟩, hit, hne, hai, hae⟩ := st
    obtain ⟨xs, x, hq, hx⟩ := hg
    obtain ⟨its, rv, p, hz⟩ := I.tuple hq
    obtain ⟨u, hu, ru⟩ := rv.get hx
    have hli : i < its.toArray.size := by
      have := (List.getElem?_eq_some_iff.mp hu).1
      simpa using this
    refine wpAny_mono (enum_turn (PV := fun y => ∀ xs, SqT X.K H a xs → xs[i]? = some y) I hf (Draws.tuple (A := X.A.in1) (show X.A.in1.handled = Option.none from I.ok.hd hc) it a hai its.toArray) he ⟨hit, p⟩ hli hne (by simp only [List.mem_cons, List.not_mem_nil, or_false, not_or]; exact ⟨hne, hae.symm⟩) fun u' hu' => ?_) (fun r s1 ⟨u1, e1, h1⟩ => ⟨u1, e1, wpAny_mono h1 (fun _ s2 ⟨x2, H', I2, r2, y2, ⟨q1, q2, _⟩, q3⟩ => ⟨x2, H', I2, r2, y2, ⟨q1, q2, hne, hai, hae⟩, q3⟩) fun _ _ z => z⟩) fun _ _ z => z
    have e2 : u' = u := by
      have hu' : its.toArray[i]? = some u' := hu'
      rw [List.getElem?_toArray, hu] at hu'
      exact (Option.some.inj hu').symm
    subst e2
    exact ⟨x, ru, fun ys hy => by rw [I.tuple_inj hy hq]; exact hx⟩
  done := by
    intro X hP hw hK hc i pins s σ H E I hf st hg
    subst hP hw hK
    obtain ⟨⟨old, he⟩, hit, hne, hai, hae⟩ := st
    obtain ⟨xs, hq, hx⟩ := hg
    obtain ⟨its, rv, p, hz⟩ := I.tuple hq
    obtain ⟨f0, f1, f2, f3, f4, f5⟩ := hf it (by simp)
    have hl := rv.length
    refine wpAny_pyNext_enum_endD (Draws.tuple (A := X.A.in1) (show X.A.in1.handled = Option.none from I.ok.hd hc) it a hai its.toArray) he (St := fun i h => h.IsTupleIter it a i ∧ h.IsTuple a its.toArray) ⟨?_, p⟩ fun h' eb => ⟨rfl, I.turned (t' := s.toks) (fun b o hb q => eb b o hb q) f0 f1 f3 f4 f5⟩
    rw [List.size_toArray, ← hl, hx]
    exact hit
  self := fun A i s Q E st h => let ⟨⟨_, he⟩, _⟩ := st; wpAny_pyIter_enum he h
theorem j_enumT {X : Cx} {σ : L2.St} {H : Hp} {R : It → Hp → Prop} {a : Expr} {p2 p3 pos : Pos} {mg : Str → Option Value} {elts : List Expr} {kk : Nat} [cm : CxM X mg] [g : Gn mg "enumerate" none] (h : eW X a σ H fun v H1 => ∃ (p : Addr) (xs : List V), v = .ref p ∧ SqT X.K H1 p xs ∧ R (IteT X.K p) H1) (hg : Gl X "enumerate" := by rfl) (hs : starEach [a] X.env = (false, eval a X.env) :: starEach [] X.env := by rfl) :
    jW X (.Tuple elts kk p3) (.Call (.Name "enumerate" p2) [a] [] pos) σ H R := ⟨fun pins s I => by
  have hm : X.mg "enumerate" = none := by rw [cm.h]; exact g.h
  refine Call_ (ld_blt I hg hm boot_enumerate (PyProof.Rows.callWith_type1 (args_cons (thn (h.run pins s I) fun u s1 ⟨v, H1, I1, r1, q1⟩ => args_nil ?_) hs) hs rfl))
  obtain ⟨p, xs, ev, hq, q⟩ := q1
  subst ev
  obtain rfl : u = Value.ref p := r1
  obtain ⟨its, rv, p', hz⟩ := I1.tuple hq
  refine enum_begins1 (begins_tuple p its.toArray) p' fun h' he hit hsz hk => wpAny_pyIter_enum he ?_
  have I2 : Inv X pins σ H1 { s1 with heap := h' } := I1.kept (t' := s1.toks) hk
  have hpl : p < s1.heap.objs.size := by obtain ⟨o, ho, _⟩ := p'; exact Heap.lt_size ho
  refine ⟨s1.heap.objs.size + 1, [s1.heap.objs.size + 1, s1.heap.objs.size], _, _, H1, rfl, I2, turn_enumT p (s1.heap.objs.size + 1) s1.heap.objs.size, ⟨⟨.none, he⟩, ⟨_, hit, rfl, rfl⟩, Nat.succ_ne_self _, Nat.ne_of_lt hpl, Nat.ne_of_lt (Nat.lt_succ_of_lt hpl)⟩, fun b hb => ?_, q⟩
  have e' : b = s1.heap.objs.size + 1 ∨ b = s1.heap.objs.size := by simpa using hb
  have hle : s1.heap.objs.size ≤ b := by
    rcases e' with z | z
    · rw [z]; exact Nat.le_add_right _ _
    · rw [z]; exact Nat.le_refl _
  exact I1.fpOk hle (I1.hok.fresh hle)⟩
theorem walk_enumT {K : PySem.W.Frag} {a : Addr} {xs : List V} : Walk (IteT K a) xs.length (fun H => SqT K H a xs) (fun i H v H' => ∃ T x, v = .ref T ∧ H T = none ∧ H' = upd H T (.tup [.int (i : Nat), x]) ∧ xs[i]? = some x) :=
  ⟨fun i _ hi q => ⟨xs, xs[i], q, by simp [hi]⟩, fun _ q => ⟨xs, q, rfl⟩, fun _ _ _ _ _ q ⟨T, x, e1, e2, e3, e4⟩ => ⟨T, x, e1, e2, e3, e4 xs q⟩⟩
theorem walk_enumL {K : PySem.W.Frag} {a : Addr} {xs : List V} : Walk (Ite K a) xs.length (fun H => SqL K H a xs) (fun i H v H' => ∃ T x, v = .ref T ∧ H T = none ∧ H' = upd H T (.tup [.int (i : Nat), x]) ∧ xs[i]? = some x) :=
  ⟨fun i _ hi q => ⟨xs, xs[i], q, by simp [hi]⟩, fun _ q => ⟨xs, q, Nat.le_refl _⟩, fun _ _ _ _ _ q ⟨T, x, e1, e2, e3, e4⟩ => ⟨T, x, e1, e2, e3, e4 xs q⟩⟩
theorem turn_enumS {P : Program} {w : World} {K : PySem.W.Frag} {elts : List Expr} {kk : Nat} {tpos : Pos} (z : Str) (t : Tok) (e it : Addr) :
    Turn P w K (.Tuple elts kk tpos) (IteS z) [e, it] e (fun i h => (∃ old, IsEnum h e it ((i : Nat) : Int) old) ∧ h.IsStrIter it (strIterType z) z t i ∧ e ≠ it) where
  mem := by simp
  obj := fun i h st b hb => by
    obtain ⟨⟨old, he⟩, ⟨o, ho, hc, hd⟩, _⟩ := st
    have e' : b = e ∨ b = it := by simpa using hb
    rcases e' with z | z
    · rw [z]; exact ⟨_, he, fun v q => nomatch q⟩
    · rw [z]; exact ⟨o, ho, fun v q => by rw [hd] at q; cases q⟩
  keep := fun i h h' st k => let ⟨⟨old, he⟩, ⟨o, ho, r⟩, hne⟩ := st; ⟨⟨old, k e (by simp) _ he⟩, ⟨o, k it (by simp) o ho, r⟩, hne⟩
  item := by
    intro X hP hw hK hc i pins s σ H E I hf st hg
    subst hP hw hK
    obtain ⟨⟨old, he⟩, hit, hne⟩ := st
    have hg : i < z.cps.size := hg
    refine wpAny_mono (enum_turn (PV := fun y => ∃ c, z.cps[i]? = some c ∧ y = V.str ⟨#[c]⟩) I hf (Draws.text (A := X.A.in1) (show X.A.in1.handled = Option.none from I.ok.hd hc) it z t) he hit hg hne (by simp only [List.mem_cons, List.not_mem_nil, or_false]; exact hne) fun u' hu' => ?_) (fun r s1 ⟨u1, e1, h1⟩ => ⟨u1, e1, wpAny_mono h1 (fun _ s2 ⟨x2, H', I2, r2, ⟨T, y, y1, y2, y3, c, y4, y5⟩, ⟨q1, q2⟩, q3⟩ => ⟨x2, H', I2, r2, ⟨T, c, y1, y2, by rw [y3, y5], y4⟩, ⟨q1, q2, hne⟩, q3⟩) fun _ _ z => z⟩) fun _ _ z => z
    obtain ⟨c, u, q1, rfl⟩ := hu'
    exact ⟨.str ⟨#[c]⟩, ⟨u, rfl⟩, c, q1, rfl⟩
  done := by
    intro X hP hw hK hc i pins s σ H E I hf st hg
    subst hP hw hK
    obtain ⟨⟨old, he⟩, hit, hne⟩ := st
    have hg : i = z.cps.size := hg
    obtain ⟨f0, f1, f2, f3, f4, f5⟩ := hf it (by simp)
    exact wpAny_pyNext_enum_endD (Draws.text (A := X.A.in1) (show X.A.in1.handled = Option.none from I.ok.hd hc) it z t) he (by rw [← hg]; exact hit) fun h' eb => ⟨rfl, I.turned (t' := s.toks) (fun b o hb q => eb b o hb q) f0 f1 f3 f4 f5⟩
  self := fun A i s Q E st h => let ⟨⟨_, he⟩, _⟩ := st; wpAny_pyIter_enum he h
theorem j_enumS {X : Cx} {σ : L2.St} {H : Hp} {R : It → Hp → Prop} {a : Expr} {p2 p3 pos : Pos} {mg : Str → Option Value} {elts : List Expr} {kk : Nat} [cm : CxM X mg] [g : Gn mg "enumerate" none] (h : eW X a σ H fun v H1 => ∃ (z : Str), v = .str z ∧ R (IteS z) H1) (hg : Gl X "enumerate" := by rfl) (hs : starEach [a] X.env = (false, eval a X.env) :: starEach [] X.env := by rfl) :
    jW X (.Tuple elts kk p3) (.Call (.Name "enumerate" p2) [a] [] pos) σ H R := ⟨fun pins s I => by
  have hm : X.mg "enumerate" = none := by rw [cm.h]; exact g.h
  refine Call_ (ld_blt I hg hm boot_enumerate (PyProof.Rows.callWith_type1 (args_cons (thn (h.run pins s I) fun u s1 ⟨v, H1, I1, r1, q1⟩ => args_nil ?_) hs) hs rfl))
  obtain ⟨z, ev, q⟩ := q1
  subst ev
  obtain ⟨t, rfl⟩ := r1
  refine enum_begins1 (begins_text z t) trivial fun h' he hit hsz hk => wpAny_pyIter_enum he ?_
  have I2 : Inv X pins σ H1 { s1 with heap := h' } := I1.kept (t' := s1.toks) hk
  refine ⟨s1.heap.objs.size + 1, [s1.heap.objs.size + 1, s1.heap.objs.size], _, _, H1, rfl, I2, turn_enumS z t (s1.heap.objs.size + 1) s1.heap.objs.size, ⟨⟨.none, he⟩, ⟨_, hit, rfl, rfl⟩, Nat.succ_ne_self _⟩, fun b hb => ?_, q⟩
  have e' : b = s1.heap.objs.size + 1 ∨ b = s1.heap.objs.size := by simpa using hb
  have hle : s1.heap.objs.size ≤ b := by
    rcases e' with z | z
    · rw [z]; exact Nat.le_add_right _ _
    · rw [z]; exact Nat.le_refl _
  exact I1.fpOk hle (I1.hok.fresh hle)⟩
theorem walk_enumS {z : Str} : Walk (IteS z) z.cps.size (fun _ => True) (fun i H v H' => ∃ T c, v = .ref T ∧ H T = none ∧ H' = upd H T (.tup [.int (i : Nat), .str ⟨#[c]⟩]) ∧ z.cps[i]? = some c) :=
  ⟨fun i _ hi _ => hi, fun _ _ => rfl, fun _ _ _ _ _ _ y => y⟩
end
/-! ### a part's first sign -/
def isSg (p : Str) : Bool := (tl p).head? == some 39
section
variable {X : Cx} {σ : L2.St} {H : Hp} {R : Bool → Hp → Prop} {p1 p2 p3 p4 : Pos} {e : Expr} {j1 j2 : Nat}
theorem isq (a : Nat) : decide ((⟨#[a]⟩ : Str) = Str.ofString "'") = decide (a = 39) := decide_eq_decide.mpr (by
  have h : tl (Str.ofString "'") = [39] := by decide +kernel
  constructor
  · intro e
    have : tl (⟨#[a]⟩ : Str) = [39] := by rw [e, h]
    exact (List.cons.inj this).1
  · intro e
    exact ext_tl (by rw [h, e]))
theorem isq_sg {p : Str} {c : Nat} {l : List Nat} (h : tl p = c :: l) : isSg p = decide (c = 39) := by
  unfold isSg
  rw [h]
  show (some c == some 39) = _
  by_cases q : c = 39
  · rw [q]; rfl
  · rw [decide_eq_false q]; simp [q]
theorem o_sgN {p : Str} {c : Nat} {l : List Nat} (h : tl p = c :: l) {Q : VK} (q : Q (.bl (!isSg p)) H) : oW X (compareOp .NotEq) (.str ⟨#[c]⟩) (.str (Str.ofString "'")) H Q := o_neS (by rw [isq, ← isq_sg h]; exact q)
theorem o_sgE {p : Str} {c : Nat} {l : List Nat} (h : tl p = c :: l) {Q : VK} (q : Q (.bl (isSg p)) H) : oW X (compareOp .Eq) (.str ⟨#[c]⟩) (.str (Str.ofString "'")) H Q := o_eqS (by rw [isq, ← isq_sg h]; exact q)
/-- e[0] != "'" -/
theorem t_sg (h : eW X e σ H fun x H1 => ∃ p, x = .str p ∧ ((∃ c l, tl p = c :: l) ∧ p.length ≤ 1000000) ∧ R (!isSg p) H1) : tW X (.Compare (.Subscript e (.Constant (.int 0) j1 p1) p2) [.NotEq] [.Constant (.str (Str.ofString "'")) j2 p3] p4) σ H R :=
  t_cmp (e_ix (eMono h fun x H1 ⟨p, ex, ⟨⟨c, l, hc⟩, hl⟩, q⟩ => by
    subst ex
    exact e_int (i_str (sz1m hl) (c := c) (by rw [show p.cps.toList = c :: l from hc]; exact atI_nat (by decide) rfl) (e_str (o_sgN hc ⟨_, rfl, q⟩)))))
theorem t_sgE (h : eW X e σ H fun x H1 => ∃ p, x = .str p ∧ ((∃ c l, tl p = c :: l) ∧ p.length ≤ 1000000) ∧ R (isSg p) H1) : tW X (.Compare (.Subscript e (.Constant (.int 0) j1 p1) p2) [.Eq] [.Constant (.str (Str.ofString "'")) j2 p3] p4) σ H R :=
  t_cmp (e_ix (eMono h fun x H1 ⟨p, ex, ⟨⟨c, l, hc⟩, hl⟩, q⟩ => by
    subst ex
    exact e_int (i_str (sz1m hl) (c := c) (by rw [show p.cps.toList = c :: l from hc]; exact atI_nat (by decide) rfl) (e_str (o_sgE hc ⟨_, rfl, q⟩)))))
end
/-! ### dicts by values: what stands at a key -/
theorem subTail {M : Model} {A : Around} {E : Value → Shared → Prop} {s : Shared} {prog : Program} {w : World} {value slice : Expr} {o i : Value} {T id : String} {Q : Value → Shared → Prop} (hT : s.TypeIs o T)
    (hl : typeLookup (.type T) "__getitem__" = pure (some (.builtin id))) (h : wpAny (model prog w) A (getItem o i) Q E s)
    (hs : subscripted slice false o i = operate [o, i] (getItem o i)) : wpAny (model prog w) A (subscriptTail value slice o i) Q E s := by
  unfold subscriptTail
  refine wpAny_bind ?_
  rw [getitemInPython_of_ne hT.not_modules]
  refine wpAny_bind (wpAny_specialOf hT hl ?_)
  have fin : wpAny (model prog w) A (subscripted slice false o i) (fun r s₃ => wpAny (model prog w) A (letTemporaryGo value o r >>= fun _ => pure r) Q E s₃) E s := by
    rw [hs]
    exact wpAny_operating (wpAny_mono h (fun r s₃ h₃ => wpAny_bind (wpAny_letTemporaryGo (wpAny_pure h₃))) fun _ _ x => x)
  first
    | exact wpAny_pure (wpAny_bind fin)
    | exact wpAny_bind (wpAny_pure (wpAny_bind fin))
    | exact wpAny_bind fin
section
variable {X : Cx} {σ : L2.St} {H : Hp} {Q : VK} {a b : Addr} {y v : V} {r : Option V} {pos p2 apos : Pos} {o e f : Expr}
theorem i_dget (hu : X.A.units + 1 < cLine) (g : DGet H a y (some v)) (q : Q v H) : iW X (.ref a) y H Q := ⟨fun value slice pins s σ u' u I rx ry hs => by
  obtain rfl : u' = Value.ref a := rx
  exact subTail (M := model X.prog X.w) (dict_typeIs I g) PySem.F.slot_dict_getitem.lookup (d_getItem hu I g ry fun w' s3 I3 rw' => ⟨v, H, I3, rw', q⟩) hs⟩
theorem o_din (hu : X.A.units + 1 < cLine) (g : DGet H a y r) (q : Q (.bl r.isSome) H) : oW X (compareOp .In) y (.ref a) H Q := ⟨fun pins s σ u u' I ry rx => by
  obtain rfl : u' = Value.ref a := rx
  exact d_in hu I g ry fun s3 I3 => ⟨.bl r.isSome, H, I3, rfl, q⟩⟩
theorem o_dni (hu : X.A.units + 1 < cLine) (g : DGet H a y r) (q : Q (.bl (!r.isSome)) H) : oW X (compareOp .NotIn) y (.ref a) H Q := ⟨fun pins s σ u u' I ry rx => by
  obtain rfl : u' = Value.ref a := rx
  exact d_notIn hu I g ry fun s3 I3 => ⟨.bl (!r.isSome), H, I3, rfl, q⟩⟩
theorem e_dget1 (hu : X.A.units + 1 < cLine) (h : eW X o σ H fun x H1 => ∃ a, x = .ref a ∧ IsD H1 a ∧ eW X e σ H1 fun y H2 => ∃ r, DGet H2 a y r ∧ Q (r.getD .non) H2) (hb : attributeBase o "get" X.env (eval o X.env) = eval o X.env := by rfl)
    (hf : ((backTo pos (starEach [e] X.env)).all (fun x => !x.1) && (backToKw pos (keywordEach [] X.env)).all (fun x => x.1.isSome) && decide (([e] : List Expr).length + ([] : List Keyword).length + (if ([] : List Keyword).isEmpty then 0 else 1) < 30)) = true := by rfl)
    (hl : (apos.endLine == pos.line) = true := by rfl) (ht : backTo pos (starEach [e] X.env) = [(false, eval e X.env)] := by rfl) : eW X (.Call (.Attribute o "get" apos) [e] [] pos) σ H Q := eI (pe_dget1 hu PEw PEw ⟨hb, hf, hl, ht⟩) h
theorem e_dget2 (hu : X.A.units + 1 < cLine) (h : eW X o σ H fun x H1 => ∃ a, x = .ref a ∧ IsD H1 a ∧ eW X e σ H1 fun y H2 => eW X f σ H2 fun z H3 => ∃ r, DGet H3 a y r ∧ Q (r.getD z) H3) (hb : attributeBase o "get" X.env (eval o X.env) = eval o X.env := by rfl)
    (hf : ((backTo pos (starEach [e, f] X.env)).all (fun x => !x.1) && (backToKw pos (keywordEach [] X.env)).all (fun x => x.1.isSome) && decide (([e, f] : List Expr).length + ([] : List Keyword).length + (if ([] : List Keyword).isEmpty then 0 else 1) < 30)) = true := by rfl)
    (hl : (apos.endLine == pos.line) = true := by rfl) (ht : backTo pos (starEach [e, f] X.env) = [(false, eval e X.env), (false, eval f X.env)] := by rfl) : eW X (.Call (.Attribute o "get" apos) [e, f] [] pos) σ H Q := eI (pe_dget2 hu PEw PEw PEw ⟨hb, hf, hl, ht⟩) h
theorem e_dsetd (h : eW X o σ H fun x H1 => ∃ a, x = .ref a ∧ IsD H1 a ∧ eW X e σ H1 fun y H2 => eW X f σ H2 fun z H3 => ∃ (kvs : List (Key × V)) (k : Key), H3 a = some (.dK kvs) ∧ y = kV k ∧ kvs.length ≤ 100000 ∧ (∀ v, valV kvs k = some v → Q v H3) ∧ (valV kvs k = none → ∀ H4, H4 a = some (.dK (putK kvs k z)) → (∀ b, b ≠ a → H4 b = H3 b) → Q z H4)) (hb : attributeBase o "setdefault" X.env (eval o X.env) = eval o X.env := by rfl)
    (hf : ((backTo pos (starEach [e, f] X.env)).all (fun x => !x.1) && (backToKw pos (keywordEach [] X.env)).all (fun x => x.1.isSome) && decide (([e, f] : List Expr).length + ([] : List Keyword).length + (if ([] : List Keyword).isEmpty then 0 else 1) < 30)) = true := by rfl)
    (hl : (apos.endLine == pos.line) = true := by rfl) (ht : backTo pos (starEach [e, f] X.env) = [(false, eval e X.env), (false, eval f X.env)] := by rfl) : eW X (.Call (.Attribute o "setdefault" apos) [e, f] [] pos) σ H Q :=
  eI (pe_dsetd PEw PEw PEw ⟨hb, hf, hl, ht⟩) (eMono h fun x H1 ⟨a, ea, d, h1⟩ => ⟨a, ea, d, eMono h1 fun y H2 h2 => eMono h2 fun z H3 ⟨kvs, k, e1, e2, e3, q1, q2⟩ => ⟨kvs, k, e1, e2, Nat.lt_of_le_of_lt e3 (by decide), q1, fun hn => q2 hn _ upd_same fun b hb => upd_ne hb⟩⟩)
/-- o[i] = v, o a dict whose keys are tuples -/
theorem g_setT {i : Expr} {R : L2.St → Hp → Prop} (hu : X.A.units + 1 < cLine) (h : eW X o σ H fun x H1 => eW X i σ H1 fun y H2 => ∃ (d : Addr) (kvs : List (List Key × V)) (k : List Key) (b : Addr), x = .ref d ∧ H2 d = some (.dT kvs) ∧ y = .ref b ∧ H2 b = some (.tup (k.map kV)) ∧ kvs.length ≤ 10000000 ∧ ∀ H3, H3 d = some (.dT (putK kvs k v)) → (∀ b, b ≠ d → H3 b = H2 b) → R σ H3)
    (ha : ∀ v, assign (.Subscript o i pos) X.env v = (holding [v] (eval o X.env) >>= fun ov => holding [v, ov] (eval i X.env) >>= fun iv => standAt pos >>= fun _ => holding [v, ov, iv] (setItem ov iv v) >>= fun _ => release [v, ov, iv] []) := by intro _; rfl) : gW X (.Subscript o i pos) v σ H R :=
  gI (pg_sub PEw PEw (set_dict hu) ha) (eMono h fun x H1 h1 => eMono h1 fun y H2 ⟨d, kvs, k, b, e1, e2, e3, e4, e5, q⟩ => ⟨d, _, e1, by rw [e3]; exact .t e2 e4 (Nat.lt_of_le_of_lt e5 (by decide)), q _ upd_same fun b hb => upd_ne hb⟩)
theorem e_dctT (h : ∀ p H2, Same H H2 → H p = none → H2 p = some (.dT []) → (∀ b, b ≠ p → H2 b = H b) → Q (.ref p) H2) : eW X (.Dict [] [] pos) σ H Q :=
  eI pe_dnewT fun p hp => h p _ (sameU hp) hp upd_same fun _ hb => upd_ne hb
end
theorem rm1 {k : Nat} {A : Around} (hr : Room k A) : A.units + 1 < cLine := by have := hr.units; omega
/-! ### two lists, one by one -/
inductive All2 {α β : Type} (R : α → β → Prop) : List α → List β → Prop
  | nil : All2 R [] []
  | cons {a : α} {b : β} {as : List α} {bs : List β} : R a b → All2 R as bs → All2 R (a :: as) (b :: bs)
section
variable {α β : Type} {R S : α → β → Prop}
theorem All2.len : ∀ {as : List α} {bs : List β}, All2 R as bs → as.length = bs.length
  | _, _, .nil => rfl
  | _, _, .cons _ h => congrArg (· + 1) h.len
theorem All2.mono (i : ∀ a b, R a b → S a b) : ∀ {as : List α} {bs : List β}, All2 R as bs → All2 S as bs
  | _, _, .nil => .nil
  | _, _, .cons h t => .cons (i _ _ h) (t.mono i)
theorem All2.get : ∀ {as : List α} {bs : List β} {i : Nat} {a : α}, All2 R as bs → as[i]? = some a → ∃ b, bs[i]? = some b ∧ R a b
  | _, _, _, _, .nil, e => by simp at e
  | _, _, 0, _, .cons h _, e => by simp at e; subst e; exact ⟨_, rfl, h⟩
  | _, _, i + 1, a, .cons _ t, e => by
    obtain ⟨d, h1, h2⟩ := All2.get (i := i) (a := a) t (by simpa using e)
    exact ⟨d, by simpa using h1, h2⟩
theorem All2.get' : ∀ {as : List α} {bs : List β} {i : Nat} {b : β}, All2 R as bs → bs[i]? = some b → ∃ a, as[i]? = some a ∧ R a b
  | _, _, _, _, .nil, e => by simp at e
  | _, _, 0, _, .cons h _, e => by simp at e; subst e; exact ⟨_, rfl, h⟩
  | _, _, i + 1, a, .cons _ t, e => by
    obtain ⟨d, h1, h2⟩ := All2.get' (i := i) (b := a) t (by simpa using e)
    exact ⟨d, by simpa using h1, h2⟩
theorem All2.app : ∀ {as : List α} {bs : List β} {cs : List α} {ds : List β}, All2 R as bs → All2 R cs ds → All2 R (as ++ cs) (bs ++ ds)
  | _, _, _, _, .nil, k => k
  | _, _, _, _, .cons h t, k => .cons h (t.app k)
theorem All2.snoc {as : List α} {bs : List β} {a : α} {b : β} (h : All2 R as bs) (k : R a b) : All2 R (as ++ [a]) (bs ++ [b]) := h.app (.cons k .nil)
theorem All2.take : ∀ {as : List α} {bs : List β} (n : Nat), All2 R as bs → All2 R (as.take n) (bs.take n)
  | _, _, 0, _ => by simp; exact .nil
  | _, _, _ + 1, .nil => by simp; exact .nil
  | _, _, n + 1, .cons h t => .cons h (t.take n)
theorem All2.drop : ∀ {as : List α} {bs : List β} (n : Nat), All2 R as bs → All2 R (as.drop n) (bs.drop n)
  | _, _, 0, h => by simpa using h
  | _, _, _ + 1, .nil => by simp; exact .nil
  | _, _, n + 1, .cons _ t => t.drop n
theorem All2.rev : ∀ {as : List α} {bs : List β}, All2 R as bs → All2 R as.reverse bs.reverse
  | _, _, .nil => .nil
  | _, _, .cons h t => by simp only [List.reverse_cons]; exact t.rev.snoc h
theorem All2.ex {P : α → Prop} (h : ∀ a, P a → ∃ b, R a b) : ∀ {as : List α}, (∀ a ∈ as, P a) → ∃ bs, All2 R as bs
  | [], _ => ⟨[], .nil⟩
  | a :: as, k => by
    obtain ⟨b, hb⟩ := h a (k a (List.mem_cons_self ..))
    obtain ⟨bs, hbs⟩ := All2.ex h (as := as) fun x hx => k x (List.mem_cons_of_mem _ hx)
    exact ⟨b :: bs, .cons hb hbs⟩
end
theorem thAll_of {K : PySem.W.Frag} {H : Hp} : ∀ {vs : List V} {ds : List PyData}, All2 (Th K H) vs ds → ThAll K H vs ds
  | _, _, .nil => .nil
  | _, _, .cons h t => .cons h (thAll_of t)
theorem thAll_to {K : PySem.W.Frag} {H : Hp} : ∀ {vs : List V} {ds : List PyData}, ThAll K H vs ds → All2 (Th K H) vs ds
  | _, _, .nil => .nil
  | _, _, .cons h t => .cons h (thAll_to t)
theorem ThAll.app {K : PySem.W.Frag} {H : Hp} {xs ys : List V} {ds es : List PyData} (h : ThAll K H xs ds) (k : ThAll K H ys es) : ThAll K H (xs ++ ys) (ds ++ es) := thAll_of ((thAll_to h).app (thAll_to k))
theorem ThAll.take {K : PySem.W.Frag} {H : Hp} {xs : List V} {ds : List PyData} (n : Nat) (h : ThAll K H xs ds) : ThAll K H (xs.take n) (ds.take n) := thAll_of ((thAll_to h).take n)
theorem ThAll.drop {K : PySem.W.Frag} {H : Hp} {xs : List V} {ds : List PyData} (n : Nat) (h : ThAll K H xs ds) : ThAll K H (xs.drop n) (ds.drop n) := thAll_of ((thAll_to h).drop n)
theorem walk_range0 {n : Nat} : Walk (Itr 0 n) n (fun _ => True) (fun i H v H' => H' = H ∧ v = .int ((i : Nat) : Int)) :=
  ⟨fun _ _ hi _ => hi, fun _ _ => Nat.le_refl _, fun i H x H' _ _ y => ⟨y.1, y.2.trans (by show V.int (0 + (i : Int)) = _; rw [Int.zero_add])⟩⟩
/-! ### a number in a list of numbers -/
theorem inV_int (h : Int) : ∀ hs : List Int, inV (.int h) (hs.map V.int) = decide (h ∈ hs)
  | [] => rfl
  | a :: hs => by
    have ih := inV_int h hs
    unfold inV at ih ⊢
    rw [List.map_cons, List.any_cons, ih]
    have e : eqV (.int a) (.int h) = decide (a = h) := by
      by_cases q : a = h
      · subst q
        rw [decide_eq_true rfl]
        simp [eqV]
      · rw [decide_eq_false q]
        simp [eqV, q]
    rw [e]
    by_cases q : a = h
    · subst q; simp
    · have q2 : ¬ h = a := fun z => q z.symm
      simp [q, q2]
theorem inV_nat (h : Nat) (hs : List Nat) : inV (.int (h : Nat)) (hs.map fun k => V.int (k : Nat)) = decide (h ∈ hs) := by
  have e : (hs.map fun k => V.int ((k : Nat) : Int)) = (hs.map fun k => ((k : Nat) : Int)).map V.int := by rw [List.map_map]; rfl
  rw [e, inV_int]
  refine decide_eq_decide.mpr ⟨fun q => ?_, fun q => List.mem_map.mpr ⟨h, q, rfl⟩⟩
  obtain ⟨x, hx, ex⟩ := List.mem_map.mp q
  have : x = h := by omega
  rw [← this]
  exact hx
theorem flat_nats (hs : List Nat) : (hs.map fun k => V.int ((k : Nat) : Int)).all flatV = true := by
  rw [List.all_map]
  exact List.all_eq_true.mpr fun _ _ => rfl
theorem o_inN {X : Cx} {H : Hp} {Q : VK} {p : Addr} {h : Nat} {hs : List Nat} (k : SqL X.K H p (hs.map fun k => V.int ((k : Nat) : Int))) (q : Q (.bl (decide (h ∈ hs))) H) : oW X (compareOp .In) (.int (h : Nat)) (.ref p) H Q :=
  oI op_in_seq ⟨p, _, rfl, .inl k, rfl, flat_nats hs, by rw [if_neg Bool.false_ne_true, inV_nat]; exact q⟩
theorem o_niN {X : Cx} {H : Hp} {Q : VK} {p : Addr} {h : Nat} {hs : List Nat} (k : SqL X.K H p (hs.map fun k => V.int ((k : Nat) : Int))) (q : Q (.bl (!decide (h ∈ hs))) H) : oW X (compareOp .NotIn) (.int (h : Nat)) (.ref p) H Q :=
  oI op_notIn_seq ⟨p, _, rfl, .inl k, rfl, flat_nats hs, by rw [if_pos rfl, inV_nat]; exact q⟩
theorem dp_nats {K : PySem.W.Frag} {H : Hp} : ∀ (l : List Nat), DpAll K H (l.map fun k => V.int ((k : Nat) : Int)) (l.map fun k => PyData.int ((k : Nat) : Int))
  | [] => .nil
  | z :: l => .cons (.int _) (dp_nats l)
theorem th_nats {K : PySem.W.Frag} {H : Hp} : ∀ (l : List Nat), ThAll K H (l.map fun k => V.int ((k : Nat) : Int)) (l.map fun k => PyData.int ((k : Nat) : Int))
  | [] => .nil
  | z :: l => .cons (.int _) (th_nats l)
theorem nat_get {ks : List Nat} {i : Nat} {k : Nat} (h : ks[i]? = some k) {j : Int} (hj : j = (i : Nat)) : atI (ks.map fun k => V.int ((k : Nat) : Int)) j = some (.int ((k : Nat) : Int)) := by
  subst hj
  exact atI_nat (by omega) (by rw [show ((i : Nat) : Int).toNat = i by omega, List.getElem?_map, h]; rfl)
theorem nats_sh (l : List Nat) : Sh 1 (.list (l.map fun k => PyData.int ((k : Nat) : Int))) := .lst fun d hd => by
  obtain ⟨k, _, rfl⟩ := List.mem_map.mp hd
  exact .int _
theorem eqvAll_nats : ∀ (l m : List Nat), PyData.eqvAll (l.map fun k => PyData.int ((k : Nat) : Int)) (m.map fun k => PyData.int ((k : Nat) : Int)) = decide (l = m)
  | [], [] => rfl
  | [], _ :: _ => by rw [decide_eq_false (by simp)]; rfl
  | _ :: _, [] => by rw [decide_eq_false (by simp)]; rfl
  | a :: l, b :: m => by
    show (((a : Int) == (b : Int)) && PyData.eqvAll (l.map fun k => PyData.int ((k : Nat) : Int)) (m.map fun k => PyData.int ((k : Nat) : Int))) = _
    rw [eqvAll_nats l m]
    by_cases e : a = b
    · subst e
      by_cases e2 : l = m
      · subst e2; simp
      · rw [decide_eq_false e2, decide_eq_false fun z => e2 (List.cons.inj z).2]; simp
    · rw [decide_eq_false fun z => e (List.cons.inj z).1]
      have : ((a : Int) == (b : Int)) = false := by rw [beq_eq_false_iff_ne]; omega
      rw [this]; rfl
theorem eqv_nats (l m : List Nat) : PyData.eqv (.list (l.map fun k => PyData.int ((k : Nat) : Int))) (.list (m.map fun k => PyData.int ((k : Nat) : Int))) = decide (l = m) := eqvAll_nats l m
/-! ### existences whose first word is an equation of values -/
section
theorem xV1 {A1 : Type} {v : V} {f : A1 → V} {p : A1 → Prop} (h : ∃ x1, v = f x1 ∧ p x1) : ∃ x1, v = f x1 ∧ p x1 := h
theorem xL1 {A1 : Type} {v : List V} {f : A1 → List V} {p : A1 → Prop} (h : ∃ x1, v = f x1 ∧ p x1) : ∃ x1, v = f x1 ∧ p x1 := h
theorem xV2 {A1 : Type} {A2 : Type} {v : V} {f : A1 → A2 → V} {p : A1 → A2 → Prop} (h : ∃ x1 x2, v = f x1 x2 ∧ p x1 x2) : ∃ x1 x2, v = f x1 x2 ∧ p x1 x2 := h
theorem xL2 {A1 : Type} {A2 : Type} {v : List V} {f : A1 → A2 → List V} {p : A1 → A2 → Prop} (h : ∃ x1 x2, v = f x1 x2 ∧ p x1 x2) : ∃ x1 x2, v = f x1 x2 ∧ p x1 x2 := h
theorem xV3 {A1 : Type} {A2 : Type} {A3 : Type} {v : V} {f : A1 → A2 → A3 → V} {p : A1 → A2 → A3 → Prop} (h : ∃ x1 x2 x3, v = f x1 x2 x3 ∧ p x1 x2 x3) : ∃ x1 x2 x3, v = f x1 x2 x3 ∧ p x1 x2 x3 := h
theorem xL3 {A1 : Type} {A2 : Type} {A3 : Type} {v : List V} {f : A1 → A2 → A3 → List V} {p : A1 → A2 → A3 → Prop} (h : ∃ x1 x2 x3, v = f x1 x2 x3 ∧ p x1 x2 x3) : ∃ x1 x2 x3, v = f x1 x2 x3 ∧ p x1 x2 x3 := h
theorem xV4 {A1 : Type} {A2 : Type} {A3 : Type} {A4 : Type} {v : V} {f : A1 → A2 → A3 → A4 → V} {p : A1 → A2 → A3 → A4 → Prop} (h : ∃ x1 x2 x3 x4, v = f x1 x2 x3 x4 ∧ p x1 x2 x3 x4) : ∃ x1 x2 x3 x4, v = f x1 x2 x3 x4 ∧ p x1 x2 x3 x4 := h
theorem xL4 {A1 : Type} {A2 : Type} {A3 : Type} {A4 : Type} {v : List V} {f : A1 → A2 → A3 → A4 → List V} {p : A1 → A2 → A3 → A4 → Prop} (h : ∃ x1 x2 x3 x4, v = f x1 x2 x3 x4 ∧ p x1 x2 x3 x4) : ∃ x1 x2 x3 x4, v = f x1 x2 x3 x4 ∧ p x1 x2 x3 x4 := h
theorem xV5 {A1 : Type} {A2 : Type} {A3 : Type} {A4 : Type} {A5 : Type} {v : V} {f : A1 → A2 → A3 → A4 → A5 → V} {p : A1 → A2 → A3 → A4 → A5 → Prop} (h : ∃ x1 x2 x3 x4 x5, v = f x1 x2 x3 x4 x5 ∧ p x1 x2 x3 x4 x5) : ∃ x1 x2 x3 x4 x5, v = f x1 x2 x3 x4 x5 ∧ p x1 x2 x3 x4 x5 := h
theorem xL5 {A1 : Type} {A2 : Type} {A3 : Type} {A4 : Type} {A5 : Type} {v : List V} {f : A1 → A2 → A3 → A4 → A5 → List V} {p : A1 → A2 → A3 → A4 → A5 → Prop} (h : ∃ x1 x2 x3 x4 x5, v = f x1 x2 x3 x4 x5 ∧ p x1 x2 x3 x4 x5) : ∃ x1 x2 x3 x4 x5, v = f x1 x2 x3 x4 x5 ∧ p x1 x2 x3 x4 x5 := h
theorem xV6 {A1 : Type} {A2 : Type} {A3 : Type} {A4 : Type} {A5 : Type} {A6 : Type} {v : V} {f : A1 → A2 → A3 → A4 → A5 → A6 → V} {p : A1 → A2 → A3 → A4 → A5 → A6 → Prop} (h : ∃ x1 x2 x3 x4 x5 x6, v = f x1 x2 x3 x4 x5 x6 ∧ p x1 x2 x3 x4 x5 x6) : ∃ x1 x2 x3 x4 x5 x6, v = f x1 x2 x3 x4 x5 x6 ∧ p x1 x2 x3 x4 x5 x6 := h
theorem xL6 {A1 : Type} {A2 : Type} {A3 : Type} {A4 : Type} {A5 : Type} {A6 : Type} {v : List V} {f : A1 → A2 → A3 → A4 → A5 → A6 → List V} {p : A1 → A2 → A3 → A4 → A5 → A6 → Prop} (h : ∃ x1 x2 x3 x4 x5 x6, v = f x1 x2 x3 x4 x5 x6 ∧ p x1 x2 x3 x4 x5 x6) : ∃ x1 x2 x3 x4 x5 x6, v = f x1 x2 x3 x4 x5 x6 ∧ p x1 x2 x3 x4 x5 x6 := h
theorem xV7 {A1 : Type} {A2 : Type} {A3 : Type} {A4 : Type} {A5 : Type} {A6 : Type} {A7 : Type} {v : V} {f : A1 → A2 → A3 → A4 → A5 → A6 → A7 → V} {p : A1 → A2 → A3 → A4 → A5 → A6 → A7 → Prop} (h : ∃ x1 x2 x3 x4 x5 x6 x7, v = f x1 x2 x3 x4 x5 x6 x7 ∧ p x1 x2 x3 x4 x5 x6 x7) : ∃ x1 x2 x3 x4 x5 x6 x7, v = f x1 x2 x3 x4 x5 x6 x7 ∧ p x1 x2 x3 x4 x5 x6 x7 := h
theorem xL7 {A1 : Type} {A2 : Type} {A3 : Type} {A4 : Type} {A5 : Type} {A6 : Type} {A7 : Type} {v : List V} {f : A1 → A2 → A3 → A4 → A5 → A6 → A7 → List V} {p : A1 → A2 → A3 → A4 → A5 → A6 → A7 → Prop} (h : ∃ x1 x2 x3 x4 x5 x6 x7, v = f x1 x2 x3 x4 x5 x6 x7 ∧ p x1 x2 x3 x4 x5 x6 x7) : ∃ x1 x2 x3 x4 x5 x6 x7, v = f x1 x2 x3 x4 x5 x6 x7 ∧ p x1 x2 x3 x4 x5 x6 x7 := h
theorem iteBT {b : Bool} {A B : Prop} (hb : b = true) (h : A) : if b = true then A else B := by subst hb; exact iteT h
theorem iteBF {b : Bool} {A B : Prop} (hb : b = false) (h : B) : if b = true then A else B := by subst hb; exact iteF h
theorem xA {v u : V} {p : Prop} (h : v = u ∧ p) : v = u ∧ p := h
theorem xC {v u : Bool} {p : Prop} (h : v = u ∧ p) : v = u ∧ p := h
theorem xB {v u : List V} {p : Prop} (h : v = u ∧ p) : v = u ∧ p := h
end
section
variable {X : Cx} {σ : L2.St} {H : Hp} {Q : VK} {D : Ends} {e : Expr} {es : List Expr} {st : Stmt} {b : List Stmt} {R : Bool → Hp → Prop} {U : List V → Hp → Prop} {x y : V} {f : Value → Value → Sem Value} {g : Value} {xs : List V}
theorem is_e (h : eW X e σ H Q) : eW X e σ H Q := h
theorem is_call {n : Str} {p2 pos : Pos} {ks : List Keyword} (h : eW X (.Call (.Name n p2) es ks pos) σ H Q) : eW X (.Call (.Name n p2) es ks pos) σ H Q := h
theorem is_raise {e o : Option Expr} {pos : Pos} (h : sW X (.Raise e o pos) D σ H) : sW X (.Raise e o pos) D σ H := h
theorem is_ex {α : Type} {p : α → Prop} (h : ∃ x, p x) : ∃ x, p x := h
theorem is_and {α : Type} {a b : α} {p : Prop} (h : a = b ∧ p) : a = b ∧ p := h
theorem is_bo {op : Operator} (h : oW X (binaryOp op) x y H Q) : oW X (binaryOp op) x y H Q := h
theorem is_ixP {n : Nat} {o : OfNat Int n} (h : iW X x (.int (@OfNat.ofNat Int n o)) H Q) : iW X x (.int (@OfNat.ofNat Int n o)) H Q := h
theorem is_ixN {n : Nat} {o : OfNat Int n} (h : iW X x (.int (-(@OfNat.ofNat Int n o))) H Q) : iW X x (.int (-(@OfNat.ofNat Int n o))) H Q := h
theorem is_o (h : oW X f x y H Q) : oW X f x y H Q := h
theorem is_k (h : kW X g xs H Q) : kW X g xs H Q := h
theorem is_i (h : iW X x y H Q) : iW X x y H Q := h
theorem is_a (h : aW X es σ H U) : aW X es σ H U := h
theorem is_s (h : sW X st D σ H) : sW X st D σ H := h
theorem is_b (h : bW X b D σ H) : bW X b D σ H := h
theorem is_t (h : tW X e σ H R) : tW X e σ H R := h
theorem is_c (h : cW X e σ H R) : cW X e σ H R := h
theorem is_p {e : Option Expr} {q : Option Int → Hp → Prop} (h : pW X e σ H q) : pW X e σ H q := h
theorem is_g {v : V} {q : L2.St → Hp → Prop} (h : gW X e v σ H q) : gW X e v σ H q := h
theorem is_iteD {p : Prop} {d : Decidable p} {e : Decidable (decide p = true)} {A B : Prop} (h : @ite Prop (decide p = true) e A B) : @ite Prop (decide p = true) e A B := h
theorem is_iteND {p : Prop} {d : Decidable p} {e : Decidable ((!decide p) = true)} {A B : Prop} (h : @ite Prop ((!decide p) = true) e A B) : @ite Prop ((!decide p) = true) e A B := h
theorem iteDT {p : Prop} [Decidable p] {A B : Prop} (hp : p) (h : A) : if decide p = true then A else B := by rw [decide_eq_true hp]; exact iteT h
theorem iteDF {p : Prop} [Decidable p] {A B : Prop} (hp : ¬ p) (h : B) : if decide p = true then A else B := by rw [decide_eq_false hp]; exact iteF h
theorem iteNDT {p : Prop} [Decidable p] {A B : Prop} (hp : ¬ p) (h : A) : if (!decide p) = true then A else B := by rw [decide_eq_false hp]; exact iteT h
theorem iteNDF {p : Prop} [Decidable p] {A B : Prop} (hp : p) (h : B) : if (!decide p) = true then A else B := by rw [decide_eq_true hp]; exact iteF h
theorem ref_ne_non {a : Addr} : ¬ V.ref a = V.non := fun z => nomatch z
theorem int_ne_non {a : Int} : ¬ V.int a = V.non := fun z => nomatch z
theorem str_ne_non {a : Str} : ¬ V.str a = V.non := fun z => nomatch z
theorem bl_ne_non {a : Bool} : ¬ V.bl a = V.non := fun z => nomatch z
theorem is_ite {p : Prop} {d : Decidable p} {A B : Prop} (h : @ite Prop p d A B) : @ite Prop p d A B := h
end
end G

namespace G
open PySem PySem.Spec PyProof.Rows L2 TL
/-! ### attributes -/
section
variable {X : Cx} {σ : L2.St} {H : Hp} {Q : VK} {D : Ends} {pos p2 p3 : Pos} {o e : Expr} {f : Str}
theorem e_fld (h : eW X e σ H fun x H1 => ∃ a C dx fs v, x = .ref a ∧ H1 a = some (.ins C dx fs) ∧ Cls X.K C ∧ NoAttr X.K C f ∧ fs.lookup f = some v ∧ Q v H1) (hb : attributeBase e f X.env (eval e X.env) = eval e X.env := by rfl) : eW X (.Attribute e f pos) σ H Q := eI (pe_fld PEw hb) h
theorem s_fld (h : eW X e σ H fun y H1 => eW X o σ H1 fun x H2 => ∃ a C dx fs, x = .ref a ∧ H2 a = some (.ins C dx fs) ∧ Cls X.K C ∧ NoAttr X.K C f ∧ fs.length < 1000 ∧ ∀ H3, H3 a = some (.ins C dx (putF f y fs)) → (∀ b, b ≠ a → H3 b = H2 b) → D.nx σ H3)
    (hs : swapsWith e (some (.Attribute o f p2)) pos.line X.env = pure false := by rfl) : sW X (.Assign [.Attribute o f p2] e pos) D σ H :=
  sI (ps_fld PEw PEw hs) (eMono h fun y H1 q => eMono q fun x H2 ⟨a, C, dx, fs, e1, e2, e3, e4, e5, q⟩ => ⟨a, C, dx, fs, e1, e2, e3, e4, e5, q _ upd_same fun b hb => upd_ne hb⟩)
/-- o.f += e, numbers -/
theorem s_fldaug (h : eW X o σ H fun x H1 => ∃ a C dx fs i, x = .ref a ∧ H1 a = some (.ins C dx fs) ∧ Cls X.K C ∧ NoAttr X.K C f ∧ fs.lookup f = some (.int i) ∧ eW X e σ H1 fun y H2 => ∃ j dx' fs', y = .int j ∧ H2 a = some (.ins C dx' fs') ∧ fs'.length < 1000 ∧ ∀ H3, H3 a = some (.ins C dx' (putF f (.int (i + j)) fs')) → (∀ b, b ≠ a → H3 b = H2 b) → D.nx σ H3) : sW X (.AugAssign (.Attribute o f p2) .Add e pos) D σ H :=
  sI (ps_fldaug PEw PEw in_add) (eMono h fun x H1 ⟨a, C, dx, fs, i, e1, e2, e3, e4, e5, q⟩ => ⟨a, C, dx, fs, .int i, e1, e2, e3, e4, e5, eMono q fun y H2 ⟨j, dx', fs', w1, w2, w3, w4⟩ => ⟨i, j, rfl, w1, dx', fs', w2, w3, w4 _ upd_same fun b hb => upd_ne hb⟩⟩)
end
/-- facts of the classes by instances -/
class NoA (K : PySem.W.Frag) (C : Addr) (f : Str) : Prop where h : NoAttr K C f
class ClsI (K : PySem.W.Frag) (C : Addr) : Prop where h : Cls K C
section
variable {X : Cx} {σ : L2.St} {H : Hp} {Q : VK} {D : Ends} {pos p2 p3 : Pos} {e : Expr} {f x : Str} {N : List Str} {K : PySem.W.Frag} {i : Nat} {a C dx : Addr} {fs : List (Str × V)} {v : V}
/-- x.f, x a name -/
theorem is_attr (h : eW X (.Attribute (.Name x p2) f pos) σ H Q) : eW X (.Attribute (.Name x p2) f pos) σ H Q := h
theorem e_fldV [cn : CxN X N] [ck : CxK X K] [sl : Slt N x i] (hs : σ[i]? = some (some (.ref a))) (hi : H a = some (.ins C dx fs)) [na : NoA K C f] [cl : ClsI K C] (hl : fs.lookup f = some v) (q : Q v H)
    (hv : Vis X.env.scope x := by first | exact Or.inl rfl | exact Or.inr (Or.inl rfl) | exact Or.inr (Or.inr rfl)) (hd : (x == ("__debug__" : Str)) = false := by decide) (hcd : (x == ("__classdict__" : Str)) = false := by decide)
    (hb : attributeBase (.Name x p2) f X.env (eval (.Name x p2) X.env) = eval (.Name x p2) X.env := by rfl) : eW X (.Attribute (.Name x p2) f pos) σ H Q :=
  e_fld (e_var hs ⟨a, C, dx, fs, v, rfl, hi, by rw [ck.h]; exact cl.h, by rw [ck.h]; exact na.h, hl, q⟩ hv hd hcd) hb
/-- x.f = e, x a name -/
theorem s_fldV [cn : CxN X N] [ck : CxK X K] [sl : Slt N x i] (h : eW X e σ H fun y H1 => ∃ a C dx fs, σ[i]? = some (some (.ref a)) ∧ H1 a = some (.ins C dx fs) ∧ NoA K C f ∧ ClsI K C ∧ fs.length < 1000 ∧ ∀ H3, H3 a = some (.ins C dx (putF f y fs)) → (∀ b, b ≠ a → H3 b = H1 b) → D.nx σ H3)
    (hv : Vis X.env.scope x := by first | exact Or.inl rfl | exact Or.inr (Or.inl rfl) | exact Or.inr (Or.inr rfl)) (hd : (x == ("__debug__" : Str)) = false := by decide) (hcd : (x == ("__classdict__" : Str)) = false := by decide)
    (hs : swapsWith e (some (.Attribute (.Name x p3) f p2)) pos.line X.env = pure false := by rfl) : sW X (.Assign [.Attribute (.Name x p3) f p2] e pos) D σ H :=
  s_fld (eMono h fun y H1 ⟨a, C, dx, fs, w1, w2, w3, w4, w5, w6⟩ => e_var w1 ⟨a, C, dx, fs, rfl, w2, by rw [ck.h]; exact w4.h, by rw [ck.h]; exact w3.h, w5, w6⟩ hv hd hcd) hs
end
/-! ### classes with __init__ -/
structure Ini (P : Program) (w : World) (K : PySem.W.Frag) (mg : Str → Option Value) (base : Heap) (C : Addr) (k : Nat) (ps : List Str) (sp : Sp) : Prop where
  ex : ∃ (f : Addr) (fd : FuncData), Mk K C f ∧ Binds K fd ps [] ∧ FnOk P w K mg base (L2.CX P w) k f fd ps sp
section
variable {X : Cx} {σ : L2.St} {H : Hp} {Q : VK} {pos p2 apos : Pos} {e o : Expr} {es : List Expr} {mg : Str → Option Value} {C : Addr} {x m : Str} {k : Nat} {ps : List Str} {sp : Sp} {W : WX}
theorem run_makeS {CX : CXT} {f : Addr} {fd : FuncData} {E : XK} {pins : List (Addr × Obj)} {s : Shared} {us : List Value} {vs : List V} (M : Mk X.K C f) (F : FnOk X.prog X.w X.K X.mg X.base CX k f fd ps sp) (hr : Room (k + 1) X.A) (hb : Binds X.K fd ps [])
    (hx : PassesAt CX X σ E) (I : Inv X pins σ H s) (r : Vals vs us)
    (h : ∀ x dx, H x = none → H dx = none → dx ≠ x → sp (.ref x :: vs) (upd (upd H dx (.own x)) x (.ins C dx [])) (fun v H2 => v = .non ∧ Q (.ref x) H2) E) :
    wpAny (model X.prog X.w) X.A (call (.ref C) us) (EP X pins σ Q) X.xe s := by
  have hq := h (s.heap.objs.size + 1) s.heap.objs.size (I.hok.fresh (Nat.le_succ _)) (I.hok.fresh (Nat.le_refl _)) (Nat.ne_of_lt (Nat.lt_succ_self _))
  have I2 := Inv.made (C := C) I
  have r2 : Vals (V.ref (s.heap.objs.size + 1) :: vs) (Value.ref (s.heap.objs.size + 1) :: us) := .cons rfl r
  have hl : (Value.ref (s.heap.objs.size + 1) :: us ++ []).length = ps.length := by
    have e := r2.length
    rw [F.len _ _ _ _ hq] at e
    rw [List.append_nil]
    exact e.symm
  have b := hb _ (Value.ref (s.heap.objs.size + 1) :: us) I2.kIn hl
  rw [List.append_nil] at b
  refine wpAny_call (make_map (f := f) I.kIn M.makes M.init (beq_iff_eq.mp M.fn) (codeAny_mono (F.run _ X.stack _ _ ⟨Value.ref (s.heap.objs.size + 1) :: us, []⟩ (Value.ref (s.heap.objs.size + 1) :: us) _ _ E (hr.make C us [])
    (I2.env0.make C us []) b r2 hq) fun r s' hq' => ?_))
  cases r with
  | error e => exact hx pins _ _ e s' I2 hq'
  | ok fl =>
    cases fl with
    | ret u =>
      obtain ⟨v, H', I3, rv, ev, q3⟩ := I2.after hq'
      subst ev
      exact ⟨rv, ⟨V.ref (s.heap.objs.size + 1), H', I3, rfl, q3⟩⟩
    | next => exact False.elim hq'
    | brk => exact False.elim hq'
    | cont => exact False.elim hq'
theorem e_make [ct : CxT X W] [cm : CxM X mg] [g : Gn mg x (some (.ref C))] (F : Ini X.prog X.w X.K X.mg X.base C k ps sp) (hr : Room (k + 1) X.A)
    (h : aW X (e :: es) σ H fun vs H1 => ∀ p dx H2, Same H1 H2 → H1 p = none → H1 dx = none → dx ≠ p → H2 p = some (.ins C dx []) → H2 dx = some (.own p) → (∀ b, b ≠ p → b ≠ dx → H2 b = H1 b) → sp (.ref p :: vs) H2 (fun v H3 => v = .non ∧ Q (.ref p) H3) fun cls d H' => W cls d σ H')
    (hg : Gl X x := by rfl) (hdb : (x == ("__debug__" : Str)) = false := by decide) (he : starEach (e :: es) X.env = (false, eval e X.env) :: starEach es X.env := by rfl) (hpl : (backTo pos (starEach es X.env)).any (·.1) = false := by rfl) : eW X (.Call (.Name x p2) (e :: es) [] pos) σ H Q := by
  obtain ⟨f, fd, h1, h2, h3⟩ := F.ex
  refine ⟨fun pins s I => wpAny_Call_Name_kw (ld_glob I hg (by rw [cm.h]; exact g.h) ?_ hdb)⟩
  refine PySem.W.callWith_K (h₀ := X.base) I.ok.mod.kin h1.kp (thn (h.run pos pins s I) fun us s1 ⟨vs, H1, I1, r, q⟩ => ⟨I1.kIn, ?_⟩) he hpl
  exact run_makeS h1 h3 hr h2 (passAt ct.h σ) I1 r fun p dx hp hdx hne => q p dx _ (Same.made' hp hdx) hp hdx hne upd_same (by rw [upd_ne hne]; exact upd_same) fun b hb hb2 => by rw [upd_ne hb, upd_ne hb2]
/-- o.m(e, ..), that may raise -/
theorem e_methR [ct : CxT X W] (c : Cls X.K C) (F : Md X.prog X.w X.K X.mg X.base C m k ps sp) (hr : Room k X.A)
    (h : eW X o σ H fun x H1 => ∃ a dx fs, x = .ref a ∧ H1 a = some (.ins C dx fs) ∧ fs.lookup m = none ∧ aW X (e :: es) σ H1 fun vs H2 => sp (x :: vs) H2 Q fun cls d H' => W cls d σ H') {pl : Sem Bool}
    (hst : starEach (e :: es) X.env = (false, eval e X.env) :: starEach es X.env := by rfl) (hpl : (backTo pos (starEach es X.env)).any (·.1) = false := by rfl)
    (ht : eval (.Call (.Attribute o m apos) (e :: es) [] pos) X.env = (do
      let ov ← eval o X.env
      standAt apos.atName
      let (f, first) ← holding [ov] (getMethod ov m pl)
      callWith pos f first (backTo pos (starEach (e :: es) X.env)) (backToKw pos (keywordEach [] X.env))) := by rfl) : eW X (.Call (.Attribute o m apos) (e :: es) [] pos) σ H Q := by
  obtain ⟨f, fd, h1, h2, h3⟩ := F.ex
  refine ⟨fun pins s I => PySem.W.methodCall_KW (pl := pl) (thn (h.run pins s I) fun u s1 ⟨x, H1, I1, rx, a, dx, fs, ex, ea, l, q⟩ => ?_) ht⟩
  subst ex
  obtain rfl : u = Value.ref a := rx
  refine getmeth_ok I1 ea c h1 l ?_
  refine PySem.W.callWith_K (first := [.ref a]) (h₀ := X.base) I.ok.mod.kin h1.kp (thn (q.run pos pins s1 I1) fun us s2 ⟨vs, H2, I2, r, q2⟩ => ⟨I2.kIn, ?_⟩) hst hpl
  exact run_fnS (E := WE W) (us := .ref a :: us) (vs := .ref a :: vs) h3 hr h2 (passAt ct.h σ) I2 (.cons rfl r) q2
/-- x.m(e, ..), x.m(), x a name -/
theorem is_meth {ks : List Keyword} {y : Str} {p3 : Pos} (h : eW X (.Call (.Attribute (.Name y p3) m apos) es ks pos) σ H Q) : eW X (.Call (.Attribute (.Name y p3) m apos) es ks pos) σ H Q := h
theorem e_methV {N : List Str} {y : Str} {i : Nat} {a dx : Addr} {fs : List (Str × V)} {p3 : Pos} [ct : CxT X W] [cn : CxN X N] [sl : Slt N y i] (c : Cls X.K C) (F : Md X.prog X.w X.K X.mg X.base C m k ps sp) (hr : Room k X.A) (hs : σ[i]? = some (some (.ref a))) (hi : H a = some (.ins C dx fs)) (hl : fs.lookup m = none)
    (h : aW X (e :: es) σ H fun vs H2 => sp (.ref a :: vs) H2 Q fun cls d H' => W cls d σ H') {pl : Sem Bool}
    (hv : Vis X.env.scope y := by first | exact Or.inl rfl | exact Or.inr (Or.inl rfl) | exact Or.inr (Or.inr rfl)) (hd : (y == ("__debug__" : Str)) = false := by decide) (hcd : (y == ("__classdict__" : Str)) = false := by decide)
    (hst : starEach (e :: es) X.env = (false, eval e X.env) :: starEach es X.env := by rfl) (hpl : (backTo pos (starEach es X.env)).any (·.1) = false := by rfl)
    (ht : eval (.Call (.Attribute (.Name y p3) m apos) (e :: es) [] pos) X.env = (do
      let ov ← eval (.Name y p3) X.env
      standAt apos.atName
      let (f, first) ← holding [ov] (getMethod ov m pl)
      callWith pos f first (backTo pos (starEach (e :: es) X.env)) (backToKw pos (keywordEach [] X.env))) := by rfl) : eW X (.Call (.Attribute (.Name y p3) m apos) (e :: es) [] pos) σ H Q :=
  e_methR c F hr (e_var hs ⟨a, dx, fs, rfl, hi, hl, h⟩ hv hd hcd) hst hpl ht
theorem e_methR0 [ct : CxT X W] (c : Cls X.K C) (F : Md X.prog X.w X.K X.mg X.base C m k ps sp) (hr : Room k X.A)
    (h : eW X o σ H fun x H1 => ∃ a dx fs, x = .ref a ∧ H1 a = some (.ins C dx fs) ∧ fs.lookup m = none ∧ sp [x] H1 Q fun cls d H' => W cls d σ H') {pl : Sem Bool}
    (ht : eval (.Call (.Attribute o m apos) [] [] pos) X.env = (do
      let ov ← eval o X.env
      standAt apos.atName
      let (f, first) ← holding [ov] (getMethod ov m pl)
      callWith pos f first (backTo pos (starEach [] X.env)) (backToKw pos (keywordEach [] X.env))) := by rfl) : eW X (.Call (.Attribute o m apos) [] [] pos) σ H Q := by
  obtain ⟨f, fd, h1, h2, h3⟩ := F.ex
  refine ⟨fun pins s I => PySem.W.methodCall_KW (pl := pl) (thn (h.run pins s I) fun u s1 ⟨x, H1, I1, rx, a, dx, fs, ex, ea, l, q⟩ => ?_) ht⟩
  subst ex
  obtain rfl : u = Value.ref a := rx
  refine getmeth_ok I1 ea c h1 l ?_
  exact PySem.W.callWith_K0 (first := [.ref a]) I1.kIn h1.kp (run_fnS (E := WE W) (us := [.ref a]) (vs := [.ref a]) h3 hr h2 (passAt ct.h σ) I1 (.cons rfl .nil) q)
theorem e_methV0 {N : List Str} {y : Str} {i : Nat} {a dx : Addr} {fs : List (Str × V)} {p3 : Pos} [ct : CxT X W] [cn : CxN X N] [sl : Slt N y i] (c : Cls X.K C) (F : Md X.prog X.w X.K X.mg X.base C m k ps sp) (hr : Room k X.A) (hs : σ[i]? = some (some (.ref a))) (hi : H a = some (.ins C dx fs)) (hl : fs.lookup m = none)
    (h : sp [.ref a] H Q fun cls d H' => W cls d σ H') {pl : Sem Bool}
    (hv : Vis X.env.scope y := by first | exact Or.inl rfl | exact Or.inr (Or.inl rfl) | exact Or.inr (Or.inr rfl)) (hd : (y == ("__debug__" : Str)) = false := by decide) (hcd : (y == ("__classdict__" : Str)) = false := by decide)
    (ht : eval (.Call (.Attribute (.Name y p3) m apos) [] [] pos) X.env = (do
      let ov ← eval (.Name y p3) X.env
      standAt apos.atName
      let (f, first) ← holding [ov] (getMethod ov m pl)
      callWith pos f first (backTo pos (starEach [] X.env)) (backToKw pos (keywordEach [] X.env))) := by rfl) : eW X (.Call (.Attribute (.Name y p3) m apos) [] [] pos) σ H Q :=
  e_methR0 c F hr (e_var hs ⟨a, dx, fs, rfl, hi, hl, h⟩ hv hd hcd) ht
end
/-! ### dicts with tuple keys -/
section
variable {X : Cx} {pins : List (Addr × Obj)} {σ : L2.St} {H : Hp} {s : Shared} {a b : Addr} {r : Value} {d : V} {k : List Key} {A : Around} {E : Value → Shared → Prop}
theorem d_setdT {kvs : List (List Key × V)} {Q : Value → Shared → Prop} (hu : A.units + 1 < cLine) (I : Inv X pins σ H s) (e : H a = some (.dT kvs)) (eb : H b = some (.tup (k.map kV))) (rd : RelV d r) (hl : kvs.length < sizeLine)
    (h1 : ∀ v, valV kvs k = some v → ∀ (w' : Value) (s' : Shared), Inv X pins σ H s' → RelV v w' → Q w' s') (h2 : valV kvs k = none → ∀ (w' : Value) (s' : Shared), Inv X pins σ (upd H a (.dT (putK kvs k d))) s' → RelV d w' → Q w' s') :
    wpAny (model X.prog X.w) A (call (.builtin "dict.setdefault") [.ref a, .ref b, r]) Q E s := by
  obtain ⟨z, hd, xs, rel, dd⟩ := dt_of I.hok e
  have hz : xs.length ≤ sizeLine := by rw [← Paired.length rel]; exact z
  have hl2 : (putK kvs k d).length ≤ sizeLine := by have := length_putK kvs k d; omega
  refine call_setdefault_heap (hsz := hz) (tupleKind_room_in1 hu) (key_of I.hok eb) hd dd (fun p hp => ?_) fun hn h' dd' hs => ?_
  · have q := rel.val k
    rw [hp] at q
    cases q0 : valV kvs k with
    | none => rw [q0] at q; exact (show False from q).elim
    | some v0 => rw [q0] at q; exact h1 v0 q0 _ _ (I.tok _) q
  · have q := rel.val k
    rw [hn] at q
    cases q0 : valV kvs k with
    | some v0 => rw [q0] at q; exact (show False from q).elim
    | none =>
      refine h2 q0 _ _ ?_ rd
      obtain ⟨q, es, ep, hq, h2, h3, h4, _, h5⟩ := dd'
      refine d_write I (by rw [e]; exact True.intro) hs ⟨q, hq⟩ ⟨hl2, hd, _, (rel.put k eb rd).keeps fun c ys ec => ?_, q, es, ep, hq, h2, h3, h4, h5⟩
      rw [upd_ne (ne_of ec e (fun z => nomatch z))]
      exact ec
end
section
variable {X : Cx} {σ : L2.St} {H : Hp} {Q : VK} {o e f : Expr} {apos cpos : Pos} {R : It → Hp → Prop}
theorem e_dsetdT (hu : X.A.units + 1 < cLine) (h : eW X o σ H fun x H1 => ∃ a, x = .ref a ∧ IsD H1 a ∧ eW X e σ H1 fun y H2 => eW X f σ H2 fun z H3 => ∃ (kvs : List (List Key × V)) (k : List Key) (b : Addr), H3 a = some (.dT kvs) ∧ y = .ref b ∧ H3 b = some (.tup (k.map kV)) ∧ kvs.length ≤ 10000000 ∧ (∀ v, valV kvs k = some v → Q v H3) ∧ (valV kvs k = none → ∀ H4, H4 a = some (.dT (putK kvs k z)) → (∀ b, b ≠ a → H4 b = H3 b) → Q z H4))
    (m : M2 X o "setdefault" apos e f cpos := by exact ⟨rfl, rfl, rfl, rfl⟩) : eW X (.Call (.Attribute o "setdefault" apos) [e, f] [] cpos) σ H Q := by
  refine ⟨fun pins s I => ?_⟩
  refine wpAny_Call_method m.base m.few m.line PySem.F.plainAttrs_dict PySem.F.slot_dict_setdefault PySem.F.type_dict_setdefault (thn (h.run pins s I) fun u s1 ⟨x, H1, I1, rx, a, ex, d, q1⟩ => ?_)
  subst ex
  obtain rfl : u = Value.ref a := rx
  obtain ⟨t1, t2, _⟩ := isD_at I1 d
  refine ⟨t1, t2, ?_⟩
  rw [m.trees]
  refine Calls.callWith_builtin rfl (Calls.evalArgs_plain (Calls.spliced_cons (thn (q1.run pins s1 I1) fun iv s2 ⟨y, H2, I2, ry, q2⟩ =>
    Calls.spliced_cons (thn (q2.run pins s2 I2) fun fv s3 ⟨z, H3, I3, rz, kvs, k, b, ea, ey, eb, hl, q3, q4⟩ => Calls.spliced_nil ?_))))
  subst ey
  obtain rfl : iv = Value.ref b := ry
  exact d_setdT hu I3 ea eb rz (by rw [sizeLine_eq]; omega) (fun v hv w' s4 I4 rw' => ⟨v, _, I4, rw', q3 v hv⟩) fun hn w' s4 I4 rw' => ⟨z, _, I4, rw', q4 hn _ upd_same fun c hc => upd_ne hc⟩
/-- the entries of the locked dict at d, tuple keys -/
def ItiT (d : Addr) (o : Obj) (kvs : List (List Key × V)) : It :=
  ⟨fun i H => H d = some (.frz o (.dT kvs)) ∧ i < kvs.length, fun i H x H' => ∃ T k v q, kvs[i]? = some (k, v) ∧ x = .ref T ∧ H T = none ∧ H q = some (.tup (k.map kV)) ∧ H' = upd H T (.tup [.ref q, v]), fun i H => H d = some (.frz o (.dT kvs)) ∧ kvs.length ≤ i⟩
end
theorem Inv.frzT2 {X : Cx} {pins : List (Addr × Obj)} {σ : L2.St} {H : Hp} {s : Shared} {d : Addr} {o : Obj} {kvs : List (List Key × V)} (I : Inv X pins σ H s) (h : H d = some (.frz o (.dT kvs))) :
    (d == sysModules) = false ∧ s.heap.get? d = some o ∧ o.ExactDict ∧ ∃ (es : Array DictEntry) (ep : Nat), o.data = .dict es ep ∧ es.size = kvs.length ∧
      ∀ (i : Nat) (k : List Key) (v : V), kvs[i]? = some (k, v) → ∃ (en : DictEntry) (q : Addr), es[i]? = some en ∧ en.key = .ref q ∧ H q = some (.tup (k.map kV)) ∧ RelV v en.val := by
  obtain ⟨hd, z, hs, xs, pr, o', es, ep, ho, hx, hdt, he, _⟩ := I.hok d _ h
  rw [hd] at ho
  cases ho
  refine ⟨hs, hd, hx, es, ep, hdt, ?_, fun i k v e => ?_⟩
  · have l1 : es.size = xs.length := size_of_entries he
    have l2 : kvs.length = xs.length := Paired.length pr
    omega
  · obtain ⟨b, hb, e1, e2, e3⟩ := paired_get pr e
    have q := entry_at he i
    rw [hb] at q
    exact ⟨_, b.2.1, q, rfl, e2, e3⟩
section
variable {P : Program} {w : World} {K : PySem.W.Frag} {tg : Expr} {d : Addr} {o : Obj} {es : Array DictEntry} {ep : Nat}
theorem turn_itemsT {kvs : List (List Key × V)} {elts : List Expr} {kk : Nat} {tpos : Pos} (it : Addr) (hod : o.data = .dict es ep) :
    Turn P w K (.Tuple elts kk tpos) (ItiT d o kvs) [it] it (fun i h => ∃ ok ov, IsItemIter h it d i kvs.length ep ok ov) where
  mem := by simp
  obj := fun i h st b hb => by
    have e : b = it := by simpa using hb
    subst e
    obtain ⟨ok, ov, e⟩ := st
    exact ⟨_, e, fun v z => nomatch z⟩
  keep := fun i h h' st k => let ⟨ok, ov, e⟩ := st; ⟨ok, ov, k it (by simp) _ e⟩
  item := by
    intro X hP hw hK hc i pins s σ H E I hf st hg
    subst hP hw hK
    obtain ⟨hd, hi⟩ := hg
    obtain ⟨hs, hgd, hx, es', ep', hdt, hsz, ent⟩ := Inv.frzT2 I hd
    obtain ⟨rfl, rfl⟩ := dict_ep hod hdt
    obtain ⟨⟨k, v⟩, hkv⟩ : ∃ p, kvs[i]? = some p := ⟨kvs[i], List.getElem?_eq_getElem hi⟩
    obtain ⟨en, q, hen, hkey, hq, ru⟩ := ent i k v hkv
    obtain ⟨ok, ov, he⟩ := st
    rw [← hsz] at he
    have hlt : it < s.heap.objs.size := Heap.lt_size he
    have hi2 : i < es'.size := by omega
    have een : es'[i] = en := by
      have := Array.getElem?_eq_getElem hi2
      rw [this] at hen
      exact Option.some.inj hen
    refine wpAny_pyNext_items_item_raw he ⟨o, hgd, hx, hdt⟩ hi2 fun h' ho hT hz hk => ?_
    rw [een, hkey] at ho hT
    refine ⟨_, rfl, wpAny_letOwnedTupleGo_items (s := { s with heap := h' }) ho fun h'' he' sb => ?_⟩
    have hT2 : h''.get? s.heap.objs.size = some { cls := .type "tuple", data := .seq #[.ref q, en.val] } := (sb.2 _ (Nat.ne_of_gt hlt)).trans hT
    have new : ObjOk X.prog X.w (upd H s.heap.objs.size (.tup [.ref q, v])) h'' s.heap.objs.size (.tup [.ref q, v]) :=
      ⟨by show 2 ≤ sizeLine; decide, [.ref q, en.val], .cons rfl (.cons ru .nil), ⟨_, hT2, rfl, _, rfl⟩⟩
    have I1 : Inv X pins σ (upd H s.heap.objs.size (.tup [.ref q, v])) { s with heap := h'' } :=
      I.turnedNew (t' := s.toks) (ch := [it]) (fun b ob hb e => (sb.2 b (by simpa using hb)).trans (hk b ob (by simpa using hb) e)) hf (Nat.le_refl _) new
    refine ⟨.ref s.heap.objs.size, _, I1, rfl, ⟨_, k, v, q, hkv, rfl, I.hok.fresh (Nat.le_refl _), hq, rfl⟩, ⟨.ref q, en.val, ?_⟩, fun b hb => ?_⟩
    · rw [← hsz]; exact he'
    · have e : b = it := by simpa using hb
      rw [e, upd_ne (Nat.ne_of_lt hlt)]
      exact (hf it (by simp)).1
  done := by
    intro X hP hw hK hc i pins s σ H E I hf st hg
    subst hP hw hK
    obtain ⟨hd, hi⟩ := hg
    obtain ⟨f0, f1, f2, f3, f4, f5⟩ := hf it (by simp)
    obtain ⟨hs, hgd, hx, es', ep', hdt, hsz, ent⟩ := Inv.frzT2 I hd
    obtain ⟨rfl, rfl⟩ := dict_ep hod hdt
    obtain ⟨ok, ov, he⟩ := st
    rw [← hsz] at he
    exact wpAny_pyNext_items_end_raw (I.ok.hd hc) he ⟨o, hgd, hx, hdt⟩ (by omega) fun h' eb => ⟨rfl, I.turned (t' := s.toks) (fun b ob hb e => eb b ob hb e) f0 f1 f3 f4 f5⟩
  self := fun A i s Q E st h => let ⟨_, _, e⟩ := st; PySem.W.kcp_self e h
end
theorem j_itemsT {X : Cx} {σ : L2.St} {H : Hp} {R : It → Hp → Prop} {e : Expr} {elts : List Expr} {kk : Nat} {p3 apos cpos : Pos} (h : eW X e σ H fun x H1 => ∃ d o kvs, x = .ref d ∧ H1 d = some (.frz o (.dT kvs)) ∧ R (ItiT d o kvs) H1)
    (hbase : attributeBase e "items" X.env (eval e X.env) = eval e X.env := by rfl) (hline : (apos.endLine == cpos.line) = true := by rfl) : jW X (.Tuple elts kk p3) (.Call (.Attribute e "items" apos) [] [] cpos) σ H R := by
  refine ⟨fun pins s I => ?_⟩
  refine wpAny_Call_method (T := "dict") (id := "dict.items") hbase rfl hline F.plainAttrs_dict F.slot_dict_items F.type_dict_items (thn (h.run pins s I) fun u s1 ⟨x, H1, I1, rx, d, o, kvs, ex, hd, q⟩ => ?_)
  subst ex
  obtain rfl : u = Value.ref d := rx
  obtain ⟨hs, hgd, hx, es, ep, hdt, hsz, ent⟩ := Inv.frzT2 I1 hd
  have hr : s1.heap.DictRaw d es ep := ⟨o, hgd, hx, hdt⟩
  refine ⟨hr.typeIs, fun b q => by cases q; exact ⟨o, hgd, hx.2.1⟩, ?_⟩
  have I2 : Inv X pins σ H1 { s1 with heap := s1.heap.push { cls := .type "dict_items", data := .fields #[.ref d] } } := I1.kept (t' := s1.toks) fun b ob q => Heap.get?_push_of_some _ q
  have fin : wpAny (model X.prog X.w) X.A (pyIter (.ref s1.heap.objs.size)) (PIE X pins σ (.Tuple elts kk p3) R) X.xe { s1 with heap := s1.heap.push { cls := .type "dict_items", data := .fields #[.ref d] } } := by
    refine wpAny_pyIter_items_raw (d := d) ⟨_, Heap.get?_push_size _ rfl, rfl, rfl⟩ (hr.at fun ob q => Heap.get?_push_of_some _ q) (pi_one (tk := s1.toks) I2 _ (turn_itemsT _ hdt) ⟨.none, .none, ?_⟩ q)
    rw [← hsz]
    exact Heap.get?_push_size _ rfl
  show wpAny _ _ (callWith cpos (.builtin "dict.items") [.ref d] [] []) _ X.xe s1
  exact method_meetsIn F.slot_dict_items F.entry_dict_items rfl (PySem.evalArgs_none ⟨rfl, hr.typeIs, F.args_dict_items_1 _, _, meets_dict_items_raw d hs, ⟨es, ep, hr⟩, fin⟩)
theorem walk_itemsT {d : Addr} {o : Obj} {kvs : List (List Key × V)} : Walk (ItiT d o kvs) kvs.length (fun H => H d = some (.frz o (.dT kvs))) (fun i H x H' => ∃ T k v q, kvs[i]? = some (k, v) ∧ x = .ref T ∧ H T = none ∧ H q = some (.tup (k.map kV)) ∧ H' = upd H T (.tup [.ref q, v])) :=
  ⟨fun _ _ hi q => ⟨q, hi⟩, fun _ q => ⟨q, Nat.le_refl _⟩, fun _ _ _ _ _ _ y => y⟩
/-! ### a list against the empty one -/
section
variable {X : Cx} {H : Hp} {Q : VK} {p q : Addr} {xs : List V}
theorem o_neNil (hu : X.A.units + 64 < cLine) (h1 : H p = some (.lst xs)) (h2 : H q = some (.lst [])) (qq : Q (.bl (!decide (xs = []))) H) : oW X (compareOp .NotEq) (.ref p) (.ref q) H Q := by
  refine ⟨fun pins s σ v u I rx ry => ?_⟩
  cases rx
  cases ry
  obtain ⟨z, its, n, r, hl, e⟩ := I.lstM h1
  obtain ⟨z2, its2, n2, r2, hl2, e2⟩ := I.lstM h2
  cases r2
  have L1 : s.heap.IsList p its.toArray := ⟨_, e, rfl, n, rfl⟩
  have L2 : s.heap.IsList q (#[] : Array Value) := ⟨_, e2, rfl, n2, rfl⟩
  cases r with
  | nil =>
    refine SeqAt.RcNeAt.lists (e := fun _ => true) L1 L2 rfl (by omega) (fun j h1 => by cases h1) X.prog X.w X.xe _ ?_
    exact ⟨.bl false, H, I, rfl, qq⟩
  | @cons x y xs ys a b =>
    refine SeqAt.RcNeAt.lists_lengths L1 L2 (by simp) (by omega) X.prog X.w X.xe _ ?_
    exact ⟨.bl true, H, I, rfl, by rw [decide_eq_false (by simp)] at qq; exact qq⟩
theorem o_eqNil (hu : X.A.units + 64 < cLine) (h1 : H p = some (.lst xs)) (h2 : H q = some (.lst [])) (qq : Q (.bl (decide (xs = []))) H) : oW X (compareOp .Eq) (.ref p) (.ref q) H Q := by
  refine ⟨fun pins s σ v u I rx ry => ?_⟩
  cases rx
  cases ry
  obtain ⟨z, its, n, r, hl, e⟩ := I.lstM h1
  obtain ⟨z2, its2, n2, r2, hl2, e2⟩ := I.lstM h2
  cases r2
  have L1 : s.heap.IsList p its.toArray := ⟨_, e, rfl, n, rfl⟩
  have L2 : s.heap.IsList q (#[] : Array Value) := ⟨_, e2, rfl, n2, rfl⟩
  cases r with
  | nil =>
    refine SeqAt.RcAt.lists (e := fun _ => true) L1 L2 rfl (by omega) (fun j h1 => by cases h1) X.prog X.w X.xe _ ?_
    exact ⟨.bl true, H, I, rfl, qq⟩
  | @cons x y xs ys a b =>
    refine SeqAt.RcAt.lists_lengths L1 L2 (by simp) (by omega) X.prog X.w X.xe _ ?_
    exact ⟨.bl false, H, I, rfl, by rw [decide_eq_false (by simp)] at qq; exact qq⟩
end
/-! ### a list is told more by a tuple; list(d) with tuple keys -/
section
open PySem.AutoSeq1
theorem list_extend_tupG (l : Addr) (items : Array Value) (n : Nat) (b : Addr) (items2 : Array Value) (hs0 : ¬(!items.isEmpty && Builtin.List.listTooLong (items.size + items2.size)) = true) (hs1 : items.size ≤ sizeLine) (hs2 : items.size + items2.size ≤ sizeLine + 1) :
    Meets (Builtin.«list.extend» ⟨[.ref l, .ref b], []⟩) (fun _ R s => s.heap.get? l = some { cls := .type "list", dict := none, data := .seq items n, slots := #[] } ∧ IsTup s.heap b items2 ∧ R (.ok (.ret Value.none)) { s with heap := s.heap.update l (Obj.mapSeq fun x => x ++ items2), toks := s.toks }) :=
  .of_wp fun prog w A R s h => by
    obtain ⟨hp, g, d, tk, os⟩ := s; obtain ⟨hl, ⟨⟨c, dd, da, sl⟩, hb, hc, n2, hd⟩, h⟩ := h
    cases hc
    cases hd
    have f1 := idx_int; have f2 := AutoSeq1.sub_tuple_tuple; have f3 := AutoSeq1.sub_list_list; have f4 := AutoSeq1.sub_tuple_list; have f5 := AutoSeq1.sub_list_tuple;
    have hz' : (items ++ items2).size ≤ sizeLine + 1 := by rw [Array.size_append]; exact hs2
    wp_walk using (wpAny_updateSeq hl rfl (hz := hs1) (_hz' := hz')), wpAny_loadPart' hl, wpAny_loadPart' hb; exact ⟨_, rfl, h⟩
end
theorem mt_extendT {X : Cx} : MtM X "list.extend" (fun x vs H Q => ∃ l b xs zs, x = .ref l ∧ vs = [.ref b] ∧ H l = some (.lst xs) ∧ SqT X.K H b zs ∧ xs.length + zs.length ≤ sizeLine ∧ Q .non (upd H l (.lst (xs ++ zs)))) := by
  intro pins s σ H x vs v us Q I rx rv h
  obtain ⟨l, b, xs, zs, rfl, rfl, hH, hB, hz, q⟩ := h
  cases rx
  obtain ⟨u, rfl, ru⟩ := rv.one
  cases ru
  obtain ⟨z, its, n, r, hl, e⟩ := I.lstM hH
  obtain ⟨its2, r2, e2, z2⟩ := I.tuple hB
  have hl2 := r2.length
  have hsz : its.toArray.size + its2.toArray.size ≤ sizeLine := by rw [List.size_toArray, List.size_toArray]; omega
  have hlong : ¬ (!its.toArray.isEmpty && Builtin.List.listTooLong (its.toArray.size + its2.toArray.size)) = true := by
    rw [notLongL hsz, Bool.and_false]
    exact Bool.false_ne_true
  refine call_meets F.slot_list_extend ⟨_, e, rfl⟩ F.entry_list_extend (F.args_list_extend_2 _ _)
    (list_extend_tupG l its.toArray n b its2.toArray hlong (by rw [List.size_toArray]; omega) (by omega)) ⟨e, e2, ?_⟩
  refine ⟨.non, _, I.lset (its' := its ++ its2) hH e (by simp) (r.append r2) ?_, rfl, q⟩
  rw [List.length_append]
  omega
theorem m_extendT {X : Cx} {H : Hp} {Q : VK} {l b : Addr} {xs zs : List V} (h : H l = some (.lst xs)) (h2 : SqT X.K H b zs) (hz : xs.length + zs.length ≤ 16000000) (q : ∀ H2, H2 l = some (.lst (xs ++ zs)) → (∀ b, b ≠ l → H2 b = H b) → Q .non H2) : mW X "list.extend" (.ref l) [.ref b] H Q :=
  mI mt_extendT ⟨l, b, xs, zs, rfl, rfl, h, h2, Nat.le_trans hz (by decide), q _ upd_same fun b hb => upd_ne hb⟩
theorem k_listDT {X : Cx} {H : Hp} {Q : VK} {d : Addr} {kvs : List (List Key × V)} [cc : CxC X] (h : H d = some (.dT kvs)) (q : ∀ l bs H2, Same H H2 → H l = none → H2 l = some (.lst (bs.map V.ref)) → IsKeys H kvs bs → (∀ b, b ≠ l → H2 b = H b) → Q (.ref l) H2) : kW X (.type "list") [.ref d] H Q :=
  kI (call_list_dT cc.h) ⟨d, kvs, rfl, .inl h, fun l bs hl hk => q l bs _ (sameU hl) hl upd_same hk fun b hb => upd_ne hb⟩
theorem length_putK_old {κ : Type} [DecidableEq κ] {kvs : List (κ × V)} {k : κ} {v : V} (h : (valV kvs k).isSome = true) : (putK kvs k v).length = kvs.length := by
  unfold putK
  rw [valV_any, h, if_pos rfl, List.length_map]
/-- d[k] -= e, keys that are tuples, numbers -/
theorem s_dsubT {X : Cx} {σ : L2.St} {H : Hp} {D : Ends} {o i e : Expr} {pos p2 : Pos} (hu : X.A.units + 1 < cLine) (h : eW X o σ H fun x H1 => eW X i σ H1 fun y H2 => ∃ (d : Addr) (kvs : List (List Key × V)) (k : List Key) (b : Addr) (n : Int), x = .ref d ∧ H2 d = some (.dT kvs) ∧ y = .ref b ∧ H2 b = some (.tup (k.map kV)) ∧ valV kvs k = some (.int n) ∧ kvs.length ≤ 10000000 ∧ eW X e σ H2 fun z H3 => ∃ j, z = .int j ∧ Same H2 H3 ∧ ∀ H4, H4 d = some (.dT (putK kvs k (.int (n - j)))) → (∀ b, b ≠ d → H4 b = H3 b) → D.nx σ H4)
    (ha : ∀ ov iv new, augStore i ov iv new = (do holding [new, ov, iv] (setItem ov iv new); release [new, ov, iv] []; pure .next) := by intro _ _ _; rfl) : sW X (.AugAssign (.Subscript o i p2) .Sub e pos) D σ H :=
  sI (ps_daug hu PEw PEw PEw in_sub ha) (eMono h fun x H1 h1 => eMono h1 fun y H2 ⟨d, kvs, k, b, n, e1, e2, e3, e4, e5, e6, q⟩ => ⟨d, .int n, e1, by rw [e3, ← e5]; exact DGet.t e2 e4, eMono q fun z H3 ⟨j, ej, s, q2⟩ => ⟨n, j, rfl, ej, _, by rw [e3]; exact DPut.t (s _ _ e2) (s _ _ e4) (Nat.lt_of_le_of_lt e6 (by decide)), q2 _ upd_same fun b hb => upd_ne hb⟩⟩)
/-- x in t, a tuple, as data -/
theorem o_inTD {X : Cx} {H : Hp} {Q : VK} {x y : V} {d : PyData} {ds : List PyData} (hu : X.A.units + 64 < cLine) (hx : Dp X.K H x d) (hy : Dp X.K H y (.tuple ds)) (sd : Sh 10 d) (se : Sh 10 (.tuple ds)) (q : Q (.bl (ds.any fun e => PyData.eqv e d)) H) : oW X (compareOp .In) x y H Q := ⟨fun pins s σ u u' I rx ry => by
  obtain ⟨as, r1⟩ := Dp.reads I d x u hx rx
  obtain ⟨bs, r2⟩ := Dp.reads I (.tuple ds) y u' hy ry
  have h1 := sd.dep
  have h2 : min (PyData.depthAll ds) d.depth ≤ d.depth := Nat.min_le_right _ _
  exact SeqAt.in_tuple_data r2 r1 (PySem.PyData.plain_of_canLay0 _ se.can) (PySem.PyData.plain_of_canLay0 _ sd.can) (by omega) ⟨.bl _, H, I, rfl, q⟩⟩
/-- x in xs, a list, as data -/
theorem o_inLD {X : Cx} {H : Hp} {Q : VK} {x y : V} {d : PyData} {ds : List PyData} (hu : X.A.units + 64 < cLine) (hx : Dp X.K H x d) (hy : Dp X.K H y (.list ds)) (sd : Sh 10 d) (se : Sh 10 (.list ds)) (q : Q (.bl (ds.any fun e => PyData.eqv e d)) H) : oW X (compareOp .In) x y H Q := ⟨fun pins s σ u u' I rx ry => by
  obtain ⟨as, r1⟩ := Dp.reads I d x u hx rx
  obtain ⟨bs, r2⟩ := Dp.reads I (.list ds) y u' hy ry
  have h1 := sd.dep
  have h2 : min (PyData.depthAll ds) d.depth ≤ d.depth := Nat.min_le_right _ _
  exact SeqAt.in_list_data r2 r1 (PySem.PyData.plain_of_canLay0 _ se.can) (PySem.PyData.plain_of_canLay0 _ sd.can) (by omega) ⟨.bl _, H, I, rfl, q⟩⟩
/-- x not in xs, a list, as data -/
theorem o_niLD {X : Cx} {H : Hp} {Q : VK} {x y : V} {d : PyData} {ds : List PyData} (hu : X.A.units + 64 < cLine) (hx : Dp X.K H x d) (hy : Dp X.K H y (.list ds)) (sd : Sh 10 d) (se : Sh 10 (.list ds)) (q : Q (.bl (!ds.any fun e => PyData.eqv e d)) H) : oW X (compareOp .NotIn) x y H Q := ⟨fun pins s σ u u' I rx ry => by
  obtain ⟨as, r1⟩ := Dp.reads I d x u hx rx
  obtain ⟨bs, r2⟩ := Dp.reads I (.list ds) y u' hy ry
  have h1 := sd.dep
  have h2 : min (PyData.depthAll ds) d.depth ≤ d.depth := Nat.min_le_right _ _
  exact SeqAt.notIn_list_data r2 r1 (PySem.PyData.plain_of_canLay0 _ se.can) (PySem.PyData.plain_of_canLay0 _ sd.can) (by omega) ⟨.bl _, H, I, rfl, q⟩⟩
theorem e_clear {X : Cx} {σ : L2.St} {H : Hp} {Q : VK} {o : Expr} {apos pos : Pos} (h : eW X o σ H fun x H1 => tyV X.K "list" x H1 ∧ mW X "list.clear" x [] H1 Q) (hbase : attributeBase o "clear" X.env (eval o X.env) = eval o X.env := by rfl) (hline : (apos.endLine == pos.line) = true := by rfl) : eW X (.Call (.Attribute o "clear" apos) [] [] pos) σ H Q :=
  e_bm0 PySem.F.plainAttrs_list PySem.F.slot_list_clear PySem.F.type_list_clear h hbase hline
theorem m_clear {X : Cx} {H : Hp} {Q : VK} {l : Addr} {xs : List V} (h : H l = some (.lst xs)) (q : ∀ H2, H2 l = some (.lst []) → (∀ b, b ≠ l → H2 b = H b) → Q .non H2) : mW X "list.clear" (.ref l) [] H Q :=
  mI mt_clear ⟨l, _, rfl, rfl, h, q _ upd_same fun b hb => upd_ne hb⟩
theorem j_keysT {X : Cx} {σ : L2.St} {H : Hp} {R : It → Hp → Prop} {it tg : Expr} (h : eW X it σ H fun x H1 => ∃ d o kvs, x = .ref d ∧ H1 d = some (.frz o (.dT kvs)) ∧ R (Itkt d o kvs) H1) : jW X tg it σ H R :=
  jI (pi_keys PEw) (eMono h fun x H1 ⟨d, o, kvs, e, k, q⟩ => ⟨d, o, e, .inr ⟨kvs, k, q⟩⟩)
theorem k_lenDT {X : Cx} {H : Hp} {Q : VK} {d : Addr} {kvs : List (List Key × V)} (h : H d = some (.dT kvs)) (q : Q (.int ((kvs.length : Nat) : Int)) H) : kW X (.builtin "len") [.ref d] H Q := kI call_len_dT ⟨_, _, rfl, h, q⟩
/-! ### max(xs, default=d) -/
theorem depthAll_ints : ∀ l : List Int, PyData.depthAll (l.map PyData.int) = 0
  | [] => rfl
  | _ :: l => by
    show max 0 (PyData.depthAll (l.map PyData.int)) = 0
    rw [depthAll_ints l]
    rfl
theorem alike_ints (l : List Int) : PySem.W.AlikeAll (l.map PyData.int) := ⟨fun x hx y hy => by
  obtain ⟨i, _, rfl⟩ := List.mem_map.mp hx
  obtain ⟨j, _, rfl⟩ := List.mem_map.mp hy
  rfl, fun x hx e => by
  obtain ⟨i, _, rfl⟩ := List.mem_map.mp hx
  cases e⟩
def rMaxDf (K : PySem.W.Frag) : List V → List V → Hp → VK → Prop := fun vs zs H Q => ∃ (p : Addr) (ns : List Int) (y : V), vs = [.ref p] ∧ zs = [y] ∧ SqL K H p (ns.map V.int) ∧ (ns = [] → Q y H) ∧ ∀ n ns', ns = n :: ns' → Q (.int (ns'.foldl max n)) H
theorem cr_maxDf {X : Cx} (hc : X.calm = true) (hu : X.A.units + 64 < cLine) : CallRK X (.builtin "max") [Str.ofString "default"] (rMaxDf X.K) := by
  intro pins s σ H vs zs us ws Q I r rz h
  obtain ⟨p, ns, y, rfl, rfl, hs, q0, q1⟩ := h
  obtain rfl := Vals.ref1 r
  obtain ⟨w1, rfl, e1⟩ := vals1 rz
  obtain ⟨its, rv, hl, hz⟩ := I.list hs
  obtain ⟨as, rs⟩ := Dp.readsAll I (ns.map .int) _ _ (dp_ints ns) rv
  show wpAny _ _ (call (.builtin "max") [.ref p] [(Str.ofString "default", w1)]) _ _ _
  refine PySem.W.max_list_default (vs := its.toArray) (I.ok.hd hc) hl.isList rs (alike_ints ns) (by rw [depthAll_ints]; omega) (fun e h' tk hk => ⟨y, H, I.kept (t' := tk) hk, e1, q0 (by cases ns with | nil => rfl | cons a l => cases e)⟩) fun z zs' i v h' tk bs e hv rd hk => ?_
  cases ns with
  | nil => cases e
  | cons n ns' =>
    cases e
    rw [PySem.W.maxD_ints] at rd
    cases rd
    exact ⟨.int (ns'.foldl max n), H, I.kept (t' := tk) hk, ⟨_, rfl⟩, q1 n ns' rfl⟩
theorem e_maxDf {X : Cx} {σ : L2.St} {H : Hp} {Q : VK} {mg : Str → Option Value} {e d : Expr} {pos p2 kpos : Pos} [cc : CxC X] [cm : CxM X mg] [g : Gn mg "max" none] (hu : X.A.units + 64 < cLine) (h : eW X e σ H fun x H1 => eW X d σ H1 fun y H2 => ∃ p ns, x = .ref p ∧ SqL X.K H2 p (ns.map V.int) ∧ (ns = [] → Q y H2) ∧ ∀ n ns', ns = n :: ns' → Q (.int (ns'.foldl max n)) H2) (hg : Gl X "max" := by rfl) (hs1 : starEach [e] X.env = (false, eval e X.env) :: starEach [] X.env := by rfl)
    (he : backTo pos (starEach [e] X.env) = (false, eval e X.env) :: backTo pos (starEach [] X.env) := by rfl) (hpl : (backTo pos (starEach [e] X.env)).any (·.1) = false := by rfl)
    (hall : (backToKw pos (keywordEach [⟨some (Str.ofString "default"), d, kpos⟩] X.env)).all (·.1.isSome) = true := by rfl) (hnone : (backToKw pos (keywordEach [⟨some (Str.ofString "default"), d, kpos⟩] X.env)).any (·.1.isNone) = false := by rfl) (hks : (backToKw pos (keywordEach [⟨some (Str.ofString "default"), d, kpos⟩] X.env)).filterMap (·.1) = [Str.ofString "default"] := by rfl) : eW X (.Call (.Name "max" p2) [e] [⟨some (Str.ofString "default"), d, kpos⟩] pos) σ H Q :=
  eI (pe_callBK (cr_maxDf cc.h hu) hg (by rw [cm.h]; exact g.h) (by decide +kernel) (pa_cons PEw pa_nil hs1) (pk_cons PEw pk_nil) (he := he) (hpl := hpl) (hall := hall) (hnone := hnone) (hks := hks)) (eMono h fun x H1 q => eMono q fun y H2 ⟨p, ns, e1, e2, e3, e4⟩ => ⟨p, ns, y, by rw [e1], rfl, e2, e3, e4⟩)
/-! ### a dict display of one pair, the key a tuple; list.pop(0) -/
section
open PySem PySem.Spec PyProof.Rows
theorem pe_dispT1 {X : Cx} {pos : Pos} {a b : Expr} {ta tb : TE} (hu : X.A.units + 1 < cLine) (ha : PE X a ta) (hb : PE X b tb) : PE X (.Dict [some a] [b] pos) (fun σ H Q => ∀ p, H p = none → tPairs [(ta, tb)] σ (upd H p (.dT [])) fun ps H2 => H2 p = some (.dT []) ∧ ∃ (k : List Key) (c : Addr) (y : V), ps = [(.ref c, y)] ∧ H2 c = some (.tup (k.map kV)) ∧ Q (.ref p) (upd H2 p (.dT (putK [] k y)))) := by
  refine ⟨fun pins s σ H Q I q => ?_⟩
  have hn := I.hok.fresh (Nat.le_refl s.heap.objs.size)
  have I1 := I.laid (a := s.heap.objs.size) (o := .dT []) (h' := s.heap.push { cls := .type "dict", data := .dict #[] }) (t' := s.toks) (fun _ _ q => Heap.get?_push_of_some _ q) (Nat.le_refl _) (dt_empty s.heap I.big)
  rw [arm_eval_Dict, zip_pairTrees [some a] [b] X.env pos rfl rfl, dictDisplay_pairs (pairTrees [some a] [b] X.env pos) (fun z => nomatch z) (by show 1 < 17; decide)]
  refine wpAny_bind (wpAny_standAt (wpAny_bind (wpAny_subDictH (knd := tupleKind (mixKind X.prog X.w)) (Q := fun d s' => wpAny (model X.prog X.w) X.A (pure (Value.ref d)) _ X.xe s') (by show X.A.units < cLine; omega) (by show 1 ≤ 15; decide) ?_)))
  refine thn ((pps_cons ha hb pps_nil).run pins _ σ _ (fun ps H2 => H2 s.heap.objs.size = some (.dT []) ∧ ∃ (k : List Key) (c : Addr) (y : V), ps = [(.ref c, y)] ∧ H2 c = some (.tup (k.map kV)) ∧ Q (.ref s.heap.objs.size) (upd H2 s.heap.objs.size (.dT (putK [] k y)))) I1 ?_) fun ws s2 ⟨ps, H2, I2, rel, e, k, c, y, ep, ec, q2⟩ => ?_
  · exact q _ hn
  subst ep
  obtain ⟨z, hd, xs, r0, dd⟩ := dt_of I2.hok e
  cases r0
  obtain ⟨u1, w1, rfl, r1, r2⟩ : ∃ u1 w1, ws = [(u1, w1)] ∧ RelV (.ref c) u1 ∧ RelV y w1 := by
    cases rel with
    | cons hq t => cases t; exact ⟨_, _, rfl, hq.1, hq.2⟩
  cases (show u1 = Value.ref c from r1)
  refine ⟨[(k, c, w1)], ⟨rfl, rfl, key_of I2.hok ec, trivial⟩, dd, fun h' tk dd' hs => wpAny_pure ?_⟩
  obtain ⟨q, es, ep, hq, h2, h3, h4, _, h5⟩ := dd'
  have hput : KT H2 (putK [] k y) (storedAllH [] [(k, c, w1)]) := KT.put (kvs := []) (xs := []) .nil k ec r2
  refine ⟨.ref s.heap.objs.size, _, d_write (ob := .dT (putK [] k y)) I2 (by rw [e]; exact True.intro) hs ⟨q, hq⟩ ⟨(by rw [sizeLine_eq]; show 1 ≤ _; decide), hd, _, hput.keeps fun c ys ec => ?_, q, es, ep, hq, h2, h3, h4, h5⟩, rfl, q2⟩
  rw [upd_ne (ne_of ec e (fun z => nomatch z))]
  exact ec
theorem e_dctT1 {X : Cx} {σ : L2.St} {H : Hp} {Q : VK} {pos : Pos} {a b : Expr} (hu : X.A.units + 1 < cLine) (h : ∀ p H', Same H H' → H p = none → H' p = some (.dT []) → (∀ b, b ≠ p → H' b = H b) → eW X a σ H' fun x H1 => eW X b σ H1 fun y H2 => H2 p = some (.dT []) ∧ ∃ (k : List Key) (c : Addr), x = .ref c ∧ H2 c = some (.tup (k.map kV)) ∧ ∀ H3, H3 p = some (.dT [(k, y)]) → (∀ b, b ≠ p → H3 b = H2 b) → Q (.ref p) H3) : eW X (.Dict [some a] [b] pos) σ H Q :=
  eI (pe_dispT1 hu PEw PEw) fun p hp => eMono (h p _ (sameU hp) hp upd_same fun _ hb => upd_ne hb) fun x H1 h1 => eMono h1 fun y H2 ⟨e, k, c, ek, ec, q⟩ => ⟨e, k, c, y, by rw [ek], ec, q _ upd_same fun _ hb => upd_ne hb⟩
theorem m_pop0 {X : Cx} {H : Hp} {Q : VK} {l : Addr} {x : V} {xs : List V} (h : H l = some (.lst (x :: xs))) (q : ∀ H2, H2 l = some (.lst xs) → (∀ b, b ≠ l → H2 b = H b) → Q x H2) : mW X "list.pop" (.ref l) [.int 0] H Q :=
  mI mt_popAt ⟨l, _, 0, 0, x, rfl, rfl, h, by decide, by decide, by unfold seqIndex?; simp, rfl, q _ (by rw [List.eraseIdx_cons_zero]; exact upd_same) fun b hb => upd_ne hb⟩
theorem e_popA {X : Cx} {σ : L2.St} {H : Hp} {Q : VK} {o e : Expr} {pos apos : Pos} (h : eW X o σ H fun x H1 => tyV X.K "list" x H1 ∧ aW X [e] σ H1 fun xs H2 => mW X "list.pop" x xs H2 Q) (hbase : attributeBase o "pop" X.env (eval o X.env) = eval o X.env := by rfl)
    (hfew : ((backTo pos (starEach [e] X.env)).all (fun x => !x.1) && (backToKw pos (keywordEach [] X.env)).all (fun x => x.1.isSome) && decide ([e].length + ([] : List Keyword).length + (if ([] : List Keyword).isEmpty then 0 else 1) < 30)) = true := by rfl)
    (hline : (apos.endLine == pos.line) = true := by rfl) (hs : starEach [e] X.env = (false, eval e X.env) :: starEach [] X.env := by rfl) : eW X (.Call (.Attribute o "pop" apos) [e] [] pos) σ H Q :=
  e_bm PySem.F.plainAttrs_list PySem.F.slot_list_pop PySem.F.type_list_pop h hbase hfew hline hs rfl
end
/-! int * tuple -/
theorem int_mul_tuple (a : Int) (t : Tok) (l : Addr) (items : Array Value) (n : Nat) (dd : Option Addr) (sl : Array (Option Value)) :
    Meets (Builtin.«int.__mul__» ⟨[.int a t, .ref l], []⟩) (fun _ R s => s.heap.get? l = some { cls := .type "tuple", dict := dd, data := .seq items n, slots := sl } ∧ R (.ok (.ret Value.notImplemented)) s) :=
  .of_wp fun prog w A R s h => by obtain ⟨hp, g, d, tk, os⟩ := s; obtain ⟨hl, h⟩ := h; wp_walk using wpAny_loadPart' hl; exact ⟨_, rfl, h⟩
theorem op_repTL {X : Cx} : OpR X (binaryOp .Mult) (fun x y H Q => rRepT X.K y x H Q) := by
  intro pins s σ H x y v u Q I rx ry h
  obtain ⟨l, k, xs, rfl, rfl, hT, hne, h1, h2, hz, q⟩ := h
  cases ry
  obtain ⟨t, rfl⟩ := rx
  obtain ⟨its, r, ⟨⟨cls, dd, data, sl⟩, ho, hc, n, hd⟩, hs⟩ := I.tuple hT
  simp only at hc hd
  subst hc hd
  have hle : its.length = xs.length := r.length.symm
  have hn : its ≠ [] := fun e => hne (by
    rw [e] at hle
    exact List.eq_nil_of_length_eq_zero hle.symm)
  have hi : its.toArray.isEmpty = false := by
    cases its with
    | nil => exact absurd rfl hn
    | cons a b => rfl
  have hsz0 : its.toArray.size = xs.length := by rw [List.size_toArray, hle]
  have hm : ((its.toArray.size : Nat) : Int) * k ≤ 1000000 := by
    rw [hsz0]
    have a1 : ((xs.length : Nat) : Int) * k ≤ 1000 * k := Int.mul_le_mul_of_nonneg_right (by omega) (by omega)
    omega
  have flen : (List.replicate k.toNat its).flatten.length ≤ sizeLine := by
    rw [PyProof.Rows.lm_len_rep_flat, hle, sizeLine_eq]
    have a1 : k.toNat * xs.length ≤ 1000 * 1000 := Nat.mul_le_mul (by omega) hz
    omega
  have c0 : (decide (k < -(2 ^ 63)) || decide (k ≥ 2 ^ 63)) = false := by
    rw [decide_eq_false (by omega), decide_eq_false (by omega)] <;> rfl
  have c1 : (its.toArray.isEmpty || k == 1) = false := by
    rw [hi, Bool.false_or]
    exact beq_eq_false_iff_ne.mpr (by omega)
  have c2 : (decide (k ≤ 0) || its.toArray.isEmpty) = false := by
    rw [hi, Bool.or_false]
    exact decide_eq_false (by omega)
  have c4 : Builtin.Tuple.tupleTooMany (((its.toArray.size : Nat) : Int) * k) = false := by
    unfold Builtin.Tuple.tupleTooMany
    rw [sizeLine_eq]
    exact decide_eq_false (by omega)
  refine lm_binaryOp_repeat_right (T := "tuple") (U := "int") (by decide) (fun s' => typeIs_int s' k t) ⟨_, ho, rfl⟩ F.fills_int_mul noFill_tuple_mul F.slot_int_mul lm_noRepeat_int repeat_tuple F.slot_int_index.lookup
    (call_meets F.slot_int_mul (typeIs_int s k t) F.entry_int_mul (F.args_int_mul_2 _ _) (int_mul_tuple k t l its.toArray n dd sl)
      ⟨ho, rfl, ⟨_, ho, rfl⟩, call_meets F.slot_tuple_mul ⟨_, ho, rfl⟩ F.entry_tuple_mul (F.args_tuple_mul_2 _ _) (tuple_mulW l its.toArray n dd sl k t c0 c1 c2 (by omega) c4 (by rw [size_rep, List.size_toArray]; exact flen)) ⟨ho, ?_⟩⟩)
  rw [size_rep]
  refine ⟨.ref s.heap.objs.size, _, I.laid (t' := s.toks) (o := .tup (List.replicate k.toNat xs).flatten) (fun b ob q => Heap.get?_push_of_some _ q) (Nat.le_refl _) ?_, rfl, q _ (I.hok.fresh (Nat.le_refl _))⟩
  exact ⟨by rw [PyProof.Rows.lm_len_rep_flat, sizeLine_eq]; have a1 : k.toNat * xs.length ≤ 1000 * 1000 := Nat.mul_le_mul (by omega) hz; omega, _, r.rep k.toNat, IsTup.new _ _⟩
theorem o_repTL {X : Cx} {H : Hp} {Q : VK} {p : Addr} {xs : List V} {k : Int} (h : H p = some (.tup xs)) (h0 : xs ≠ []) (h1 : 2 ≤ k) (h2 : k ≤ 1000) (hz : xs.length ≤ 1000) (q : ∀ t H2, Same H H2 → H t = none → H2 t = some (.tup (List.replicate k.toNat xs).flatten) → Q (.ref t) H2) : oW X (binaryOp .Mult) (.int k) (.ref p) H Q :=
  oI op_repTL ⟨p, k, xs, rfl, rfl, SqT.of h, h0, h1, h2, hz, fun t ht => q t _ (sameU ht) ht upd_same⟩
/-! partition; pop(i); len of a dict -/
theorem e_partition {X : Cx} {σ : L2.St} {H : Hp} {Q : VK} {o e : Expr} {pos apos : Pos} (h : eW X o σ H fun x H1 => (∃ a, x = .str a) ∧ eW X e σ H1 fun y H2 => mW X "str.partition" x [y] H2 Q) (hs : starEach [e] X.env = [(false, eval e X.env)] := by rfl) (hbase : attributeBase o "partition" X.env (eval o X.env) = eval o X.env := by rfl) (hline : (apos.endLine == pos.line) = true := by rfl) : eW X (.Call (.Attribute o "partition" apos) [e] [] pos) σ H Q :=
  eI (pe_m1 PySem.F.slot_str_partition PySem.F.type_str_partition MRw PEw PEw hs hbase hline) h
theorem m_partition {X : Cx} {H : Hp} {Q : VK} {a b : Str} (hb : (b.length == 0) = false) (ha : a.length ≤ 1000000) (q : ∀ p H2, Same H H2 → H p = none → H2 p = some (.tup [.str (Txt.partition a b).1, .str (Txt.partition a b).2.1, .str (Txt.partition a b).2.2]) → Q (.ref p) H2) : mW X "str.partition" (.str a) [.str b] H Q :=
  mI mt_partition ⟨_, _, rfl, rfl, hb, by rw [sizeLine_eq]; omega, fun l hl => q l _ (sameU hl) hl upd_same⟩
theorem m_popK {X : Cx} {H : Hp} {Q : VK} {l : Addr} {xs : List V} {k : Nat} {y : V} (h : H l = some (.lst xs)) (hk : xs[k]? = some y) (hz : xs.length ≤ 100000) (q : ∀ H2, H2 l = some (.lst (xs.eraseIdx k)) → (∀ b, b ≠ l → H2 b = H b) → Q y H2) : mW X "list.pop" (.ref l) [.int ((k : Nat) : Int)] H Q :=
  mI mt_popAt ⟨l, xs, (k : Nat), k, y, rfl, rfl, h, by omega, by have := (List.getElem?_eq_some_iff.mp hk).1; omega, by
    have := (List.getElem?_eq_some_iff.mp hk).1
    exact (ixN_seq (n := xs.length) (i := ((k : Nat) : Int)) (j := k) (by unfold ixN; rw [if_pos (by omega), if_pos (by omega)]; rfl)).1, hk, q _ upd_same fun b hb => upd_ne hb⟩
theorem k_lenD {X : Cx} {H : Hp} {Q : VK} {d : Addr} {kvs : List (Key × V)} (h : H d = some (.dK kvs)) (q : Q (.int ((kvs.length : Nat) : Int)) H) : kW X (.builtin "len") [.ref d] H Q := kI call_lenD ⟨_, _, rfl, h, q⟩
/-- C(), with an __init__ of one's own -/
theorem e_make0 {X : Cx} {σ : L2.St} {H : Hp} {Q : VK} {pos p2 : Pos} {mg : Str → Option Value} {C : Addr} {x : Str} {k : Nat} {ps : List Str} {sp : Sp} {W : WX} [ct : CxT X W] [cm : CxM X mg] [g : Gn mg x (some (.ref C))] (F : Ini X.prog X.w X.K X.mg X.base C k ps sp) (hr : Room (k + 1) X.A)
    (h : ∀ p dx H2, Same H H2 → H p = none → H dx = none → dx ≠ p → H2 p = some (.ins C dx []) → H2 dx = some (.own p) → (∀ b, b ≠ p → b ≠ dx → H2 b = H b) → sp [.ref p] H2 (fun v H3 => v = .non ∧ Q (.ref p) H3) fun cls d H' => W cls d σ H')
    (hg : Gl X x := by rfl) (hdb : (x == ("__debug__" : Str)) = false := by decide) : eW X (.Call (.Name x p2) [] [] pos) σ H Q := by
  obtain ⟨f, fd, h1, h2, h3⟩ := F.ex
  exact ⟨fun pins s I => wpAny_Call_Name_kw (ld_glob I hg (by rw [cm.h]; exact g.h) (PySem.W.callWith_K0 I.kIn h1.kp (run_makeS h1 h3 hr h2 (passAt ct.h σ) I .nil fun p dx hp hdx hne => h p dx _ (Same.made' hp hdx) hp hdx hne upd_same (by rw [upd_ne hne]; exact upd_same) fun b hb hb2 => by rw [upd_ne hb, upd_ne hb2])) hdb)⟩
/-! tuple * int, any number -/
section
open PySem PySem.Spec PyProof.Rows
theorem tuple_mul1 (l : Addr) (items : Array Value) (n : Nat) (dd : Option Addr) (sl : Array (Option Value)) (x : Int) (u : Tok) (c0 : (decide (x < -(2 ^ 63)) || decide (x ≥ 2 ^ 63)) = false) (c1 : (items.isEmpty || x == 1) = true) :
    Meets (Builtin.«tuple.__mul__» ⟨[.ref l, .int x u], []⟩) (fun _ R s => s.heap.get? l = some { cls := .type "tuple", dict := dd, data := .seq items n, slots := sl } ∧ R (.ok (.ret (Value.ref l))) s) :=
  .of_wp fun prog w A R s h => by
    obtain ⟨hp, g, d, tk, os⟩ := s
    obtain ⟨hl, h⟩ := h
    have f1 := AutoSeq1.idx_int
    wp_walk using wpAny_loadPart' hl
    repeat (first
      | (refine wpAny_ite_false (decide_eq_false (by rw [c0]; exact Bool.false_ne_true)) ?_; wp_walk using wpAny_loadPart' hl)
      | (refine wpAny_ite_true (decide_eq_true c1) ?_; wp_walk using wpAny_loadPart' hl))
    exact ⟨_, rfl, h⟩

theorem tuple_mul0 (l : Addr) (items : Array Value) (n : Nat) (dd : Option Addr) (sl : Array (Option Value)) (x : Int) (u : Tok) (c0 : (decide (x < -(2 ^ 63)) || decide (x ≥ 2 ^ 63)) = false) (c1 : (items.isEmpty || x == 1) = false) (c2 : (decide (x ≤ 0) || items.isEmpty) = true) :
    Meets (Builtin.«tuple.__mul__» ⟨[.ref l, .int x u], []⟩) (fun _ R s => s.heap.get? l = some { cls := .type "tuple", dict := dd, data := .seq items n, slots := sl } ∧
      R (.ok (.ret (Value.ref s.heap.objs.size))) { s with heap := s.heap.push { cls := Value.type "tuple", data := Data.seq #[] }, toks := s.toks }) :=
  .of_wp fun prog w A R s h => by
    obtain ⟨hp, g, d, tk, os⟩ := s
    obtain ⟨hl, h⟩ := h
    have f1 := AutoSeq1.idx_int
    wp_walk using wpAny_loadPart' hl
    repeat (first
      | (refine wpAny_ite_false (decide_eq_false (by rw [c0]; exact Bool.false_ne_true)) ?_; wp_walk using wpAny_loadPart' hl)
      | (refine wpAny_ite_false (decide_eq_false (by rw [c1]; exact Bool.false_ne_true)) ?_; wp_walk using wpAny_loadPart' hl)
      | (refine wpAny_ite_true (decide_eq_true c2) ?_; wp_walk using wpAny_loadPart' hl))
    exact ⟨_, rfl, h⟩
theorem op_repTA {X : Cx} : OpR X (binaryOp .Mult) (fun x y H Q => ∃ l k xs, x = .ref l ∧ y = .int k ∧ H l = some (.tup xs) ∧ xs ≠ [] ∧ 0 ≤ k ∧ k ≤ 1000 ∧ xs.length ≤ 1000 ∧ (k = 1 → Q (.ref l) H) ∧ ∀ p, H p = none → Q (.ref p) (upd H p (.tup (List.replicate k.toNat xs).flatten))) := by
  intro pins s σ H x y v u Q I rx ry h
  obtain ⟨l, k, xs, rfl, rfl, hH, hne, h1, h2, hz, q1, q⟩ := h
  have hT : SqT X.K H l xs := SqT.of hH
  by_cases c : 2 ≤ k
  · exact op_repT pins s σ H (.ref l) (.int k) v u Q I rx ry ⟨l, k, xs, rfl, rfl, hT, hne, c, h2, hz, q⟩
  cases rx
  obtain ⟨t, rfl⟩ := ry
  obtain ⟨its, r, ⟨⟨cls, dd, data, sl⟩, ho, hc, n, hd⟩, hs⟩ := I.tuple hT
  simp only at hc hd
  subst hc hd
  have hle : its.length = xs.length := r.length.symm
  have hn : its ≠ [] := fun e => hne (by
    rw [e] at hle
    exact List.eq_nil_of_length_eq_zero hle.symm)
  have hi : its.toArray.isEmpty = false := by
    cases its with
    | nil => exact absurd rfl hn
    | cons a b => rfl
  have c0 : (decide (k < -(2 ^ 63)) || decide (k ≥ 2 ^ 63)) = false := by
    rw [decide_eq_false (by omega), decide_eq_false (by omega)] <;> rfl
  by_cases e1 : k = 1
  · refine wpAny_binaryOp_repeat_ref (T := "tuple") (U := "int") (by decide) ⟨_, ho, rfl⟩ (fun s' => typeIs_int s' k t) noFill_tuple_mul F.fills_int_mul F.slot_int_rmul repeat_tuple F.slot_int_index.lookup
      (call_meets F.slot_int_rmul (typeIs_int s k t) F.entry_int_rmul (F.args_int_rmul_2 _ _) (int_rmul_tuple k t l its.toArray n dd sl)
        ⟨ho, rfl, ⟨_, ho, rfl⟩, call_meets F.slot_tuple_mul ⟨_, ho, rfl⟩ F.entry_tuple_mul (F.args_tuple_mul_2 _ _) (tuple_mul1 l its.toArray n dd sl k t c0 (by rw [e1]; simp)) ⟨ho, ?_⟩⟩)
    exact ⟨.ref l, H, I.tok _, rfl, q1 e1⟩
  · have e0 : k = 0 := by omega
    refine wpAny_binaryOp_repeat_ref (T := "tuple") (U := "int") (by decide) ⟨_, ho, rfl⟩ (fun s' => typeIs_int s' k t) noFill_tuple_mul F.fills_int_mul F.slot_int_rmul repeat_tuple F.slot_int_index.lookup
      (call_meets F.slot_int_rmul (typeIs_int s k t) F.entry_int_rmul (F.args_int_rmul_2 _ _) (int_rmul_tuple k t l its.toArray n dd sl)
        ⟨ho, rfl, ⟨_, ho, rfl⟩, call_meets F.slot_tuple_mul ⟨_, ho, rfl⟩ F.entry_tuple_mul (F.args_tuple_mul_2 _ _) (tuple_mul0 l its.toArray n dd sl k t c0 (by rw [hi, e0]; rfl) (by rw [e0]; rfl)) ⟨ho, ?_⟩⟩)
    refine ⟨.ref s.heap.objs.size, _, I.laid (t' := s.toks) (o := .tup (List.replicate k.toNat xs).flatten) (fun b ob q => Heap.get?_push_of_some _ q) (Nat.le_refl _) ?_, rfl, q _ (I.hok.fresh (Nat.le_refl _))⟩
    rw [e0]
    exact ⟨by show 0 ≤ sizeLine; exact Nat.zero_le _, [], .nil, IsTup.new _ _⟩
theorem o_repTA {X : Cx} {H : Hp} {Q : VK} {p : Addr} {xs : List V} {k : Int} (h : H p = some (.tup xs)) (h0 : xs ≠ []) (h1 : 0 ≤ k) (h2 : k ≤ 1000) (hz : xs.length ≤ 1000) (q : ∀ t H2, Same H H2 → H2 t = some (.tup (List.replicate k.toNat xs).flatten) → Q (.ref t) H2) : oW X (binaryOp .Mult) (.ref p) (.int k) H Q :=
  oI op_repTA ⟨p, k, xs, rfl, rfl, h, h0, h1, h2, hz, fun e => q p H (Same.refl _) (by rw [h, e]; show _ = some (HO.tup (List.replicate 1 xs).flatten); simp), fun t ht => q t _ (sameU ht) upd_same⟩
end
/-! ### defs with default arguments -/
structure AtD (K : PySem.W.Frag) (mg : Str → Option Value) (x q : Str) (st : Stmt) (ps : List Str) (dvs : List V) : Prop where
  ex : ∃ (f : Addr) (fd : FuncData), mg x = some (.ref f) ∧ FunD K x q (defArgs st) (defBody st) (defScope st) dvs [] f fd ∧ Binds K fd ps [] ∧ ∃ ds, Vals dvs ds ∧ Binds K fd ps ds
structure DfD (P : Program) (w : World) (K : PySem.W.Frag) (mg : Str → Option Value) (base : Heap) (x : Str) (k : Nat) (ps : List Str) (dvs : List V) (sp : Sp) : Prop where
  ex : ∃ (f : Addr) (fd : FuncData), mg x = some (.ref f) ∧ PySem.W.keepIn K (.ref f) = true ∧ (∃ ds, Vals dvs ds ∧ Binds K fd ps ds) ∧ FnOk P w K mg base (L2.CX P w) k f fd ps sp
theorem atD_mk {K : PySem.W.Frag} {mg : Str → Option Value} {x q : Str} {st : Stmt} {ps : List Str} {dvs : List V} {f T : Addr} {oc oc2 kV doc pm cdv ct : Value} {od an od2 : Option Addr} {osl osl2 : Array (Option Value)} {its : List Value} {n2 : Nat}
    (hm : mg x = some (.ref f)) (l : K.lookup f = some ⟨oc, od, .func (PySem.W.fnOf x q (defArgs st) (defBody st) (defScope st) (.ref T) kV doc pm an cdv ct), osl⟩) (c : PySem.W.codeIn K cdv q = true) (k : PySem.W.keepIn K (.ref f) = true)
    (lD : K.lookup T = some ⟨oc2, od2, .seq its.toArray n2, osl2⟩) (r : Vals dvs its) (hne : dvs ≠ []) (hle : dvs.length ≤ ps.length)
    (h1 : ∀ (T : Addr) (kV doc pm : Value) (an : Option Addr) (cdv ct : Value) (us its : List Value), us.length = ps.length → its.length = dvs.length → ∃ k, bindArgs (PySem.W.fnOf x q (defArgs st) (defBody st) (defScope st) (.ref T) kV doc pm an cdv ct) ⟨us, []⟩ = seqItems? (.ref T) >>= k ∧ k (some its.toArray) = pure (ps.zip (us ++ its.drop dvs.length)))
    (h2 : ∀ (T : Addr) (kV doc pm : Value) (an : Option Addr) (cdv ct : Value) (us its : List Value), us.length = ps.length - dvs.length → its.length = dvs.length → ∃ k, bindArgs (PySem.W.fnOf x q (defArgs st) (defBody st) (defScope st) (.ref T) kV doc pm an cdv ct) ⟨us, []⟩ = seqItems? (.ref T) >>= k ∧ k (some its.toArray) = pure (ps.zip (us ++ its.drop 0))) : AtD K mg x q st ps dvs := by
  have F : FunD K x q (defArgs st) (defBody st) (defScope st) dvs [] f _ := ⟨⟨oc, od, .ref T, kV, doc, pm, an, cdv, ct, osl, rfl, l, c, .inr ⟨hne, T, _, its, n2, rfl, lD, rfl, r⟩, .inl rfl⟩, k⟩
  refine ⟨f, _, hm, F, ?_, ?_⟩
  · obtain ⟨ds, v, b⟩ := F.binds1 ps.length dvs.length hne (by omega) h1
    rw [List.drop_length] at v
    cases v
    exact b
  · obtain ⟨ds, v, b⟩ := F.binds1 (ps.length - dvs.length) 0 hne (by omega) h2
    exact ⟨ds, v, b⟩
theorem e_callD {X : Cx} {σ : L2.St} {H : Hp} {Q : VK} {e : Expr} {es : List Expr} {pos p2 : Pos} {x : Str} {k : Nat} {ps : List Str} {dvs : List V} {sp : Sp} {W : WX} [ct : CxT X W] (F : DfD X.prog X.w X.K X.mg X.base x k ps dvs sp) (hr : Room k X.A) (h : aW X (e :: es) σ H fun vs H1 => sp (vs ++ dvs) H1 Q fun cls d H' => W cls d σ H')
    (hg : Gl X x := by rfl) (hdb : (x == ("__debug__" : Str)) = false := by decide) (he : starEach (e :: es) X.env = (false, eval e X.env) :: starEach es X.env := by rfl) (hpl : (backTo pos (starEach es X.env)).any (·.1) = false := by rfl) : eW X (.Call (.Name x p2) (e :: es) [] pos) σ H Q := by
  obtain ⟨f, fd, h1, h2, ⟨ds, v, b⟩, h4⟩ := F.ex
  exact eI (pe_callSD (E := WE W) h4 hr hg h1 h2 b v (fun σ => passAt ct.h σ) PAw hdb he hpl) h
/-! ### exceptions whose context is None; a suite that raises -/
class CxTN (X : Cx) (W : outParam WX) : Prop where h : L2N.Takes X W
def cxrN (P : Program) (w : World) (K : PySem.W.Frag) (mg : Str → Option Value) (base : Heap) (N : List Str) (q : Str) (st : Stmt) (f : Addr) (cd : Value) (A : Around) (outer : List Env) (s : Shared) (H : Hp) (E : XK) : Cx := cxOf (L2N.CX P w) P w K mg base N q (defScope st) f cd A outer s H E
section
variable {P : Program} {w : World} {K : PySem.W.Frag} {mg : Str → Option Value} {base : Heap} {N : List Str} {q : Str} {st : Stmt} {f : Addr} {cd : Value} {A : Around} {outer : List Env} {s : Shared} {H : Hp} {E : XK}
instance : CxN (cxrN P w K mg base N q st f cd A outer s H E) N := ⟨rfl⟩
instance : CxK (cxrN P w K mg base N q st f cd A outer s H E) K := ⟨rfl⟩
instance : CxM (cxrN P w K mg base N q st f cd A outer s H E) mg := ⟨rfl⟩
instance : CxC (cxrN P w K mg base N q st f cd A outer s H E) := ⟨rfl⟩
instance : CxO (cxrN P w K mg base N q st f cd A outer s H E) := ⟨passes_of (X := cxrN P w K mg base N q st f cd A outer s H E) rfl⟩
instance : CxT (cxrN P w K mg base N q st f cd A outer s H E) (fun _ _ _ _ => False) := ⟨takes0⟩
instance : CxTN (cxrN P w K mg base N q st f cd A outer s H E) (fun cls d _ H => E cls d H) := ⟨L2N.takes_of (X := cxrN P w K mg base N q st f cd A outer s H E) rfl rfl rfl rfl⟩
end
structure DfN (P : Program) (w : World) (K : PySem.W.Frag) (mg : Str → Option Value) (base : Heap) (x : Str) (k : Nat) (ps : List Str) (sp : Sp) : Prop where
  ex : ∃ (f : Addr) (fd : FuncData), mg x = some (.ref f) ∧ PySem.W.keepIn K (.ref f) = true ∧ Binds K fd ps [] ∧ FnOk P w K mg base (L2N.CX P w) k f fd ps sp
theorem fun_okN {P : Program} {w : World} {K : PySem.W.Frag} {mg : Str → Option Value} {base : Heap} {x qual : Str} {st : Stmt} {f : Addr} {fd : FuncData} {N ps : List Str} {k : Nat} {sp : Sp} (F : Fun K x qual st f fd) (S : FnScope N ps (defScope st)) (len : ∀ vs H Q E, sp vs H Q E → vs.length = ps.length)
    (hbody : ∀ (cdv : Value) (A : Around) (outer : List Env) (s : Shared) (H : Hp) (vs : List V) (Q : VK) (E : XK), Room k (A.deeper (envOfC qual (defScope st) s.heap.objs.size f cdv)) → sp vs H Q E →
      ∃ t, PSs (cxrN P w K mg base N qual st f cdv A outer s H E) (defBody st) t ∧ t { nx := fun _ H' => Q .non H', rt := Q } (start N vs) H) : FnOk P w K mg base (L2N.CX P w) (k + 1) f fd ps sp := by
  obtain ⟨_, _, _, _, _, _, _, _, _, rfl, lk, hcd⟩ := F.ex
  exact fn_of lk hcd S len fun A outer s H vs Q E hr hsp => hbody _ A outer s H vs Q E hr hsp
section
variable {X : Cx} {σ : L2.St} {H : Hp} {Q : VK} {D : Ends} {pos pos' np p2 p3 p4 : Pos} {e : Expr} {es : List Expr} {body orelse suite : List Stmt} {b₀ : Stmt} {x m : Str} {C : Addr}
theorem e_callN {k : Nat} {ps : List Str} {sp : Sp} {W : WX} [ct : CxTN X W] (F : DfN X.prog X.w X.K X.mg X.base x k ps sp) (hr : Room k X.A) (h : aW X (e :: es) σ H fun vs H1 => sp vs H1 Q fun cls d H' => W cls d σ H')
    (hg : Gl X x := by rfl) (hdb : (x == ("__debug__" : Str)) = false := by decide) (he : starEach (e :: es) X.env = (false, eval e X.env) :: starEach es X.env := by rfl) (hpl : (backTo pos (starEach es X.env)).any (·.1) = false := by rfl) : eW X (.Call (.Name x p2) (e :: es) [] pos) σ H Q := by
  obtain ⟨f, fd, h1, h2, h3, h4⟩ := F.ex
  exact eI (pe_callS (E := WE W) h4 hr hg h1 h2 h3 (fun σ => L2N.passAt ct.h σ) PAw hdb he hpl) h
theorem s_raiseN {j : Nat} {W : WX} [cc : CxC X] [ct : CxTN X W] (T : ExcF X.K X.mg x C) (h : W (.ref C) none σ H) (hg : Gl X x := by rfl) (hdb : (x == ("__debug__" : Str)) = false := by decide) : sW X (.Raise (some (.Call (.Name x p2) [.Constant (.str m) j p3] [] p4)) none pos) D σ H :=
  sI (L2N.ps_raise cc.h ct.h (L2N.pmk_own PySem.F.excBase_ValueError T.ex T.mg T.kp (raises_own T.be T.ty) hg hdb)) h
theorem s_raiseH {j : Nat} {W : WX} (hot : L2H.HotC X) (tk : L2.Takes X W) (T : ExcF X.K X.mg x C) (h : W (.ref C) none σ H) (hg : Gl X x := by rfl) (hdb : (x == ("__debug__" : Str)) = false := by decide) : sW X (.Raise (some (.Call (.Name x p2) [.Constant (.str m) j p3] [] p4)) none pos) D σ H :=
  sI (L2H.ps_raiseH hot tk (L2N.pmk_own PySem.F.excBase_ValueError T.ex T.mg T.kp (raises_own T.be T.ty) hg hdb)) h
theorem s_tryX {Wout : WX} [ct : CxT X Wout] (T : ExcF X.K X.mg x C) (W : WX)
    (hw : ∀ cls d σ' H', W cls d σ' H' → PySem.W.exmOne X.K cls (.ref C) = some true ∧ ∀ a oe pn, H' a = none → L2.Takes (L2H.suiteX X a ((a, oe) :: pn)) Wout → L2H.HotC (L2H.suiteX X a ((a, oe) :: pn)) → bW (L2H.suiteX X a ((a, oe) :: pn)) (b₀ :: suite) D σ' H')
    (hb : ∀ pn xe, CxTN (trX X pn xe) W → CxO (trX X pn xe) → bW (trX X pn xe) body (Dsq X orelse D) σ H)
    (hpa : ∀ hd : Option Value, PassesOwnAt (model X.prog X.w) (X.A.mark hd) X.A X.env X.xe)
    (hg : Gl X x := by rfl) (hdb : (x == ("__debug__" : Str)) = false := by decide) (hs : X.stack = X.env :: X.outer := by rfl) (hf : X.env.frame = some X.env.locals := by rfl) :
    sW X (.Try body [.ExceptHandler (some (.Name x np)) none (b₀ :: suite) pos'] orelse [] pos) D σ H := by
  refine ⟨fun pins s I => ?_⟩
  have ok := I.ok
  have hc : Names X x (.ref C) := ⟨hg, hdb, .inl T.mg⟩
  have fr0 : X.A.frames = some (X.env :: X.outer) := by rw [ok.frames, hs]
  refine wpAny_Try_except ?_
  refine wpAny_mono ((hb (X.pn ++ pins) (fun e s1 => wpAny (model X.prog X.w) X.A (noteFrame e X.env) (fun _ s2 => wpAny (model X.prog X.w) X.A (setFlight e none) (fun _ s3 => wpAny (model X.prog X.w) X.A (handleBy e X.env [.ExceptHandler (some (.Name x np)) none (b₀ :: suite) pos']) (SP X pins D) X.xe s3) X.xe s2) X.xe s1)
    ⟨fun u s' xx => ?_⟩ ⟨PassesOwn.looking⟩).run [] s (I.toTry _)) (fun f s1 hsp => ?_) (fun e s1 he => he)
  · obtain ⟨a, B, sI, pins', σ', H', cls, d, rfl, J0, nb, up, sky, na, os, ag, w⟩ := xx
    have JJ : Inv X pins σ' H' sI := J0.ofTry ok
    obtain ⟨hx, hsu⟩ := hw cls d σ' H' w
    have sky2 : Sky B (X.env :: X.outer) a (L2N.Zn cls d) X.env.locals s'.heap := by rw [← hs]; exact sky
    show wpAny (model X.prog X.w) X.A (noteFrame (.ref a) X.env) _ _ _
    refine L2N.Sky.land L2N.Zn.steady fr0 hf sky2 fun h3 fl3 up3 => ?_
    obtain ⟨oe3, vs3, he3, hz3, hd3⟩ := fl3.there
    have nfr : a ∉ frs (X.env :: X.outer) := fun hm => by
      obtain ⟨_, o', e', hnf⟩ := fl3.2.2.1.mem hm; rw [he3] at e'; cases e'; exact hnf _ hd3
    have nL : a ≠ X.env.locals := fun z => nfr (List.mem_filterMap.mpr ⟨X.env, List.mem_cons_self .., by rw [hf, z]⟩)
    have nF : a ∉ X.fs := fun hm => by
      obtain ⟨e, he, q⟩ := List.mem_filterMap.mp hm; exact nfr (List.mem_filterMap.mpr ⟨e, List.mem_cons_of_mem _ he, q⟩)
    have J3 : Inv X pins σ' H' { s' with heap := h3 } := JJ.landed nb fl3.1 (up.trans up3) os ag
    have S3 := J3.suite he3 hd3 na nL nF
    refine wpAny_handleBy_cons (codeAny_handlers_test ?_) (by intro q; cases q)
    have LT : PySem.W.Looks (model X.prog X.w) h3 (typeOf (.ref a)) cls := fun A Q E s k q => wpAny_typeOf_ref (k _ _ he3) (by rw [hz3.1]; exact q)
    refine tst_name hc S3 ((PySem.W.exm_one (M := model X.prog X.w) J3.kIn LT hx).here ?_)
    refine codeAny_handlers_suite (HandSPX.lands_againZ fl3 fun h4 fl4 up4 => ?_)
    obtain ⟨oe4, vs4, he4, hz4, hd4⟩ := fl4.there
    have J4 : Inv X pins σ' H' { s' with heap := h4 } := JJ.landed nb fl4.1 ((up.trans up3).trans up4) os ag
    have S4 := J4.suite he4 hd4 na nL nF
    have tkS : L2.Takes (L2H.suiteX X a ((a, oe4) :: (X.pn ++ pins))) Wout := fun u2 s2 ⟨a2, B2, sI2, pn2, σ2, H2, cls2, d2, e2, I2, r2⟩ => ct.h u2 s2 ⟨a2, B2, sI2, pins, σ2, H2, cls2, d2, e2, L2H.unsuiteX I2 ok, r2⟩
    refine wpAny_mono ((hsu a oe4 (X.pn ++ pins) na tkS ⟨(a, oe4), ⟨rfl, vs4, hd4, hz4.2.2 vs4 hd4⟩, List.mem_cons_self⟩).run [] _ (L2H.suiteX_of S4)) (fun f s6 hsp => ?_) (fun e6 s6 z => hpa (some (.ref a)) e6 s6 z)
    cases f with
    | next => obtain ⟨σ6, H6, S6, q6⟩ := hsp; exact ⟨_, _, L2H.unsuiteX S6 ok, q6⟩
    | brk => obtain ⟨σ6, H6, S6, q6⟩ := hsp; exact ⟨_, _, L2H.unsuiteX S6 ok, q6⟩
    | cont => obtain ⟨σ6, H6, S6, q6⟩ := hsp; exact ⟨_, _, L2H.unsuiteX S6 ok, q6⟩
    | ret u => obtain ⟨v6, σ6, H6, S6, r6, q6⟩ := hsp; exact ⟨_, _, _, L2H.unsuiteX S6 ok, r6, q6⟩
  · cases f with
    | next => obtain ⟨σ2, H2, J2, q⟩ := hsp; exact q.run pins s1 (J2.ofTry ok)
    | brk => obtain ⟨σ2, H2, J2, q⟩ := hsp; exact ⟨σ2, H2, J2.ofTry ok, q⟩
    | cont => obtain ⟨σ2, H2, J2, q⟩ := hsp; exact ⟨σ2, H2, J2.ofTry ok, q⟩
    | ret v => obtain ⟨v, σ2, H2, J2, r, q⟩ := hsp; exact ⟨v, σ2, H2, J2.ofTry ok, r, q⟩
end
end G

namespace Lw
open PySem PySem.Spec PyProof.Rows L2 TL G
local macro_rules | `(tactic| kby_none) => `(tactic| first | exact Same.refl _ | assumption | exact Same.tr' (by assumption) (by kby_none))
local macro_rules | `(tactic| ki_room) => `(tactic| first | assumption | exact Same.at' (by assumption) (by ki_room))
local macro_rules | `(tactic| kt_chr) => `(tactic| first | assumption | exact Th.non | exact Th.int _ | exact Th.bl _ | exact Same.th' (by assumption) (by kt_chr) | exact Same.thA' (by assumption) (by kt_chr))
local macro_rules | `(tactic| kpc_check) => `(tactic| first | decide +kernel | (simp only [sizeLine_eq]; omega) | omega)
local macro_rules | `(tactic| kl_some) => `(tactic| first | assumption | exact SqL.of (by ki_room) | exact Same.seq' (by assumption) (by kl_some))
local macro_rules | `(tactic| k_units) => `(tactic| first | assumption | exact SqT.of (by ki_room) | exact Same.seqT' (by assumption) (by k_units))
local macro_rules | `(tactic| kl_room) => `(tactic| first | assumption | exact SqT.of (by ki_room) | exact SqL.of (by ki_room) | kl_some | k_units)
local macro_rules | `(tactic| units_room1) => `(tactic| first | assumption | grind [Same])
local macro_rules | `(tactic| wrow_post) => `(tactic| first | assumption | (intro b9 o9 h9; grind [Same]))
local macro_rules | `(tactic| tupd_mem) => `(tactic| first | assumption | (intro h9; grind [Same]))
local macro_rules | `(tactic| wp_step) => `(tactic| repeat first | ((with_reducible refine is_ite ?_); first | (with_reducible refine iteT ?_) | (with_reducible refine iteF ?_) | ((with_reducible refine is_iteD ?_); first | refine iteDT (by first | with_reducible rfl | decide +kernel) ?_ | refine iteDF (by first | exact ref_ne_non | exact int_ne_non | exact str_ne_non | exact bl_ne_non | decide +kernel) ?_) | ((with_reducible refine is_iteND ?_); first | refine iteNDF (by first | with_reducible rfl | decide +kernel) ?_ | refine iteNDT (by first | exact ref_ne_non | exact int_ne_non | exact str_ne_non | exact bl_ne_non | decide +kernel) ?_) | ((fail_if_success (with_reducible refine is_iteD ?_)); (fail_if_success (with_reducible refine is_iteND ?_)); first | refine iteT ?_ | refine iteF ?_)) | ((fail_if_success (with_reducible refine is_ite ?_)); first | (refine is_e ?_; first | refine e_var rfl ?_ | refine e_int ?_ | refine e_str ?_ | refine e_bl ?_ | refine e_non ?_ | refine e_bin ?_ | refine e_slice ?_ | refine e_ix ?_ | refine e_isN ?_ | refine e_notN ?_ | refine e_cmp ?_ | refine e_callB ?_ | refine e_listRev ?_ | refine e_callTy ?_ | refine e_globR ?_ | refine e_globI ?_ | refine e_globS ?_ | refine e_ty ?_ | refine e_neg ?_ | refine e_not ?_ | refine e_one ?_ | refine e_ifE ?_ | refine e_tupN ?_ | refine e_lstN ?_ | refine e_dct0 ?_) | (refine is_o ?_; first | (with_reducible refine o_add ?_) | (with_reducible refine o_sub ?_) | ((with_reducible refine is_bo (op := .Mod) ?_); refine o_mod (by decide) ?_) | ((with_reducible refine is_bo (op := .FloorDiv) ?_); refine o_div ⟨by decide, by decide⟩ ?_) | (with_reducible refine o_eqI ?_) | (with_reducible refine o_neI ?_) | (with_reducible refine o_eqS ?_) | (with_reducible refine o_neS ?_) | (with_reducible refine o_lt ?_) | (with_reducible refine o_le ?_) | (with_reducible refine o_gt ?_) | (with_reducible refine o_ge ?_) | (with_reducible refine o_p60 ?_) | (with_reducible refine o_p30 ?_) | ((with_reducible refine is_bo (op := .Pow) ?_); refine o_pow ⟨by decide, by decide, by decide⟩ ?_) | (with_reducible refine o_leS ?_) | (with_reducible refine o_ltS ?_) | (with_reducible refine o_inC ?_) | (with_reducible refine o_niC ?_) | (with_reducible refine o_eqB ?_) | (with_reducible refine o_neB ?_)) | (refine is_a ?_; first | refine a_cons ?_ | refine a_nil ?_) | (refine is_b ?_; first | refine b_cons ?_ | refine b_nil ?_) | (refine is_p ?_; first | refine p_none ?_ | refine p_some ?_) | (refine is_s ?_; first | refine s_set ?_ | refine s_if ?_ | refine s_ret ?_ | refine s_expr ?_ | refine s_retN ?_ | refine s_brk ?_ | refine s_cont ?_ | refine s_pass ?_ | refine s_augA rfl ?_) | (refine is_t ?_; first | refine t_isN ?_ | refine t_notN ?_ | refine t_cmp ?_ | refine t_chain ?_ | refine t_not ?_ | refine t_and ?_ | refine t_or ?_ | refine t_val ?_) | (refine is_c ?_; first | refine c_and1 ?_ | refine c_or1 ?_ | refine c_and ?_ | refine c_or ?_) | (refine is_g ?_; first | refine g_name ?_ | refine g_tup ⟨_, _, rfl, (by k_units), (by rfl), ?_⟩ | refine g_lst ⟨_, _, rfl, (by kl_some), (by rfl), ?_⟩) | (refine is_h ?_; first | refine h_cons ?_ | refine h_nil ?_) | (refine is_k ?_; first | refine k_min ?_ | refine k_max ?_ | refine k_ordC ?_) | (refine is_and ?_; refine ⟨rfl, ?_⟩) | (refine is_ex ?_; first | refine ⟨_, rfl, ?_⟩ | refine ⟨_, _, rfl, ?_⟩ | refine ⟨_, _, _, rfl, ?_⟩ | refine ⟨_, _, rfl, rfl, ?_⟩ | refine ⟨_, _, _, rfl, rfl, rfl, ?_⟩ | refine ⟨_, _, _, _, rfl, ?_⟩ | refine ⟨_, _, _, _, _, rfl, ?_⟩ | refine ⟨_, _, _, _, _, _, rfl, ?_⟩)))
local macro_rules | `(tactic| tm_side) => `(tactic| repeat first | ((with_reducible refine is_ite ?_); first | (with_reducible refine iteT ?_) | (with_reducible refine iteF ?_) | ((with_reducible refine is_iteD ?_); first | refine iteDT (by first | with_reducible rfl | decide +kernel) ?_ | refine iteDF (by first | exact ref_ne_non | exact int_ne_non | exact str_ne_non | exact bl_ne_non | decide +kernel) ?_) | ((with_reducible refine is_iteND ?_); first | refine iteNDF (by first | with_reducible rfl | decide +kernel) ?_ | refine iteNDT (by first | exact ref_ne_non | exact int_ne_non | exact str_ne_non | exact bl_ne_non | decide +kernel) ?_) | ((fail_if_success (with_reducible refine is_iteD ?_)); (fail_if_success (with_reducible refine is_iteND ?_)); first | refine iteT ?_ | refine iteF ?_)) | ((fail_if_success (with_reducible refine is_ite ?_)); first | (refine is_e ?_; first | refine e_var rfl ?_ | refine e_int ?_ | refine e_str ?_ | refine e_bl ?_ | refine e_non ?_ | refine e_bin ?_ | refine e_slice ?_ | refine e_ix ?_ | refine e_isN ?_ | refine e_notN ?_ | refine e_cmp ?_ | refine e_callB ?_ | refine e_listRev ?_ | refine e_callTy ?_ | refine e_globR ?_ | refine e_globI ?_ | refine e_globS ?_ | refine e_ty ?_ | refine e_neg ?_ | refine e_not ?_ | refine e_one ?_ | refine e_ifE ?_ | refine e_tupN ?_ | refine e_lstN ?_ | refine e_dct0 ?_ | (refine is_call ?_; top_name) | (refine is_meth ?_; kpc_turns) | refine e_append ?_ | refine e_and ?_ | refine e_or ?_ | (refine is_attr ?_; refine e_fldV rfl (by ki_room) rfl ?_)) | (refine is_o ?_; first | (with_reducible refine o_add ?_) | (with_reducible refine o_sub ?_) | ((with_reducible refine is_bo (op := .Mod) ?_); refine o_mod (by decide) ?_) | ((with_reducible refine is_bo (op := .FloorDiv) ?_); refine o_div ⟨by decide, by decide⟩ ?_) | (with_reducible refine o_eqI ?_) | (with_reducible refine o_neI ?_) | (with_reducible refine o_eqS ?_) | (with_reducible refine o_neS ?_) | (with_reducible refine o_lt ?_) | (with_reducible refine o_le ?_) | (with_reducible refine o_gt ?_) | (with_reducible refine o_ge ?_) | (with_reducible refine o_p60 ?_) | (with_reducible refine o_p30 ?_) | ((with_reducible refine is_bo (op := .Pow) ?_); refine o_pow ⟨by decide, by decide, by decide⟩ ?_) | (with_reducible refine o_leS ?_) | (with_reducible refine o_ltS ?_) | (with_reducible refine o_inC ?_) | (with_reducible refine o_niC ?_) | (with_reducible refine o_eqB ?_) | (with_reducible refine o_neB ?_)) | (refine is_a ?_; first | refine a_cons ?_ | refine a_nil ?_) | (refine is_b ?_; first | refine b_cons ?_ | refine b_nil ?_) | (refine is_p ?_; first | refine p_none ?_ | refine p_some ?_) | (refine is_s ?_; first | refine s_set ?_ | refine s_if ?_ | refine s_ret ?_ | refine s_expr ?_ | refine s_retN ?_ | refine s_brk ?_ | refine s_cont ?_ | refine s_pass ?_ | refine s_augA rfl ?_ | refine s_asgT ?_ | (refine is_raise ?_; top_raise)) | (refine is_t ?_; first | refine t_isN ?_ | refine t_notN ?_ | refine t_cmp ?_ | refine t_chain ?_ | refine t_not ?_ | refine t_and ?_ | refine t_or ?_ | refine t_val ?_) | (refine is_c ?_; first | refine c_and1 ?_ | refine c_or1 ?_ | refine c_and ?_ | refine c_or ?_) | (refine is_g ?_; first | refine g_name ?_ | refine g_tup ⟨_, _, rfl, (by k_units), (by rfl), ?_⟩ | refine g_lst ⟨_, _, rfl, (by kl_some), (by rfl), ?_⟩) | (refine is_h ?_; first | refine h_cons ?_ | refine h_nil ?_) | (refine is_k ?_; first | refine k_min ?_ | refine k_max ?_ | refine k_ordC ?_ | refine k_lenL (by kl_some) ?_ | refine k_lenT (by k_units) ?_ | refine k_lenS (by kpc_check) ?_) | (refine is_and ?_; refine ⟨rfl, ?_⟩) | (refine is_ex ?_; first | refine ⟨_, rfl, ?_⟩ | refine ⟨_, _, rfl, ?_⟩ | refine ⟨_, _, _, rfl, ?_⟩ | refine ⟨_, _, rfl, rfl, ?_⟩ | refine ⟨_, _, _, rfl, rfl, rfl, ?_⟩ | refine ⟨_, _, _, _, rfl, ?_⟩ | refine ⟨_, _, _, _, _, rfl, ?_⟩ | refine ⟨_, _, _, _, _, _, rfl, ?_⟩) | ((first | (with_reducible refine is_ixP ?_) | (with_reducible refine is_ixN ?_)); first | refine i_tup (by k_units) rfl ?_ | refine i_lst (by kl_some) rfl ?_ | refine i_tup (by k_units) (atI_nat (by decide) rfl) ?_ | refine i_lst (by kl_some) (atI_nat (by decide) rfl) ?_) | intro (_ : Addr) _ _ _ _ _))
local macro_rules | `(tactic| kxs_still) => `(tactic| repeat first | ((with_reducible refine is_ite ?_); first | (with_reducible refine iteT ?_) | (with_reducible refine iteF ?_) | ((with_reducible refine is_iteD ?_); first | refine iteDT (by first | with_reducible rfl | decide +kernel) ?_ | refine iteDF (by first | exact ref_ne_non | exact int_ne_non | exact str_ne_non | exact bl_ne_non | decide +kernel) ?_ | refine iteDT (by omega) ?_ | refine iteDF (by omega) ?_) | ((with_reducible refine is_iteND ?_); first | refine iteNDF (by first | with_reducible rfl | decide +kernel) ?_ | refine iteNDT (by first | exact ref_ne_non | exact int_ne_non | exact str_ne_non | exact bl_ne_non | decide +kernel) ?_ | refine iteNDF (by omega) ?_ | refine iteNDT (by omega) ?_) | ((fail_if_success (with_reducible refine is_iteD ?_)); (fail_if_success (with_reducible refine is_iteND ?_)); first | refine iteBT rfl ?_ | refine iteBF rfl ?_)) | ((fail_if_success (with_reducible refine is_ite ?_)); first | (refine is_e ?_; first | refine e_var rfl ?_ | refine e_int ?_ | refine e_str ?_ | refine e_bl ?_ | refine e_non ?_ | refine e_bin ?_ | refine e_slice ?_ | refine e_ix ?_ | refine e_isN ?_ | refine e_notN ?_ | refine e_cmp ?_ | refine e_callB ?_ | refine e_listRev ?_ | refine e_callTy ?_ | refine e_globR ?_ | refine e_globI ?_ | refine e_globS ?_ | refine e_ty ?_ | refine e_neg ?_ | refine e_not ?_ | refine e_one ?_ | refine e_ifE ?_ | refine e_tupN ?_ | refine e_lstN ?_ | refine e_dct0 ?_ | (refine is_call ?_; top_name) | (refine is_meth ?_; kpc_turns) | refine e_append ?_ | refine e_and ?_ | refine e_or ?_ | (refine is_attr ?_; refine e_fldV rfl (by ki_room) rfl ?_)) | (refine is_o ?_; first | (with_reducible refine o_add ?_) | (with_reducible refine o_sub ?_) | ((with_reducible refine is_bo (op := .Mod) ?_); refine o_mod (by decide) ?_) | ((with_reducible refine is_bo (op := .FloorDiv) ?_); refine o_div ⟨by decide, by decide⟩ ?_) | (with_reducible refine o_eqI ?_) | (with_reducible refine o_neI ?_) | (with_reducible refine o_eqS ?_) | (with_reducible refine o_neS ?_) | (with_reducible refine o_lt ?_) | (with_reducible refine o_le ?_) | (with_reducible refine o_gt ?_) | (with_reducible refine o_ge ?_) | (with_reducible refine o_p60 ?_) | (with_reducible refine o_p30 ?_) | ((with_reducible refine is_bo (op := .Pow) ?_); refine o_pow ⟨by decide, by decide, by decide⟩ ?_) | (with_reducible refine o_leS ?_) | (with_reducible refine o_ltS ?_) | (with_reducible refine o_inC ?_) | (with_reducible refine o_niC ?_) | (with_reducible refine o_eqB ?_) | (with_reducible refine o_neB ?_)) | (refine is_a ?_; first | refine a_cons ?_ | refine a_nil ?_) | (refine is_b ?_; first | refine b_cons ?_ | refine b_nil ?_) | (refine is_p ?_; first | refine p_none ?_ | refine p_some ?_) | (refine is_s ?_; first | refine s_set ?_ | refine s_if ?_ | refine s_ret ?_ | refine s_expr ?_ | refine s_retN ?_ | refine s_brk ?_ | refine s_cont ?_ | refine s_pass ?_ | refine s_augA rfl ?_ | refine s_asgT ?_ | (refine is_raise ?_; top_raise)) | (refine is_t ?_; first | refine t_sg ?_ | refine t_sgE ?_ | refine t_isN ?_ | refine t_notN ?_ | refine t_cmp ?_ | refine t_chain ?_ | refine t_not ?_ | refine t_and ?_ | refine t_or ?_ | refine t_val ?_) | (refine is_c ?_; first | refine c_and1 ?_ | refine c_or1 ?_ | refine c_and ?_ | refine c_or ?_) | (refine is_g ?_; first | refine g_name ?_ | refine g_tup ⟨_, _, rfl, (by k_units), (by rfl), ?_⟩ | refine g_lst ⟨_, _, rfl, (by kl_some), (by rfl), ?_⟩) | (refine is_h ?_; first | refine h_cons ?_ | refine h_nil ?_) | (refine is_k ?_; first | refine k_min ?_ | refine k_max ?_ | refine k_ordC ?_ | refine k_lenL (by kl_some) ?_ | refine k_lenT (by k_units) ?_ | refine k_lenS (by kpc_check) ?_) | ((first | (with_reducible refine xA ?_) | (with_reducible refine xB ?_) | (with_reducible refine xC ?_)); refine ⟨rfl, ?_⟩) | (refine xV1 ?_; refine ⟨_, rfl, ?_⟩) | (refine xL1 ?_; refine ⟨_, rfl, ?_⟩) | (refine xL2 ?_; refine ⟨_, _, rfl, ?_⟩) | (refine xL3 ?_; refine ⟨_, _, _, rfl, ?_⟩) | (refine xL4 ?_; refine ⟨_, _, _, _, rfl, ?_⟩) | (refine xL5 ?_; refine ⟨_, _, _, _, _, rfl, ?_⟩) | (refine xL6 ?_; refine ⟨_, _, _, _, _, _, rfl, ?_⟩) | (refine xL7 ?_; refine ⟨_, _, _, _, _, _, _, rfl, ?_⟩) | ((first | (with_reducible refine is_ixP ?_) | (with_reducible refine is_ixN ?_)); first | refine i_tup (by k_units) rfl ?_ | refine i_lst (by kl_some) rfl ?_ | refine i_tup (by k_units) (atI_nat (by decide) rfl) ?_ | refine i_lst (by kl_some) (atI_nat (by decide) rfl) ?_) | (refine is_i ?_; first | refine i_lst (by kl_some) (atI_nat (by decide) (by assumption)) ?_ | refine i_tup (by k_units) (atI_nat (by decide) (by assumption)) ?_ | refine i_lst (by kl_some) (by assumption) ?_ | refine i_tup (by k_units) (by assumption) ?_)))
local macro_rules | `(tactic| kt_eqs) => `(tactic| repeat first | ((with_reducible refine is_ite ?_); first | (with_reducible refine iteT ?_) | (with_reducible refine iteF ?_) | ((with_reducible refine is_iteD ?_); first | refine iteDT (by first | with_reducible rfl | decide +kernel) ?_ | refine iteDF (by first | exact ref_ne_non | exact int_ne_non | exact str_ne_non | exact bl_ne_non | decide +kernel) ?_ | refine iteDT (by omega) ?_ | refine iteDF (by omega) ?_) | ((with_reducible refine is_iteND ?_); first | refine iteNDF (by first | with_reducible rfl | decide +kernel) ?_ | refine iteNDT (by first | exact ref_ne_non | exact int_ne_non | exact str_ne_non | exact bl_ne_non | decide +kernel) ?_ | refine iteNDF (by omega) ?_ | refine iteNDT (by omega) ?_) | ((fail_if_success (with_reducible refine is_iteD ?_)); (fail_if_success (with_reducible refine is_iteND ?_)); first | refine iteBT rfl ?_ | refine iteBF rfl ?_)) | ((fail_if_success (with_reducible refine is_ite ?_)); first | (refine is_e ?_; first | refine e_var rfl ?_ | refine e_int ?_ | refine e_str ?_ | refine e_bl ?_ | refine e_non ?_ | refine e_bin ?_ | refine e_slice ?_ | refine e_ix ?_ | refine e_isN ?_ | refine e_notN ?_ | refine e_cmp ?_ | refine e_callB ?_ | refine e_listRev ?_ | refine e_callTy ?_ | refine e_globR ?_ | refine e_globI ?_ | refine e_globS ?_ | refine e_ty ?_ | refine e_neg ?_ | refine e_not ?_ | refine e_one ?_ | refine e_ifE ?_ | refine e_tupN ?_ | refine e_lstN ?_ | (refine is_call ?_; top_name) | (refine is_meth ?_; kpc_turns) | refine e_append ?_ | refine e_and ?_ | refine e_or ?_ | (refine is_attr ?_; refine e_fldV rfl (by ki_room) rfl ?_)) | (refine is_o ?_; first | (with_reducible refine o_add ?_) | (with_reducible refine o_sub ?_) | ((with_reducible refine is_bo (op := .Mod) ?_); refine o_mod (by decide) ?_) | ((with_reducible refine is_bo (op := .FloorDiv) ?_); refine o_div ⟨by decide, by decide⟩ ?_) | (with_reducible refine o_eqI ?_) | (with_reducible refine o_neI ?_) | (with_reducible refine o_eqS ?_) | (with_reducible refine o_neS ?_) | (with_reducible refine o_lt ?_) | (with_reducible refine o_le ?_) | (with_reducible refine o_gt ?_) | (with_reducible refine o_ge ?_) | (with_reducible refine o_p60 ?_) | (with_reducible refine o_p30 ?_) | ((with_reducible refine is_bo (op := .Pow) ?_); refine o_pow ⟨by decide, by decide, by decide⟩ ?_) | (with_reducible refine o_leS ?_) | (with_reducible refine o_ltS ?_) | (with_reducible refine o_inC ?_) | (with_reducible refine o_niC ?_) | (with_reducible refine o_eqB ?_) | (with_reducible refine o_neB ?_)) | (refine is_a ?_; first | refine a_cons ?_ | refine a_nil ?_) | (refine is_b ?_; first | refine b_cons ?_ | refine b_nil ?_) | (refine is_p ?_; first | refine p_none ?_ | refine p_some ?_) | (refine is_s ?_; first | refine s_set ?_ | refine s_if ?_ | refine s_ret ?_ | refine s_expr ?_ | refine s_retN ?_ | refine s_brk ?_ | refine s_cont ?_ | refine s_pass ?_ | refine s_augA rfl ?_ | refine s_asgT ?_ | (refine is_raise ?_; top_raise)) | (refine is_t ?_; first | refine t_sg ?_ | refine t_sgE ?_ | refine t_isN ?_ | refine t_notN ?_ | refine t_cmp ?_ | refine t_chain ?_ | refine t_not ?_ | refine t_and ?_ | refine t_or ?_ | refine t_val ?_) | (refine is_c ?_; first | refine c_and1 ?_ | refine c_or1 ?_ | refine c_and ?_ | refine c_or ?_) | (refine is_g ?_; first | refine g_name ?_ | refine g_tup ⟨_, _, rfl, (by k_units), (by rfl), ?_⟩ | refine g_lst ⟨_, _, rfl, (by kl_some), (by rfl), ?_⟩) | (refine is_h ?_; first | refine h_cons ?_ | refine h_nil ?_) | (refine is_k ?_; first | refine k_min ?_ | refine k_max ?_ | refine k_ordC ?_ | refine k_lenL (by kl_some) ?_ | refine k_lenT (by k_units) ?_ | refine k_lenS (by kpc_check) ?_) | ((first | (with_reducible refine xA ?_) | (with_reducible refine xB ?_) | (with_reducible refine xC ?_)); refine ⟨rfl, ?_⟩) | (refine xV1 ?_; refine ⟨_, rfl, ?_⟩) | (refine xL1 ?_; refine ⟨_, rfl, ?_⟩) | (refine xL2 ?_; refine ⟨_, _, rfl, ?_⟩) | (refine xL3 ?_; refine ⟨_, _, _, rfl, ?_⟩) | (refine xL4 ?_; refine ⟨_, _, _, _, rfl, ?_⟩) | (refine xL5 ?_; refine ⟨_, _, _, _, _, rfl, ?_⟩) | (refine xL6 ?_; refine ⟨_, _, _, _, _, _, rfl, ?_⟩) | (refine xL7 ?_; refine ⟨_, _, _, _, _, _, _, rfl, ?_⟩) | ((first | (with_reducible refine is_ixP ?_) | (with_reducible refine is_ixN ?_)); first | refine i_tup (by k_units) rfl ?_ | refine i_lst (by kl_some) rfl ?_ | refine i_tup (by k_units) (atI_nat (by decide) rfl) ?_ | refine i_lst (by kl_some) (atI_nat (by decide) rfl) ?_) | (refine is_i ?_; first | refine i_lst (by kl_some) (atI_nat (by decide) (by assumption)) ?_ | refine i_tup (by k_units) (atI_nat (by decide) (by assumption)) ?_ | refine i_lst (by kl_some) (by assumption) ?_ | refine i_tup (by k_units) (by assumption) ?_)))
local macro_rules | `(tactic| k_here) => `(tactic| repeat first | ((with_reducible refine is_ite ?_); first | (with_reducible refine iteT ?_) | (with_reducible refine iteF ?_) | ((with_reducible refine is_iteD ?_); first | refine iteDT (by first | with_reducible rfl | decide +kernel) ?_ | refine iteDF (by first | exact ref_ne_non | exact int_ne_non | exact str_ne_non | exact bl_ne_non | decide +kernel) ?_ | refine iteDT (by omega) ?_ | refine iteDF (by omega) ?_) | ((with_reducible refine is_iteND ?_); first | refine iteNDF (by first | with_reducible rfl | decide +kernel) ?_ | refine iteNDT (by first | exact ref_ne_non | exact int_ne_non | exact str_ne_non | exact bl_ne_non | decide +kernel) ?_ | refine iteNDF (by omega) ?_ | refine iteNDT (by omega) ?_) | ((fail_if_success (with_reducible refine is_iteD ?_)); (fail_if_success (with_reducible refine is_iteND ?_)); first | refine iteBT rfl ?_ | refine iteBF rfl ?_)) | ((fail_if_success (with_reducible refine is_ite ?_)); first | (refine is_e ?_; first | refine e_var rfl ?_ | refine e_int ?_ | refine e_str ?_ | refine e_bl ?_ | refine e_non ?_ | refine e_bin ?_ | refine e_slice ?_ | refine e_ix ?_ | refine e_isN ?_ | refine e_notN ?_ | refine e_cmp ?_ | refine e_callB ?_ | refine e_listRev ?_ | refine e_callTy ?_ | refine e_globR ?_ | refine e_globI ?_ | refine e_globS ?_ | refine e_ty ?_ | refine e_neg ?_ | refine e_not ?_ | refine e_one ?_ | refine e_ifE ?_ | refine e_tupN ?_ | refine e_lstN ?_ | refine e_dct0 ?_ | (refine is_call ?_; top_name) | (refine is_meth ?_; kpc_turns) | refine e_append ?_ | refine e_and ?_ | refine e_or ?_ | (refine is_attr ?_; refine e_fldV rfl (by ki_room) rfl ?_)) | (refine is_o ?_; first | (with_reducible refine o_add ?_) | (with_reducible refine o_sub ?_) | ((with_reducible refine is_bo (op := .Mod) ?_); refine o_mod (by decide) ?_) | ((with_reducible refine is_bo (op := .FloorDiv) ?_); refine o_div ⟨by decide, by decide⟩ ?_) | (with_reducible refine o_eqI ?_) | (with_reducible refine o_neI ?_) | (with_reducible refine o_eqS ?_) | (with_reducible refine o_neS ?_) | (with_reducible refine o_lt ?_) | (with_reducible refine o_le ?_) | (with_reducible refine o_gt ?_) | (with_reducible refine o_ge ?_) | (with_reducible refine o_p60 ?_) | (with_reducible refine o_p30 ?_) | ((with_reducible refine is_bo (op := .Pow) ?_); refine o_pow ⟨by decide, by decide, by decide⟩ ?_) | (with_reducible refine o_leS ?_) | (with_reducible refine o_ltS ?_) | (with_reducible refine o_inC ?_) | (with_reducible refine o_niC ?_) | (with_reducible refine o_eqB ?_) | (with_reducible refine o_neB ?_)) | (refine is_a ?_; first | refine a_cons ?_ | refine a_nil ?_) | (refine is_b ?_; first | refine b_cons ?_ | refine b_nil ?_) | (refine is_p ?_; first | refine p_none ?_ | refine p_some ?_) | (refine is_s ?_; first | refine s_set ?_ | refine s_if ?_ | refine s_ret ?_ | refine s_expr ?_ | refine s_retN ?_ | refine s_brk ?_ | refine s_cont ?_ | refine s_pass ?_ | refine s_augA rfl ?_ | refine s_asgT ?_ | (refine is_raise ?_; top_raise)) | (refine is_t ?_; first | refine t_sg ?_ | refine t_sgE ?_ | refine t_isN ?_ | refine t_notN ?_ | refine t_cmp ?_ | refine t_chain ?_ | refine t_not ?_ | ((fail_if_success refine t_and ?_); (fail_if_success refine t_or ?_); refine t_val ?_)) | (refine is_c ?_; first | refine c_and1 ?_ | refine c_or1 ?_ | refine c_and ?_ | refine c_or ?_) | (refine is_g ?_; first | refine g_name ?_ | refine g_tup ⟨_, _, rfl, (by k_units), (by rfl), ?_⟩ | refine g_lst ⟨_, _, rfl, (by kl_some), (by rfl), ?_⟩) | (refine is_h ?_; first | refine h_cons ?_ | refine h_nil ?_) | (refine is_k ?_; first | refine k_min ?_ | refine k_max ?_ | refine k_ordC ?_ | refine k_lenL (by kl_some) ?_ | refine k_lenT (by k_units) ?_ | refine k_lenS (by kpc_check) ?_) | ((first | (with_reducible refine xA ?_) | (with_reducible refine xB ?_) | (with_reducible refine xC ?_)); refine ⟨rfl, ?_⟩) | (refine xV1 ?_; refine ⟨_, rfl, ?_⟩) | (refine xL1 ?_; refine ⟨_, rfl, ?_⟩) | (refine xL2 ?_; refine ⟨_, _, rfl, ?_⟩) | (refine xL3 ?_; refine ⟨_, _, _, rfl, ?_⟩) | (refine xL4 ?_; refine ⟨_, _, _, _, rfl, ?_⟩) | (refine xL5 ?_; refine ⟨_, _, _, _, _, rfl, ?_⟩) | (refine xL6 ?_; refine ⟨_, _, _, _, _, _, rfl, ?_⟩) | (refine xL7 ?_; refine ⟨_, _, _, _, _, _, _, rfl, ?_⟩) | ((first | (with_reducible refine is_ixP ?_) | (with_reducible refine is_ixN ?_)); first | refine i_tup (by k_units) rfl ?_ | refine i_lst (by kl_some) rfl ?_ | refine i_tup (by k_units) (atI_nat (by decide) rfl) ?_ | refine i_lst (by kl_some) (atI_nat (by decide) rfl) ?_) | (refine is_i ?_; first | refine i_lst (by kl_some) (atI_nat (by decide) (by assumption)) ?_ | refine i_tup (by k_units) (atI_nat (by decide) (by assumption)) ?_ | refine i_lst (by kl_some) (by assumption) ?_ | refine i_tup (by k_units) (by assumption) ?_)))
local macro_rules | `(tactic| kt_ktab) => `(tactic| repeat first | ((with_reducible refine is_ite ?_); first | (with_reducible refine iteT ?_) | (with_reducible refine iteF ?_) | ((with_reducible refine is_iteD ?_); first | refine iteDT (by first | with_reducible rfl | decide +kernel) ?_ | refine iteDF (by first | exact ref_ne_non | exact int_ne_non | exact str_ne_non | exact bl_ne_non | decide +kernel) ?_ | refine iteDT (by omega) ?_ | refine iteDF (by omega) ?_) | ((with_reducible refine is_iteND ?_); first | refine iteNDF (by first | with_reducible rfl | decide +kernel) ?_ | refine iteNDT (by first | exact ref_ne_non | exact int_ne_non | exact str_ne_non | exact bl_ne_non | decide +kernel) ?_ | refine iteNDF (by omega) ?_ | refine iteNDT (by omega) ?_) | ((fail_if_success (with_reducible refine is_iteD ?_)); (fail_if_success (with_reducible refine is_iteND ?_)); first | refine iteBT rfl ?_ | refine iteBF rfl ?_)) | ((fail_if_success (with_reducible refine is_ite ?_)); first | (refine is_e ?_; first | refine e_var rfl ?_ | refine e_int ?_ | refine e_str ?_ | refine e_bl ?_ | refine e_non ?_ | refine e_bin ?_ | refine e_slice ?_ | refine e_ix ?_ | refine e_isN ?_ | refine e_notN ?_ | refine e_cmp ?_ | refine e_callB ?_ | refine e_listRev ?_ | refine e_callTy ?_ | refine e_globR ?_ | refine e_globI ?_ | refine e_globS ?_ | refine e_ty ?_ | refine e_neg ?_ | refine e_not ?_ | refine e_one ?_ | refine e_ifE ?_ | refine e_tupN ?_ | refine e_lstN ?_ | refine e_dct0 ?_ | (refine is_call ?_; top_name) | (refine is_meth ?_; kpc_turns) | refine e_append ?_ | refine e_and ?_ | refine e_or ?_ | (refine is_attr ?_; refine e_fldV rfl (by ki_room) rfl ?_)) | (refine is_o ?_; first | (with_reducible refine o_add ?_) | (with_reducible refine o_sub ?_) | ((with_reducible refine is_bo (op := .Mod) ?_); refine o_mod (by decide) ?_) | ((with_reducible refine is_bo (op := .FloorDiv) ?_); refine o_div ⟨by decide, by decide⟩ ?_) | (with_reducible refine o_eqI ?_) | (with_reducible refine o_neI ?_) | (with_reducible refine o_eqS ?_) | (with_reducible refine o_neS ?_) | (with_reducible refine o_lt ?_) | (with_reducible refine o_le ?_) | (with_reducible refine o_gt ?_) | (with_reducible refine o_ge ?_) | (with_reducible refine o_p60 ?_) | (with_reducible refine o_p30 ?_) | ((with_reducible refine is_bo (op := .Pow) ?_); refine o_pow ⟨by decide, by decide, by decide⟩ ?_) | (with_reducible refine o_leS ?_) | (with_reducible refine o_ltS ?_) | (with_reducible refine o_inC ?_) | (with_reducible refine o_niC ?_) | (with_reducible refine o_eqB ?_) | (with_reducible refine o_neB ?_)) | (refine is_a ?_; first | refine a_cons ?_ | refine a_nil ?_) | (refine is_b ?_; first | refine b_cons ?_ | refine b_nil ?_) | (refine is_p ?_; first | refine p_none ?_ | refine p_some ?_) | (refine is_s ?_; first | refine s_set ?_ | refine s_if ?_ | refine s_ret ?_ | refine s_expr ?_ | refine s_retN ?_ | refine s_brk ?_ | refine s_cont ?_ | refine s_pass ?_ | refine s_augA rfl ?_ | refine s_asgT ?_ | (refine is_raise ?_; top_raise)) | (refine is_t ?_; first | refine t_sg ?_ | refine t_sgE ?_ | refine t_isN ?_ | refine t_notN ?_ | refine t_cmp ?_ | refine t_chain ?_ | refine t_not ?_ | refine t_and ?_ | refine t_or ?_ | refine t_val ?_) | (refine is_c ?_; first | refine c_and1 ?_ | refine c_or1 ?_ | refine c_and ?_ | refine c_or ?_) | (refine is_g ?_; first | refine g_name ?_ | refine g_tup ⟨_, _, rfl, (by k_units), (by rfl), ?_⟩ | refine g_lst ⟨_, _, rfl, (by kl_some), (by rfl), ?_⟩) | (refine is_h ?_; first | refine h_cons ?_ | refine h_nil ?_) | (refine is_k ?_; first | refine k_min ?_ | refine k_max ?_ | refine k_ordC ?_ | refine k_lenL (by kl_some) ?_ | refine k_lenT (by k_units) ?_ | refine k_lenS (by kpc_check) ?_) | ((first | (with_reducible refine xA ?_) | (with_reducible refine xB ?_) | (with_reducible refine xC ?_)); refine ⟨rfl, ?_⟩) | (refine xV1 ?_; refine ⟨_, rfl, ?_⟩) | (refine xL1 ?_; refine ⟨_, rfl, ?_⟩) | (refine xL2 ?_; refine ⟨_, _, rfl, ?_⟩) | (refine xL3 ?_; refine ⟨_, _, _, rfl, ?_⟩) | (refine xL4 ?_; refine ⟨_, _, _, _, rfl, ?_⟩) | (refine xL5 ?_; refine ⟨_, _, _, _, _, rfl, ?_⟩) | (refine xL6 ?_; refine ⟨_, _, _, _, _, _, rfl, ?_⟩) | (refine xL7 ?_; refine ⟨_, _, _, _, _, _, _, rfl, ?_⟩) | ((first | (with_reducible refine is_ixP ?_) | (with_reducible refine is_ixN ?_)); first | refine i_tup (by k_units) rfl ?_ | refine i_lst (by kl_some) rfl ?_ | refine i_tup (by k_units) (atI_nat (by decide) rfl) ?_ | refine i_lst (by kl_some) (atI_nat (by decide) rfl) ?_) | (refine is_i ?_; first | refine i_lst (by kl_some) (atI_nat (by decide) (by assumption)) ?_ | refine i_tup (by k_units) (atI_nat (by decide) (by assumption)) ?_ | refine i_lst (by kl_some) (by assumption) ?_ | refine i_tup (by k_units) (by assumption) ?_) | intro (_ : Addr) _ _ _ _ _))
local macro_rules | `(tactic| tm_run) => `(tactic| repeat first | ((with_reducible refine is_ite ?_); first | (with_reducible refine iteT ?_) | (with_reducible refine iteF ?_) | ((with_reducible refine is_iteD ?_); first | refine iteDT (by first | with_reducible rfl | decide +kernel) ?_ | refine iteDF (by first | exact ref_ne_non | exact int_ne_non | exact str_ne_non | exact bl_ne_non | decide +kernel) ?_) | ((with_reducible refine is_iteND ?_); first | refine iteNDF (by first | with_reducible rfl | decide +kernel) ?_ | refine iteNDT (by first | exact ref_ne_non | exact int_ne_non | exact str_ne_non | exact bl_ne_non | decide +kernel) ?_) | ((fail_if_success (with_reducible refine is_iteD ?_)); (fail_if_success (with_reducible refine is_iteND ?_)); first | refine iteT ?_ | refine iteF ?_)) | ((fail_if_success (with_reducible refine is_ite ?_)); first | (refine is_e ?_; first | refine e_var rfl ?_ | refine e_int ?_ | refine e_str ?_ | refine e_bl ?_ | refine e_non ?_ | refine e_bin ?_ | refine e_slice ?_ | refine e_ix ?_ | refine e_isN ?_ | refine e_notN ?_ | refine e_cmp ?_ | refine e_callB ?_ | refine e_listRev ?_ | refine e_callTy ?_ | refine e_globR ?_ | refine e_globI ?_ | refine e_globS ?_ | refine e_ty ?_ | refine e_neg ?_ | refine e_not ?_ | refine e_one ?_ | refine e_ifE ?_ | refine e_tupN ?_ | refine e_lstN ?_ | refine e_dct0 ?_ | (refine is_call ?_; top_name) | (refine is_meth ?_; kpc_turns) | refine e_append ?_ | refine e_and ?_ | refine e_or ?_ | (refine is_attr ?_; refine e_fldV rfl (by ki_room) rfl ?_)) | (refine is_o ?_; first | (with_reducible refine o_add ?_) | (with_reducible refine o_sub ?_) | ((with_reducible refine is_bo (op := .Mod) ?_); refine o_mod (by decide) ?_) | ((with_reducible refine is_bo (op := .FloorDiv) ?_); refine o_div ⟨by decide, by decide⟩ ?_) | (with_reducible refine o_eqI ?_) | (with_reducible refine o_neI ?_) | (with_reducible refine o_eqS ?_) | (with_reducible refine o_neS ?_) | (with_reducible refine o_lt ?_) | (with_reducible refine o_le ?_) | (with_reducible refine o_gt ?_) | (with_reducible refine o_ge ?_) | (with_reducible refine o_p60 ?_) | (with_reducible refine o_p30 ?_) | ((with_reducible refine is_bo (op := .Pow) ?_); refine o_pow ⟨by decide, by decide, by decide⟩ ?_) | (with_reducible refine o_leS ?_) | (with_reducible refine o_ltS ?_) | (with_reducible refine o_inC ?_) | (with_reducible refine o_niC ?_) | (with_reducible refine o_eqB ?_) | (with_reducible refine o_neB ?_)) | (refine is_a ?_; first | refine a_cons ?_ | refine a_nil ?_) | (refine is_b ?_; first | refine b_cons ?_ | refine b_nil ?_) | (refine is_p ?_; first | refine p_none ?_ | refine p_some ?_) | (refine is_s ?_; first | refine s_set ?_ | refine s_if ?_ | refine s_ret ?_ | refine s_expr ?_ | refine s_retN ?_ | refine s_brk ?_ | refine s_cont ?_ | refine s_pass ?_ | refine s_augA rfl ?_ | refine s_asgT ?_ | (refine is_raise ?_; top_raise)) | (refine is_t ?_; first | refine t_isN ?_ | refine t_notN ?_ | refine t_cmp ?_ | refine t_chain ?_ | refine t_not ?_ | refine t_and ?_ | refine t_or ?_ | refine t_val ?_) | (refine is_c ?_; first | refine c_and1 ?_ | refine c_or1 ?_ | refine c_and ?_ | refine c_or ?_) | (refine is_g ?_; first | refine g_name ?_ | refine g_tup ⟨_, _, rfl, (by k_units), (by rfl), ?_⟩ | refine g_lst ⟨_, _, rfl, (by kl_some), (by rfl), ?_⟩) | (refine is_h ?_; first | refine h_cons ?_ | refine h_nil ?_) | (refine is_k ?_; first | refine k_min ?_ | refine k_max ?_ | refine k_ordC ?_ | refine k_lenL (by kl_some) ?_ | refine k_lenT (by k_units) ?_ | refine k_lenS (by kpc_check) ?_) | (refine is_and ?_; refine ⟨rfl, ?_⟩) | (refine is_ex ?_; first | refine ⟨_, rfl, ?_⟩ | refine ⟨_, _, rfl, ?_⟩ | refine ⟨_, _, _, rfl, ?_⟩ | refine ⟨_, _, rfl, rfl, ?_⟩ | refine ⟨_, _, _, rfl, rfl, rfl, ?_⟩ | refine ⟨_, _, _, _, rfl, ?_⟩ | refine ⟨_, _, _, _, _, rfl, ?_⟩ | refine ⟨_, _, _, _, _, _, rfl, ?_⟩) | ((first | (with_reducible refine is_ixP ?_) | (with_reducible refine is_ixN ?_)); first | refine i_tup (by k_units) rfl ?_ | refine i_lst (by kl_some) rfl ?_ | refine i_tup (by k_units) (atI_nat (by decide) rfl) ?_ | refine i_lst (by kl_some) (atI_nat (by decide) rfl) ?_)))
def top (i : Nat) : Stmt := PySem.Challenge.pw_forestread_k82_grammars_written.main.body.getD i (.Pass ⟨0, 0, 0, 0⟩)
abbrev s_is_whole : Stmt := top 6
theorem sc_is_whole : FnScope ["thing"] ["thing"] (defScope s_is_whole) := ⟨rfl, rfl, rfl, by decide +kernel, rfl, by decide +kernel, by decide +kernel⟩
instance : NdN ["thing"] := ⟨sc_is_whole.nd⟩
abbrev X_is_whole (P : Program) (w : World) (K : PySem.W.Frag) (mg : Str → Option Value) (base : Heap) (f : Addr) (cdv : Value) (A : Around) (outer : List Env) (s : Shared) (H : Hp) (E : XK) : Cx := cxr P w K mg base ["thing"] "is_whole" s_is_whole f cdv A outer s H E
abbrev s_may_stand : Stmt := top 7
theorem sc_may_stand : FnScope ["sign"] ["sign"] (defScope s_may_stand) := ⟨rfl, rfl, rfl, by decide +kernel, rfl, by decide +kernel, by decide +kernel⟩
instance : NdN ["sign"] := ⟨sc_may_stand.nd⟩
abbrev X_may_stand (P : Program) (w : World) (K : PySem.W.Frag) (mg : Str → Option Value) (base : Heap) (f : Addr) (cdv : Value) (A : Around) (outer : List Env) (s : Shared) (H : Hp) (E : XK) : Cx := cxr P w K mg base ["sign"] "may_stand" s_may_stand f cdv A outer s H E
abbrev s_is_sign : Stmt := top 8
theorem sc_is_sign : FnScope ["thing"] ["thing"] (defScope s_is_sign) := ⟨rfl, rfl, rfl, by decide +kernel, rfl, by decide +kernel, by decide +kernel⟩
instance : NdN ["thing"] := ⟨sc_is_sign.nd⟩
abbrev X_is_sign (P : Program) (w : World) (K : PySem.W.Frag) (mg : Str → Option Value) (base : Heap) (f : Addr) (cdv : Value) (A : Around) (outer : List Env) (s : Shared) (H : Hp) (E : XK) : Cx := cxr P w K mg base ["thing"] "is_sign" s_is_sign f cdv A outer s H E
abbrev s_is_name : Stmt := top 9
theorem sc_is_name : FnScope ["thing", "sign"] ["thing"] (defScope s_is_name) := ⟨rfl, rfl, rfl, by decide +kernel, rfl, by decide +kernel, by decide +kernel⟩
instance : NdN ["thing", "sign"] := ⟨sc_is_name.nd⟩
abbrev X_is_name (P : Program) (w : World) (K : PySem.W.Frag) (mg : Str → Option Value) (base : Heap) (f : Addr) (cdv : Value) (A : Around) (outer : List Env) (s : Shared) (H : Hp) (E : XK) : Cx := cxr P w K mg base ["thing", "sign"] "is_name" s_is_name f cdv A outer s H E
abbrev s_are_parts : Stmt := top 14
theorem sc_are_parts : FnScope ["thing", "part"] ["thing"] (defScope s_are_parts) := ⟨rfl, rfl, rfl, by decide +kernel, rfl, by decide +kernel, by decide +kernel⟩
instance : NdN ["thing", "part"] := ⟨sc_are_parts.nd⟩
abbrev X_are_parts (P : Program) (w : World) (K : PySem.W.Frag) (mg : Str → Option Value) (base : Heap) (f : Addr) (cdv : Value) (A : Around) (outer : List Env) (s : Shared) (H : Hp) (E : XK) : Cx := cxr P w K mg base ["thing", "part"] "are_parts" s_are_parts f cdv A outer s H E
abbrev s_is_rule : Stmt := top 15
theorem sc_is_rule : FnScope ["thing"] ["thing"] (defScope s_is_rule) := ⟨rfl, rfl, rfl, by decide +kernel, rfl, by decide +kernel, by decide +kernel⟩
instance : NdN ["thing"] := ⟨sc_is_rule.nd⟩
abbrev X_is_rule (P : Program) (w : World) (K : PySem.W.Frag) (mg : Str → Option Value) (base : Heap) (f : Addr) (cdv : Value) (A : Around) (outer : List Env) (s : Shared) (H : Hp) (E : XK) : Cx := cxr P w K mg base ["thing"] "is_rule" s_is_rule f cdv A outer s H E
abbrev s_checked : Stmt := top 16
theorem sc_checked : FnScope ["thing", "rules", "rule"] ["thing"] (defScope s_checked) := ⟨rfl, rfl, rfl, by decide +kernel, rfl, by decide +kernel, by decide +kernel⟩
instance : NdN ["thing", "rules", "rule"] := ⟨sc_checked.nd⟩
abbrev X_checked (P : Program) (w : World) (K : PySem.W.Frag) (mg : Str → Option Value) (base : Heap) (f : Addr) (cdv : Value) (A : Around) (outer : List Env) (s : Shared) (H : Hp) (E : XK) : Cx := cxr P w K mg base ["thing", "rules", "rule"] "checked" s_checked f cdv A outer s H E
abbrev s_read_figures : Stmt := top 20
theorem sc_read_figures : FnScope ["word", "sign"] ["word"] (defScope s_read_figures) := ⟨rfl, rfl, rfl, by decide +kernel, rfl, by decide +kernel, by decide +kernel⟩
instance : NdN ["word", "sign"] := ⟨sc_read_figures.nd⟩
abbrev X_read_figures (P : Program) (w : World) (K : PySem.W.Frag) (mg : Str → Option Value) (base : Heap) (f : Addr) (cdv : Value) (A : Around) (outer : List Env) (s : Shared) (H : Hp) (E : XK) : Cx := cxr P w K mg base ["word", "sign"] "read_figures" s_read_figures f cdv A outer s H E
abbrev s_show_part : Stmt := top 21
theorem sc_show_part : FnScope ["part"] ["part"] (defScope s_show_part) := ⟨rfl, rfl, rfl, by decide +kernel, rfl, by decide +kernel, by decide +kernel⟩
instance : NdN ["part"] := ⟨sc_show_part.nd⟩
abbrev X_show_part (P : Program) (w : World) (K : PySem.W.Frag) (mg : Str → Option Value) (base : Heap) (f : Addr) (cdv : Value) (A : Around) (outer : List Env) (s : Shared) (H : Hp) (E : XK) : Cx := cxr P w K mg base ["part"] "show_part" s_show_part f cdv A outer s H E
abbrev s_read_part : Stmt := top 22
theorem sc_read_part : FnScope ["word"] ["word"] (defScope s_read_part) := ⟨rfl, rfl, rfl, by decide +kernel, rfl, by decide +kernel, by decide +kernel⟩
instance : NdN ["word"] := ⟨sc_read_part.nd⟩
abbrev X_read_part (P : Program) (w : World) (K : PySem.W.Frag) (mg : Str → Option Value) (base : Heap) (f : Addr) (cdv : Value) (A : Around) (outer : List Env) (s : Shared) (H : Hp) (E : XK) : Cx := cxr P w K mg base ["word"] "read_part" s_read_part f cdv A outer s H E
abbrev s_show_rule : Stmt := top 23
theorem sc_show_rule : FnScope ["rule", "head", "parts", "worth", "part"] ["rule"] (defScope s_show_rule) := ⟨rfl, rfl, rfl, by decide +kernel, rfl, by decide +kernel, by decide +kernel⟩
instance : NdN ["rule", "head", "parts", "worth", "part"] := ⟨sc_show_rule.nd⟩
abbrev X_show_rule (P : Program) (w : World) (K : PySem.W.Frag) (mg : Str → Option Value) (base : Heap) (f : Addr) (cdv : Value) (A : Around) (outer : List Env) (s : Shared) (H : Hp) (E : XK) : Cx := cxr P w K mg base ["rule", "head", "parts", "worth", "part"] "show_rule" s_show_rule f cdv A outer s H E
abbrev s_show_grammar : Stmt := top 24
theorem sc_show_grammar : FnScope ["grammar", "rule"] ["grammar"] (defScope s_show_grammar) := ⟨rfl, rfl, rfl, by decide +kernel, rfl, by decide +kernel, by decide +kernel⟩
instance : NdN ["grammar", "rule"] := ⟨sc_show_grammar.nd⟩
abbrev X_show_grammar (P : Program) (w : World) (K : PySem.W.Frag) (mg : Str → Option Value) (base : Heap) (f : Addr) (cdv : Value) (A : Around) (outer : List Env) (s : Shared) (H : Hp) (E : XK) : Cx := cxr P w K mg base ["grammar", "rule"] "show_grammar" s_show_grammar f cdv A outer s H E
abbrev s_read_rule : Stmt := top 25
theorem sc_read_rule : FnScope ["text", "words", "rule", "word"] ["text"] (defScope s_read_rule) := ⟨rfl, rfl, rfl, by decide +kernel, rfl, by decide +kernel, by decide +kernel⟩
instance : NdN ["text", "words", "rule", "word"] := ⟨sc_read_rule.nd⟩
abbrev X_read_rule (P : Program) (w : World) (K : PySem.W.Frag) (mg : Str → Option Value) (base : Heap) (f : Addr) (cdv : Value) (A : Around) (outer : List Env) (s : Shared) (H : Hp) (E : XK) : Cx := cxrN P w K mg base ["text", "words", "rule", "word"] "read_rule" s_read_rule f cdv A outer s H E
abbrev s_read_grammar : Stmt := top 26
theorem sc_read_grammar : FnScope ["text", "rows", "rules", "row", "rule"] ["text"] (defScope s_read_grammar) := ⟨rfl, rfl, rfl, by decide +kernel, rfl, by decide +kernel, by decide +kernel⟩
instance : NdN ["text", "rows", "rules", "row", "rule"] := ⟨sc_read_grammar.nd⟩
abbrev X_read_grammar (P : Program) (w : World) (K : PySem.W.Frag) (mg : Str → Option Value) (base : Heap) (f : Addr) (cdv : Value) (A : Around) (outer : List Env) (s : Shared) (H : Hp) (E : XK) : Cx := cxr P w K mg base ["text", "rows", "rules", "row", "rule"] "read_grammar" s_read_grammar f cdv A outer s H E
abbrev s_law_cell_at : Stmt := top 28
theorem sc_law_cell_at : FnScope ["_law_script", "_law_k"] ["_law_script", "_law_k"] (defScope s_law_cell_at) := ⟨rfl, rfl, rfl, by decide +kernel, rfl, by decide +kernel, by decide +kernel⟩
instance : NdN ["_law_script", "_law_k"] := ⟨sc_law_cell_at.nd⟩
abbrev X_law_cell_at (P : Program) (w : World) (K : PySem.W.Frag) (mg : Str → Option Value) (base : Heap) (f : Addr) (cdv : Value) (A : Around) (outer : List Env) (s : Shared) (H : Hp) (E : XK) : Cx := cxr P w K mg base ["_law_script", "_law_k"] "_law_cell_at" s_law_cell_at f cdv A outer s H E
abbrev s_law_sign : Stmt := top 29
theorem sc_law_sign : FnScope ["_law_cell", "_law_some"] ["_law_cell"] (defScope s_law_sign) := ⟨rfl, rfl, rfl, by decide +kernel, rfl, by decide +kernel, by decide +kernel⟩
instance : NdN ["_law_cell", "_law_some"] := ⟨sc_law_sign.nd⟩
abbrev X_law_sign (P : Program) (w : World) (K : PySem.W.Frag) (mg : Str → Option Value) (base : Heap) (f : Addr) (cdv : Value) (A : Around) (outer : List Env) (s : Shared) (H : Hp) (E : XK) : Cx := cxr P w K mg base ["_law_cell", "_law_some"] "_law_sign" s_law_sign f cdv A outer s H E
abbrev s_law_name : Stmt := top 30
theorem sc_law_name : FnScope ["_law_cell", "_law_big", "_law_name_here", "_law_k"] ["_law_cell"] (defScope s_law_name) := ⟨rfl, rfl, rfl, by decide +kernel, rfl, by decide +kernel, by decide +kernel⟩
instance : NdN ["_law_cell", "_law_big", "_law_name_here", "_law_k"] := ⟨sc_law_name.nd⟩
abbrev X_law_name (P : Program) (w : World) (K : PySem.W.Frag) (mg : Str → Option Value) (base : Heap) (f : Addr) (cdv : Value) (A : Around) (outer : List Env) (s : Shared) (H : Hp) (E : XK) : Cx := cxr P w K mg base ["_law_cell", "_law_big", "_law_name_here", "_law_k"] "_law_name" s_law_name f cdv A outer s H E
abbrev s_law_part : Stmt := top 31
theorem sc_law_part : FnScope ["_law_cell"] ["_law_cell"] (defScope s_law_part) := ⟨rfl, rfl, rfl, by decide +kernel, rfl, by decide +kernel, by decide +kernel⟩
instance : NdN ["_law_cell"] := ⟨sc_law_part.nd⟩
abbrev X_law_part (P : Program) (w : World) (K : PySem.W.Frag) (mg : Str → Option Value) (base : Heap) (f : Addr) (cdv : Value) (A : Around) (outer : List Env) (s : Shared) (H : Hp) (E : XK) : Cx := cxr P w K mg base ["_law_cell"] "_law_part" s_law_part f cdv A outer s H E
abbrev s_law_worth : Stmt := top 32
theorem sc_law_worth : FnScope ["_law_cell"] ["_law_cell"] (defScope s_law_worth) := ⟨rfl, rfl, rfl, by decide +kernel, rfl, by decide +kernel, by decide +kernel⟩
instance : NdN ["_law_cell"] := ⟨sc_law_worth.nd⟩
abbrev X_law_worth (P : Program) (w : World) (K : PySem.W.Frag) (mg : Str → Option Value) (base : Heap) (f : Addr) (cdv : Value) (A : Around) (outer : List Env) (s : Shared) (H : Hp) (E : XK) : Cx := cxr P w K mg base ["_law_cell"] "_law_worth" s_law_worth f cdv A outer s H E
abbrev s_law_rule : Stmt := top 33
theorem sc_law_rule : FnScope ["_law_script", "_law_at", "_law_size", "_law_parts", "_law_k"] ["_law_script", "_law_at"] (defScope s_law_rule) := ⟨rfl, rfl, rfl, by decide +kernel, rfl, by decide +kernel, by decide +kernel⟩
instance : NdN ["_law_script", "_law_at", "_law_size", "_law_parts", "_law_k"] := ⟨sc_law_rule.nd⟩
abbrev X_law_rule (P : Program) (w : World) (K : PySem.W.Frag) (mg : Str → Option Value) (base : Heap) (f : Addr) (cdv : Value) (A : Around) (outer : List Env) (s : Shared) (H : Hp) (E : XK) : Cx := cxr P w K mg base ["_law_script", "_law_at", "_law_size", "_law_parts", "_law_k"] "_law_rule" s_law_rule f cdv A outer s H E
abbrev s_law_written : Stmt := top 34
theorem sc_law_written : FnScope ["_law_rule_here", "_law_text", "_law_part_here"] ["_law_rule_here"] (defScope s_law_written) := ⟨rfl, rfl, rfl, by decide +kernel, rfl, by decide +kernel, by decide +kernel⟩
instance : NdN ["_law_rule_here", "_law_text", "_law_part_here"] := ⟨sc_law_written.nd⟩
abbrev X_law_written (P : Program) (w : World) (K : PySem.W.Frag) (mg : Str → Option Value) (base : Heap) (f : Addr) (cdv : Value) (A : Around) (outer : List Env) (s : Shared) (H : Hp) (E : XK) : Cx := cxr P w K mg base ["_law_rule_here", "_law_text", "_law_part_here"] "_law_written" s_law_written f cdv A outer s H E
abbrev s_law_alike : Stmt := top 35
theorem sc_law_alike : FnScope ["_law_found", "_law_due", "_law_part_here"] ["_law_found", "_law_due"] (defScope s_law_alike) := ⟨rfl, rfl, rfl, by decide +kernel, rfl, by decide +kernel, by decide +kernel⟩
instance : NdN ["_law_found", "_law_due", "_law_part_here"] := ⟨sc_law_alike.nd⟩
abbrev X_law_alike (P : Program) (w : World) (K : PySem.W.Frag) (mg : Str → Option Value) (base : Heap) (f : Addr) (cdv : Value) (A : Around) (outer : List Env) (s : Shared) (H : Hp) (E : XK) : Cx := cxr P w K mg base ["_law_found", "_law_due", "_law_part_here"] "_law_alike" s_law_alike f cdv A outer s H E
abbrev s_law_rules : Stmt := top 36
theorem sc_law_rules : FnScope ["_law_script", "_law_rules_here", "_law_at"] ["_law_script"] (defScope s_law_rules) := ⟨rfl, rfl, rfl, by decide +kernel, rfl, by decide +kernel, by decide +kernel⟩
instance : NdN ["_law_script", "_law_rules_here", "_law_at"] := ⟨sc_law_rules.nd⟩
abbrev X_law_rules (P : Program) (w : World) (K : PySem.W.Frag) (mg : Str → Option Value) (base : Heap) (f : Addr) (cdv : Value) (A : Around) (outer : List Env) (s : Shared) (H : Hp) (E : XK) : Cx := cxr P w K mg base ["_law_script", "_law_rules_here", "_law_at"] "_law_rules" s_law_rules f cdv A outer s H E
abbrev s_law_same : Stmt := top 37
theorem sc_law_same : FnScope ["_law_found", "_law_rules_here", "_law_k"] ["_law_found", "_law_rules_here"] (defScope s_law_same) := ⟨rfl, rfl, rfl, by decide +kernel, rfl, by decide +kernel, by decide +kernel⟩
instance : NdN ["_law_found", "_law_rules_here", "_law_k"] := ⟨sc_law_same.nd⟩
abbrev X_law_same (P : Program) (w : World) (K : PySem.W.Frag) (mg : Str → Option Value) (base : Heap) (f : Addr) (cdv : Value) (A : Around) (outer : List Env) (s : Shared) (H : Hp) (E : XK) : Cx := cxr P w K mg base ["_law_found", "_law_rules_here", "_law_k"] "_law_same" s_law_same f cdv A outer s H E
abbrev s_law_no : Stmt := top 38
theorem sc_law_no : FnScope ["_law_error"] ["_law_error"] (defScope s_law_no) := ⟨rfl, rfl, rfl, by decide +kernel, rfl, by decide +kernel, by decide +kernel⟩
instance : NdN ["_law_error"] := ⟨sc_law_no.nd⟩
abbrev X_law_no (P : Program) (w : World) (K : PySem.W.Frag) (mg : Str → Option Value) (base : Heap) (f : Addr) (cdv : Value) (A : Around) (outer : List Env) (s : Shared) (H : Hp) (E : XK) : Cx := cxr P w K mg base ["_law_error"] "_law_no" s_law_no f cdv A outer s H E
abbrev s_law_unread : Stmt := top 39
theorem sc_law_unread : FnScope ["_law_text", "_law_kept", "e"] ["_law_text"] (defScope s_law_unread) := ⟨rfl, rfl, rfl, by decide +kernel, rfl, by decide +kernel, by decide +kernel⟩
instance : NdN ["_law_text", "_law_kept", "e"] := ⟨sc_law_unread.nd⟩
abbrev X_law_unread (P : Program) (w : World) (K : PySem.W.Frag) (mg : Str → Option Value) (base : Heap) (f : Addr) (cdv : Value) (A : Around) (outer : List Env) (s : Shared) (H : Hp) (E : XK) : Cx := cxr P w K mg base ["_law_text", "_law_kept", "e"] "_law_unread" s_law_unread f cdv A outer s H E
abbrev s_law_unshown : Stmt := top 40
theorem sc_law_unshown : FnScope ["_law_grammar", "_law_kept", "e"] ["_law_grammar"] (defScope s_law_unshown) := ⟨rfl, rfl, rfl, by decide +kernel, rfl, by decide +kernel, by decide +kernel⟩
instance : NdN ["_law_grammar", "_law_kept", "e"] := ⟨sc_law_unshown.nd⟩
abbrev X_law_unshown (P : Program) (w : World) (K : PySem.W.Frag) (mg : Str → Option Value) (base : Heap) (f : Addr) (cdv : Value) (A : Around) (outer : List Env) (s : Shared) (H : Hp) (E : XK) : Cx := cxr P w K mg base ["_law_grammar", "_law_kept", "e"] "_law_unshown" s_law_unshown f cdv A outer s H E
abbrev s_law_broken : Stmt := top 41
theorem sc_law_broken : FnScope ["_law_rows", "_law_cell", "_law_some", "_law_at", "_law_broken_here", "_law_text"] ["_law_rows", "_law_cell"] (defScope s_law_broken) := ⟨rfl, rfl, rfl, by decide +kernel, rfl, by decide +kernel, by decide +kernel⟩
instance : NdN ["_law_rows", "_law_cell", "_law_some", "_law_at", "_law_broken_here", "_law_text"] := ⟨sc_law_broken.nd⟩
abbrev X_law_broken (P : Program) (w : World) (K : PySem.W.Frag) (mg : Str → Option Value) (base : Heap) (f : Addr) (cdv : Value) (A : Around) (outer : List Env) (s : Shared) (H : Hp) (E : XK) : Cx := cxr P w K mg base ["_law_rows", "_law_cell", "_law_some", "_law_at", "_law_broken_here", "_law_text"] "_law_broken" s_law_broken f cdv A outer s H E
abbrev s_law : Stmt := top 42
theorem sc_law : FnScope ["_law_script", "_law_rules_here", "_law_rows", "_law_rule_here", "_law_text", "_law_handed", "_law_found", "_law_some", "_law_line", "_law_thing", "_law_spoilt"] ["_law_script"] (defScope s_law) := ⟨rfl, rfl, rfl, by decide +kernel, rfl, by decide +kernel, by decide +kernel⟩
instance : NdN ["_law_script", "_law_rules_here", "_law_rows", "_law_rule_here", "_law_text", "_law_handed", "_law_found", "_law_some", "_law_line", "_law_thing", "_law_spoilt"] := ⟨sc_law.nd⟩
abbrev X_law (P : Program) (w : World) (K : PySem.W.Frag) (mg : Str → Option Value) (base : Heap) (f : Addr) (cdv : Value) (A : Around) (outer : List Env) (s : Shared) (H : Hp) (E : XK) : Cx := cxr P w K mg base ["_law_script", "_law_rules_here", "_law_rows", "_law_rule_here", "_law_text", "_law_handed", "_law_found", "_law_some", "_law_line", "_law_thing", "_law_spoilt"] "law" s_law f cdv A outer s H E
structure Cs where
  z : Addr := 0
  ForestError : Addr
  NoGrammar : Addr
  NoText : Addr
  NoRule : Addr
structure Txt (K : PySem.W.Frag) (mg : Str → Option Value) (cs : Cs) : Prop where
  b_ValueError : Gn mg "ValueError" none
  b_bool : Gn mg "bool" none
  b_int : Gn mg "int" none
  b_isinstance : Gn mg "isinstance" none
  b_len : Gn mg "len" none
  b_list : Gn mg "list" none
  b_min : Gn mg "min" none
  b_ord : Gn mg "ord" none
  b_range : Gn mg "range" none
  b_str : Gn mg "str" none
  b_tuple : Gn mg "tuple" none
  k_MOST_RULES : ∃ t, mg "MOST_RULES" = some (.int (60) t)
  k_MOST_PARTS : ∃ t, mg "MOST_PARTS" = some (.int (6) t)
  k_MOST_WORTH : ∃ t, mg "MOST_WORTH" = some (.int (1000000000000000000000000000000000000000000000000000000000000) t)
  k_FIGURES : ∃ t, mg "FIGURES" = some (.str ("0123456789") t)
  k_MOST_FIGURES : ∃ t, mg "MOST_FIGURES" = some (.int (61) t)
  x_ForestError : ExcF K mg "ForestError" cs.ForestError
  x_NoGrammar : ExcF K mg "NoGrammar" cs.NoGrammar
  x_NoText : ExcF K mg "NoText" cs.NoText
  x_NoRule : ExcF K mg "NoRule" cs.NoRule
  s_NoGrammar_ForestError : PySem.W.subIn K (.ref cs.NoGrammar) (.ref cs.ForestError) = some true
  s_NoGrammar_NoGrammar : PySem.W.subIn K (.ref cs.NoGrammar) (.ref cs.NoGrammar) = some true
  s_NoGrammar_NoText : PySem.W.subIn K (.ref cs.NoGrammar) (.ref cs.NoText) = some false
  s_NoGrammar_NoRule : PySem.W.subIn K (.ref cs.NoGrammar) (.ref cs.NoRule) = some false
  s_NoRule_ForestError : PySem.W.subIn K (.ref cs.NoRule) (.ref cs.ForestError) = some true
  s_NoRule_NoGrammar : PySem.W.subIn K (.ref cs.NoRule) (.ref cs.NoGrammar) = some false
  s_NoRule_NoText : PySem.W.subIn K (.ref cs.NoRule) (.ref cs.NoText) = some false
  s_NoRule_NoRule : PySem.W.subIn K (.ref cs.NoRule) (.ref cs.NoRule) = some true
  f_is_whole : At K mg "is_whole" "is_whole" s_is_whole ["thing"]
  f_may_stand : At K mg "may_stand" "may_stand" s_may_stand ["sign"]
  f_is_sign : At K mg "is_sign" "is_sign" s_is_sign ["thing"]
  f_is_name : At K mg "is_name" "is_name" s_is_name ["thing"]
  f_are_parts : At K mg "are_parts" "are_parts" s_are_parts ["thing"]
  f_is_rule : At K mg "is_rule" "is_rule" s_is_rule ["thing"]
  f_checked : At K mg "checked" "checked" s_checked ["thing"]
  f_read_figures : At K mg "read_figures" "read_figures" s_read_figures ["word"]
  f_show_part : At K mg "show_part" "show_part" s_show_part ["part"]
  f_read_part : At K mg "read_part" "read_part" s_read_part ["word"]
  f_show_rule : At K mg "show_rule" "show_rule" s_show_rule ["rule"]
  f_show_grammar : At K mg "show_grammar" "show_grammar" s_show_grammar ["grammar"]
  f_read_rule : At K mg "read_rule" "read_rule" s_read_rule ["text"]
  f_read_grammar : At K mg "read_grammar" "read_grammar" s_read_grammar ["text"]
  f_law_cell_at : At K mg "_law_cell_at" "_law_cell_at" s_law_cell_at ["_law_script", "_law_k"]
  f_law_sign : At K mg "_law_sign" "_law_sign" s_law_sign ["_law_cell"]
  f_law_name : At K mg "_law_name" "_law_name" s_law_name ["_law_cell"]
  f_law_part : At K mg "_law_part" "_law_part" s_law_part ["_law_cell"]
  f_law_worth : At K mg "_law_worth" "_law_worth" s_law_worth ["_law_cell"]
  f_law_rule : At K mg "_law_rule" "_law_rule" s_law_rule ["_law_script", "_law_at"]
  f_law_written : At K mg "_law_written" "_law_written" s_law_written ["_law_rule_here"]
  f_law_alike : At K mg "_law_alike" "_law_alike" s_law_alike ["_law_found", "_law_due"]
  f_law_rules : At K mg "_law_rules" "_law_rules" s_law_rules ["_law_script"]
  f_law_same : At K mg "_law_same" "_law_same" s_law_same ["_law_found", "_law_rules_here"]
  f_law_no : At K mg "_law_no" "_law_no" s_law_no ["_law_error"]
  f_law_unread : At K mg "_law_unread" "_law_unread" s_law_unread ["_law_text"]
  f_law_unshown : At K mg "_law_unshown" "_law_unshown" s_law_unshown ["_law_grammar"]
  f_law_broken : At K mg "_law_broken" "_law_broken" s_law_broken ["_law_rows", "_law_cell"]
section
variable {P : Program} {w : World} {K : PySem.W.Frag} {mg : Str → Option Value} {base : Heap} {cs : Cs}
def okc (c : Nat) : Bool := decide (32 ≤ c) && (decide (c ≤ 126) && !decide (c = 37))
def isNameS (z : Str) : Bool := (decide (1 ≤ z.length) && decide (z.length ≤ 8)) && (tl z).all fun c => decide (65 ≤ c) && decide (c ≤ 90)
def isSignL : List Nat → Bool
  | [a, c] => decide (a = 39) && okc c
  | _ => false
def isSignS (z : Str) : Bool := isSignL (tl z)
def isNameD : PyData → Bool
  | .str z => isNameS z
  | _ => false
def isSignD : PyData → Bool
  | .str z => isSignS z
  | _ => false
def isWholeD (d : PyData) : Bool := isK d "int" && !isK d "bool"
theorem no_str {d : PyData} : (∃ z, d = .str z) ∨ (isK d "str" = false ∧ isNameD d = false ∧ isSignD d = false) := by
  cases d <;> first | exact .inl ⟨_, rfl⟩ | exact .inr ⟨rfl, rfl, rfl⟩
theorem tl_str (l : List Nat) : tl (⟨l.toArray⟩ : Str) = l := rfl
theorem str_tl (z : Str) : z = ⟨(tl z).toArray⟩ := (mk_tl z).symm
theorem lo_sp (c : Nat) : (!decide (tl (⟨#[c]⟩ : Str) < tl (Str.ofString " "))) = decide (32 ≤ c) := by
  have e : tl (Str.ofString " ") = [32] := by decide +kernel
  rw [e]
  by_cases h : 32 ≤ c
  · rw [decide_eq_true h, decide_eq_false (show ¬ ([c] < [32]) from fun q => by have := (lt1 c 32).mp q; omega)]; rfl
  · rw [decide_eq_false h, decide_eq_true (show ([c] < [32]) from (lt1 c 32).mpr (by omega))]; rfl
theorem hi_ti (c : Nat) : (!decide (tl (Str.ofString "~") < tl (⟨#[c]⟩ : Str))) = decide (c ≤ 126) := by
  have e : tl (Str.ofString "~") = [126] := by decide +kernel
  rw [e]
  by_cases h : c ≤ 126
  · rw [decide_eq_true h, decide_eq_false (show ¬ ([126] < [c]) from fun q => by have := (lt1 126 c).mp q; omega)]; rfl
  · rw [decide_eq_false h, decide_eq_true (show ([126] < [c]) from (lt1 126 c).mpr (by omega))]; rfl
theorem lo_A (c : Nat) : (!decide (tl (⟨#[c]⟩ : Str) < tl (Str.ofString "A"))) = decide (65 ≤ c) := by
  have e : tl (Str.ofString "A") = [65] := by decide +kernel
  rw [e]
  by_cases h : 65 ≤ c
  · rw [decide_eq_true h, decide_eq_false (show ¬ ([c] < [65]) from fun q => by have := (lt1 c 65).mp q; omega)]; rfl
  · rw [decide_eq_false h, decide_eq_true (show ([c] < [65]) from (lt1 c 65).mpr (by omega))]; rfl
theorem hi_Z (c : Nat) : (!decide (tl (Str.ofString "Z") < tl (⟨#[c]⟩ : Str))) = decide (c ≤ 90) := by
  have e : tl (Str.ofString "Z") = [90] := by decide +kernel
  rw [e]
  by_cases h : c ≤ 90
  · rw [decide_eq_true h, decide_eq_false (show ¬ ([90] < [c]) from fun q => by have := (lt1 90 c).mp q; omega)]; rfl
  · rw [decide_eq_false h, decide_eq_true (show ([90] < [c]) from (lt1 90 c).mpr (by omega))]; rfl
theorem one_eq (a : Nat) (l : List Nat) (t : String) (h : tl (Str.ofString t) = l) : ((⟨#[a]⟩ : Str) = Str.ofString t) ↔ [a] = l := by
  constructor
  · intro e
    rw [← h, ← e]
  · intro e
    exact ext_tl (by rw [h, ← e])
theorem is_quote (a : Nat) : decide ((⟨#[a]⟩ : Str) = Str.ofString "'") = decide (a = 39) := decide_eq_decide.mpr (by rw [one_eq a [39] "'" (by decide +kernel)]; simp)
def R_is_whole (K : PySem.W.Frag) : V → Hp → VK → XK → Prop := fun x H Q _ => ∃ d, Th K H x d ∧ Q (.bl (isWholeD d)) H
section
theorem ok_is_whole {f : Addr} {fd : FuncData} (F : Fun K "is_whole" "is_whole" s_is_whole f fd) (T : Txt K mg cs) : FnOk P w K mg base (L2.CX P w) 1 f fd ["thing"] (sp1 (R_is_whole K)) := by
  refine F.okX sc_is_whole (fun vs H Q E h => sp1_len h) (fun cdv A outer s H vs Q E hr h => ⟨_, PBw (X := X_is_whole P w K mg base f cdv A outer s H E), ?_⟩)
  obtain ⟨a0, rfl, h⟩ := h
  have ib_isinstance := T.b_isinstance
  have ib_int := T.b_int
  have ib_bool := T.b_bool
  have hr' : Room 0 (X_is_whole P w K mg base f cdv A outer s H E).A := hr
  replace hr := hr'
  clear hr'
  obtain ⟨d, hd, h⟩ := h
  wp_step
  refine e_andJ (d := !isK d "bool") ?_
  wp_step
  refine k_isInt hd ⟨_, rfl, fun _ Q' q => ?_, h⟩
  wp_step
  refine k_isBool hd ?_
  wp_step
  exact q
end
theorem df_is_whole (T : Txt K mg cs) : Df P w K mg base "is_whole" 1 ["thing"] (sp1 (R_is_whole K)) := by
  obtain ⟨f, fd, hm, F, hb⟩ := T.f_is_whole.ex
  exact ⟨f, fd, hm, F.kp, hb, ok_is_whole F T⟩
def R_may_stand : V → Hp → VK → XK → Prop := fun x H Q _ => ∃ c, x = .str ⟨#[c]⟩ ∧ Q (.bl (okc c)) H
section
theorem ok_may_stand {f : Addr} {fd : FuncData} (F : Fun K "may_stand" "may_stand" s_may_stand f fd) (T : Txt K mg cs) : FnOk P w K mg base (L2.CX P w) 1 f fd ["sign"] (sp1 (R_may_stand)) := by
  refine F.okX sc_may_stand (fun vs H Q E h => sp1_len h) (fun cdv A outer s H vs Q E hr h => ⟨_, PBw (X := X_may_stand P w K mg base f cdv A outer s H E), ?_⟩)
  obtain ⟨a0, rfl, h⟩ := h
  have ib_ord := T.b_ord
  have hr' : Room 0 (X_may_stand P w K mg base f cdv A outer s H E).A := hr
  replace hr := hr'
  clear hr'
  obtain ⟨c, rfl, h⟩ := h
  wp_step
  refine e_and ?_
  refine e_chain ?_
  wp_step
  rw [lo_sp]
  refine iteD (fun c1 => ?_) fun c1 => ?_
  · wp_step
    rw [hi_ti]
    refine iteD (fun c2 => ?_) fun c2 => ?_
    · wp_step
      have e : okc c = !decide ((c : Int) = 37) := by
        simp only [okc, decide_eq_true c1, decide_eq_true c2, Bool.true_and]
        congr 1
        exact decide_eq_decide.mpr (by omega)
      rw [e] at h
      exact h
    · have e : okc c = false := by simp only [okc, decide_eq_false c2, Bool.false_and, Bool.and_false]
      rw [e] at h
      exact h
  · wp_step
    have e : okc c = false := by simp only [okc, decide_eq_false c1, Bool.false_and]
    rw [e] at h
    exact h
end
theorem df_may_stand (T : Txt K mg cs) : Df P w K mg base "may_stand" 1 ["sign"] (sp1 (R_may_stand)) := by
  obtain ⟨f, fd, hm, F, hb⟩ := T.f_may_stand.ex
  exact ⟨f, fd, hm, F.kp, hb, ok_may_stand F T⟩
def R_is_sign (K : PySem.W.Frag) : V → Hp → VK → XK → Prop := fun x H Q _ => ∃ d, Th K H x d ∧ Q (.bl (isSignD d)) H
section
set_option hygiene false in
local macro_rules | `(tactic| top_name) => `(tactic| first | refine e_call (df_may_stand T) (hr.mono (by decide)) ?_)
theorem ok_is_sign {f : Addr} {fd : FuncData} (F : Fun K "is_sign" "is_sign" s_is_sign f fd) (T : Txt K mg cs) : FnOk P w K mg base (L2.CX P w) 2 f fd ["thing"] (sp1 (R_is_sign K)) := by
  refine F.okX sc_is_sign (fun vs H Q E h => sp1_len h) (fun cdv A outer s H vs Q E hr h => ⟨_, PBw (X := X_is_sign P w K mg base f cdv A outer s H E), ?_⟩)
  obtain ⟨a0, rfl, h⟩ := h
  have ib_isinstance := T.b_isinstance
  have ib_str := T.b_str
  have ib_len := T.b_len
  have hr' : Room 1 (X_is_sign P w K mg base f cdv A outer s H E).A := hr
  replace hr := hr'
  clear hr'
  obtain ⟨d, hd, h⟩ := h
  wp_step
  refine e_and ?_
  wp_step
  refine k_isStr hd ⟨_, rfl, ?_⟩
  rcases no_str (d := d) with ⟨z, rfl⟩ | ⟨e1, _, e2⟩
  · cases hd with
    | str _ hz =>
    wp_step
    refine e_and ?_
    wp_step
    refine k_lenS (sz1m hz) ?_
    wp_step
    generalize hl : tl z = l at *
    have hlen : z.length = l.length := by rw [len_tl, hl]
    have hs : isSignD (.str z) = isSignL l := by show isSignL (tl z) = _; rw [hl]
    rw [hs] at h
    refine iteD (fun c => ?_) fun c => ?_
    · match l, hl, hlen, h, hs with
      | [a, c'], hl, hlen, h, _ =>
        refine e_and ?_
        wp_step
        refine i_str (sz1m hz) (c := a) ?_ ?_
        · rw [show z.cps.toList = [a, c'] from hl]
          rfl
        wp_step
        rw [is_quote]
        refine iteD (fun c2 => ?_) fun c2 => ?_
        · wp_step
          refine e_call (df_may_stand T) (hr.mono (by decide)) ?_
          wp_step
          refine i_str (sz1m hz) (c := c') ?_ ?_
          · rw [show z.cps.toList = [a, c'] from hl]
            rfl
          wp_step
          have e : isSignL [a, c'] = okc c' := by simp only [isSignL, decide_eq_true c2, Bool.true_and]
          rw [e] at h
          exact h
        · have e : isSignL [a, c'] = false := by simp only [isSignL, decide_eq_false c2, Bool.false_and]
          rw [e] at h
          exact h
      | [], _, hlen, _, _ => simp at hlen; omega
      | [_], _, hlen, _, _ => simp at hlen; omega
      | _ :: _ :: _ :: _, _, hlen, _, _ => simp at hlen; omega
    · have e : isSignL l = false := by
        match l, hlen with
        | [], _ => rfl
        | [_], _ => rfl
        | [_, _], hlen => simp at hlen; omega
        | _ :: _ :: _ :: _, _ => rfl
      rw [e] at h
      exact h
  · rw [e1]
    rw [e2] at h
    exact iteF h
end
theorem df_is_sign (T : Txt K mg cs) : Df P w K mg base "is_sign" 2 ["thing"] (sp1 (R_is_sign K)) := by
  obtain ⟨f, fd, hm, F, hb⟩ := T.f_is_sign.ex
  exact ⟨f, fd, hm, F.kp, hb, ok_is_sign F T⟩
def R_is_name (K : PySem.W.Frag) : V → Hp → VK → XK → Prop := fun x H Q _ => ∃ d, Th K H x d ∧ Q (.bl (isNameD d)) H
section
theorem ok_is_name {f : Addr} {fd : FuncData} (F : Fun K "is_name" "is_name" s_is_name f fd) (T : Txt K mg cs) : FnOk P w K mg base (L2.CX P w) 1 f fd ["thing"] (sp1 (R_is_name K)) := by
  refine F.okX sc_is_name (fun vs H Q E h => sp1_len h) (fun cdv A outer s H vs Q E hr h => ⟨_, PBw (X := X_is_name P w K mg base f cdv A outer s H E), ?_⟩)
  obtain ⟨a0, rfl, h⟩ := h
  have ib_isinstance := T.b_isinstance
  have ib_str := T.b_str
  have ib_len := T.b_len
  have hr' : Room 0 (X_is_name P w K mg base f cdv A outer s H E).A := hr
  replace hr := hr'
  clear hr'
  obtain ⟨d, hd, h⟩ := h
  wp_step
  refine k_isStr hd ⟨_, rfl, ?_⟩
  rcases no_str (d := d) with ⟨z, rfl⟩ | ⟨e1, e2, _⟩
  · cases hd with
    | str _ hz =>
    wp_step
    refine k_lenS (sz1m hz) ?_
    wp_step
    have hlen : (tl z).length = z.length := (len_tl z).symm
    have hbad : ¬ (1 ≤ z.length ∧ z.length ≤ 8) → isNameD (.str z) = false := fun c => by
      show ((decide (1 ≤ z.length) && decide (z.length ≤ 8)) && _) = false
      by_cases c1 : 1 ≤ z.length <;> by_cases c2 : z.length ≤ 8 <;> simp [c1, c2]
      exact absurd ⟨c1, c2⟩ c
    refine iteD (fun c1 => ?_) fun c1 => ?_
    · wp_step
      refine iteND (fun c2 => ?_) fun c2 => ?_
      · wp_step
        rw [hbad (by omega)] at h
        exact h
      · have hgood : isNameD (.str z) = (tl z).all fun c => decide (65 ≤ c) && decide (c ≤ 90) := by
          show ((decide (1 ≤ z.length) && decide (z.length ≤ 8)) && _) = _
          rw [decide_eq_true (show 1 ≤ z.length by omega), decide_eq_true (show z.length ≤ 8 by omega)]
          rfl
        rw [hgood] at h
        wp_step
        refine s_for (j_str ?_)
        wp_step
        refine ⟨_, _, _, walk_str, fun i σ' H' => (∃ v, σ' = [some (.str z), v]) ∧ H' = H ∧ ((tl z).take i).all (fun c => decide (65 ≤ c) && decide (c ≤ 90)) = true, ⟨⟨_, rfl⟩, rfl, rfl⟩, fun _ _ _ _ _ => trivial, ?_, ?_⟩
        · rintro i x σ' H' H2 hi ⟨⟨v, rfl⟩, rfl, hall⟩ ⟨rfl, c, hc, rfl⟩
          have hc' : (tl z)[i]? = some c := by simpa [tl] using hc
          wp_step
          rw [lo_A]
          refine iteD (fun d1 => ?_) fun d1 => ?_
          · wp_step
            rw [hi_Z]
            refine iteND (fun d2 => ?_) fun d2 => ?_
            · wp_step
              rw [all_cut hc' (by simp [d2])] at h
              exact h
            · wp_step
              exact ⟨⟨_, rfl⟩, rfl, by rw [all_snoc hc', hall]; simp [d1, d2]⟩
          · wp_step
            rw [all_cut hc' (by simp [d1])] at h
            exact h
        · rintro σ' H' ⟨⟨v, rfl⟩, rfl, hall⟩
          wp_step
          rw [show z.cps.size = (tl z).length by simp [tl], List.take_length] at hall
          rw [hall] at h
          exact h
    · wp_step
      rw [hbad (by omega)] at h
      exact h
  · rw [e1]
    rw [e2] at h
    wp_step
    exact h

end
theorem df_is_name (T : Txt K mg cs) : Df P w K mg base "is_name" 1 ["thing"] (sp1 (R_is_name K)) := by
  obtain ⟨f, fd, hm, F, hb⟩ := T.f_is_name.ex
  exact ⟨f, fd, hm, F.kp, hb, ok_is_name F T⟩
abbrev top60 : Int := 1000000000000000000000000000000000000000000000000000000000000
def isPartD (d : PyData) : Bool := isSignD d || isNameD d
def arePartsD : PyData → Bool
  | .tuple ds => decide (ds.length ≤ 6) && ds.all isPartD
  | _ => false
def isWorthD : PyData → Bool
  | .int i => decide (0 ≤ i) && decide (i ≤ top60)
  | _ => false
def isRuleL : List PyData → Bool
  | [h, p, w] => (isNameD h && arePartsD p) && isWorthD w
  | _ => false
def isRuleD : PyData → Bool
  | .tuple ds => isRuleL ds
  | _ => false
theorem no_tup {d : PyData} : (∃ ds, d = .tuple ds) ∨ (isK d "tuple" = false ∧ arePartsD d = false ∧ isRuleD d = false) := by
  cases d <;> first | exact .inl ⟨_, rfl⟩ | exact .inr ⟨rfl, rfl, rfl⟩
theorem len3 {α : Type} {l : List α} (h : l.length = 3) : ∃ a b c, l = [a, b, c] := by
  match l, h with
  | [a, b, c], _ => exact ⟨a, b, c, rfl⟩
theorem rule_len {ds : List PyData} (h : ¬ ds.length = 3) : isRuleL ds = false := by
  match ds, h with
  | [], _ => rfl
  | [_], _ => rfl
  | [_, _], _ => rfl
  | [_, _, _], h => exact absurd rfl h
  | _ :: _ :: _ :: _ :: _, _ => rfl
theorem th3 {K : PySem.W.Frag} {H : Hp} {vs : List V} {a b c : PyData} (h : ThAll K H vs [a, b, c]) : ∃ x y z, vs = [x, y, z] ∧ Th K H x a ∧ Th K H y b ∧ Th K H z c := by
  cases h with
  | cons h0 h => cases h with
    | cons h1 h => cases h with
      | cons h2 h => cases h; exact ⟨_, _, _, rfl, h0, h1, h2⟩
theorem th_whole {K : PySem.W.Frag} {H : Hp} {v : V} {d : PyData} (h : Th K H v d) : (∃ n, d = .int n ∧ v = .int n) ∨ (isWholeD d = false ∧ isWorthD d = false) := by
  cases h <;> first | exact .inl ⟨_, rfl, rfl⟩ | exact .inr ⟨rfl, rfl⟩
def R_are_parts (K : PySem.W.Frag) : V → Hp → VK → XK → Prop := fun x H Q _ => ∃ d, Th K H x d ∧ Q (.bl (arePartsD d)) H
section
set_option hygiene false in
local macro_rules | `(tactic| top_name) => `(tactic| first | refine e_call (df_is_sign T) (hr.mono (by decide)) ?_ | refine e_call (df_is_name T) (hr.mono (by decide)) ?_)
theorem ok_are_parts {f : Addr} {fd : FuncData} (F : Fun K "are_parts" "are_parts" s_are_parts f fd) (T : Txt K mg cs) : FnOk P w K mg base (L2.CX P w) 3 f fd ["thing"] (sp1 (R_are_parts K)) := by
  refine F.okX sc_are_parts (fun vs H Q E h => sp1_len h) (fun cdv A outer s H vs Q E hr h => ⟨_, PBw (X := X_are_parts P w K mg base f cdv A outer s H E), ?_⟩)
  obtain ⟨a0, rfl, h⟩ := h
  obtain ⟨t_MOST_PARTS, h_MOST_PARTS⟩ := T.k_MOST_PARTS
  have ib_MOST_PARTS : Gn mg "MOST_PARTS" (some _) := ⟨h_MOST_PARTS⟩
  have ib_isinstance := T.b_isinstance
  have ib_tuple := T.b_tuple
  have ib_len := T.b_len
  have hr' : Room 2 (X_are_parts P w K mg base f cdv A outer s H E).A := hr
  replace hr := hr'
  clear hr'
  obtain ⟨d, hd, h⟩ := h
  wp_step
  refine k_isTuple hd ⟨_, rfl, ?_⟩
  rcases no_tup (d := d) with ⟨ds, rfl⟩ | ⟨e1, e2, _⟩
  · cases hd with
    | tup hs ha =>
    rename_i a vs
    wp_step
    refine k_lenT hs ?_
    wp_step
    have hlen := ha.len
    refine iteD (fun c => ?_) fun c => ?_
    · wp_step
      have e : arePartsD (.tuple ds) = false := by
        show (decide (ds.length ≤ 6) && _) = false
        rw [decide_eq_false (by omega), Bool.false_and]
      rw [e] at h
      exact h
    · wp_step
      have e : arePartsD (.tuple ds) = ds.all isPartD := by
        show (decide (ds.length ≤ 6) && _) = _
        rw [decide_eq_true (by omega), Bool.true_and]
      rw [e] at h
      refine s_for (j_tup ?_)
      wp_step
      refine ⟨⟨_, hs⟩, _, _, _, walk_tup (xs := vs), fun i σ' H' => (∃ v, σ' = [some (.ref a), v]) ∧ H' = H ∧ (ds.take i).all isPartD = true, ⟨⟨_, rfl⟩, rfl, rfl⟩, fun _ _ _ _ ⟨_, e, _⟩ => by rw [e]; exact hs, ?_, ?_⟩
      · rintro i x σ' H' H2 hi ⟨⟨v, rfl⟩, rfl, hall⟩ ⟨rfl, hx⟩
        obtain ⟨d, hd1, hd2⟩ := ha.get hx
        wp_step
        refine e_call (df_is_sign T) (hr.mono (by decide)) ?_
        wp_step
        refine ⟨d, hd2, ?_⟩
        wp_step
        cases c1 : isSignD d with
        | true =>
          wp_step
          exact ⟨⟨_, rfl⟩, rfl, by rw [all_snoc hd1, hall]; simp [isPartD, c1]⟩
        | false =>
          wp_step
          refine e_call (df_is_name T) (hr.mono (by decide)) ?_
          wp_step
          refine ⟨d, hd2, ?_⟩
          wp_step
          cases c2 : isNameD d with
          | true =>
            wp_step
            exact ⟨⟨_, rfl⟩, rfl, by rw [all_snoc hd1, hall]; simp [isPartD, c2]⟩
          | false =>
            wp_step
            rw [all_cut hd1 (by simp [isPartD, c1, c2])] at h
            exact h
      · rintro σ' H' ⟨⟨v, rfl⟩, rfl, hall⟩
        wp_step
        rw [hlen, List.take_length] at hall
        rw [hall] at h
        exact h
  · rw [e1]
    rw [e2] at h
    wp_step
    exact h
end
theorem df_are_parts (T : Txt K mg cs) : Df P w K mg base "are_parts" 3 ["thing"] (sp1 (R_are_parts K)) := by
  obtain ⟨f, fd, hm, F, hb⟩ := T.f_are_parts.ex
  exact ⟨f, fd, hm, F.kp, hb, ok_are_parts F T⟩
def R_is_rule (K : PySem.W.Frag) : V → Hp → VK → XK → Prop := fun x H Q _ => ∃ d, Th K H x d ∧ Q (.bl (isRuleD d)) H
section
set_option hygiene false in
local macro_rules | `(tactic| top_name) => `(tactic| first | refine e_call (df_is_whole T) (hr.mono (by decide)) ?_ | refine e_call (df_is_name T) (hr.mono (by decide)) ?_ | refine e_call (df_are_parts T) (hr.mono (by decide)) ?_)
theorem ok_is_rule {f : Addr} {fd : FuncData} (F : Fun K "is_rule" "is_rule" s_is_rule f fd) (T : Txt K mg cs) : FnOk P w K mg base (L2.CX P w) 4 f fd ["thing"] (sp1 (R_is_rule K)) := by
  refine F.okX sc_is_rule (fun vs H Q E h => sp1_len h) (fun cdv A outer s H vs Q E hr h => ⟨_, PBw (X := X_is_rule P w K mg base f cdv A outer s H E), ?_⟩)
  obtain ⟨a0, rfl, h⟩ := h
  obtain ⟨t_MOST_WORTH, h_MOST_WORTH⟩ := T.k_MOST_WORTH
  have ib_MOST_WORTH : Gn mg "MOST_WORTH" (some _) := ⟨h_MOST_WORTH⟩
  have ib_isinstance := T.b_isinstance
  have ib_tuple := T.b_tuple
  have ib_len := T.b_len
  have hr' : Room 3 (X_is_rule P w K mg base f cdv A outer s H E).A := hr
  replace hr := hr'
  clear hr'
  obtain ⟨d, hd, h⟩ := h
  wp_step
  refine k_isTuple hd ⟨_, rfl, ?_⟩
  rcases no_tup (d := d) with ⟨ds, rfl⟩ | ⟨e1, _, e2⟩
  · cases hd with
    | tup hs ha =>
    rename_i a vs
    wp_step
    refine k_lenT hs ?_
    wp_step
    have hlen := ha.len
    refine iteND (fun c => ?_) fun c => ?_
    · wp_step
      have e : isRuleD (.tuple ds) = false := rule_len (by omega)
      rw [e] at h
      exact h
    · obtain ⟨d0, d1, d2, rfl⟩ := len3 (l := ds) (by omega)
      obtain ⟨v0, v1, v2, rfl, h0, h1, h2⟩ := th3 ha
      wp_step
      refine e_call (df_is_name T) (hr.mono (by decide)) ?_
      wp_step
      refine i_tup hs (v := v0) rfl ?_
      wp_step
      refine ⟨d0, h0, ?_⟩
      wp_step
      cases c0 : isNameD d0 with
      | false =>
        wp_step
        have e : isRuleD (.tuple [d0, d1, d2]) = false := by simp [isRuleD, isRuleL, c0]
        rw [e] at h
        exact h
      | true =>
        wp_step
        refine e_call (df_are_parts T) (hr.mono (by decide)) ?_
        wp_step
        refine i_tup hs (v := v1) rfl ?_
        wp_step
        refine ⟨d1, h1, ?_⟩
        wp_step
        cases c1 : arePartsD d1 with
        | false =>
          wp_step
          have e : isRuleD (.tuple [d0, d1, d2]) = false := by simp [isRuleD, isRuleL, c1]
          rw [e] at h
          exact h
        | true =>
          wp_step
          have e : isRuleD (.tuple [d0, d1, d2]) = isWorthD d2 := by simp [isRuleD, isRuleL, c0, c1]
          rw [e] at h
          refine e_and ?_
          refine e_call (df_is_whole T) (hr.mono (by decide)) ?_
          wp_step
          refine i_tup hs (v := v2) rfl ?_
          wp_step
          refine ⟨d2, h2, ?_⟩
          wp_step
          rcases th_whole h2 with ⟨n, rfl, rfl⟩ | ⟨f1, f2⟩
          · wp_step
            refine e_chain ?_
            wp_step
            refine i_tup hs (v := .int n) rfl ?_
            wp_step
            refine iteD (fun c3 => ?_) fun c3 => ?_
            · wp_step
              have e : isWorthD (.int n) = decide (n ≤ top60) := by
                show (decide (0 ≤ n) && _) = _
                rw [decide_eq_true c3, Bool.true_and]
              rw [e] at h
              exact h
            · have e : isWorthD (.int n) = false := by
                show (decide (0 ≤ n) && _) = _
                rw [decide_eq_false c3, Bool.false_and]
              rw [e] at h
              exact h
          · rw [f1]
            rw [f2] at h
            exact iteF h
  · rw [e1]
    rw [e2] at h
    wp_step
    exact h

end
theorem df_is_rule (T : Txt K mg cs) : Df P w K mg base "is_rule" 4 ["thing"] (sp1 (R_is_rule K)) := by
  obtain ⟨f, fd, hm, F, hb⟩ := T.f_is_rule.ex
  exact ⟨f, fd, hm, F.kp, hb, ok_is_rule F T⟩
/-! ### rules as data; rules as texts -/
structure Rl where
  head : Str
  parts : List Str
  worth : Int
def isPartS (p : Str) : Bool := isSignS p || isNameS p
def goodR (r : Rl) : Bool := (isNameS r.head && (decide (r.parts.length ≤ 6) && r.parts.all isPartS)) && (decide (0 ≤ r.worth) && decide (r.worth ≤ top60))
def ruleD (r : Rl) : PyData := .tuple [.str r.head, .tuple (r.parts.map .str), .int r.worth]
theorem goodR_D (r : Rl) : isRuleD (ruleD r) = goodR r := by
  show ((isNameS r.head && (decide ((r.parts.map PyData.str).length ≤ 6) && (r.parts.map PyData.str).all isPartD)) && _) = _
  rw [List.length_map, List.all_map]
  rfl
/-- a rule stands at v -/
def RuleAt (H : Hp) (v : V) (r : Rl) : Prop := ∃ a b, v = .ref a ∧ H a = some (.tup [.str r.head, .ref b, .int r.worth]) ∧ H b = some (.tup (r.parts.map V.str))
theorem RuleAt.more {H H' : Hp} {v : V} {r : Rl} (s : Same H H') (h : RuleAt H v r) : RuleAt H' v r := by
  obtain ⟨a, b, e, h1, h2⟩ := h
  exact ⟨a, b, e, s _ _ h1, s _ _ h2⟩
theorem th_strs {K : PySem.W.Frag} {H : Hp} : ∀ {l : List Str}, (∀ z ∈ l, z.length ≤ 1000000) → ThAll K H (l.map V.str) (l.map PyData.str)
  | [], _ => .nil
  | z :: l, h => .cons (.str z (h z (List.mem_cons_self ..))) (th_strs fun y hy => h y (List.mem_cons_of_mem _ hy))
theorem RuleAt.th {K : PySem.W.Frag} {H : Hp} {v : V} {r : Rl} (h : RuleAt H v r) (h1 : r.head.length ≤ 1000000) (h2 : ∀ z ∈ r.parts, z.length ≤ 1000000) : Th K H v (ruleD r) := by
  obtain ⟨a, b, rfl, e1, e2⟩ := h
  exact .tup (SqT.of e1) (.cons (.str _ h1) (.cons (.tup (SqT.of e2) (th_strs h2)) (.cons (.int _) .nil)))
theorem name_len {z : Str} (h : isNameS z = true) : z.length ≤ 8 := by
  unfold isNameS at h
  simp only [Bool.and_eq_true, decide_eq_true_eq] at h
  exact h.1.2
theorem sign_len {z : Str} (h : isSignS z = true) : z.length = 2 := by
  unfold isSignS at h
  rw [len_tl]
  match tl z, h with
  | [_, _], _ => rfl
theorem part_len {z : Str} (h : isPartS z = true) : z.length ≤ 8 := by
  unfold isPartS at h
  rcases Bool.or_eq_true_iff.mp h with h | h
  · have := sign_len h
    omega
  · exact name_len h
structure GoodR (r : Rl) : Prop where
  head : isNameS r.head = true
  few : r.parts.length ≤ 6
  parts : ∀ p ∈ r.parts, isPartS p = true
  lo : 0 ≤ r.worth
  hi : r.worth ≤ top60
theorem goodR_iff {r : Rl} : goodR r = true ↔ GoodR r := by
  unfold goodR
  simp only [Bool.and_eq_true, decide_eq_true_eq, List.all_eq_true]
  exact ⟨fun ⟨⟨a, b, c⟩, d, e⟩ => ⟨a, b, c, d, e⟩, fun h => ⟨⟨h.head, h.few, h.parts⟩, h.lo, h.hi⟩⟩
theorem GoodR.th {K : PySem.W.Frag} {H : Hp} {v : V} {r : Rl} (g : GoodR r) (h : RuleAt H v r) : Th K H v (ruleD r) :=
  h.th (Nat.le_trans (name_len g.head) (by decide)) fun z hz => Nat.le_trans (part_len (g.parts z hz)) (by decide)
theorem name_free {z : Str} (h : isNameS z = true) {s : Nat} (hs : s < 65) : s ∉ tl z := fun hm => by
  unfold isNameS at h
  simp only [Bool.and_eq_true, List.all_eq_true, decide_eq_true_eq] at h
  have := h.2 s hm
  omega
theorem sign_is {z : Str} (h : isSignS z = true) : ∃ c, tl z = [39, c] ∧ okc c = true := by
  unfold isSignS at h
  match e : tl z, h with
  | [a, c], h =>
    simp only [isSignL, Bool.and_eq_true, decide_eq_true_eq] at h
    exact ⟨c, by rw [h.1], h.2⟩
theorem tl_qs : tl (Str.ofString "' ") = [39, 32] := by decide +kernel
theorem tl_q : tl (Str.ofString "'") = [39] := by decide +kernel
theorem RuleAt.dp {K : PySem.W.Frag} {H : Hp} {v : V} {r : Rl} (h : RuleAt H v r) : Dp K H v (ruleD r) := by
  obtain ⟨a, b, rfl, e1, e2⟩ := h
  exact .tup (SqT.of e1) (.cons (.str _) (.cons (.tup (SqT.of e2) (dp_strs r.parts)) (.cons (.int _) .nil)))
theorem name_codes {z : Str} (h : isNameS z = true) : ∀ c ∈ tl z, c < 1114112 := fun c hc => by
  unfold isNameS at h
  simp only [Bool.and_eq_true, List.all_eq_true, decide_eq_true_eq] at h
  have := h.2 c hc
  omega
theorem part_codes {z : Str} (h : isPartS z = true) : ∀ c ∈ tl z, c < 1114112 := by
  rcases Bool.or_eq_true_iff.mp h with h | h
  · obtain ⟨c, e, hc⟩ := sign_is h
    rw [e]
    intro d hd
    simp only [okc, Bool.and_eq_true, decide_eq_true_eq] at hc
    simp only [List.mem_cons, List.not_mem_nil, or_false] at hd
    omega
  · exact name_codes h
theorem GoodR.sh {r : Rl} (g : GoodR r) : Sh 2 (ruleD r) := .tup fun d hd => by
  simp only [List.mem_cons, List.not_mem_nil, or_false] at hd
  rcases hd with rfl | rfl | rfl
  · exact .str (name_codes g.head)
  · refine .tup fun d hd => ?_
    obtain ⟨p, hp, rfl⟩ := List.mem_map.mp hd
    exact .str (part_codes (g.parts p hp))
  · exact .int _

/-! ### grammars as data -/
structure RulesAt (H : Hp) (vs : List V) (rs : List Rl) : Prop where
  len : vs.length = rs.length
  get : ∀ (i : Nat) (v : V), vs[i]? = some v → ∃ r, rs[i]? = some r ∧ RuleAt H v r
structure GoodG (rs : List Rl) : Prop where
  few : rs.length ≤ 60
  good : ∀ r ∈ rs, GoodR r
def isGramD : PyData → Bool
  | .list ds => decide (ds.length ≤ 60) && ds.all isRuleD
  | _ => false
theorem RuleAt.ts {H H' : Hp} {v : V} {r : Rl} (s : TS H H') (h : RuleAt H v r) : RuleAt H' v r := by
  obtain ⟨a, b, e, h1, h2⟩ := h
  exact ⟨a, b, e, s _ _ h1, s _ _ h2⟩
theorem RulesAt.ts {H H' : Hp} {vs : List V} {rs : List Rl} (s : TS H H') (h : RulesAt H vs rs) : RulesAt H' vs rs := ⟨h.len, fun i v e => by
  obtain ⟨r, h1, h2⟩ := h.get i v e
  exact ⟨r, h1, h2.ts s⟩⟩
theorem RulesAt.nil {H : Hp} : RulesAt H [] [] := ⟨rfl, fun i v e => by simp at e⟩
theorem RulesAt.cons {H : Hp} {v : V} {r : Rl} {vs : List V} {rs : List Rl} (h : RuleAt H v r) (t : RulesAt H vs rs) : RulesAt H (v :: vs) (r :: rs) := ⟨by simp [t.len], fun i w e => by
  cases i with
  | zero => simp at e; subst e; exact ⟨r, rfl, h⟩
  | succ i => exact t.get i w (by simpa using e)⟩
theorem RulesAt.tail {H : Hp} {v : V} {r : Rl} {vs : List V} {rs : List Rl} (h : RulesAt H (v :: vs) (r :: rs)) : RuleAt H v r ∧ RulesAt H vs rs := by
  obtain ⟨q, h1, h2⟩ := h.get 0 v rfl
  refine ⟨?_, ⟨by have := h.len; simpa using this, fun i w e => h.get (i + 1) w (by simpa using e)⟩⟩
  have : r = q := by simpa using h1
  rw [this]
  exact h2
theorem RulesAt.app {H : Hp} : ∀ {vs ws : List V} {rs qs : List Rl}, RulesAt H vs rs → RulesAt H ws qs → RulesAt H (vs ++ ws) (rs ++ qs)
  | [], ws, rs, qs, h, t => by
    have : rs = [] := List.eq_nil_of_length_eq_zero h.len.symm
    rw [this]
    exact t
  | v :: vs, ws, [], qs, h, t => by have := h.len; simp at this
  | v :: vs, ws, r :: rs, qs, h, t => .cons h.tail.1 (RulesAt.app h.tail.2 t)
theorem RulesAt.take {H : Hp} {vs : List V} {rs : List Rl} (h : RulesAt H vs rs) (n : Nat) : RulesAt H (vs.take n) (rs.take n) := ⟨by simp [h.len], fun i v e => by
  have hi : i < n := by
    have := (List.getElem?_eq_some_iff.mp e).1
    simp at this
    omega
  rw [List.getElem?_take_of_lt hi] at e
  rw [List.getElem?_take_of_lt hi]
  exact h.get i v e⟩
theorem RulesAt.drop {H : Hp} {vs : List V} {rs : List Rl} (h : RulesAt H vs rs) (n : Nat) : RulesAt H (vs.drop n) (rs.drop n) := ⟨by simp [h.len], fun i v e => by
  rw [List.getElem?_drop] at e
  rw [List.getElem?_drop]
  exact h.get _ v e⟩
theorem RulesAt.rev {H : Hp} : ∀ {vs : List V} {rs : List Rl}, RulesAt H vs rs → RulesAt H vs.reverse rs.reverse
  | [], rs, h => by
    have : rs = [] := List.eq_nil_of_length_eq_zero h.len.symm
    rw [this]
    exact .nil
  | v :: vs, [], h => by have := h.len; simp at this
  | v :: vs, r :: rs, h => by
    rw [List.reverse_cons, List.reverse_cons]
    exact (RulesAt.rev h.tail.2).app (.cons h.tail.1 .nil)
theorem RulesAt.th {K : PySem.W.Frag} {H : Hp} : ∀ {vs : List V} {rs : List Rl}, RulesAt H vs rs → (∀ r ∈ rs, GoodR r) → ThAll K H vs (rs.map ruleD)
  | [], rs, h, _ => by
    have : rs = [] := List.eq_nil_of_length_eq_zero h.len.symm
    rw [this]
    exact .nil
  | v :: vs, [], h, _ => by have := h.len; simp at this
  | v :: vs, r :: rs, h, g => .cons ((g r (List.mem_cons_self ..)).th h.tail.1) (RulesAt.th h.tail.2 fun q hq => g q (List.mem_cons_of_mem _ hq))
theorem RulesAt.dp {K : PySem.W.Frag} {H : Hp} : ∀ {vs : List V} {rs : List Rl}, RulesAt H vs rs → DpAll K H vs (rs.map ruleD)
  | [], rs, h => by
    have : rs = [] := List.eq_nil_of_length_eq_zero h.len.symm
    rw [this]
    exact .nil
  | v :: vs, [], h => by have := h.len; simp at this
  | v :: vs, r :: rs, h => .cons h.tail.1.dp (RulesAt.dp h.tail.2)
theorem RulesAt.at' {H : Hp} {vs : List V} {rs : List Rl} {k : Nat} {r : Rl} (h : RulesAt H vs rs) (hk : rs[k]? = some r) : ∃ ra rb, vs[k]? = some (.ref ra) ∧ atI vs (k : Int) = some (.ref ra) ∧ H ra = some (.tup [.str r.head, .ref rb, .int r.worth]) ∧ H rb = some (.tup (r.parts.map V.str)) := by
  obtain ⟨v, hv⟩ : ∃ v, vs[k]? = some v := ⟨_, List.getElem?_eq_getElem (by have := (List.getElem?_eq_some_iff.mp hk).1; have := h.len; omega)⟩
  obtain ⟨r', q1, q2⟩ := h.get k v hv
  obtain rfl : r' = r := Option.some.inj (q1.symm.trans hk)
  obtain ⟨ra, rb, rfl, e1, e2⟩ := q2
  exact ⟨ra, rb, hv, atI_nat (by omega) (by rw [show ((k : Nat) : Int).toNat = k by omega]; exact hv), e1, e2⟩
def gramD (rs : List Rl) : PyData := .list (rs.map ruleD)
theorem gram_good {rs : List Rl} (g : GoodG rs) : isGramD (gramD rs) = true := by
  show (decide ((rs.map ruleD).length ≤ 60) && (rs.map ruleD).all isRuleD) = true
  rw [decide_eq_true (by rw [List.length_map]; exact g.few), Bool.true_and, List.all_map, List.all_eq_true]
  intro r hr
  show isRuleD (ruleD r) = true
  rw [goodR_D]
  exact goodR_iff.mpr (g.good r hr)
theorem gram_sh {rs : List Rl} (g : ∀ r ∈ rs, GoodR r) : Sh 3 (gramD rs) := .lst fun d hd => by
  obtain ⟨r, hr, rfl⟩ := List.mem_map.mp hd
  exact (g r hr).sh
/-- a grammar at v -/
structure GramAt (K : PySem.W.Frag) (H : Hp) (v : V) (a : Addr) (vs : List V) (rs : List Rl) : Prop where
  ref : v = .ref a
  sq : SqL K H a vs
  at_ : RulesAt H vs rs
  ok : GoodG rs
theorem GramAt.more {K : PySem.W.Frag} {H H' : Hp} {v : V} {a : Addr} {vs : List V} {rs : List Rl} (s : Same H H') (h : GramAt K H v a vs rs) : GramAt K H' v a vs rs := ⟨h.ref, s.seq h.sq, h.at_.ts (Same.ts s), h.ok⟩
theorem GramAt.dp {K : PySem.W.Frag} {H : Hp} {v : V} {a : Addr} {vs : List V} {rs : List Rl} (h : GramAt K H v a vs rs) : Dp K H v (gramD rs) := by
  rw [h.ref]
  exact .lst h.sq h.at_.dp
theorem GramAt.th {K : PySem.W.Frag} {H : Hp} {v : V} {a : Addr} {vs : List V} {rs : List Rl} (h : GramAt K H v a vs rs) : Th K H v (gramD rs) := by
  rw [h.ref]
  exact .lst h.sq (h.at_.th h.ok.good)
theorem gram_no {d : PyData} (h : isK d "list" = false) : isGramD d = false := by
  cases d <;> first | rfl | (exact Bool.noConfusion h)
theorem no_lst {K : PySem.W.Frag} {H : Hp} {v : V} {d : PyData} (h : Th K H v d) : (∃ a vs ds, v = .ref a ∧ d = .list ds ∧ SqL K H a vs ∧ ThAll K H vs ds) ∨ isK d "list" = false := by
  cases h <;> first | exact .inl ⟨_, _, _, rfl, rfl, ‹_›, ‹_›⟩ | exact .inr rfl
def R_checked (K : PySem.W.Frag) (cs : Cs) : V → Hp → VK → XK → Prop := fun x H Q E =>
  (∃ a vs rs, GramAt K H x a vs rs ∧ ∀ l H', Same H H' → H l = none → H' l = some (.lst vs) → Q (.ref l) H') ∨ (∃ d, Th K H x d ∧ isGramD d = false ∧ ∀ H', Same H H' → E (.ref cs.NoGrammar) none H')
section
set_option hygiene false in
local macro_rules | `(tactic| top_name) => `(tactic| first | refine e_call (df_is_rule T) (hr.mono (by decide)) ?_)
set_option hygiene false in
local macro_rules | `(tactic| top_raise) => `(tactic| first | refine s_raise T.x_NoGrammar ?_)
theorem ok_checked {f : Addr} {fd : FuncData} (F : Fun K "checked" "checked" s_checked f fd) (T : Txt K mg cs) : FnOk P w K mg base (L2.CX P w) 5 f fd ["thing"] (sp1 (R_checked K cs)) := by
  refine F.okX sc_checked (fun vs H Q E h => sp1_len h) (fun cdv A outer s H vs Q E hr h => ⟨_, PBw (X := X_checked P w K mg base f cdv A outer s H E), ?_⟩)
  obtain ⟨a0, rfl, h⟩ := h
  obtain ⟨t_MOST_RULES, h_MOST_RULES⟩ := T.k_MOST_RULES
  have ib_MOST_RULES : Gn mg "MOST_RULES" (some _) := ⟨h_MOST_RULES⟩
  have ib_NoGrammar : Gn mg "NoGrammar" (some _) := ⟨T.x_NoGrammar.mg⟩
  have ib_isinstance := T.b_isinstance
  have ib_list := T.b_list
  have ib_len := T.b_len
  have hr' : Room 4 (X_checked P w K mg base f cdv A outer s H E).A := hr
  replace hr := hr'
  clear hr'
  have key : (∃ a vs ds, a0 = .ref a ∧ SqL K H a vs ∧ ThAll K H vs ds ∧ (isGramD (.list ds) = true → ∀ l H', Same H H' → H l = none → H' l = some (.lst vs) → Q (.ref l) H') ∧ (isGramD (.list ds) = false → ∀ H', Same H H' → E (.ref cs.NoGrammar) none H')) ∨
      (∃ d, Th K H a0 d ∧ isK d "list" = false ∧ ∀ H', Same H H' → E (.ref cs.NoGrammar) none H') := by
    rcases h with ⟨a, vs, rs, g, q⟩ | ⟨d, hd, hb, q⟩
    · refine .inl ⟨a, vs, rs.map ruleD, g.ref, g.sq, g.at_.th g.ok.good, fun _ => q, fun z => ?_⟩
      exact absurd ((gram_good g.ok).symm.trans z) (by simp)
    · rcases no_lst hd with ⟨a, vs, ds, e1, e2, h1, h2⟩ | e
      · exact .inl ⟨a, vs, ds, e1, h1, h2, fun z => absurd (z.symm.trans (e2 ▸ hb)) (by simp), fun _ => q⟩
      · exact .inr ⟨d, hd, e, q⟩
  clear h
  wp_step
  rcases key with ⟨a, vs, ds, rfl, hs, ha, h1, h2⟩ | ⟨d, hd, hb, q⟩
  · refine k_isList (Th.lst hs ha) ⟨_, rfl, ?_⟩
    wp_step
    refine k_lenL hs ?_
    wp_step
    have hlen := ha.len
    refine iteD (fun c => ?_) fun c => ?_
    · wp_step
      refine s_raise T.x_NoGrammar ?_
      refine h2 ?_ _ (Same.refl _)
      show (decide (ds.length ≤ 60) && _) = false
      rw [decide_eq_false (by omega), Bool.false_and]
    · wp_step
      have hgood : isGramD (.list ds) = ds.all isRuleD := by
        show (decide (ds.length ≤ 60) && _) = _
        rw [decide_eq_true (by omega), Bool.true_and]
      rw [hgood] at h1 h2
      intro l H1 s1 n1 k1 e1
      wp_step
      have sam : ∀ {H' : Hp}, (∀ b, b ≠ l → H' b = H1 b) → Same H H' := fun k b o e => by
        rw [k b (ne_of_none e n1)]
        exact s1 _ _ e
      refine s_for (j_list ?_)
      wp_step
      refine ⟨⟨_, s1.seq hs⟩, _, _, _, walk_list (xs := vs), fun i σ' H' => (∃ v, σ' = [some (.ref a), some (.ref l), v]) ∧ H' l = some (.lst (vs.take i)) ∧ (∀ b, b ≠ l → H' b = H1 b) ∧ (ds.take i).all isRuleD = true, ⟨⟨_, rfl⟩, k1, fun _ _ => rfl, rfl⟩, fun _ _ _ _ ⟨_, _, e, _⟩ => (sam e).seq hs, ?_, ?_⟩
      · rintro i x σ' H' H2 hi ⟨⟨v, rfl⟩, k2, e2, hall⟩ ⟨rfl, hx⟩
        obtain ⟨d, hd1, hd2⟩ := ha.get hx
        wp_step
        refine e_call (df_is_rule T) (hr.mono (by decide)) ?_
        wp_step
        refine ⟨d, hd2.more (sam e2), ?_⟩
        wp_step
        cases c1 : isRuleD d with
        | true =>
          wp_step
          refine e_append ?_
          wp_step
          refine ⟨ty_l k2, ?_⟩
          wp_step
          refine m_append k2 (by rw [List.length_take]; omega) fun H3 k3 e3 => ?_
          wp_step
          refine ⟨⟨_, rfl⟩, ?_, fun b hb => (e3 b hb).trans (e2 b hb), by rw [all_snoc hd1, hall, c1]; rfl⟩
          rw [k3, List.take_add_one, hx]
          rfl
        | false =>
          wp_step
          refine s_raise T.x_NoGrammar ?_
          exact h2 (all_cut hd1 c1) _ (sam e2)
      · rintro σ' H' ⟨⟨v, rfl⟩, k2, e2, hall⟩
        wp_step
        rw [List.take_length] at k2
        rw [hlen, List.take_length] at hall
        exact h1 hall l _ (sam e2) n1 k2
  · refine k_isList hd ⟨_, rfl, ?_⟩
    rw [hb]
    wp_step
    refine s_raise T.x_NoGrammar ?_
    exact q _ (Same.refl _)

end
theorem df_checked (T : Txt K mg cs) : Df P w K mg base "checked" 5 ["thing"] (sp1 (R_checked K cs)) := by
  obtain ⟨f, fd, hm, F, hb⟩ := T.f_checked.ex
  exact ⟨f, fd, hm, F.kp, hb, ok_checked F T⟩
def isDigC (c : Nat) : Bool := decide (48 ≤ c) && decide (c ≤ 57)
def figsOk (l : List Nat) : Bool := (decide (1 ≤ l.length) && decide (l.length ≤ 61)) && ((!(decide (l.head? = some 48) && decide (1 < l.length))) && l.all isDigC)
def readFigs (z : Str) : Option Int := if figsOk (tl z) = true then some ((NumText.digitsVal (tl z) : Nat) : Int) else none
def showPart (p : Str) : Str := if p = "' " then "'" else p
def readPart (w : Str) : Str := if w = "'" then "' " else w
def numW (n : Int) : Str := Str.ofString (toString n)
def showWords (r : Rl) : List Str := r.head :: numW r.worth :: "=" :: r.parts.map showPart
def showRule (r : Rl) : Str := Txt.join " " (showWords r)
def readWords : List Str → Option Rl
  | h :: n :: e :: ps => if e = "=" then (readFigs n).bind fun w => if goodR ⟨h, ps.map readPart, w⟩ = true then some ⟨h, ps.map readPart, w⟩ else none else none
  | _ => none
def readRule (z : Str) : Option Rl := readWords (Txt.split z " ")
theorem tl_sp : tl (Str.ofString " ") = [32] := by decide +kernel
theorem digs_all {l : List Nat} (h : NumText.AllDigits l) : l.all isDigC = true := List.all_eq_true.mpr fun c hc => by
  have := h c hc
  simp [isDigC, this.1, this.2]
theorem numL_head : ∀ (k n : Nat), n < k → 10 ≤ n → ∃ c r, numL n = c :: r ∧ c ≠ 48
  | 0, _, h, _ => by omega
  | k + 1, n, h, h10 => by
    rw [numL_step h10]
    by_cases h1 : n / 10 < 10
    · rw [numL_lt h1]
      exact ⟨48 + n / 10, _, rfl, by omega⟩
    · obtain ⟨c, r, e, hc⟩ := numL_head k (n / 10) (by omega) (by omega)
      rw [e]
      exact ⟨c, _, rfl, hc⟩
theorem figs_num (n : Nat) (h : n ≤ 1000000000000000000000000000000000000000000000000000000000000) : figsOk (numL n) = true := by
  have h1 := numL_len (n := n) (k := 61) (by decide) (by omega)
  have h2 := numL_ne n
  have h3 : 1 ≤ (numL n).length := by
    cases e : numL n with
    | nil => exact absurd e h2
    | cons a l => simp
  unfold figsOk
  rw [decide_eq_true h3, decide_eq_true h1, digs_all (numL_digits n)]
  by_cases h10 : n < 10
  · rw [numL_lt h10]
    simp
  · obtain ⟨c, r, e, hc⟩ := numL_head (n + 1) n (by omega) (by omega)
    rw [e]
    simp [hc]
theorem figs_of (n : Int) (h0 : 0 ≤ n) (h1 : n ≤ top60) : readFigs (numW n) = some n := by
  obtain ⟨m, rfl⟩ := Int.eq_ofNat_of_zero_le h0
  have e : tl (numW (m : Int)) = numL m := tl_num m
  unfold readFigs
  rw [e, figs_num m (by have h2 : (m : Int) ≤ 1000000000000000000000000000000000000000000000000000000000000 := h1; omega), if_pos rfl, numL_val]
theorem show_free {p : Str} (h : isPartS p = true) : 32 ∉ tl (showPart p) := by
  unfold showPart
  split
  · rw [tl_q]; decide
  · rename_i hp
    rcases Bool.or_eq_true_iff.mp h with h | h
    · obtain ⟨c, e, _⟩ := sign_is h
      rw [e]
      intro hm
      have hc : c = 32 := (by simpa using hm : 32 = c).symm
      exact hp (ext_tl (by rw [e, hc, tl_qs]))
    · exact name_free h (by decide)
theorem read_showPart {p : Str} (h : isPartS p = true) : readPart (showPart p) = p := by
  unfold showPart readPart
  by_cases hp : p = Str.ofString "' "
  · rw [if_pos hp, if_pos rfl, hp]
  · rw [if_neg hp]
    by_cases hq : p = Str.ofString "'"
    · exfalso
      rcases Bool.or_eq_true_iff.mp h with h | h
      · obtain ⟨c, e, _⟩ := sign_is h
        rw [hq, tl_q] at e
        cases e
      · exact name_free (s := 39) h (by decide) (by rw [hq, tl_q]; simp)
    · rw [if_neg hq]
theorem numW_free {n : Int} (h0 : 0 ≤ n) {s : Nat} (hs : s < 48 ∨ 57 < s) : s ∉ tl (numW n) := by
  obtain ⟨m, rfl⟩ := Int.eq_ofNat_of_zero_le h0
  rw [show tl (numW (m : Int)) = numL m from tl_num m]
  exact numL_free hs
theorem words_free {r : Rl} (g : GoodR r) : ∀ p ∈ showWords r, 32 ∉ tl p := by
  intro p hp
  simp only [showWords, List.mem_cons, List.mem_map] at hp
  rcases hp with rfl | rfl | rfl | ⟨q, hq, rfl⟩
  · exact name_free (s := 32) g.head (by decide)
  · exact numW_free g.lo (s := 32) (.inl (by decide))
  · decide +kernel
  · exact show_free (g.parts q hq)
theorem read_show {r : Rl} (g : GoodR r) : readRule (showRule r) = some r := by
  unfold readRule showRule
  rw [split_join tl_sp (by decide +kernel) (by simp [showWords]) (words_free g)]
  show (if ("=" : Str) = "=" then (readFigs (numW r.worth)).bind _ else none) = _
  have e : (r.parts.map showPart).map readPart = r.parts := by
    rw [List.map_map]
    conv => rhs; rw [← List.map_id r.parts]
    exact List.map_congr_left fun p hp => read_showPart (g.parts p hp)
  rw [if_pos rfl, figs_of _ g.lo g.hi, e]
  show (if goodR ⟨r.head, r.parts, r.worth⟩ = true then some (⟨r.head, r.parts, r.worth⟩ : Rl) else none) = some r
  rw [if_pos (goodR_iff.mpr g)]
theorem is_zero (a : Nat) : decide ((⟨#[a]⟩ : Str) = Str.ofString "0") = decide (a = 48) := decide_eq_decide.mpr (by rw [one_eq a [48] "0" (by decide +kernel)]; simp)
theorem in_figs (c : Nat) : decide (c ∈ tl (Str.ofString "0123456789")) = isDigC c := by
  have e : tl (Str.ofString "0123456789") = [48, 49, 50, 51, 52, 53, 54, 55, 56, 57] := by decide +kernel
  rw [e]
  by_cases h : 48 ≤ c ∧ c ≤ 57
  · rw [show isDigC c = true by simp [isDigC, h.1, h.2], decide_eq_true]
    have : c = 48 ∨ c = 49 ∨ c = 50 ∨ c = 51 ∨ c = 52 ∨ c = 53 ∨ c = 54 ∨ c = 55 ∨ c = 56 ∨ c = 57 := by omega
    simp only [List.mem_cons, List.not_mem_nil, or_false]
    exact this
  · rw [show isDigC c = false by simp only [isDigC, Bool.and_eq_false_iff, decide_eq_false_iff_not]; omega, decide_eq_false]
    simp only [List.mem_cons, List.not_mem_nil, or_false]
    omega
theorem log60 {n : Int} (h0 : 0 ≤ n) (h1 : n ≤ top60) : n.natAbs.log2 < 1920 := by
  have h : n.natAbs < 2 ^ 200 := by
    have e : top60 < 2 ^ 200 := by decide
    omega
  exact Nat.lt_of_lt_of_le (PySem.Flt.log2_lt_of (by decide) h) (by decide)
theorem sum_le {l : List Nat} {b : Nat} (h : ∀ x ∈ l, x ≤ b) : l.sum ≤ l.length * b := by
  induction l with
  | nil => simp
  | cons a l ih =>
    rw [List.sum_cons, List.length_cons, Nat.succ_mul]
    have := ih fun x hx => h x (List.mem_cons_of_mem _ hx)
    have := h a (List.mem_cons_self ..)
    omega
theorem numW_len {n : Int} (h0 : 0 ≤ n) (h1 : n ≤ top60) : (numW n).length ≤ 61 := by
  obtain ⟨m, rfl⟩ := Int.eq_ofNat_of_zero_le h0
  rw [len_tl, show tl (numW (m : Int)) = numL m from tl_num m]
  have h2 : (m : Int) ≤ 1000000000000000000000000000000000000000000000000000000000000 := h1
  exact numL_len (by decide) (by omega)
theorem show_len {p : Str} (h : isPartS p = true) : (showPart p).length ≤ 8 := by
  unfold showPart
  split
  · decide +kernel
  · exact part_len h
theorem words_len {r : Rl} (g : GoodR r) : (showWords r).length ≤ 9 ∧ ∀ p ∈ showWords r, p.length ≤ 61 := by
  constructor
  · simp only [showWords, List.length_cons, List.length_map]
    have := g.few
    omega
  · intro p hp
    simp only [showWords, List.mem_cons, List.mem_map] at hp
    rcases hp with rfl | rfl | rfl | ⟨q, hq, rfl⟩
    · exact Nat.le_trans (name_len g.head) (by decide)
    · exact numW_len g.lo g.hi
    · decide +kernel
    · exact Nat.le_trans (show_len (g.parts q hq)) (by decide)
theorem eq_str (z : Str) (t : String) : decide (z = Str.ofString t) = decide (z = (t : Str)) := rfl
def R_read_figures : V → Hp → VK → XK → Prop := fun x H Q _ => ∃ z, x = .str z ∧ z.length ≤ 1000000 ∧ Q (oV (readFigs z)) H
section
theorem ok_read_figures {f : Addr} {fd : FuncData} (F : Fun K "read_figures" "read_figures" s_read_figures f fd) (T : Txt K mg cs) : FnOk P w K mg base (L2.CX P w) 1 f fd ["word"] (sp1 (R_read_figures)) := by
  refine F.okX sc_read_figures (fun vs H Q E h => sp1_len h) (fun cdv A outer s H vs Q E hr h => ⟨_, PBw (X := X_read_figures P w K mg base f cdv A outer s H E), ?_⟩)
  obtain ⟨a0, rfl, h⟩ := h
  have ib_int := T.b_int
  obtain ⟨t_FIGURES, h_FIGURES⟩ := T.k_FIGURES
  have ib_FIGURES : Gn mg "FIGURES" (some _) := ⟨h_FIGURES⟩
  obtain ⟨t_MOST_FIGURES, h_MOST_FIGURES⟩ := T.k_MOST_FIGURES
  have ib_MOST_FIGURES : Gn mg "MOST_FIGURES" (some _) := ⟨h_MOST_FIGURES⟩
  have ib_len := T.b_len
  have hr' : Room 0 (X_read_figures P w K mg base f cdv A outer s H E).A := hr
  replace hr := hr'
  clear hr'
  obtain ⟨z, rfl, hz, h⟩ := h
  have hlen : (tl z).length = z.length := (len_tl z).symm
  have no : figsOk (tl z) = false → Q .non H := fun e => by
    have e2 : readFigs z = none := by unfold readFigs; rw [e]; rfl
    rw [e2] at h
    exact h
  wp_step
  refine k_lenS (sz1m hz) ?_
  wp_step
  refine iteD (fun c1 => ?_) fun c1 => ?_
  · wp_step
    refine iteND (fun c2 => ?_) fun c2 => ?_
    · wp_step
      exact no (by unfold figsOk; rw [decide_eq_false (show ¬ (tl z).length ≤ 61 by omega)]; simp)
    · wp_step
      cases hl : tl z with
      | nil => rw [hl] at hlen; simp at hlen; omega
      | cons a l =>
      refine i_str (sz1m hz) (c := a) (by rw [show z.cps.toList = a :: l from hl]; exact atI_nat (by decide) rfl) ?_
      wp_step
      rw [is_zero]
      have go : ¬ (a = 48 ∧ 1 < (a :: l).length) → figsOk (tl z) = (tl z).all isDigC := fun k => by
        unfold figsOk
        rw [decide_eq_true (show 1 ≤ (tl z).length by omega), decide_eq_true (show (tl z).length ≤ 61 by omega), hl]
        have e : (decide ((a :: l).head? = some 48) && decide (1 < (a :: l).length)) = false := by
          rw [Bool.and_eq_false_iff, decide_eq_false_iff_not, decide_eq_false_iff_not]
          simp only [List.head?_cons, Option.some.injEq]
          by_cases q : a = 48
          · exact .inr fun z => k ⟨q, z⟩
          · exact .inl q
        rw [e]
        rfl
      have rest : ¬ (a = 48 ∧ 1 < (a :: l).length) → bW (X_read_figures P w K mg base f cdv A outer s H E) (defBody s_read_figures).tail { nx := fun _ H' => Q .non H', rt := Q } [some (.str z), none] H := fun k => by
        have go := go k
        wp_step
        refine s_for (j_str ?_)
        wp_step
        refine ⟨_, _, _, walk_str, fun i σ' H' => (∃ v, σ' = [some (.str z), v]) ∧ H' = H ∧ ((tl z).take i).all isDigC = true, ⟨⟨_, rfl⟩, rfl, rfl⟩, fun _ _ _ _ _ => trivial, ?_, ?_⟩
        · rintro i x σ' H' H2 hi ⟨⟨v, rfl⟩, rfl, hall⟩ ⟨rfl, c, hc, rfl⟩
          have hc' : (tl z)[i]? = some c := by simpa [tl] using hc
          wp_step
          rw [in_figs]
          cases d : isDigC c with
          | true =>
            wp_step
            exact ⟨⟨_, rfl⟩, rfl, by rw [all_snoc hc', hall, d]; rfl⟩
          | false =>
            wp_step
            exact no (by rw [go]; exact all_cut hc' d)
        · rintro σ' H' ⟨⟨v, rfl⟩, rfl, hall⟩
          wp_step
          rw [show z.cps.size = (tl z).length by simp [tl], List.take_length] at hall
          have e2 : readFigs z = some ((NumText.digitsVal (tl z) : Nat) : Int) := by unfold readFigs; rw [go, hall]; rfl
          rw [e2] at h
          have hd : NumText.AllDigits z.cps.toList := fun c hc => by
            have := List.all_eq_true.mp hall c hc
            simpa [isDigC] using this
          exact k_intS (intText_digits hd (by rw [show z.cps.toList = a :: l from hl]; simp) (by omega)) (by omega) h
      refine iteD (fun c3 => ?_) fun c3 => ?_
      · wp_step
        refine k_lenS (sz1m hz) ?_
        wp_step
        refine iteD (fun c4 => ?_) fun c4 => ?_
        · wp_step
          refine no ?_
          unfold figsOk
          rw [hl] at hlen ⊢
          rw [decide_eq_true (show 1 < (a :: l).length by omega), c3]
          simp
        · exact b_nil (rest (by rw [hl] at hlen; omega))
      · exact iteF (b_nil (rest fun k => c3 k.1))
  · wp_step
    exact no (by unfold figsOk; rw [decide_eq_false (show ¬ 1 ≤ (tl z).length by omega)]; simp)
end
theorem df_read_figures (T : Txt K mg cs) : Df P w K mg base "read_figures" 1 ["word"] (sp1 (R_read_figures)) := by
  obtain ⟨f, fd, hm, F, hb⟩ := T.f_read_figures.ex
  exact ⟨f, fd, hm, F.kp, hb, ok_read_figures F T⟩
def R_show_part : V → Hp → VK → XK → Prop := fun x H Q _ => ∃ z, x = .str z ∧ Q (.str (showPart z)) H
section
theorem ok_show_part {f : Addr} {fd : FuncData} (F : Fun K "show_part" "show_part" s_show_part f fd) (T : Txt K mg cs) : FnOk P w K mg base (L2.CX P w) 1 f fd ["part"] (sp1 (R_show_part)) := by
  refine F.okX sc_show_part (fun vs H Q E h => sp1_len h) (fun cdv A outer s H vs Q E hr h => ⟨_, PBw (X := X_show_part P w K mg base f cdv A outer s H E), ?_⟩)
  obtain ⟨a0, rfl, h⟩ := h
  have hr' : Room 0 (X_show_part P w K mg base f cdv A outer s H E).A := hr
  replace hr := hr'
  clear hr'
  obtain ⟨z, rfl, h⟩ := h
  wp_step
  refine iteD (fun c => ?_) fun c => ?_
  · wp_step
    rw [show showPart z = Str.ofString "'" from if_pos c] at h
    exact h
  · wp_step
    rw [show showPart z = z from if_neg c] at h
    exact h
end
theorem df_show_part (T : Txt K mg cs) : Df P w K mg base "show_part" 1 ["part"] (sp1 (R_show_part)) := by
  obtain ⟨f, fd, hm, F, hb⟩ := T.f_show_part.ex
  exact ⟨f, fd, hm, F.kp, hb, ok_show_part F T⟩
def R_read_part : V → Hp → VK → XK → Prop := fun x H Q _ => ∃ z, x = .str z ∧ Q (.str (readPart z)) H
section
theorem ok_read_part {f : Addr} {fd : FuncData} (F : Fun K "read_part" "read_part" s_read_part f fd) (T : Txt K mg cs) : FnOk P w K mg base (L2.CX P w) 1 f fd ["word"] (sp1 (R_read_part)) := by
  refine F.okX sc_read_part (fun vs H Q E h => sp1_len h) (fun cdv A outer s H vs Q E hr h => ⟨_, PBw (X := X_read_part P w K mg base f cdv A outer s H E), ?_⟩)
  obtain ⟨a0, rfl, h⟩ := h
  have hr' : Room 0 (X_read_part P w K mg base f cdv A outer s H E).A := hr
  replace hr := hr'
  clear hr'
  obtain ⟨z, rfl, h⟩ := h
  wp_step
  refine iteD (fun c => ?_) fun c => ?_
  · wp_step
    rw [show readPart z = Str.ofString "' " from if_pos c] at h
    exact h
  · wp_step
    rw [show readPart z = z from if_neg c] at h
    exact h
end
theorem df_read_part (T : Txt K mg cs) : Df P w K mg base "read_part" 1 ["word"] (sp1 (R_read_part)) := by
  obtain ⟨f, fd, hm, F, hb⟩ := T.f_read_part.ex
  exact ⟨f, fd, hm, F.kp, hb, ok_read_part F T⟩
def R_show_rule (K : PySem.W.Frag) : V → Hp → VK → XK → Prop := fun x H Q _ => ∃ r, RuleAt H x r ∧ GoodR r ∧ ∀ H', Same H H' → Q (.str (showRule r)) H'
section
set_option hygiene false in
local macro_rules | `(tactic| top_name) => `(tactic| first | refine e_call (df_show_part T) (hr.mono (by decide)) ?_)
theorem ok_show_rule {f : Addr} {fd : FuncData} (F : Fun K "show_rule" "show_rule" s_show_rule f fd) (T : Txt K mg cs) : FnOk P w K mg base (L2.CX P w) 2 f fd ["rule"] (sp1 (R_show_rule K)) := by
  refine F.okX sc_show_rule (fun vs H Q E h => sp1_len h) (fun cdv A outer s H vs Q E hr h => ⟨_, PBw (X := X_show_rule P w K mg base f cdv A outer s H E), ?_⟩)
  obtain ⟨a0, rfl, h⟩ := h
  have ib_str := T.b_str
  have hr' : Room 1 (X_show_rule P w K mg base f cdv A outer s H E).A := hr
  replace hr := hr'
  clear hr'
  obtain ⟨r, ⟨a, b, rfl, h1, h2⟩, g, h⟩ := h
  wp_step
  refine s_asg (e_var rfl (g_tup ⟨_, _, rfl, SqT.of h1, rfl, ?_⟩))
  wp_step
  refine e_join ?_
  wp_step
  refine ⟨⟨_, rfl⟩, ?_⟩
  wp_step
  refine k_strI (log60 g.lo g.hi) ?_
  wp_step
  intro l1 H1 s1 n1 k1 _
  refine e_lcM (blkOk_by (sc := defScope s_show_rule) (own := [("part", 4)]) (by decide +kernel)) (j_tup ?_)
  wp_step
  refine ⟨⟨_, SqT.of (s1 _ _ h2)⟩, _, _, _, walk_tup (xs := r.parts.map V.str), r.parts.map fun p => V.str (showPart p), by simp, ?_, fun H' s' => SqT.of (s' _ _ (s1 _ _ h2)), ?_, ?_⟩
  · rw [List.length_map]
    have := g.few
    omega
  · rintro i x H' H2 hi s' ⟨rfl, hx⟩
    rw [List.getElem?_map] at hx
    obtain ⟨p, hp, rfl⟩ : ∃ p, r.parts[i]? = some p ∧ V.str p = x := by
      cases e : r.parts[i]? with
      | none => rw [e] at hx; cases hx
      | some p => rw [e] at hx; exact ⟨p, rfl, Option.some.inj hx⟩
    refine ⟨Same.refl _, fun _ _ _ _ _ => ?_⟩
    wp_step
    refine ⟨Same.refl _, fun _ _ _ _ _ => ?_⟩
    refine e_call (df_show_part T) (hr.mono (by decide)) ?_
    wp_step
    exact ⟨by rw [List.getElem?_map, hp]; rfl, Same.refl _⟩
  intro l2 H2 s2 n2 k2
  refine o_catL (s2 _ _ k1) k2 (by rw [List.length_map]; have := g.few; simp only [List.length_cons, List.length_nil]; omega) fun l3 H3 s3 n3 k3 _ => ?_
  have e : ([V.str r.head, V.str (Str.ofString (toString r.worth)), V.str "="] ++ r.parts.map fun p => V.str (showPart p)) = (showWords r).map V.str := by
    simp only [showWords, List.map_cons, List.map_map]
    rfl
  rw [e] at k3
  obtain ⟨w1, w2⟩ := words_len g
  refine m_join (.inl (SqL.of k3)) ?_ ?_
  · have q := sum_le (l := (showWords r).map Str.length) (b := 61) (by
      intro x hx
      obtain ⟨p, hp, rfl⟩ := List.mem_map.mp hx
      exact w2 p hp)
    rw [List.length_map] at q
    have e1 : Str.length (Str.ofString " ") = 1 := by decide +kernel
    rw [e1]
    omega
  · exact h _ (s1.trans (s2.trans s3))
end
theorem df_show_rule (T : Txt K mg cs) : Df P w K mg base "show_rule" 2 ["rule"] (sp1 (R_show_rule K)) := by
  obtain ⟨f, fd, hm, F, hb⟩ := T.f_show_rule.ex
  exact ⟨f, fd, hm, F.kp, hb, ok_show_rule F T⟩
theorem spl_len : ∀ (l acc : List Nat), (spl [32] 0 acc l).length ≤ l.length + 1 ∧ ∀ p ∈ spl [32] 0 acc l, p.length ≤ acc.length + l.length
  | [], acc => by
    rw [spl_nil]
    exact ⟨by simp, by simp⟩
  | c :: r, acc => by
    by_cases h : pre [32] (c :: r) = true
    · rw [spl_hit h]
      obtain ⟨a, b⟩ := spl_len r []
      refine ⟨by simp only [List.length_cons, List.length_nil, Nat.zero_add, Nat.sub_self]; omega, fun p hp => ?_⟩
      rcases List.mem_cons.mp hp with rfl | hp
      · simp only [List.length_cons]; omega
      · have := b p hp
        simp only [List.length_cons, List.length_nil] at *
        omega
    · rw [spl_miss (by simpa using h)]
      obtain ⟨a, b⟩ := spl_len r (acc ++ [c])
      refine ⟨by simp only [List.length_cons]; omega, fun p hp => ?_⟩
      have := b p hp
      simp only [List.length_cons, List.length_append, List.length_nil] at *
      omega
theorem split_len (z : Str) : (Txt.split z " ").length ≤ z.length + 1 ∧ ∀ y ∈ Txt.split z " ", y.length ≤ z.length := by
  have e := split_spl z " " (by rw [tl_sp]; simp) (kind_ok (by decide +kernel))
  rw [tl_sp] at e
  obtain ⟨a, b⟩ := spl_len (tl z) []
  rw [← e] at a b
  rw [List.length_map] at a
  refine ⟨by rw [len_tl]; exact a, fun y hy => ?_⟩
  have := b (tl y) (List.mem_map.mpr ⟨y, hy, rfl⟩)
  rw [len_tl, len_tl]
  simpa using this
def figD : Option Int → PyData
  | none => .none
  | some i => .int i
theorem figD_th {K : PySem.W.Frag} {H : Hp} (o : Option Int) : Th K H (oV o) (figD o) := by cases o <;> first | exact .non | exact .int _
theorem is_eq (z : Str) : (z = Str.ofString "=") = (z = ("=" : Str)) := rfl
theorem readPart_len (w : Str) : (readPart w).length ≤ w.length + 2 := by
  unfold readPart
  split
  · have : (("' " : Str)).length = 2 := by decide +kernel
    omega
  · omega
theorem atL {xs : List V} {n : Nat} {v : V} (h : xs[n]? = some v) : atI xs (n : Int) = some v := atI_nat (by omega) (by rw [Int.toNat_natCast]; exact h)
def R_read_rule (K : PySem.W.Frag) (cs : Cs) : V → Hp → VK → XK → Prop := fun x H Q E => (∃ z, x = .str z ∧ z.length ≤ 100000 ∧
  (∀ r, readRule z = some r → ∀ v H', Same H H' → RuleAt H' v r → Q v H') ∧ (readRule z = none → ∀ H', Same H H' → E (.ref cs.NoRule) none H')) ∨
  (∃ d, Th K H x d ∧ isK d "str" = false ∧ ∀ H', Same H H' → E (.ref cs.NoRule) none H')
section
set_option hygiene false in
local macro_rules | `(tactic| top_name) => `(tactic| first | refine e_call (df_read_figures T) (hr.mono (by decide)) ?_ | refine e_call (df_is_rule T) (hr.mono (by decide)) ?_ | refine e_call (df_read_part T) (hr.mono (by decide)) ?_)
set_option hygiene false in
local macro_rules | `(tactic| top_raise) => `(tactic| first | refine s_raiseN T.x_NoRule ?_)
theorem ok_read_rule {f : Addr} {fd : FuncData} (F : Fun K "read_rule" "read_rule" s_read_rule f fd) (T : Txt K mg cs) : FnOk P w K mg base (L2N.CX P w) 5 f fd ["text"] (sp1 (R_read_rule K cs)) := by
  refine fun_okN F sc_read_rule (fun vs H Q E h => sp1_len h) (fun cdv A outer s H vs Q E hr h => ⟨_, PBw (X := X_read_rule P w K mg base f cdv A outer s H E), ?_⟩)
  obtain ⟨a0, rfl, h⟩ := h
  have ib_isinstance := T.b_isinstance
  have ib_str := T.b_str
  have ib_NoRule : Gn mg "NoRule" (some _) := ⟨T.x_NoRule.mg⟩
  have ib_tuple := T.b_tuple
  have ib_len := T.b_len
  have hr' : Room 4 (X_read_rule P w K mg base f cdv A outer s H E).A := hr
  replace hr := hr'
  clear hr'
  rcases h with ⟨z, rfl, hz, h1, h2⟩ | ⟨d, hd, hb, h2⟩
  case' inr =>
    wp_step
    refine k_isStr hd ⟨_, rfl, ?_⟩
    rw [hb]
    wp_step
    refine s_raiseN T.x_NoRule ?_
    exact h2 _ (Same.refl _)
  wp_step
  refine k_isStr (.str z (by omega)) ?_
  wp_step
  refine e_split ?_
  wp_step
  refine ⟨⟨_, rfl⟩, ?_⟩
  wp_step
  refine m_split (by decide +kernel) (by omega) fun l1 H1 s1 n1 k1 _ => ?_
  obtain ⟨hlen, hsp⟩ := split_len z
  have hrr : readRule z = readWords (Txt.split z " ") := rfl
  generalize hw : Txt.split z " " = ws at *
  wp_step
  refine k_lenL (SqL.of k1) ?_
  wp_step
  rw [List.length_map]
  match ws, hrr with
  | [], hrr =>
    refine iteT ?_
    wp_step
    refine s_raiseN T.x_NoRule ?_
    exact h2 hrr _ s1
  | [_], hrr =>
    refine iteT ?_
    wp_step
    refine s_raiseN T.x_NoRule ?_
    exact h2 hrr _ s1
  | [_, _], hrr =>
    refine iteT ?_
    wp_step
    refine s_raiseN T.x_NoRule ?_
    exact h2 hrr _ s1
  | w0 :: w1 :: w2 :: ps, hrr =>
    refine iteD (fun c => absurd c (by simp only [List.length_cons]; omega)) fun _ => ?_
    wp_step
    refine i_lst (SqL.of k1) (v := .str w2) (atI_nat (by decide) rfl) ?_
    wp_step
    refine iteND (fun c => ?_) fun c => ?_
    · wp_step
      refine s_raiseN T.x_NoRule ?_
      refine h2 (hrr.trans ?_) _ s1
      exact if_neg c
    have hrr2 : readRule z = (readFigs w1).bind fun w => if goodR ⟨w0, ps.map readPart, w⟩ = true then some ⟨w0, ps.map readPart, w⟩ else none := hrr.trans (if_pos c)
    wp_step
    refine i_lst (SqL.of k1) (v := .str w0) (atI_nat (by decide) rfl) ?_
    wp_step
    refine e_lcM (blkOk_by (sc := defScope s_read_rule) (own := [("word", 3)]) (by decide +kernel)) (j_list ?_)
    wp_step
    refine n_lst (SqL.of k1) fun l2 H2 s2 n2 k2 _ => ?_
    rw [cutV_from _ (by decide)] at k2
    have k2' : H2 l2 = some (.lst (ps.map V.str)) := k2
    refine ⟨l2, rfl, ⟨_, SqL.of k2'⟩, _, _, _, walk_list (xs := ps.map V.str), ps.map fun p => V.str (readPart p), by simp, ?_, fun H' s' => SqL.of (s' _ _ k2'), ?_, ?_⟩
    · rw [List.length_map]
      simp only [List.length_cons] at hlen
      omega
    · rintro i x H' H3 hi s' ⟨rfl, hx⟩
      rw [List.getElem?_map] at hx
      obtain ⟨p, hp, rfl⟩ : ∃ p, ps[i]? = some p ∧ V.str p = x := by
        cases e : ps[i]? with
        | none => rw [e] at hx; cases hx
        | some p => rw [e] at hx; exact ⟨p, rfl, Option.some.inj hx⟩
      refine ⟨Same.refl _, fun _ _ _ _ _ => ?_⟩
      wp_step
      refine ⟨Same.refl _, fun _ _ _ _ _ => ?_⟩
      refine e_call (df_read_part T) (hr.mono (by decide)) ?_
      wp_step
      exact ⟨by rw [List.getElem?_map, hp]; rfl, Same.refl _⟩
    intro l3 H3 s3 n3 k3
    wp_step
    refine k_tupL (SqL.of k3) fun l4 H4 s4 n4 k4 _ => ?_
    wp_step
    refine e_call (df_read_figures T) (hr.mono (by decide)) ?_
    wp_step
    refine i_lst (SqL.of (s4 _ _ (s3 _ _ (s2 _ _ k1)))) (v := .str w1) (atI_nat (by decide) rfl) ?_
    wp_step
    refine ⟨Nat.le_trans (hsp w1 (by simp)) (by omega), ?_⟩
    wp_step
    intro l5 H5 s5 n5 k5 _
    have k4' := s5 _ _ k4
    have hth : Th K H5 (.ref l5) (.tuple [.str w0, .tuple ((ps.map readPart).map .str), figD (readFigs w1)]) := by
      refine .tup (SqT.of k5) (.cons (.str _ (Nat.le_trans (hsp w0 (by simp)) (by omega))) (.cons (.tup (SqT.of k4') ?_) (.cons (figD_th _) .nil)))
      have z := th_strs (K := K) (H := H5) (l := ps.map readPart) (by
        intro y hy
        obtain ⟨p, hp, rfl⟩ := List.mem_map.mp hy
        have := readPart_len p
        have := hsp p (by simp [hp])
        omega)
      rw [List.map_map] at z
      exact z
    wp_step
    refine e_call (df_is_rule T) (hr.mono (by decide)) ?_
    wp_step
    refine ⟨_, hth, ?_⟩
    wp_step
    have s15 := s1.trans (s2.trans (s3.trans (s4.trans s5)))
    cases hf : readFigs w1 with
    | none =>
      rw [hf] at hrr2
      have e : isRuleD (.tuple [.str w0, .tuple ((ps.map readPart).map .str), figD none]) = false := by simp [isRuleD, isRuleL, figD, isWorthD]
      rw [e]
      wp_step
      exact s_raiseN T.x_NoRule (h2 hrr2 _ s15)
    | some w =>
      rw [hf] at hrr2 k5
      have e : isRuleD (.tuple [.str w0, .tuple ((ps.map readPart).map .str), figD (some w)]) = goodR ⟨w0, ps.map readPart, w⟩ := goodR_D ⟨w0, ps.map readPart, w⟩
      rw [e]
      cases hg : goodR ⟨w0, ps.map readPart, w⟩ with
      | false =>
        wp_step
        refine s_raiseN T.x_NoRule (h2 (hrr2.trans ?_) _ s15)
        exact if_neg (by rw [hg]; simp)
      | true =>
        wp_step
        refine h1 ⟨w0, ps.map readPart, w⟩ (hrr2.trans (if_pos hg)) _ _ s15 ⟨l5, l4, rfl, k5, ?_⟩
        rw [k4', List.map_map]
        rfl

end
theorem df_read_rule (T : Txt K mg cs) : DfN P w K mg base "read_rule" 5 ["text"] (sp1 (R_read_rule K cs)) := by
  obtain ⟨f, fd, hm, F, hb⟩ := T.f_read_rule.ex
  exact ⟨f, fd, hm, F.kp, hb, ok_read_rule F T⟩
def abcL : List Nat := [65, 66, 67, 68, 69, 70, 71, 72, 73, 74, 75, 76, 77, 78, 79, 80, 81, 82, 83, 84, 85, 86, 87, 88, 89, 90]
theorem abc_at {i : Int} (h0 : 0 ≤ i) (h1 : i < 26) {L : List Nat} (hL : L = abcL) : ∃ c, atI L i = some c ∧ 65 ≤ c ∧ c ≤ 90 := by
  subst hL
  exact atI_all (P := fun c => 65 ≤ c ∧ c ≤ 90) h0 (by simpa [abcL] using h1) (by decide)
theorem abc_tl : tl (Str.ofString "ABCDEFGHIJKLMNOPQRSTUVWXYZ") = abcL := by decide +kernel
/-- n letters -/
structure Letters (n : Nat) (z : Str) : Prop where
  len : z.length = n
  all : ∀ c ∈ tl z, 65 ≤ c ∧ c ≤ 90
theorem Letters.name {n : Nat} {z : Str} (h : Letters n z) (h1 : 1 ≤ n) (h2 : n ≤ 8) : isNameS z = true := by
  unfold isNameS
  rw [h.len, decide_eq_true h1, decide_eq_true h2]
  simp only [Bool.and_self, Bool.true_and, List.all_eq_true, Bool.and_eq_true, decide_eq_true_eq]
  exact h.all
theorem Letters.snoc {n : Nat} {z : Str} {c : Nat} (h : Letters n z) (h1 : 65 ≤ c) (h2 : c ≤ 90) : Letters (n + 1) (z ++ ⟨#[c]⟩) := by
  refine ⟨?_, fun d hd => ?_⟩
  · rw [len_tl, tl_append, List.length_append, ← len_tl, h.len]
    rfl
  · rw [tl_append] at hd
    rcases List.mem_append.mp hd with q | q
    · exact h.all d q
    · have : d = c := by simpa [tl] using q
      rw [this]
      exact ⟨h1, h2⟩
theorem lenA (x y : Str) : (x ++ y).length = x.length + y.length := by rw [len_tl, tl_append, List.length_append, ← len_tl, ← len_tl]
theorem Letters.zero : Letters 0 (Str.ofString "") := ⟨by decide +kernel, by
  have e : tl (Str.ofString "") = [] := by decide +kernel
  rw [e]
  simp⟩
theorem Letters.one {c : Nat} (h1 : 65 ≤ c) (h2 : c ≤ 90) : Letters 1 ⟨#[c]⟩ := ⟨rfl, fun d hd => by
  have : d = c := by simpa [tl] using hd
  rw [this]
  exact ⟨h1, h2⟩⟩
theorem Letters.app {n m : Nat} {a b : Str} (h : Letters n a) (k : Letters m b) : Letters (n + m) (a ++ b) := ⟨by rw [lenA, h.len, k.len], fun c hc => by
  rw [tl_append] at hc
  rcases List.mem_append.mp hc with q | q
  · exact h.all c q
  · exact k.all c q⟩
theorem Letters.to {n : Nat} {z : Str} {i : Int} (h : Letters n z) (h0 : 0 ≤ i) (h1 : i ≤ n) : Letters i.toNat (cutS z none (some i)) := ⟨by
  rw [len_tl, cutS_to z h0, List.length_take, ← len_tl, h.len]
  omega, fun c hc => by
  rw [cutS_to z h0] at hc
  exact h.all c (List.mem_of_mem_take hc)⟩
theorem Letters.from {n : Nat} {z : Str} {i : Int} (h : Letters n z) (h0 : 0 ≤ i) (h1 : i ≤ n) : Letters (n - i.toNat) (cutS z (some i) none) := ⟨by
  rw [len_tl, cutS_from z h0, List.length_drop, ← len_tl, h.len], fun c hc => by
  rw [cutS_from z h0] at hc
  exact h.all c (List.mem_of_mem_drop hc)⟩
theorem Letters.rep {n k : Nat} {z y : Str} (h : Letters n z) (e : tl y = (List.replicate k (tl z)).flatten) : Letters (k * n) y := ⟨by
  rw [len_tl, e, List.length_flatten, List.map_replicate, List.sum_replicate_nat, ← len_tl, h.len], fun c hc => by
  rw [e] at hc
  obtain ⟨l, hl, hc2⟩ := List.mem_flatten.mp hc
  rw [List.eq_of_mem_replicate hl] at hc2
  exact h.all c hc2⟩
theorem strs_of {ys : List V} {P : Str → Prop} (h : ∀ y ∈ ys, ∃ p, y = .str p ∧ P p) : ∃ ps : List Str, ys = ps.map V.str ∧ ∀ p ∈ ps, P p := by
  induction ys with
  | nil => exact ⟨[], rfl, by simp⟩
  | cons y ys ih =>
    obtain ⟨p, rfl, hp⟩ := h y (List.mem_cons_self ..)
    obtain ⟨ps, rfl, hps⟩ := ih fun z hz => h z (List.mem_cons_of_mem _ hz)
    exact ⟨p :: ps, rfl, fun q hq => by
      rcases List.mem_cons.mp hq with rfl | hq
      · exact hp
      · exact hps q hq⟩
theorem ix_any {H : Hp} {p : Addr} {xs : List V} {i : Int} (k : H p = some (.lst xs)) (P : V → Prop) (hP : ∀ x ∈ xs, P x) (h0 : 0 ≤ i) (h1 : i < xs.length) : ∃ v, atI xs i = some v ∧ P v := atI_all (P := P) h0 h1 hP

def cellAt (ns : List Int) (i : Int) : Int := ns.getD i.toNat 0
theorem get_ints {ns : List Int} {i : Int} (h0 : 0 ≤ i) (h1 : i < ns.length) : atI (ns.map V.int) i = some (.int (cellAt ns i)) := by
  refine atI_nat h0 ?_
  rw [List.getElem?_map, List.getElem?_eq_getElem (by omega)]
  show some (V.int _) = _
  rw [show cellAt ns i = ns[i.toNat] from by unfold cellAt; rw [List.getD_eq_getElem?_getD, List.getElem?_eq_getElem (by omega)]; rfl]
def R_law_cell_at (K : PySem.W.Frag) : V → V → Hp → VK → XK → Prop := fun x y H Q _ => ∃ (a : Addr) (ns : List Int) (i : Int), x = .ref a ∧ SqL K H a (ns.map V.int) ∧ y = .int i ∧ 0 ≤ i ∧ Q (.int (cellAt ns i)) H
section
theorem ok_law_cell_at {f : Addr} {fd : FuncData} (F : Fun K "_law_cell_at" "_law_cell_at" s_law_cell_at f fd) (T : Txt K mg cs) : FnOk P w K mg base (L2.CX P w) 1 f fd ["_law_script", "_law_k"] (sp2 (R_law_cell_at K)) := by
  refine F.okX sc_law_cell_at (fun vs H Q E h => sp2_len h) (fun cdv A outer s H vs Q E hr h => ⟨_, PBw (X := X_law_cell_at P w K mg base f cdv A outer s H E), ?_⟩)
  obtain ⟨a0, a1, rfl, h⟩ := h
  have ib_len := T.b_len
  have hr' : Room 0 (X_law_cell_at P w K mg base f cdv A outer s H E).A := hr
  replace hr := hr'
  clear hr'
  obtain ⟨a, ns, i, rfl, hS, rfl, h0, h⟩ := h
  wp_step
  refine k_lenL hS ?_
  wp_step
  rw [List.length_map]
  refine iteD (fun c => ?_) fun c => ?_
  · wp_step
    refine i_lst hS (get_ints h0 c) ?_
    exact h
  · wp_step
    have e : cellAt ns i = 0 := by
      unfold cellAt
      rw [List.getD_eq_getElem?_getD, List.getElem?_eq_none (by omega)]
      rfl
    rw [e] at h
    exact h
end
theorem df_law_cell_at (T : Txt K mg cs) : Df P w K mg base "_law_cell_at" 1 ["_law_script", "_law_k"] (sp2 (R_law_cell_at K)) := by
  obtain ⟨f, fd, hm, F, hb⟩ := T.f_law_cell_at.ex
  exact ⟨f, fd, hm, F.kp, hb, ok_law_cell_at F T⟩
def someS : Str := (Str.ofString " !\"#$&'()*+,-./0123456789:;<=>?@ABCDEFGHIJKLMNOPQRSTUVWXYZ[\\]^_`") ++ (Str.ofString "abcdefghijklmnopqrstuvwxyz{|}~")
theorem some_len : someS.length = 94 := by decide +kernel
theorem some_ok : (tl someS).all okc = true := by decide +kernel
theorem some_at {i : Int} (h0 : 0 ≤ i) (h1 : i < 94) : ∃ c, atI (tl someS) i = some c ∧ okc c = true :=
  atI_all (P := fun c => okc c = true) h0 (by rw [← len_tl, some_len]; exact h1) fun c hc => List.all_eq_true.mp some_ok c hc
theorem sign_ok {c : Nat} (hc : okc c = true) : isPartS (Str.ofString "'" ++ ⟨#[c]⟩) = true := by
  have e : tl (Str.ofString "'" ++ ⟨#[c]⟩) = [39, c] := by rw [tl_append, tl_q]; rfl
  show (isSignL (tl _) || _) = true
  rw [e]
  simp [isSignL, hc]

def R_law_sign : V → Hp → VK → XK → Prop := fun x H Q _ => ∃ i, x = .int i ∧ ∀ c, okc c = true → Q (.str ⟨#[c]⟩) H
section
theorem ok_law_sign {f : Addr} {fd : FuncData} (F : Fun K "_law_sign" "_law_sign" s_law_sign f fd) (T : Txt K mg cs) : FnOk P w K mg base (L2.CX P w) 1 f fd ["_law_cell"] (sp1 (R_law_sign)) := by
  refine F.okX sc_law_sign (fun vs H Q E h => sp1_len h) (fun cdv A outer s H vs Q E hr h => ⟨_, PBw (X := X_law_sign P w K mg base f cdv A outer s H E), ?_⟩)
  obtain ⟨a0, rfl, h⟩ := h
  have hr' : Room 0 (X_law_sign P w K mg base f cdv A outer s H E).A := hr
  replace hr := hr'
  clear hr'
  obtain ⟨i, rfl, h⟩ := h
  wp_step
  refine o_cat (by decide +kernel) ?_
  wp_step
  obtain ⟨c, h1, h2⟩ := some_at (i := i % 94) (by omega) (by omega)
  refine i_str (z := someS) (by decide +kernel) h1 ?_
  exact h c h2
end
theorem df_law_sign (T : Txt K mg cs) : Df P w K mg base "_law_sign" 1 ["_law_cell"] (sp1 (R_law_sign)) := by
  obtain ⟨f, fd, hm, F, hb⟩ := T.f_law_sign.ex
  exact ⟨f, fd, hm, F.kp, hb, ok_law_sign F T⟩
def R_law_name : V → Hp → VK → XK → Prop := fun x H Q _ => ∃ i, x = .int i ∧ ∀ z, isNameS z = true → Q (.str z) H
section
theorem ok_law_name {f : Addr} {fd : FuncData} (F : Fun K "_law_name" "_law_name" s_law_name f fd) (T : Txt K mg cs) : FnOk P w K mg base (L2.CX P w) 1 f fd ["_law_cell"] (sp1 (R_law_name)) := by
  refine F.okX sc_law_name (fun vs H Q E h => sp1_len h) (fun cdv A outer s H vs Q E hr h => ⟨_, PBw (X := X_law_name P w K mg base f cdv A outer s H E), ?_⟩)
  obtain ⟨a0, rfl, h⟩ := h
  have ib_range := T.b_range
  have hr' : Room 0 (X_law_name P w K mg base f cdv A outer s H E).A := hr
  replace hr := hr'
  clear hr'
  obtain ⟨i, rfl, h⟩ := h
  wp_step
  obtain ⟨c, h1, h2, h3⟩ := abc_at (i := i % 26) (by omega) (by omega) abc_tl
  refine i_str (by decide +kernel) h1 ?_
  wp_step
  refine s_for (j_rng1 ?_)
  wp_step
  refine ⟨by omega, by omega, _, _, _, walk_range, fun n σ' H' => ∃ (j : Int) (z : Str) (v : Option V), σ' = [some (.int j), some (.str "ABCDEFGHIJKLMNOPQRSTUVWXYZ"), some (.str z), v] ∧ H' = H ∧ Letters (n + 1) z, ⟨_, _, _, rfl, rfl, ⟨rfl, fun d hd => ?_⟩⟩, fun _ _ _ _ _ => trivial, ?_, ?_⟩
  · have : d = c := by simpa [tl] using hd
    rw [this]
    exact ⟨h2, h3⟩
  · rintro n x σ' H' H2 hn ⟨j, z, v, rfl, rfl, hz⟩ ⟨rfl, rfl⟩
    wp_step
    refine o_mulS (.inr ⟨by decide, by decide⟩) ?_
    wp_step
    refine o_mulS (.inl ⟨by decide, by decide⟩) ?_
    wp_step
    obtain ⟨c, h1, h2, h3⟩ := abc_at (i := (j * 48271 + 11 * (0 + (n : Int)) + 7) % 2147483647 / 5 % 26) (by omega) (by omega) abc_tl
    refine i_str (by decide +kernel) h1 ?_
    wp_step
    refine o_cat (by
      have : (⟨#[c]⟩ : Str).length = 1 := rfl
      rw [hz.len, this, sizeLine_eq]
      omega) ?_
    wp_step
    first | exact hz.snoc h2 h3 | exact ⟨_, _, _, rfl, rfl, hz.snoc h2 h3⟩
  · rintro σ' H' ⟨j, z, v, rfl, rfl, hz⟩
    wp_step
    exact h z (hz.name (by omega) (by omega))
end
theorem df_law_name (T : Txt K mg cs) : Df P w K mg base "_law_name" 1 ["_law_cell"] (sp1 (R_law_name)) := by
  obtain ⟨f, fd, hm, F, hb⟩ := T.f_law_name.ex
  exact ⟨f, fd, hm, F.kp, hb, ok_law_name F T⟩
def R_law_part : V → Hp → VK → XK → Prop := fun x H Q _ => ∃ i, x = .int i ∧ ∀ z, isPartS z = true → Q (.str z) H
section
set_option hygiene false in
local macro_rules | `(tactic| top_name) => `(tactic| first | refine e_call (df_law_name T) (hr.mono (by decide)) ?_ | refine e_call (df_law_sign T) (hr.mono (by decide)) ?_)
theorem ok_law_part {f : Addr} {fd : FuncData} (F : Fun K "_law_part" "_law_part" s_law_part f fd) (T : Txt K mg cs) : FnOk P w K mg base (L2.CX P w) 2 f fd ["_law_cell"] (sp1 (R_law_part)) := by
  refine F.okX sc_law_part (fun vs H Q E h => sp1_len h) (fun cdv A outer s H vs Q E hr h => ⟨_, PBw (X := X_law_part P w K mg base f cdv A outer s H E), ?_⟩)
  obtain ⟨a0, rfl, h⟩ := h
  have hr' : Room 1 (X_law_part P w K mg base f cdv A outer s H E).A := hr
  replace hr := hr'
  clear hr'
  obtain ⟨i, rfl, h⟩ := h
  wp_step
  refine iteD (fun c => ?_) fun c => ?_
  · wp_step
    refine e_call (df_law_name T) (hr.mono (by decide)) ?_
    wp_step
    intro z hz
    exact h z (by rw [isPartS, hz, Bool.or_true])
  · wp_step
    have sg : ∀ c, okc c = true → isPartS (Str.ofString "'" ++ ⟨#[c]⟩) = true := fun c hc => by
      have e : tl (Str.ofString "'" ++ ⟨#[c]⟩) = [39, c] := by rw [tl_append, tl_q]; rfl
      show (isSignL (tl _) || _) = true
      rw [e]
      simp [isSignL, hc]
    refine iteD (fun c1 => ?_) fun c1 => ?_
    · wp_step
      refine iteD (fun c2 => ?_) fun c2 => ?_
      · wp_step
        exact h "' " (by decide +kernel)
      · wp_step
        refine e_call (df_law_sign T) (hr.mono (by decide)) ?_
        wp_step
        intro c hc
        refine o_cat (by
          have e1 : (Str.ofString "'").length = 1 := by decide +kernel
          have e2 : (⟨#[c]⟩ : Str).length = 1 := rfl
          rw [e1, e2]
          decide) ?_
        exact h _ (sg c hc)
    · wp_step
      refine e_call (df_law_sign T) (hr.mono (by decide)) ?_
      wp_step
      intro c hc
      refine o_cat (by
        have e1 : (Str.ofString "'").length = 1 := by decide +kernel
        have e2 : (⟨#[c]⟩ : Str).length = 1 := rfl
        rw [e1, e2]
        decide) ?_
      exact h _ (sg c hc)
end
theorem df_law_part (T : Txt K mg cs) : Df P w K mg base "_law_part" 2 ["_law_cell"] (sp1 (R_law_part)) := by
  obtain ⟨f, fd, hm, F, hb⟩ := T.f_law_part.ex
  exact ⟨f, fd, hm, F.kp, hb, ok_law_part F T⟩
def R_law_worth : V → Hp → VK → XK → Prop := fun x H Q _ => ∃ i, x = .int i ∧ ∀ n, 0 ≤ n → n ≤ top60 → Q (.int n) H
section
theorem ok_law_worth {f : Addr} {fd : FuncData} (F : Fun K "_law_worth" "_law_worth" s_law_worth f fd) (T : Txt K mg cs) : FnOk P w K mg base (L2.CX P w) 1 f fd ["_law_cell"] (sp1 (R_law_worth)) := by
  refine F.okX sc_law_worth (fun vs H Q E h => sp1_len h) (fun cdv A outer s H vs Q E hr h => ⟨_, PBw (X := X_law_worth P w K mg base f cdv A outer s H E), ?_⟩)
  obtain ⟨a0, rfl, h⟩ := h
  have hr' : Room 0 (X_law_worth P w K mg base f cdv A outer s H E).A := hr
  replace hr := hr'
  clear hr'
  obtain ⟨i, rfl, h⟩ := h
  have z : ∀ n, 0 ≤ n → n ≤ (1000000000000000000000000000000000000000000000000000000000000 : Int) → Q (.int n) H := h
  wp_step
  refine iteD (fun c => ?_) fun c => ?_
  · wp_step; exact z _ (by omega) (by omega)
  · wp_step
    refine iteD (fun c => ?_) fun c => ?_
    · wp_step; exact z _ (by omega) (by omega)
    · wp_step; exact z _ (by omega) (by omega)
end
theorem df_law_worth (T : Txt K mg cs) : Df P w K mg base "_law_worth" 1 ["_law_cell"] (sp1 (R_law_worth)) := by
  obtain ⟨f, fd, hm, F, hb⟩ := T.f_law_worth.ex
  exact ⟨f, fd, hm, F.kp, hb, ok_law_worth F T⟩
def R_law_rule (K : PySem.W.Frag) : V → V → Hp → VK → XK → Prop := fun x y H Q _ => ∃ (a : Addr) (ns : List Int) (i : Int), x = .ref a ∧ SqL K H a (ns.map V.int) ∧ y = .int i ∧ 0 ≤ i ∧ ∀ r v H', GoodR r → Same H H' → RuleAt H' v r → Q v H'
section
set_option hygiene false in
local macro_rules | `(tactic| top_name) => `(tactic| first | refine e_call (df_law_cell_at T) (hr.mono (by decide)) ?_ | refine e_call (df_law_part T) (hr.mono (by decide)) ?_ | refine e_call (df_law_name T) (hr.mono (by decide)) ?_ | refine e_call (df_law_worth T) (hr.mono (by decide)) ?_)
theorem ok_law_rule {f : Addr} {fd : FuncData} (F : Fun K "_law_rule" "_law_rule" s_law_rule f fd) (T : Txt K mg cs) : FnOk P w K mg base (L2.CX P w) 3 f fd ["_law_script", "_law_at"] (sp2 (R_law_rule K)) := by
  refine F.okX sc_law_rule (fun vs H Q E h => sp2_len h) (fun cdv A outer s H vs Q E hr h => ⟨_, PBw (X := X_law_rule P w K mg base f cdv A outer s H E), ?_⟩)
  obtain ⟨a0, a1, rfl, h⟩ := h
  have ib_tuple := T.b_tuple
  have ib_range := T.b_range
  have hr' : Room 2 (X_law_rule P w K mg base f cdv A outer s H E).A := hr
  replace hr := hr'
  clear hr'
  obtain ⟨a, ns, i, rfl, hS, rfl, h0, h⟩ := h
  wp_step
  refine e_call (df_law_cell_at T) (hr.mono (by decide)) ?_
  wp_step
  refine ⟨_, _, _, rfl, hS, rfl, h0, ?_⟩
  wp_step
  refine s_setLcP (blkOk_by (sc := defScope s_law_rule) (own := [("_law_k", 4)]) (by decide +kernel)) (fun _ y => ∃ p, y = .str p ∧ isPartS p = true) (j_rng1 ?_)
  wp_step
  refine ⟨by omega, by omega, _, _, _, walk_range, by omega, fun _ _ => trivial, ?_, ?_⟩
  · rintro n x H' H2 hn s' ⟨rfl, rfl⟩
    refine ⟨Same.refl _, fun _ _ _ _ _ => ?_⟩
    wp_step
    refine ⟨Same.refl _, fun _ _ _ _ _ => ?_⟩
    refine e_call (df_law_part T) (hr.mono (by decide)) ?_
    refine a_cons ?_
    refine e_call (df_law_cell_at T) (hr.mono (by decide)) ?_
    wp_step
    refine ⟨_, _, _, rfl, s'.seq hS, rfl, by omega, ?_⟩
    wp_step
    intro z hz
    exact ⟨⟨z, rfl, hz⟩, Same.refl _⟩
  intro l1 H1 ys s1 n1 k1 e1 hy
  obtain ⟨ps, rfl, hps⟩ : ∃ ps : List Str, ys = ps.map V.str ∧ ∀ p ∈ ps, isPartS p = true := strs_of fun y hm => by
    obtain ⟨j, hj⟩ := List.mem_iff_getElem?.mp hm
    exact hy j y hj
  rw [List.length_map] at e1
  have hS1 := s1.seq hS
  wp_step
  refine e_call (df_law_name T) (hr.mono (by decide)) ?_
  refine a_cons ?_
  refine e_call (df_law_cell_at T) (hr.mono (by decide)) ?_
  wp_step
  refine ⟨_, _, _, rfl, hS1, rfl, by omega, ?_⟩
  wp_step
  intro hd hhd
  wp_step
  refine k_tupL (SqL.of k1) fun l2 H2 s2 n2 k2 _ => ?_
  wp_step
  refine e_call (df_law_worth T) (hr.mono (by decide)) ?_
  refine a_cons ?_
  refine e_call (df_law_cell_at T) (hr.mono (by decide)) ?_
  wp_step
  refine ⟨_, _, _, rfl, s2.seq hS1, rfl, by omega, ?_⟩
  wp_step
  intro wo hw0 hw1
  wp_step
  intro l3 H3 s3 n3 k3 _
  wp_step
  exact h ⟨hd, ps, wo⟩ _ _ ⟨hhd, by show ps.length ≤ 6; omega, hps, hw0, hw1⟩ (s1.trans (s2.trans s3)) ⟨l3, l2, rfl, k3, s3 _ _ k2⟩
end
theorem df_law_rule (T : Txt K mg cs) : Df P w K mg base "_law_rule" 3 ["_law_script", "_law_at"] (sp2 (R_law_rule K)) := by
  obtain ⟨f, fd, hm, F, hb⟩ := T.f_law_rule.ex
  exact ⟨f, fd, hm, F.kp, hb, ok_law_rule F T⟩
/-- a rule's text as the law writes it, as far as i parts -/
def wroteL (r : Rl) (i : Nat) : List Nat := tl r.head ++ [32] ++ tl (numW r.worth) ++ [32, 61] ++ (r.parts.take i).flatMap fun p => 32 :: tl (showPart p)
theorem wrote_all (r : Rl) : tl (showRule r) = wroteL r r.parts.length := by
  have j : ∀ l : List (List Nat), joinL [32] l = match l with | [] => [] | a :: l => a ++ l.flatMap (fun p => 32 :: p) := by
    intro l
    induction l with
    | nil => rfl
    | cons a l ih =>
      cases l with
      | nil => show a = a ++ []; rw [List.append_nil]
      | cons b l =>
        show a ++ ([32] ++ joinL [32] (b :: l)) = _
        rw [ih]
        simp
  unfold showRule
  rw [join_eq, tl_join, tl_sp, j]
  show tl r.head ++ (tl (numW r.worth) :: tl (Str.ofString "=") :: ((r.parts.map showPart).map tl)).flatMap _ = _
  rw [show tl (Str.ofString "=") = [61] from by decide +kernel]
  simp only [wroteL, List.take_length, List.flatMap_cons, List.flatMap_map, List.append_assoc, List.cons_append, List.nil_append]
theorem wrote_step {r : Rl} {i : Nat} {p : Str} (h : r.parts[i]? = some p) : wroteL r (i + 1) = wroteL r i ++ 32 :: tl (showPart p) := by
  unfold wroteL
  have hl := (List.getElem?_eq_some_iff.mp h).1
  rw [← List.take_append_getElem hl, (List.getElem?_eq_some_iff.mp h).2, List.flatMap_append]
  simp
theorem wrote_len {r : Rl} (g : GoodR r) : ∀ i, i ≤ 6 → (wroteL r i).length ≤ 80 + 10 * i := by
  intro i hi
  have h1 := name_len g.head
  have h2 := numW_len g.lo g.hi
  rw [len_tl] at h1 h2
  unfold wroteL
  simp only [List.length_append, List.length_cons, List.length_nil]
  have q : ∀ l : List Str, (∀ p ∈ l, isPartS p = true) → (l.flatMap fun p => 32 :: tl (showPart p)).length ≤ 10 * l.length := by
    intro l hl
    induction l with
    | nil => simp
    | cons a l ih =>
      rw [List.flatMap_cons, List.length_append, List.length_cons, List.length_cons]
      have := ih fun x hx => hl x (List.mem_cons_of_mem _ hx)
      have h3 := show_len (hl a (List.mem_cons_self ..))
      rw [len_tl] at h3
      omega
  have := q (r.parts.take i) fun p hp => g.parts p (List.mem_of_mem_take hp)
  rw [List.length_take] at this
  omega
theorem cut_is_sp {p : Str} (h : isPartS p = true) : (cutS p (some 1) none = Str.ofString " ") ↔ p = Str.ofString "' " := by
  have e : tl (cutS p (some 1) none) = (tl p).drop 1 := cutS_from p (by decide)
  constructor
  · intro q
    rw [q, tl_sp] at e
    rcases Bool.or_eq_true_iff.mp h with h | h
    · obtain ⟨c, e2, _⟩ := sign_is h
      rw [e2] at e
      have : c = 32 := (by simpa using e : 32 = c).symm
      exact ext_tl (by rw [e2, this, tl_qs])
    · exfalso
      have : 32 ∈ tl p := List.mem_of_mem_drop (show 32 ∈ (tl p).drop 1 by rw [← e]; simp)
      exact name_free (s := 32) h (by decide) this
  · intro q
    exact ext_tl (by rw [e, q, tl_qs, tl_sp]; rfl)
def R_law_written (K : PySem.W.Frag) : V → Hp → VK → XK → Prop := fun x H Q _ => ∃ r, RuleAt H x r ∧ GoodR r ∧ Q (.str (showRule r)) H
section
theorem ok_law_written {f : Addr} {fd : FuncData} (F : Fun K "_law_written" "_law_written" s_law_written f fd) (T : Txt K mg cs) : FnOk P w K mg base (L2.CX P w) 1 f fd ["_law_rule_here"] (sp1 (R_law_written K)) := by
  refine F.okX sc_law_written (fun vs H Q E h => sp1_len h) (fun cdv A outer s H vs Q E hr h => ⟨_, PBw (X := X_law_written P w K mg base f cdv A outer s H E), ?_⟩)
  obtain ⟨a0, rfl, h⟩ := h
  have ib_str := T.b_str
  have hr' : Room 0 (X_law_written P w K mg base f cdv A outer s H E).A := hr
  replace hr := hr'
  clear hr'
  obtain ⟨r, ⟨a, b, rfl, h1, h2⟩, g, h⟩ := h
  wp_step
  refine i_tup (SqT.of h1) (v := .str r.head) rfl ?_
  wp_step
  have hd8 := name_len g.head
  have hn61 := numW_len g.lo g.hi
  have l1 : (Str.ofString " ").length = 1 := by decide +kernel
  have l2 : (Str.ofString " =").length = 2 := by decide +kernel
  have l3 : (Str.ofString " '").length = 2 := by decide +kernel
  have la : ∀ x y : Str, (x ++ y).length = x.length + y.length := fun x y => by rw [len_tl, tl_append, List.length_append, ← len_tl, ← len_tl]
  refine o_cat (by rw [l1, sizeLine_eq]; omega) ?_
  wp_step
  refine i_tup (SqT.of h1) (v := .int r.worth) rfl ?_
  wp_step
  refine k_strI (log60 g.lo g.hi) ?_
  have hnw : (Str.ofString (toString r.worth)).length ≤ 61 := hn61
  refine o_cat (by rw [la, l1, sizeLine_eq]; omega) ?_
  wp_step
  refine o_cat (by rw [la, la, l1, l2, sizeLine_eq]; omega) ?_
  wp_step
  refine s_for (j_tup ?_)
  wp_step
  refine i_tup (SqT.of h1) (v := .ref b) rfl ?_
  refine ⟨b, rfl, ⟨_, SqT.of h2⟩, _, _, _, walk_tup (xs := r.parts.map V.str), fun i σ' H' => ∃ (z : Str) (v : Option V), σ' = [some (.ref a), some (.str z), v] ∧ H' = H ∧ tl z = wroteL r i, ⟨_, _, rfl, rfl, ?_⟩, fun _ _ _ _ ⟨_, _, _, e, _⟩ => by rw [e]; exact SqT.of h2, ?_, ?_⟩
  · rw [tl_append, tl_append, tl_append, tl_sp, show tl (Str.ofString " =") = [32, 61] from by decide +kernel]
    simp [wroteL, numW]
  · rintro i x σ' H' H2 hi ⟨z, v, rfl, rfl, hz⟩ ⟨rfl, hx⟩
    rw [List.length_map] at hi
    rw [List.getElem?_map] at hx
    obtain ⟨p, hp, rfl⟩ : ∃ p, r.parts[i]? = some p ∧ V.str p = x := by
      cases e : r.parts[i]? with
      | none => rw [e] at hx; cases hx
      | some p => rw [e] at hx; exact ⟨p, rfl, Option.some.inj hx⟩
    have hpp := g.parts p (List.mem_of_getElem? hp)
    have few := g.few
    have hzl : z.length ≤ 200 := by
      have := wrote_len g i (by omega)
      rw [len_tl, hz]
      omega
    have hp8 := part_len hpp
    wp_step
    refine n_str (by rw [sizeLine_eq]; omega) ?_
    wp_step
    refine iteD (fun c => ?_) fun c => ?_
    · wp_step
      refine o_cat (by rw [l3, sizeLine_eq]; omega) ?_
      wp_step
      have e := (cut_is_sp hpp).mp c
      rw [tl_append, wrote_step hp, hz, show showPart p = Str.ofString "'" from if_pos e, tl_q]
      rw [show tl (Str.ofString " '") = [32, 39] from by decide +kernel]
    · wp_step
      refine o_cat (by rw [l1, sizeLine_eq]; omega) ?_
      wp_step
      refine o_cat (by rw [la, l1, sizeLine_eq]; omega) ?_
      wp_step
      rw [tl_append, tl_append, wrote_step hp, hz, show showPart p = p from if_neg fun e => c ((cut_is_sp hpp).mpr e), tl_sp]
      simp
  · rintro σ' H' ⟨z, v, rfl, rfl, hz⟩
    wp_step
    rw [List.length_map, ← wrote_all] at hz
    rw [← ext_tl hz] at h
    exact h
end
theorem df_law_written (T : Txt K mg cs) : Df P w K mg base "_law_written" 1 ["_law_rule_here"] (sp1 (R_law_written K)) := by
  obtain ⟨f, fd, hm, F, hb⟩ := T.f_law_written.ex
  exact ⟨f, fd, hm, F.kp, hb, ok_law_written F T⟩
def R_law_alike (K : PySem.W.Frag) : V → V → Hp → VK → XK → Prop := fun x y H Q _ => ∃ r, GoodR r ∧ RuleAt H x r ∧ RuleAt H y r ∧ Q (.bl true) H
section
theorem ok_law_alike {f : Addr} {fd : FuncData} (F : Fun K "_law_alike" "_law_alike" s_law_alike f fd) (T : Txt K mg cs) : FnOk P w K mg base (L2.CX P w) 1 f fd ["_law_found", "_law_due"] (sp2 (R_law_alike K)) := by
  refine F.okX sc_law_alike (fun vs H Q E h => sp2_len h) (fun cdv A outer s H vs Q E hr h => ⟨_, PBw (X := X_law_alike P w K mg base f cdv A outer s H E), ?_⟩)
  obtain ⟨a0, a1, rfl, h⟩ := h
  have ib_isinstance := T.b_isinstance
  have ib_bool := T.b_bool
  have ib_tuple := T.b_tuple
  have ib_len := T.b_len
  have ib_str := T.b_str
  have ib_int := T.b_int
  have hr' : Room 0 (X_law_alike P w K mg base f cdv A outer s H E).A := hr
  replace hr := hr'
  clear hr'
  obtain ⟨r, g, hx, hy, h⟩ := h
  obtain ⟨a, b, rfl, h1, h2⟩ := id hx
  kxs_still
  refine k_isB (TyT h1) (b := true) (by decide +kernel) ?_
  kxs_still
  refine iteNDF rfl ?_
  kxs_still
  refine k_isB (TyT h2) (b := true) (by decide +kernel) ?_
  kxs_still
  refine k_isB (TyB.2.2.1 _) (b := true) (by decide +kernel) ?_
  kxs_still
  refine k_isB (TyB.1 _) kb_int_int ?_
  kxs_still
  refine k_isB (TyB.1 _) kb_int_bool ?_
  kxs_still
  refine s_for (j_tup ?_)
  kxs_still
  refine ⟨⟨_, SqT.of h2⟩, _, _, _, walk_tup (xs := r.parts.map V.str), fun i σ' H' => (∃ v, σ' = [some (.ref a), some a1, v]) ∧ H' = H, ⟨⟨_, rfl⟩, rfl⟩, fun _ _ _ _ ⟨_, e⟩ => by rw [e]; exact SqT.of h2, ?_, ?_⟩
  · rintro i x σ' H' H2 hi ⟨⟨v, rfl⟩, rfl⟩ ⟨rfl, hq⟩
    rw [List.getElem?_map] at hq
    obtain ⟨p, hp, rfl⟩ : ∃ p, r.parts[i]? = some p ∧ V.str p = x := by
      cases e : r.parts[i]? with
      | none => rw [e] at hq; cases hq
      | some p => rw [e] at hq; exact ⟨p, rfl, Option.some.inj hq⟩
    kxs_still
    refine k_isB (TyB.2.2.1 _) (b := true) (by decide +kernel) ?_
    kxs_still
    exact ⟨⟨_, rfl⟩, rfl⟩
  · rintro σ' H' ⟨⟨v, rfl⟩, rfl⟩
    kxs_still
    refine o_eqD hr.units hx.dp hy.dp g.sh.ok g.sh.ok ?_
    rw [g.sh.refl]
    exact h

end
theorem df_law_alike (T : Txt K mg cs) : Df P w K mg base "_law_alike" 1 ["_law_found", "_law_due"] (sp2 (R_law_alike K)) := by
  obtain ⟨f, fd, hm, F, hb⟩ := T.f_law_alike.ex
  exact ⟨f, fd, hm, F.kp, hb, ok_law_alike F T⟩
def showG (rs : List Rl) : Str := Txt.join (Str.ofString "\n") (rs.map showRule)
def readRows : List Str → Option (List Rl)
  | [] => some []
  | z :: zs => match readRule z with
    | none => none
    | some r => (readRows zs).map (r :: ·)
def readG (z : Str) : Option (List Rl) := if z = Str.ofString "" then some [] else if 60 < (Txt.split z (Str.ofString "\n")).length then none else readRows (Txt.split z (Str.ofString "\n"))
theorem readRows_take {zs : List Str} : ∀ {i : Nat} {z : Str} {rs : List Rl}, readRows (zs.take i) = some rs → zs[i]? = some z → readRows (zs.take (i + 1)) = (readRule z).map fun r => rs ++ [r] := by
  induction zs with
  | nil => intro i z rs _ e; cases e
  | cons y zs ih =>
    intro i z rs h e
    cases i with
    | zero =>
      cases e
      cases h
      show readRows [y] = _
      unfold readRows
      cases readRule y with
      | none => rfl
      | some r => rfl
    | succ i =>
      rw [List.take_succ_cons] at h ⊢
      unfold readRows at h ⊢
      cases q : readRule y with
      | none => rw [q] at h; cases h
      | some r =>
        rw [q] at h
        simp only at h ⊢
        cases q2 : readRows (zs.take i) with
        | none => rw [q2] at h; cases h
        | some rs' =>
          rw [q2] at h
          cases h
          rw [ih q2 e]
          cases readRule z with
          | none => rfl
          | some r' => rfl
theorem readRows_bad {zs : List Str} : ∀ {i : Nat} {z : Str}, zs[i]? = some z → readRule z = none → readRows zs = none := by
  induction zs with
  | nil => intro i z e; cases e
  | cons y zs ih =>
    intro i z e h
    cases i with
    | zero =>
      cases e
      unfold readRows
      rw [h]
    | succ i =>
      unfold readRows
      rw [ih e h]
      cases readRule y with
      | none => rfl
      | some r => rfl
theorem spl_len1 (s : Nat) : ∀ (l acc : List Nat), ∀ p ∈ spl [s] 0 acc l, p.length ≤ acc.length + l.length
  | [], acc => by
    rw [spl_nil]
    simp
  | c :: r, acc => by
    by_cases h : pre [s] (c :: r) = true
    · rw [spl_hit h]
      have b := spl_len1 s r []
      intro p hp
      rcases List.mem_cons.mp hp with rfl | hp
      · simp only [List.length_cons]; omega
      · have := b p hp
        simp only [List.length_cons, List.length_nil] at *
        omega
    · rw [spl_miss (by simpa using h)]
      have b := spl_len1 s r (acc ++ [c])
      intro p hp
      have := b p hp
      simp only [List.length_cons, List.length_append, List.length_nil] at *
      omega
theorem map_getG {α β : Type} {f : α → β} {l : List α} {i : Nat} {y : β} (h : (l.map f)[i]? = some y) : ∃ x, l[i]? = some x ∧ f x = y := by
  rw [List.getElem?_map] at h
  exact Option.map_eq_some_iff.mp h
theorem tl_nl : tl (Str.ofString "\n") = [10] := by decide +kernel
theorem split_nl (z : Str) : ∀ y ∈ Txt.split z (Str.ofString "\n"), y.length ≤ z.length := by
  have e := split_spl z (Str.ofString "\n") (by rw [tl_nl]; simp) (kind_ok (by decide +kernel))
  rw [tl_nl] at e
  have b := spl_len1 10 (tl z) []
  rw [← e] at b
  intro y hy
  have := b (tl y) (List.mem_map.mpr ⟨y, hy, rfl⟩)
  rw [len_tl, len_tl]
  simpa using this
theorem show_len140 {r : Rl} (g : GoodR r) : (showRule r).length ≤ 140 := by
  have := wrote_len g r.parts.length g.few
  have := g.few
  rw [len_tl, wrote_all]
  omega
def R_show_grammar (K : PySem.W.Frag) (cs : Cs) : V → Hp → VK → XK → Prop := fun x H Q E =>
  (∃ a vs rs, GramAt K H x a vs rs ∧ ∀ H', Same H H' → Q (.str (showG rs)) H') ∨ (∃ d, Th K H x d ∧ isGramD d = false ∧ ∀ H', Same H H' → E (.ref cs.NoGrammar) none H')
section
set_option hygiene false in
local macro_rules | `(tactic| top_name) => `(tactic| first | refine e_call (df_show_rule T) (hr.mono (by decide)) ?_ | refine e_call (df_checked T) (hr.mono (by decide)) ?_)
theorem ok_show_grammar {f : Addr} {fd : FuncData} (F : Fun K "show_grammar" "show_grammar" s_show_grammar f fd) (T : Txt K mg cs) : FnOk P w K mg base (L2.CX P w) 6 f fd ["grammar"] (sp1 (R_show_grammar K cs)) := by
  refine F.okX sc_show_grammar (fun vs H Q E h => sp1_len h) (fun cdv A outer s H vs Q E hr h => ⟨_, PBw (X := X_show_grammar P w K mg base f cdv A outer s H E), ?_⟩)
  obtain ⟨a0, rfl, h⟩ := h
  have hr' : Room 5 (X_show_grammar P w K mg base f cdv A outer s H E).A := hr
  replace hr := hr'
  clear hr'
  kxs_still
  refine e_join ?_
  kxs_still
  refine ⟨⟨_, rfl⟩, ?_⟩
  kxs_still
  refine e_lcM (blkOk_by (sc := defScope s_show_grammar) (own := [("rule", 1)]) (by decide +kernel)) (j_list ?_)
  kxs_still
  rcases h with ⟨a, vs, rs, g, h⟩ | ⟨d, hd, hb, h⟩
  case' inr => exact .inr ⟨d, hd, hb, h⟩
  refine .inl ⟨a, vs, rs, g, fun l H1 s1 n1 k1 => ?_⟩
  obtain ⟨rfl, hS, hR, hG⟩ := g
  have hvl := hR.len
  have hfew := hG.few
  refine ⟨l, rfl, ⟨_, SqL.of k1⟩, _, _, _, walk_list (xs := vs), rs.map fun r => V.str (showRule r), by rw [List.length_map]; omega, by rw [List.length_map]; omega, fun H' s' => SqL.of (s' _ _ k1), ?_, ?_⟩
  · rintro i x H' H2 hi s' ⟨rfl, hx⟩
    obtain ⟨r, hr1, hv⟩ := hR.get i x hx
    refine ⟨Same.refl _, fun _ _ _ _ _ => ?_⟩
    kxs_still
    refine ⟨rfl, Same.refl _, fun _ _ _ _ _ => ?_⟩
    kxs_still
    refine ⟨r, hv.more (s1.trans s'), hG.good r (List.mem_of_getElem? hr1), fun H3 s3 => ?_⟩
    exact ⟨by rw [List.getElem?_map, hr1]; rfl, s3⟩
  intro l2 H2 s2 n2 k2
  refine m_join (ys := rs.map showRule) (.inl (SqL.of (by rw [List.map_map]; exact k2))) ?_ ?_
  · have q := sum_le (l := (rs.map showRule).map Str.length) (b := 140) (by
      intro x hx
      obtain ⟨p, hp, rfl⟩ := List.mem_map.mp hx
      obtain ⟨r, hr1, rfl⟩ := List.mem_map.mp hp
      exact show_len140 (hG.good r hr1))
    rw [List.length_map, List.length_map] at q
    rw [List.length_map, show (Str.ofString "\n").length = 1 from by decide +kernel]
    omega
  · exact h _ (s1.trans s2)
end
theorem df_show_grammar (T : Txt K mg cs) : Df P w K mg base "show_grammar" 6 ["grammar"] (sp1 (R_show_grammar K cs)) := by
  obtain ⟨f, fd, hm, F, hb⟩ := T.f_show_grammar.ex
  exact ⟨f, fd, hm, F.kp, hb, ok_show_grammar F T⟩
def R_read_grammar (K : PySem.W.Frag) (cs : Cs) : V → Hp → VK → XK → Prop := fun x H Q E =>
  (∃ z, x = .str z ∧ z.length ≤ 100000 ∧ (∀ rs, readG z = some rs → ∀ (l : Addr) (vs : List V) (H' : Hp), Same H H' → H l = none → H' l = some (.lst vs) → RulesAt H' vs rs → Q (.ref l) H') ∧ (readG z = none → ∀ H', Same H H' → E (.ref cs.NoGrammar) none H')) ∨
  (∃ d, Th K H x d ∧ isK d "str" = false ∧ ∀ H', Same H H' → E (.ref cs.NoGrammar) none H')
section
set_option hygiene false in
local macro_rules | `(tactic| top_name) => `(tactic| first | refine e_callN (df_read_rule T) (hr.mono (by decide)) ?_)
set_option hygiene false in
local macro_rules | `(tactic| top_raise) => `(tactic| first | refine s_raise T.x_NoGrammar ?_)
theorem ok_read_grammar {f : Addr} {fd : FuncData} (F : Fun K "read_grammar" "read_grammar" s_read_grammar f fd) (T : Txt K mg cs) : FnOk P w K mg base (L2.CX P w) 6 f fd ["text"] (sp1 (R_read_grammar K cs)) := by
  refine F.okX sc_read_grammar (fun vs H Q E h => sp1_len h) (fun cdv A outer s H vs Q E hr h => ⟨_, PBw (X := X_read_grammar P w K mg base f cdv A outer s H E), ?_⟩)
  obtain ⟨a0, rfl, h⟩ := h
  obtain ⟨t_MOST_RULES, h_MOST_RULES⟩ := T.k_MOST_RULES
  have ib_MOST_RULES : Gn mg "MOST_RULES" (some _) := ⟨h_MOST_RULES⟩
  have ib_isinstance := T.b_isinstance
  have ib_str := T.b_str
  have ib_NoGrammar : Gn mg "NoGrammar" (some _) := ⟨T.x_NoGrammar.mg⟩
  have ib_len := T.b_len
  have ib_NoRule : Gn mg "NoRule" (some _) := ⟨T.x_NoRule.mg⟩
  have hr' : Room 5 (X_read_grammar P w K mg base f cdv A outer s H E).A := hr
  replace hr := hr'
  clear hr'
  rcases h with ⟨z, rfl, hz, h1, h2⟩ | ⟨d, hd, hb, h2⟩
  case' inr =>
    kxs_still
    refine k_isStr hd ⟨_, rfl, ?_⟩
    rw [hb]
    kxs_still
    exact h2 _ (Same.refl _)
  kxs_still
  refine k_isStr (.str z (by omega)) ?_
  kxs_still
  refine iteD (fun c => ?_) fun c => ?_
  · kxs_still
    intro l1 H1 s1 n1 k1 f1
    exact h1 [] (by unfold readG; rw [if_pos c]) l1 [] H1 s1 n1 k1 ⟨rfl, fun i v e => by cases e⟩
  kxs_still
  refine e_split ?_
  kxs_still
  refine ⟨⟨_, rfl⟩, ?_⟩
  kxs_still
  refine m_split (by decide +kernel) (by omega) fun l1 H1 s1 n1 k1 _ => ?_
  have hrd : readG z = (if 60 < (Txt.split z (Str.ofString "\n")).length then none else readRows (Txt.split z (Str.ofString "\n"))) := by unfold readG; rw [if_neg c]
  have hzl : ∀ y ∈ Txt.split z (Str.ofString "\n"), y.length ≤ 100000 := fun y hy => Nat.le_trans (split_nl z y hy) hz
  have k1 : H1 l1 = some (.lst ((Txt.split z (Str.ofString "\n")).map V.str)) := k1
  generalize Txt.split z (Str.ofString "\n") = zs at *
  kxs_still
  rw [List.length_map]
  refine iteD (fun c2 => ?_) fun c2 => ?_
  · kxs_still
    exact h2 (by rw [hrd, if_pos (by omega)]) _ s1
  rw [if_neg (by omega)] at hrd
  kxs_still
  intro l2 H2 s2 n2 k2 f2
  have k12 := s2 _ _ k1
  have nl12 : l1 ≠ l2 := fun w => by rw [w, n2] at k1; cases k1
  have s02 := s1.trans s2
  kxs_still
  refine s_for (j_list ?_)
  kxs_still
  refine ⟨⟨_, SqL.of k12⟩, _, _, _, walk_list (xs := zs.map V.str), fun i σ' H' => ∃ v3 v4, σ' = [some (.str z), some (.ref l1), some (.ref l2), v3, v4] ∧ (∀ x o, x ≠ l2 → H2 x = some o → H' x = some o) ∧ ∃ rs vs, H' l2 = some (.lst vs) ∧ RulesAt H' vs rs ∧ readRows (zs.take i) = some rs ∧ rs.length = i, ⟨none, none, rfl, fun _ _ _ q => q, [], [], k2, ⟨rfl, fun i v e => by cases e⟩, rfl, rfl⟩, fun _ _ _ _ ⟨_, _, _, f, _⟩ => SqL.of (f _ _ nl12 k12), ?_, ?_⟩
  · rintro i x σ' H3 H4 hi ⟨v3, v4, rfl, fr, rs, vs, kl, hR, hrr, hrl⟩ ⟨rfl, hx⟩
    obtain ⟨w, hw, rfl⟩ := map_getG hx
    rw [List.length_map] at hi
    have s4 : Same H H4 := fun x o e => fr x o (fun q => by rw [q] at e; have := s1 _ _ e; rw [n2] at this; cases this) (s02 _ _ e)
    have hvl := hR.len
    have hwm := List.mem_of_getElem? hw
    kxs_still
    refine s_tryX T.x_NoRule (fun cls d σ' H' => cls = .ref cs.NoRule ∧ d = none ∧ readRule w = none ∧ Same H H') ?_ ?_ (fun hd => L2H.passesAt_of rfl hd)
    · rintro cls d σ' H' ⟨rfl, rfl, hn, sx⟩
      refine ⟨T.x_NoRule.exm T.s_NoRule_NoRule, fun a oe pn na tk hot => b_cons (s_raiseH hot tk T.x_NoGrammar ?_)⟩
      exact h2 (hrd.trans (readRows_bad hw hn)) _ sx
    · intro pn xe ct co
      kxs_still
      refine .inl ⟨w, rfl, hzl w hwm, fun r hr' v H5 s5 hv => ?_, fun hn H5 s5 => ⟨rfl, rfl, hn, s4.trans s5⟩⟩
      have kl5 := s5 _ _ kl
      kxs_still
      refine ⟨ty_l kl5, ?_⟩
      kxs_still
      refine m_append kl5 (by omega) fun H6 k6 f6 => ?_
      have ts := TS.butL kl5 f6
      kxs_still
      refine ⟨_, _, rfl, fun x o hx q => (f6 x hx).trans (s5 _ _ (fr x o hx q)), rs ++ [r], vs ++ [v], k6, ?_, ?_, ?_⟩
      · refine ⟨by rw [List.length_append, List.length_append, hvl]; rfl, fun j v' e => ?_⟩
        by_cases hj : j < vs.length
        · rw [List.getElem?_append_left hj] at e
          obtain ⟨r', q1, q2⟩ := hR.get j v' e
          exact ⟨r', by rw [List.getElem?_append_left (by omega)]; exact q1, (q2.more s5).ts ts⟩
        · have hj2 : j = vs.length := by
            have := (List.getElem?_eq_some_iff.mp e).1
            rw [List.length_append] at this
            simp only [List.length_cons, List.length_nil] at this
            omega
          subst hj2
          rw [List.getElem?_append_right (Nat.le_refl _), Nat.sub_self] at e
          cases e
          exact ⟨r, by rw [List.getElem?_append_right (by omega), hvl, Nat.sub_self]; rfl, hv.ts ts⟩
      · rw [readRows_take hrr hw, hr']
        rfl
      · rw [List.length_append, hrl]; rfl
  · rintro σ' H3 ⟨v3, v4, rfl, fr, rs, vs, kl, hR, hrr, hrl⟩
    rw [List.length_map, List.take_length] at hrr
    kxs_still
    exact h1 rs (hrd.trans hrr) l2 vs H3 (fun x o e => fr x o (fun q => by rw [q] at e; have := s1 _ _ e; rw [n2] at this; cases this) (s02 _ _ e)) (s1.none n2) kl hR

end
theorem df_read_grammar (T : Txt K mg cs) : Df P w K mg base "read_grammar" 6 ["text"] (sp1 (R_read_grammar K cs)) := by
  obtain ⟨f, fd, hm, F, hb⟩ := T.f_read_grammar.ex
  exact ⟨f, fd, hm, F.kp, hb, ok_read_grammar F T⟩
/-- a test of three comparisons -/
theorem t_chain3 {X : Cx} {σ : L2.St} {H : Hp} {pos : Pos} {a b c d : Expr} {op op' op2 : CmpOp} {R : Bool → Hp → Prop} (h : eW X a σ H fun x H1 => eW X b σ H1 fun y H2 => oW X (compareOp op) x y H2 fun z H3 => ∃ k, z = .bl k ∧
      (if k = true then eW X c σ H3 (fun w' H4 => oW X (compareOp op') y w' H4 fun u H5 => ∃ k, u = .bl k ∧ (if k = true then eW X d σ H5 (fun v' H6 => oW X (compareOp op2) w' v' H6 fun u H7 => ∃ k, u = .bl k ∧ R k H7) else R false H5)) else R false H3))
    (hm : lastMarks [op, op', op2] [b, c, d] = false := by with_unfolding_all rfl) : tW X (.Compare a [op, op', op2] [b, c, d] pos) σ H R := ⟨fun pins s I => by
  refine isTrue_chain (wpAny_mono (h.run pins s I) (fun v s1 ⟨x, H1, I1, r1, q1⟩ => test_link (wpAny_mono (q1.run pins s1 I1) (fun u s2 ⟨y, H2, I2, r2, q2⟩ =>
    wpAny_mono (q2.run pins s2 σ v u I2 r1 r2) (fun e s3 ⟨z, H3, I3, r3, k, e1, q3⟩ => ?_) fun _ _ z => z) fun _ _ z => z)) fun _ _ z => z) hm
  subst e1
  cases r3
  refine wpAny_truthy_bool ?_
  cases k with
  | false => exact ite_ff ⟨H3, I3, q3⟩
  | true =>
    refine ite_tt (test_link (wpAny_mono (q3.run pins s3 I3) (fun u' s4 ⟨w', H4, I4, r4, q4⟩ => wpAny_mono (q4.run pins s4 σ u u' I4 r2 r4) (fun e s5 ⟨z, H5, I5, r5, k2, e2, q5⟩ => ?_) fun _ _ z => z) fun _ _ z => z))
    subst e2
    cases r5
    refine wpAny_truthy_bool ?_
    cases k2 with
    | false => exact ite_ff ⟨H5, I5, q5⟩
    | true =>
      refine ite_tt (test_last (wpAny_mono (q5.run pins s5 I5) (fun u6 s6 ⟨v6, H6, I6, r6, q6⟩ => wpAny_mono (q6.run pins s6 σ u' u6 I6 r4 r6) (fun e s7 ⟨z, H7, I7, r7, k3, e3, q7⟩ => ?_) fun _ _ z => z) fun _ _ z => z))
      subst e3
      cases r7
      exact wpAny_truthy_bool ⟨H7, I7, q7⟩⟩
theorem o_repLL {X : Cx} {H : Hp} {Q : VK} {l : Addr} {k : Int} {xs : List V} (h : H l = some (.lst xs)) (h0 : 0 ≤ k) (h1 : k ≤ 1000) (hz : xs.length ≤ 100) (q : ∀ p H2, Same H H2 → H p = none → H2 p = some (.lst (List.replicate k.toNat xs).flatten) → Q (.ref p) H2) : oW X (binaryOp .Mult) (.ref l) (.int k) H Q :=
  oI op_rep ⟨l, k, xs, rfl, rfl, h, by omega, by omega, by
    have : xs.length * k.toNat ≤ 100 * 1000 := Nat.mul_le_mul hz (by omega)
    rw [sizeLine_eq]
    omega, fun p hp => q p _ (sameU hp) hp upd_same⟩
/-- the texts of rules hold no line feed -/
theorem rule_nl {r : Rl} (g : GoodR r) : 10 ∉ tl (showRule r) := by
  intro hc
  rw [wrote_all] at hc
  unfold wroteL at hc
  obtain ⟨m, hm⟩ := Int.eq_ofNat_of_zero_le g.lo
  simp only [List.mem_append, List.mem_cons, List.not_mem_nil, or_false, List.mem_flatMap] at hc
  rcases hc with (((hc | hc) | hc) | hc) | ⟨p, hp, hc⟩
  · exact name_free g.head (by decide) hc
  · omega
  · rw [show tl (numW r.worth) = numL m by rw [hm]; exact tl_num m] at hc
    have := numL_digits m _ hc
    omega
  · omega
  · rcases hc with hc | hc
    · omega
    · have hp' := g.parts p (List.mem_of_mem_take hp)
      unfold showPart at hc
      split at hc
      · rw [tl_q] at hc; revert hc; decide
      · rcases Bool.or_eq_true_iff.mp hp' with h | h
        · obtain ⟨c, e, hc'⟩ := sign_is h
          rw [e] at hc
          simp only [okc, Bool.and_eq_true, decide_eq_true_eq] at hc'
          simp only [List.mem_cons, List.not_mem_nil, or_false] at hc
          omega
        · exact name_free h (by decide) hc
theorem read_bad : readRule (Str.ofString "") = none := by decide +kernel
theorem join_split {L : List Str} (hne : L ≠ []) (hf : ∀ p ∈ L, 10 ∉ tl p) : Txt.split (Txt.join (Str.ofString "\n") L) (Str.ofString "\n") = L := split_join tl_nl (by decide +kernel) hne hf
/-- a joined text with a row that writes no rule, or of more than sixty rows -/
theorem readG_bad {L : List Str} (hne : L ≠ []) (hf : ∀ p ∈ L, 10 ∉ tl p) (hb : (∃ p ∈ L, readRule p = none) ∨ 60 < L.length) (h0 : Txt.join (Str.ofString "\n") L ≠ Str.ofString "") : readG (Txt.join (Str.ofString "\n") L) = none := by
  unfold readG
  rw [if_neg h0, join_split hne hf]
  by_cases c : 60 < L.length
  · rw [if_pos c]
  · rw [if_neg c]
    obtain ⟨p, hp, hr⟩ := hb.resolve_right c
    obtain ⟨i, hi⟩ := List.getElem?_of_mem hp
    exact readRows_bad hi hr
theorem readRows_show : ∀ {rs : List Rl}, (∀ r ∈ rs, GoodR r) → readRows (rs.map showRule) = some rs
  | [], _ => rfl
  | r :: rs, h => by
    show (match readRule (showRule r) with | none => none | some r' => (readRows (rs.map showRule)).map (r' :: ·)) = _
    rw [read_show (h r (List.mem_cons_self ..)), readRows_show fun x hx => h x (List.mem_cons_of_mem _ hx)]
    rfl
theorem show_ne {r : Rl} (g : GoodR r) : showRule r ≠ Str.ofString "" := fun e => by
  have := read_show g
  rw [e, read_bad] at this
  cases this
theorem join_ne {L : List Str} {p : Str} (hf : ∀ p ∈ L, 10 ∉ tl p) (hp : p ∈ L) (h : p ≠ Str.ofString "") : Txt.join (Str.ofString "\n") L ≠ Str.ofString "" := fun e => by
  have := join_split (fun z => by rw [z] at hp; cases hp) hf
  rw [e, show Txt.split (Str.ofString "") (Str.ofString "\n") = [Str.ofString ""] from by decide +kernel] at this
  rw [← this] at hp
  exact h (List.mem_singleton.mp hp)
theorem readG_show {rs : List Rl} (g : GoodG rs) : readG (showG rs) = some rs := by
  have hf : ∀ p ∈ rs.map showRule, 10 ∉ tl p := fun p hp => by
    obtain ⟨r, hr, rfl⟩ := List.mem_map.mp hp
    exact rule_nl (g.good r hr)
  cases rs with
  | nil => rfl
  | cons r rs =>
    unfold readG showG
    rw [if_neg (join_ne hf (List.mem_cons_self ..) (show_ne (g.good r (List.mem_cons_self ..)))), join_split (by simp) hf, if_neg (by rw [List.length_map]; have := g.few; omega)]
    exact readRows_show g.good
theorem joinL_len : ∀ {L : List (List Nat)}, (∀ p ∈ L, p.length ≤ 140) → (joinL [10] L).length ≤ 141 * L.length
  | [], _ => Nat.zero_le _
  | [p], h => by
    have := h p (List.mem_cons_self ..)
    show p.length ≤ 141
    omega
  | p :: q :: r, h => by
    have := h p (List.mem_cons_self ..)
    have ih := joinL_len (L := q :: r) fun x hx => h x (List.mem_cons_of_mem _ hx)
    show (p ++ ([10] ++ joinL [10] (q :: r))).length ≤ _
    rw [List.length_append, List.length_append, List.length_cons (a := p)]
    simp only [List.length_cons, List.length_nil] at ih ⊢
    omega
theorem join_len {L : List Str} (h : ∀ p ∈ L, p.length ≤ 140) : (Txt.join (Str.ofString "\n") L).length ≤ 141 * L.length := by
  rw [len_tl, join_eq, tl_join, tl_nl]
  have := joinL_len (L := L.map tl) fun p hp => by
    obtain ⟨x, hx, rfl⟩ := List.mem_map.mp hp
    rw [← len_tl]
    exact h x hx
  rwa [List.length_map] at this
theorem showG_len {rs : List Rl} (g : GoodG rs) : (showG rs).length ≤ 10000 := by
  have h := join_len (L := rs.map showRule) fun p hp => by
    obtain ⟨r, hr, rfl⟩ := List.mem_map.mp hp
    exact show_len140 (g.good r hr)
  rw [List.length_map] at h
  have := g.few
  unfold showG
  omega
def R_law_no (K : PySem.W.Frag) (cs : Cs) : V → Hp → VK → XK → Prop := fun x H Q _ => ∃ a, x = .ref a ∧ H a = some (ExK (.ref cs.NoGrammar) none a) ∧ Q (.bl true) H
section
theorem ok_law_no {f : Addr} {fd : FuncData} (F : Fun K "_law_no" "_law_no" s_law_no f fd) (T : Txt K mg cs) : FnOk P w K mg base (L2.CX P w) 1 f fd ["_law_error"] (sp1 (R_law_no K cs)) := by
  refine F.okX sc_law_no (fun vs H Q E h => sp1_len h) (fun cdv A outer s H vs Q E hr h => ⟨_, PBw (X := X_law_no P w K mg base f cdv A outer s H E), ?_⟩)
  obtain ⟨a0, rfl, h⟩ := h
  have ib_isinstance := T.b_isinstance
  have ib_NoGrammar : Gn mg "NoGrammar" (some _) := ⟨T.x_NoGrammar.mg⟩
  have ib_ValueError := T.b_ValueError
  have ib_NoRule : Gn mg "NoRule" (some _) := ⟨T.x_NoRule.mg⟩
  have ib_NoText : Gn mg "NoText" (some _) := ⟨T.x_NoText.mg⟩
  have hr' : Room 0 (X_law_no P w K mg base f cdv A outer s H E).A := hr
  replace hr := hr'
  clear hr'
  obtain ⟨a, rfl, hk, h⟩ := h
  kxs_still
  refine k_isK T.x_NoGrammar T.x_NoGrammar hk T.s_NoGrammar_NoGrammar ?_
  kxs_still
  refine k_isKV T.x_NoGrammar hk ?_
  kxs_still
  refine k_isK T.x_NoGrammar T.x_NoRule hk T.s_NoGrammar_NoRule ?_
  kxs_still
  refine k_isK T.x_NoGrammar T.x_NoText hk T.s_NoGrammar_NoText ?_
  kxs_still
  exact h
end
theorem df_law_no (T : Txt K mg cs) : Df P w K mg base "_law_no" 1 ["_law_error"] (sp1 (R_law_no K cs)) := by
  obtain ⟨f, fd, hm, F, hb⟩ := T.f_law_no.ex
  exact ⟨f, fd, hm, F.kp, hb, ok_law_no F T⟩
def R_law_unread (K : PySem.W.Frag) (cs : Cs) : V → Hp → VK → XK → Prop := fun x H Q _ => ((∃ z, x = .str z ∧ z.length ≤ 100000 ∧ readG z = none) ∨ ∃ d, Th K H x d ∧ isK d "str" = false) ∧ ∀ H', Same H H' → Q (.bl true) H'
section
set_option hygiene false in
local macro_rules | `(tactic| top_name) => `(tactic| first | refine e_call (df_law_no T) (hr.mono (by decide)) ?_ | refine e_call (df_read_grammar T) (hr.mono (by decide)) ?_)
theorem ok_law_unread {f : Addr} {fd : FuncData} (F : Fun K "_law_unread" "_law_unread" s_law_unread f fd) (T : Txt K mg cs) : FnOk P w K mg base (L2.CX P w) 7 f fd ["_law_text"] (sp1 (R_law_unread K cs)) := by
  refine F.okX sc_law_unread (fun vs H Q E h => sp1_len h) (fun cdv A outer s H vs Q E hr h => ⟨_, PBw (X := X_law_unread P w K mg base f cdv A outer s H E), ?_⟩)
  obtain ⟨a0, rfl, h⟩ := h
  have ib_ForestError : Gn mg "ForestError" (some _) := ⟨T.x_ForestError.mg⟩
  have hr' : Room 6 (X_law_unread P w K mg base f cdv A outer s H E).A := hr
  replace hr := hr'
  clear hr'
  obtain ⟨hc, h⟩ := h
  kxs_still
  refine s_tryC (fun cls d σ' H' => cls = .ref cs.NoGrammar ∧ d = none ∧ Same H H' ∧ σ' = [some a0, some .non, none]) ?_ ?_
  · rintro cls dd σ' H' ⟨rfl, rfl, sx, rfl⟩
    refine .hitAs (i := 2) sc_law_unread.nd rfl rfl ⟨rfl, by decide, .inl T.x_ForestError.mg⟩ (T.x_ForestError.exm T.s_NoGrammar_ForestError) fun a oe pn ha hz hf => ?_
    kxs_still
    intro H2 s2 k2
    kxs_still
    exact ⟨k2, h _ (sx.trans s2)⟩
  · intro pn xe ct co
    kxs_still
    rcases hc with ⟨z, rfl, hz, hn⟩ | ⟨d, hd, hb⟩
    · exact .inl ⟨z, rfl, hz, fun rs e => absurd (e.symm.trans hn) (by simp), fun _ H' s' => ⟨rfl, rfl, s', rfl⟩⟩
    · exact .inr ⟨d, hd, hb, fun H' s' => ⟨rfl, rfl, s', rfl⟩⟩
end
theorem df_law_unread (T : Txt K mg cs) : Df P w K mg base "_law_unread" 7 ["_law_text"] (sp1 (R_law_unread K cs)) := by
  obtain ⟨f, fd, hm, F, hb⟩ := T.f_law_unread.ex
  exact ⟨f, fd, hm, F.kp, hb, ok_law_unread F T⟩
def R_law_unshown (K : PySem.W.Frag) (cs : Cs) : V → Hp → VK → XK → Prop := fun x H Q _ => (∃ d, Th K H x d ∧ isGramD d = false) ∧ ∀ H', Same H H' → Q (.bl true) H'
section
set_option hygiene false in
local macro_rules | `(tactic| top_name) => `(tactic| first | refine e_call (df_law_no T) (hr.mono (by decide)) ?_ | refine e_call (df_show_grammar T) (hr.mono (by decide)) ?_)
theorem ok_law_unshown {f : Addr} {fd : FuncData} (F : Fun K "_law_unshown" "_law_unshown" s_law_unshown f fd) (T : Txt K mg cs) : FnOk P w K mg base (L2.CX P w) 7 f fd ["_law_grammar"] (sp1 (R_law_unshown K cs)) := by
  refine F.okX sc_law_unshown (fun vs H Q E h => sp1_len h) (fun cdv A outer s H vs Q E hr h => ⟨_, PBw (X := X_law_unshown P w K mg base f cdv A outer s H E), ?_⟩)
  obtain ⟨a0, rfl, h⟩ := h
  have ib_ForestError : Gn mg "ForestError" (some _) := ⟨T.x_ForestError.mg⟩
  have hr' : Room 6 (X_law_unshown P w K mg base f cdv A outer s H E).A := hr
  replace hr := hr'
  clear hr'
  obtain ⟨⟨d, hd, hb⟩, h⟩ := h
  kxs_still
  refine s_tryC (fun cls d σ' H' => cls = .ref cs.NoGrammar ∧ d = none ∧ Same H H' ∧ σ' = [some a0, some .non, none]) ?_ ?_
  · rintro cls dd σ' H' ⟨rfl, rfl, sx, rfl⟩
    refine .hitAs (i := 2) sc_law_unshown.nd rfl rfl ⟨rfl, by decide, .inl T.x_ForestError.mg⟩ (T.x_ForestError.exm T.s_NoGrammar_ForestError) fun a oe pn ha hz hf => ?_
    kxs_still
    intro H2 s2 k2
    kxs_still
    exact ⟨k2, h _ (sx.trans s2)⟩
  · intro pn xe ct co
    kxs_still
    exact .inr ⟨d, hd, hb, fun H' s' => ⟨rfl, rfl, s', rfl⟩⟩
end
theorem df_law_unshown (T : Txt K mg cs) : Df P w K mg base "_law_unshown" 7 ["_law_grammar"] (sp1 (R_law_unshown K cs)) := by
  obtain ⟨f, fd, hm, F, hb⟩ := T.f_law_unshown.ex
  exact ⟨f, fd, hm, F.kp, hb, ok_law_unshown F T⟩
def R_law_same (K : PySem.W.Frag) : V → V → Hp → VK → XK → Prop := fun x y H Q _ => ∃ (l l2 : Addr) (vs vs2 : List V) (rs : List Rl), x = .ref l ∧ H l = some (.lst vs) ∧ RulesAt H vs rs ∧ y = .ref l2 ∧ H l2 = some (.lst vs2) ∧ RulesAt H vs2 rs ∧ GoodG rs ∧ Q (.bl true) H
section
set_option hygiene false in
local macro_rules | `(tactic| top_name) => `(tactic| first | refine e_call (df_law_alike T) (hr.mono (by decide)) ?_)
theorem ok_law_same {f : Addr} {fd : FuncData} (F : Fun K "_law_same" "_law_same" s_law_same f fd) (T : Txt K mg cs) : FnOk P w K mg base (L2.CX P w) 2 f fd ["_law_found", "_law_rules_here"] (sp2 (R_law_same K)) := by
  refine F.okX sc_law_same (fun vs H Q E h => sp2_len h) (fun cdv A outer s H vs Q E hr h => ⟨_, PBw (X := X_law_same P w K mg base f cdv A outer s H E), ?_⟩)
  obtain ⟨a0, a1, rfl, h⟩ := h
  have ib_range := T.b_range
  have ib_len := T.b_len
  have ib_isinstance := T.b_isinstance
  have ib_list := T.b_list
  have hr' : Room 1 (X_law_same P w K mg base f cdv A outer s H E).A := hr
  replace hr := hr'
  clear hr'
  obtain ⟨l, l2, vs, vs2, rs, rfl, kl, hR, rfl, kl2, hR2, hG, h⟩ := h
  have hl1 := hR.len
  have hl2 := hR2.len
  have hfew := hG.few
  kxs_still
  refine k_isB (TyL kl) (b := true) (by decide +kernel) ?_
  kxs_still
  refine s_for (j_rng1 ?_)
  kxs_still
  refine ⟨by omega, by omega, _, _, _, walk_range0, fun i σ' H' => (∃ v2, σ' = [some (.ref l), some (.ref l2), v2]) ∧ H' = H, ⟨⟨_, rfl⟩, rfl⟩, fun _ _ _ _ _ => trivial, ?_, ?_⟩
  · rintro i x σ' H3 H4 hi ⟨⟨v2, rfl⟩, rfl⟩ ⟨rfl, rfl⟩
    have hi' : i < rs.length := by omega
    have e1 : vs[i]? = some vs[i] := List.getElem?_eq_getElem (by omega)
    have e2 : vs2[i]? = some vs2[i] := List.getElem?_eq_getElem (by omega)
    obtain ⟨r, q1, q2⟩ := hR.get i _ e1
    obtain ⟨r', q3, q4⟩ := hR2.get i _ e2
    obtain rfl : r = r' := Option.some.inj (q1.symm.trans q3)
    have a1 : atI vs ((i : Nat) : Int) = some vs[i] := atI_nat (by omega) (by rw [Int.toNat_natCast]; exact e1)
    have a2 : atI vs2 ((i : Nat) : Int) = some vs2[i] := atI_nat (by omega) (by rw [Int.toNat_natCast]; exact e2)
    kxs_still
    refine ⟨r, hG.good r (List.mem_of_getElem? q1), q2, q4, ?_⟩
    kxs_still
    exact ⟨⟨_, rfl⟩, rfl⟩
  · rintro σ' H3 ⟨⟨v2, rfl⟩, rfl⟩
    kxs_still
    exact h
end
theorem df_law_same (T : Txt K mg cs) : Df P w K mg base "_law_same" 2 ["_law_found", "_law_rules_here"] (sp2 (R_law_same K)) := by
  obtain ⟨f, fd, hm, F, hb⟩ := T.f_law_same.ex
  exact ⟨f, fd, hm, F.kp, hb, ok_law_same F T⟩
theorem rgc9b : ∀ m : Fin 64, (9 : Int) ≠ 0 ∧ (9 : Int).natAbs < 1073741824 ∧ Builtin.Range.small 0 ((m : Nat) : Int) 9 = true ∧ Builtin.Range.rangeSize 0 ((m : Nat) : Int) 9 = ((((m : Nat) + 8) / 9 : Nat) : Int) := by decide +kernel
theorem RulesAt.of2 {H : Hp} {vs : List V} {rs : List Rl} (h : All2 (RuleAt H) vs rs) : RulesAt H vs rs := ⟨h.len, fun i v e => h.get e⟩
theorem RulesAt.a2 {H : Hp} : ∀ {vs : List V} {rs : List Rl}, RulesAt H vs rs → All2 (RuleAt H) vs rs
  | [], [], _ => .nil
  | [], _ :: _, h => by cases h.len
  | _ :: _, [], h => by cases h.len
  | v :: vs, r :: rs, h => by
    obtain ⟨r', e, q⟩ := h.get 0 v rfl
    cases e
    exact .cons q (RulesAt.a2 ⟨Nat.succ.inj h.len, fun i v e => h.get (i + 1) v e⟩)
theorem all2_rep {α β : Type} {R : α → β → Prop} {as : List α} {bs : List β} (h : All2 R as bs) : ∀ n, All2 R (List.replicate n as).flatten (List.replicate n bs).flatten
  | 0 => .nil
  | n + 1 => by
    rw [List.replicate_succ, List.replicate_succ, List.flatten_cons, List.flatten_cons]
    exact h.app (all2_rep h n)
theorem rulesOf {H : Hp} : ∀ {ys : List V}, (∀ (i : Nat) (y : V), ys[i]? = some y → ∃ r, GoodR r ∧ RuleAt H y r) → ∃ rs, All2 (RuleAt H) ys rs ∧ ∀ r ∈ rs, GoodR r
  | [], _ => ⟨[], .nil, fun r h => by cases h⟩
  | y :: ys, h => by
    obtain ⟨r, g, h2⟩ := h 0 y rfl
    obtain ⟨rs, hR, hr⟩ := rulesOf (ys := ys) fun i z e => h (i + 1) z e
    exact ⟨r :: rs, .cons h2 hR, fun x m => by
      rcases List.mem_cons.mp m with rfl | m
      · exact g
      · exact hr x m⟩
def R_law_rules (K : PySem.W.Frag) : V → Hp → VK → XK → Prop := fun x H Q _ => ∃ (a : Addr) (ns : List Int), x = .ref a ∧ SqL K H a (ns.map V.int) ∧ ns.length ≤ 63 ∧ ∀ (l : Addr) (vs : List V) (rs : List Rl) (H' : Hp), Same H H' → H l = none → H' l = some (.lst vs) → RulesAt H' vs rs → GoodG rs → Q (.ref l) H'
section
set_option hygiene false in
local macro_rules | `(tactic| top_name) => `(tactic| first | refine e_call (df_law_rule T) (hr.mono (by decide)) ?_ | refine e_call (df_law_cell_at T) (hr.mono (by decide)) ?_)
theorem ok_law_rules {f : Addr} {fd : FuncData} (F : Fun K "_law_rules" "_law_rules" s_law_rules f fd) (T : Txt K mg cs) : FnOk P w K mg base (L2.CX P w) 4 f fd ["_law_script"] (sp1 (R_law_rules K)) := by
  refine F.okX sc_law_rules (fun vs H Q E h => sp1_len h) (fun cdv A outer s H vs Q E hr h => ⟨_, PBw (X := X_law_rules P w K mg base f cdv A outer s H E), ?_⟩)
  obtain ⟨a0, rfl, h⟩ := h
  have ib_range := T.b_range
  have ib_min := T.b_min
  have ib_len := T.b_len
  have hr' : Room 3 (X_law_rules P w K mg base f cdv A outer s H E).A := hr
  replace hr := hr'
  clear hr'
  obtain ⟨a, ns, rfl, hS, hlen, h⟩ := h
  kxs_still
  refine s_setLcH (blkOk_by (sc := defScope s_law_rules) (own := [("_law_at", 2)]) (by decide +kernel)) (fun i y H' => ∃ r, GoodR r ∧ RuleAt H' y r) (fun i y H' H'' s h => by
    obtain ⟨r, q1, q2⟩ := h
    exact ⟨r, q1, q2.ts s⟩) (j_rng3 ?_)
  kxs_still
  rw [List.length_map, if_neg (by omega)]
  refine ⟨0, ((ns.length : Nat) : Int), 9, (ns.length + 8) / 9, rfl, rgc9b ⟨ns.length, by omega⟩, _, _, _, walk_rangeC, by omega, fun _ _ => trivial, ?_, ?_⟩
  · rintro i x H4 H5 hi s4 ⟨rfl, rfl⟩
    refine ⟨Same.refl _, fun _ _ _ _ _ => ?_⟩
    kxs_still
    refine ⟨rfl, Same.refl _, fun _ _ _ _ _ => ?_⟩
    kxs_still
    refine ⟨a, ns, _, rfl, s4.seq hS, rfl, by omega, fun r v H6 g s6 hv => ?_⟩
    exact ⟨⟨r, g, hv⟩, s6⟩
  intro l1 H1 ys s1 n1 k1 hyl hys
  obtain ⟨rs, hA, hg⟩ := rulesOf hys
  have hl := hA.len
  have hS1 := s1.seq hS
  kxs_still
  refine ⟨_, _, _, rfl, hS1, rfl, by decide, ?_⟩
  kxs_still
  refine iteD (fun c => ?_) fun c => ?_
  · kxs_still
    intro l2 H2 s2 n2 k2 f2
    have k12 := s2 _ _ k1
    refine o_neNil hr.units k12 k2 ?_
    kxs_still
    refine iteND (fun c2 => ?_) fun c2 => ?_
    · kxs_still
      refine o_repLL k12 (by decide) (by decide) (by omega) fun l3 H3 s3 n3 k3 => ?_
      kxs_still
      refine n_lst (SqL.of k3) fun l4 H4 s4 n4 k4 f4 => ?_
      rw [cutV_to _ (by decide)] at k4
      have s14 := s2.trans (s3.trans s4)
      have hA4 := (all2_rep (hA.mono fun _ _ q => q.more s14) 60).take 60
      kxs_still
      refine h l4 _ _ H4 (s1.trans s14) ((s1.trans (s2.trans s3)).none n4) k4 (RulesAt.of2 hA4) ⟨by rw [List.length_take]; omega, fun r hr => ?_⟩
      obtain ⟨l, hl', hrl⟩ := List.mem_flatten.mp (List.mem_of_mem_take hr)
      rw [List.eq_of_mem_replicate hl'] at hrl
      exact hg r hrl
    · kxs_still
      exact h l1 ys rs H2 (s1.trans s2) n1 k12 (RulesAt.of2 (hA.mono fun _ _ q => q.more s2)) ⟨by omega, hg⟩
  · kxs_still
    exact h l1 ys rs H1 s1 n1 k1 (RulesAt.of2 hA) ⟨by omega, hg⟩
end
theorem df_law_rules (T : Txt K mg cs) : Df P w K mg base "_law_rules" 4 ["_law_script"] (sp1 (R_law_rules K)) := by
  obtain ⟨f, fd, hm, F, hb⟩ := T.f_law_rules.ex
  exact ⟨f, fd, hm, F.kp, hb, ok_law_rules F T⟩
def bad10 : List Str := [Str.ofString "", Str.ofString "S", Str.ofString "S 0", Str.ofString "S 0 = ", Str.ofString "S 00 =", Str.ofString "s 0 =", Str.ofString "S 0 = a", Str.ofString "S  0 =", Str.ofString "S 0 =\t", Str.ofString " S 0 ="]
theorem bad10_ok : ∀ z ∈ bad10, readRule z = none ∧ 10 ∉ tl z ∧ z.length ≤ 140 := by decide +kernel
/-- a text that is no grammar, or the empty one -/
def NoG (z : Str) : Prop := z.length ≤ 100000 ∧ (z ≠ Str.ofString "" → readG z = none)
theorem noG_join {L : List Str} (hne : L ≠ []) (hl : L.length ≤ 62) (hf : ∀ p ∈ L, 10 ∉ tl p ∧ p.length ≤ 140) (hb : (∃ p ∈ L, readRule p = none) ∨ 60 < L.length) : NoG (Txt.join (Str.ofString "\n") L) :=
  ⟨by have := join_len (L := L) fun p hp => (hf p hp).2; omega, fun h0 => readG_bad hne (fun p hp => (hf p hp).1) hb h0⟩
theorem rows_ok {rs : List Rl} (g : GoodG rs) : ∀ p ∈ rs.map showRule, 10 ∉ tl p ∧ p.length ≤ 140 := fun p hp => by
  obtain ⟨r, hr, rfl⟩ := List.mem_map.mp hp
  exact ⟨rule_nl (g.good r hr), show_len140 (g.good r hr)⟩
theorem nl_end {L : List Str} (hne : L ≠ []) : Txt.join (Str.ofString "\n") L ++ Str.ofString "\n" = Txt.join (Str.ofString "\n") (L ++ [Str.ofString ""]) := by
  have e : tl (Str.ofString "") = [] := by decide +kernel
  have j : ∀ M : List (List Nat), M ≠ [] → joinL [10] M ++ [10] = joinL [10] (M ++ [[]]) := by
    intro M
    induction M with
    | nil => intro h; exact absurd rfl h
    | cons a M ih =>
      intro _
      cases M with
      | nil => show a ++ [10] = a ++ ([10] ++ []); rw [List.append_nil]
      | cons b M =>
        show a ++ ([10] ++ joinL [10] (b :: M)) ++ [10] = a ++ ([10] ++ joinL [10] ((b :: M) ++ [[]]))
        rw [← ih (by simp)]
        simp
  refine ext_tl ?_
  rw [tl_append, join_eq, join_eq, tl_join, tl_join, tl_nl, List.map_append, List.map_cons, List.map_nil, e]
  exact j _ (by simpa using hne)
theorem nl_ahead {L : List Str} (hne : L ≠ []) : Str.ofString "\n" ++ Txt.join (Str.ofString "\n") L = Txt.join (Str.ofString "\n") (Str.ofString "" :: L) := by
  have e : tl (Str.ofString "") = [] := by decide +kernel
  refine ext_tl ?_
  rw [tl_append, join_eq, join_eq, tl_join, tl_join, tl_nl, List.map_cons, e]
  cases L with
  | nil => exact absurd rfl hne
  | cons a L => rfl
theorem jb {L : List Str} (h : ∀ p ∈ L, 10 ∉ tl p ∧ p.length ≤ 140) (hl : L.length ≤ 62) : (L.map Str.length).sum + L.length * (Str.ofString "\n").length ≤ 16777216 := by
  have q := sum_le (l := L.map Str.length) (b := 140) (by
    intro x hx
    obtain ⟨p, hp, rfl⟩ := List.mem_map.mp hx
    exact (h p hp).2)
  rw [List.length_map] at q
  rw [show (Str.ofString "\n").length = 1 from by decide +kernel]
  omega
def R_law_broken (K : PySem.W.Frag) : V → V → Hp → VK → XK → Prop := fun x y H Q _ => ∃ (a : Addr) (rs : List Rl) (i : Int), x = .ref a ∧ H a = some (.lst ((rs.map showRule).map V.str)) ∧ GoodG rs ∧ y = .int i ∧ ∀ (l : Addr) (L : List Str) (H' : Hp), Same H H' → H' l = some (.lst (L.map V.str)) → L.length ≤ 6 → (∀ z ∈ L, z.length ≤ 100000 ∧ readG z = none) → Q (.ref l) H'
section
theorem ok_law_broken {f : Addr} {fd : FuncData} (F : Fun K "_law_broken" "_law_broken" s_law_broken f fd) (T : Txt K mg cs) : FnOk P w K mg base (L2.CX P w) 1 f fd ["_law_rows", "_law_cell"] (sp2 (R_law_broken K)) := by
  refine F.okX sc_law_broken (fun vs H Q E h => sp2_len h) (fun cdv A outer s H vs Q E hr h => ⟨_, PBw (X := X_law_broken P w K mg base f cdv A outer s H E), ?_⟩)
  obtain ⟨a0, a1, rfl, h⟩ := h
  have ib_len := T.b_len
  have hr' : Room 0 (X_law_broken P w K mg base f cdv A outer s H E).A := hr
  replace hr := hr'
  clear hr'
  obtain ⟨a, rs, i, rfl, ka, hG, rfl, h⟩ := h
  have hok := rows_ok hG
  have hn : (rs.map showRule).length ≤ 60 := by rw [List.length_map]; exact hG.few
  generalize rs.map showRule = R at *
  kxs_still
  intro l1 H1 s1 n1 k1 f1
  have k1 : H1 l1 = some (.lst (bad10.map V.str)) := k1
  kxs_still
  refine o_mod (by rw [List.length_map]; omega) ?_
  rw [List.length_map]
  obtain ⟨p, hp, hpn⟩ : ∃ p : Nat, i / 10 % (((R.length : Nat) : Int) + 1) = ((p : Nat) : Int) ∧ p ≤ R.length := by
    have q0 := Int.emod_nonneg (i / 10) (show ((R.length : Nat) : Int) + 1 ≠ 0 by omega)
    have q1 := Int.emod_lt_of_pos (i / 10) (show (0 : Int) < ((R.length : Nat) : Int) + 1 by omega)
    exact ⟨(i / 10 % (((R.length : Nat) : Int) + 1)).toNat, by omega, by omega⟩
  rw [hp]
  have ka1 := s1 _ _ ka
  kxs_still
  refine e_join ?_
  kxs_still
  refine ⟨⟨_, rfl⟩, ?_⟩
  kxs_still
  refine n_lst (SqL.of ka1) fun l2 H2 s2 n2 k2 f2 => ?_
  rw [cutV_to _ (Int.natCast_nonneg _), Int.toNat_natCast, ← List.map_take] at k2
  have k12 := s2 _ _ k1
  kxs_still
  obtain ⟨v, hv, w, rfl, hw⟩ := ix_any (i := i % 10) k12 (fun v => ∃ w, v = .str w ∧ w ∈ bad10) (fun x hx => by
    obtain ⟨w, hw, rfl⟩ := List.mem_map.mp hx
    exact ⟨w, rfl, hw⟩) (by omega) (by show _ < (10 : Int); omega)
  refine i_lst (SqL.of k12) hv ?_
  kxs_still
  intro l3 H3 s3 n3 k3 f3
  have hw10 := bad10_ok w hw
  have htl : (R.take p).length ≤ 60 := Nat.le_trans (List.length_take_le' ..) hn
  have hdl : (R.drop (p + 1)).length ≤ 60 := by rw [List.length_drop]; omega
  kxs_still
  refine o_catL (s3 _ _ k2) k3 (by rw [List.length_map]; show _ + 1 ≤ _; omega) fun l4 H4 s4 n4 k4 f4 => ?_
  have s14 := s2.trans (s3.trans s4)
  kxs_still
  refine n_lst (SqL.of (s14 _ _ ka1)) fun l5 H5 s5 n5 k5 f5 => ?_
  rw [cutV_from _ (by omega), show (((p : Nat) : Int) + 1).toNat = p + 1 by omega, ← List.map_drop] at k5
  kxs_still
  refine o_catL (s5 _ _ k4) k5 (by rw [List.length_append, List.length_map, List.length_map]; show _ + 1 + _ ≤ _; omega) fun l6 H6 s6 n6 k6 f6 => ?_
  have k6' : H6 l6 = some (.lst ((R.take p ++ [w] ++ R.drop (p + 1)).map V.str)) := by rw [k6, List.map_append, List.map_append]; rfl
  have hokL : ∀ q ∈ R.take p ++ [w] ++ R.drop (p + 1), 10 ∉ tl q ∧ q.length ≤ 140 := fun q hq => by
    rcases List.mem_append.mp hq with hq | hq
    · rcases List.mem_append.mp hq with hq | hq
      · exact hok q (List.mem_of_mem_take hq)
      · rw [List.mem_singleton.mp hq]; exact hw10.2
    · exact hok q (List.mem_of_mem_drop hq)
  have hlL : (R.take p ++ [w] ++ R.drop (p + 1)).length ≤ 62 := by
    rw [List.length_append, List.length_append, List.length_take, List.length_drop]
    simp only [List.length_cons, List.length_nil]
    omega
  refine m_join (.inl (SqL.of k6')) (jb hokL hlL) ?_
  have hb1 := noG_join (L := R.take p ++ [w] ++ R.drop (p + 1)) (by simp) hlL hokL (.inl ⟨w, by simp, hw10.1⟩)
  generalize Txt.join (Str.ofString "\n") (R.take p ++ [w] ++ R.drop (p + 1)) = z1 at hb1 ⊢
  have s16 := s14.trans (s5.trans s6)
  kxs_still
  intro lb H7 s7 n7 k7 f7
  have s07 := s1.trans (s16.trans s7)
  have nlb : H lb = none := (s1.trans s16).none n7
  refine b_cons (sMono (fun σ' H' => ∃ (lb : Addr) (L : List Str), σ' = [some (.ref a), some (.int i), some (.ref l1), some (.int ((p : Nat) : Int)), some (.ref lb), none] ∧ Same H H' ∧ H lb = none ∧ H' lb = some (.lst (L.map V.str)) ∧ L.length ≤ 4 ∧ ∀ z ∈ L, NoG z) ?_ ?_)
  · have ka7 := s07 _ _ ka
    kxs_still
    intro l8 H8 s8 n8 k8 f8
    have ka8 := s8 _ _ ka7
    refine o_neNil hr.units ka8 k8 ?_
    kxs_still
    refine iteND (fun c => ?_) fun c => ?_
    · have hRne : R ≠ [] := fun e => c (by rw [e]; rfl)
      have hz2 : NoG (Txt.join (Str.ofString "\n") R ++ Str.ofString "\n") := by
        rw [nl_end hRne]
        exact noG_join (by simp) (by rw [List.length_append]; show _ + 1 ≤ _; omega) (fun q hq => by
          rcases List.mem_append.mp hq with hq | hq
          · exact hok q hq
          · rw [List.mem_singleton.mp hq]; exact (bad10_ok _ (List.mem_cons_self ..)).2) (.inl ⟨Str.ofString "", by simp, read_bad⟩)
      have hz3 : NoG (Str.ofString "\n" ++ Txt.join (Str.ofString "\n") R) := by
        rw [nl_ahead hRne]
        exact noG_join (by simp) (by rw [List.length_cons]; omega) (fun q hq => by
          rcases List.mem_cons.mp hq with rfl | hq
          · exact (bad10_ok _ (List.mem_cons_self ..)).2
          · exact hok q hq) (.inl ⟨Str.ofString "", by simp, read_bad⟩)
      have hjl := join_len (L := R) fun q hq => (hok q hq).2
      have nl1 : (Str.ofString "\n").length = 1 := by decide +kernel
      kxs_still
      refine e_join ?_
      kxs_still
      refine ⟨⟨_, rfl⟩, ?_⟩
      kxs_still
      refine m_join (.inl (SqL.of ka8)) (jb hok (by omega)) ?_
      kxs_still
      refine o_cat (by rw [nl1, sizeLine_eq]; omega) ?_
      kxs_still
      refine e_join ?_
      kxs_still
      refine ⟨⟨_, rfl⟩, ?_⟩
      kxs_still
      refine m_join (.inl (SqL.of ka8)) (jb hok (by omega)) ?_
      kxs_still
      refine o_cat (by rw [nl1, sizeLine_eq]; omega) ?_
      kxs_still
      intro l9 H9 s9 n9 k9 f9
      kxs_still
      refine o_catL (s9 _ _ (s8 _ _ k7)) k9 (by show 1 + 2 ≤ 100000; decide) fun lc H10 s10 n10 k10 f10 => ?_
      have s010 := s07.trans (s8.trans (s9.trans s10))
      have nlc : H lc = none := (s07.trans (s8.trans s9)).none n10
      kxs_still
      refine ⟨ty_l k10, ?_⟩
      kxs_still
      refine e_join ?_
      kxs_still
      refine ⟨⟨_, rfl⟩, ?_⟩
      kxs_still
      refine o_repLL (s010 _ _ ka) (by decide) (by decide) (by rw [List.length_map]; omega) fun l11 H11 s11 n11 k11 => ?_
      kxs_still
      refine n_lst (SqL.of k11) fun l12 H12 s12 n12 k12' f12 => ?_
      rw [cutV_to _ (by decide), show (61 : Int).toNat = 61 from rfl] at k12'
      have k12' : H12 l12 = some (.lst (((List.replicate 61 R).flatten.take 61).map V.str)) := by
        rw [k12', List.map_take, List.map_flatten, List.map_replicate]
      have hR61 : ((List.replicate 61 R).flatten.take 61).length = 61 := by
        have : 0 < R.length := by cases R with
          | nil => exact absurd rfl hRne
          | cons _ _ => simp
        rw [List.length_take, List.length_flatten, List.map_replicate, List.sum_replicate_nat]
        omega
      have hok61 : ∀ q ∈ (List.replicate 61 R).flatten.take 61, 10 ∉ tl q ∧ q.length ≤ 140 := fun q hq => by
        obtain ⟨M, hM, hq⟩ := List.mem_flatten.mp (List.mem_of_mem_take hq)
        rw [List.eq_of_mem_replicate hM] at hq
        exact hok q hq
      refine m_join (.inl (SqL.of k12')) (jb hok61 (by omega)) ?_
      have hz4 := noG_join (L := (List.replicate 61 R).flatten.take 61) (fun e => by rw [e] at hR61; cases hR61) (by omega) hok61 (.inr (by omega))
      have k1012 := s12 _ _ (s11 _ _ k10)
      kxs_still
      refine m_append k1012 (by show 3 < 16000000; decide) fun H13 k13 f13 => ?_
      kxs_still
      refine ⟨lc, [z1, _, _, _], rfl, fun x o e => (f13 x fun q => by rw [q, nlc] at e; cases e).trans (s12 _ _ (s11 _ _ (s010 _ _ e))), nlc, k13, by show 4 ≤ 4; decide, fun z hz => ?_⟩
      simp only [List.mem_cons, List.not_mem_nil, or_false] at hz
      rcases hz with rfl | rfl | rfl | rfl
      · exact hb1
      · exact hz2
      · exact hz3
      · exact hz4
    · kxs_still
      exact ⟨lb, [z1], rfl, s07.trans s8, nlb, s8 _ _ k7, by show 1 ≤ 4; decide, fun z hz => by rw [List.mem_singleton.mp hz]; exact hb1⟩
  clear k7 f7 n7 nlb s07 s7
  rintro σ' H7 ⟨lb, L, rfl, s07, nlb, k7, hL4, hLno⟩
  refine b_cons (sMono (fun σ' H' => ∃ (L : List Str), σ' = [some (.ref a), some (.int i), some (.ref l1), some (.int ((p : Nat) : Int)), some (.ref lb), none] ∧ Same H H' ∧ H' lb = some (.lst (L.map V.str)) ∧ L.length ≤ 6 ∧ ∀ z ∈ L, NoG z) ?_ ?_)
  · have ka7 := s07 _ _ ka
    have no : ∃ (L' : List Str), ([some (.ref a), some (.int i), some (.ref l1), some (.int ((p : Nat) : Int)), some (.ref lb), none] : L2.St) = [some (.ref a), some (.int i), some (.ref l1), some (.int ((p : Nat) : Int)), some (.ref lb), none] ∧ Same H H7 ∧ H7 lb = some (.lst (L'.map V.str)) ∧ L'.length ≤ 6 ∧ ∀ z ∈ L', NoG z := ⟨L, rfl, s07, k7, by omega, hLno⟩
    kxs_still
    refine t_chain3 ?_
    kxs_still
    refine iteD (fun c1 => ?_) fun c1 => ?_
    · kxs_still
      rw [List.length_map]
      refine iteD (fun c2 => ?_) fun c2 => ?_
      · kxs_still
        refine iteD (fun c3 => ?_) fun c3 => ?_
        · kxs_still
          refine ⟨ty_l k7, ?_⟩
          kxs_still
          refine e_join ?_
          kxs_still
          refine ⟨⟨_, rfl⟩, ?_⟩
          kxs_still
          refine n_lst (SqL.of ka7) fun m2 I2 t2 u2 j2 g2 => ?_
          rw [cutV_to _ (Int.natCast_nonneg _), Int.toNat_natCast, ← List.map_take] at j2
          kxs_still
          intro m3 I3 t3 u3 j3 g3
          kxs_still
          refine o_catL (t3 _ _ j2) j3 (by rw [List.length_map]; show _ + 1 ≤ _; omega) fun m4 I4 t4 u4 j4 g4 => ?_
          have t24 := t2.trans (t3.trans t4)
          kxs_still
          refine n_lst (SqL.of (t24 _ _ ka7)) fun m5 I5 t5 u5 j5 g5 => ?_
          rw [cutV_from _ (Int.natCast_nonneg _), Int.toNat_natCast, ← List.map_drop] at j5
          have hdl2 : (R.drop p).length ≤ 60 := by rw [List.length_drop]; omega
          kxs_still
          refine o_catL (t5 _ _ j4) j5 (by rw [List.length_append, List.length_map, List.length_map]; show _ + 1 + _ ≤ _; omega) fun m6 I6 t6 u6 j6 g6 => ?_
          have j6' : I6 m6 = some (.lst ((R.take p ++ [Str.ofString ""] ++ R.drop p).map V.str)) := by rw [j6, List.map_append, List.map_append]; rfl
          have hokM : ∀ q ∈ R.take p ++ [Str.ofString ""] ++ R.drop p, 10 ∉ tl q ∧ q.length ≤ 140 := fun q hq => by
            rcases List.mem_append.mp hq with hq | hq
            · rcases List.mem_append.mp hq with hq | hq
              · exact hok q (List.mem_of_mem_take hq)
              · rw [List.mem_singleton.mp hq]; exact (bad10_ok _ (List.mem_cons_self ..)).2
            · exact hok q (List.mem_of_mem_drop hq)
          have hlM : (R.take p ++ [Str.ofString ""] ++ R.drop p).length ≤ 62 := by
            rw [List.length_append, List.length_append, List.length_take, List.length_drop]
            simp only [List.length_cons, List.length_nil]
            omega
          refine m_join (.inl (SqL.of j6')) (jb hokM hlM) ?_
          have hb5 := noG_join (L := R.take p ++ [Str.ofString ""] ++ R.drop p) (by simp) hlM hokM (.inl ⟨Str.ofString "", by simp, read_bad⟩)
          have t26 := t24.trans (t5.trans t6)
          have k7' := t26 _ _ k7
          kxs_still
          refine m_append k7' (by rw [List.length_map]; omega) fun I7 j7 g7 => ?_
          kxs_still
          refine ⟨L ++ [Txt.join (Str.ofString "\n") (R.take p ++ [Str.ofString ""] ++ R.drop p)], rfl, fun x o e => (g7 x fun q => by rw [q, nlb] at e; cases e).trans (t26 _ _ (s07 _ _ e)), by rw [j7, List.map_append]; rfl, by rw [List.length_append]; show _ + 1 ≤ _; omega, fun z hz => ?_⟩
          rcases List.mem_append.mp hz with hz | hz
          · exact hLno z hz
          · rw [List.mem_singleton.mp hz]; exact hb5
        · kxs_still
          exact no
      · kxs_still
        exact no
    · kxs_still
      exact no
  clear k7 hL4 hLno s07
  rintro σ' H8 ⟨L, rfl, s08, k8, hL6, hLno⟩
  kxs_still
  refine e_lcI (blkOk_by (sc := defScope s_law_broken) (own := [("_law_text", 5)]) (by decide +kernel)) (j_list ?_)
  kxs_still
  refine ⟨⟨_, SqL.of k8⟩, _, _, _, walk_list (xs := L.map V.str), fun D hD => ⟨fun i H' => Same H8 H' ∧ H' D = some (.lst (((L.take i).filter fun z => !decide (z = Str.ofString "")).map V.str)), ⟨sameU hD, upd_same⟩, fun _ _ _ p => SqL.of (p.1 _ _ k8), ?_, ?_⟩⟩
  · rintro i x H' H2 hi ⟨s2, kk2⟩ ⟨rfl, hx⟩ _ _ _ _ _
    obtain ⟨z, hz, rfl⟩ := map_getG hx
    kxs_still
    refine ⟨rfl, fun _ _ _ _ _ => ?_⟩
    kxs_still
    have hsn : L.take (i + 1) = L.take i ++ [z] := by rw [List.take_add_one, hz]; rfl
    refine iteND (fun c => ?_) fun c => ?_
    · intro _ _ _ _ _
      kxs_still
      have hfl : ((L.take i).filter fun z => !decide (z = Str.ofString "")).length ≤ 6 := Nat.le_trans (List.length_filter_le _ _) (Nat.le_trans (List.length_take_le' ..) hL6)
      refine ⟨_, kk2, by rw [List.length_map, sizeLine_eq]; omega, fun b o e => ?_, ?_⟩
      · rw [upd_ne fun w => by rw [w, hD] at e; cases e]
        exact s2 _ _ e
      · rw [upd_same, hsn, List.filter_append, List.filter_cons_of_pos (by rw [decide_eq_false c]; rfl), List.filter_nil, List.map_append]
        rfl
    · refine ⟨s2, ?_⟩
      rw [kk2, hsn, List.filter_append, List.filter_cons_of_neg (by rw [decide_eq_true c]; exact Bool.false_ne_true), List.filter_nil, List.append_nil]
  · rintro H' ⟨s2, kk2⟩
    rw [List.length_map, List.take_length] at kk2
    refine h D _ H' (s08.trans s2) kk2 (Nat.le_trans (List.length_filter_le _ _) hL6) fun z hz => ?_
    obtain ⟨h1, h2⟩ := List.mem_filter.mp hz
    have hz2 : z ≠ Str.ofString "" := fun e => by rw [decide_eq_true e] at h2; cases h2
    exact ⟨(hLno z h1).1, (hLno z h1).2 hz2⟩
end
theorem df_law_broken (T : Txt K mg cs) : Df P w K mg base "_law_broken" 1 ["_law_rows", "_law_cell"] (sp2 (R_law_broken K)) := by
  obtain ⟨f, fd, hm, F, hb⟩ := T.f_law_broken.ex
  exact ⟨f, fd, hm, F.kp, hb, ok_law_broken F T⟩
theorem th_each {K : PySem.W.Frag} {H : Hp} : ∀ {xs : List V}, (∀ x ∈ xs, ∃ d, Th K H x d) → ∃ ds, ThAll K H xs ds ∧ ds.length = xs.length
  | [], _ => ⟨[], .nil, rfl⟩
  | x :: xs, h => by
    obtain ⟨d, hd⟩ := h x (List.mem_cons_self ..)
    obtain ⟨ds, h1, h2⟩ := th_each (xs := xs) fun y hy => h y (List.mem_cons_of_mem _ hy)
    exact ⟨d :: ds, .cons hd h1, congrArg Nat.succ h2⟩
theorem th_app' {K : PySem.W.Frag} {H : Hp} : ∀ {xs ys : List V} {ds es : List PyData}, ThAll K H xs ds → ThAll K H ys es → ThAll K H (xs ++ ys) (ds ++ es)
  | _, _, _, _, .nil, h => h
  | _, _, _, _, .cons a t, h => .cons a (th_app' t h)
theorem rules_th {K : PySem.W.Frag} {H : Hp} {vs : List V} {rs : List Rl} (hR : RulesAt H vs rs) (g : GoodG rs) : ThAll K H vs (rs.map ruleD) := hR.th g.good
theorem spoilt_end (rs : List Rl) : isGramD (.list (rs.map ruleD ++ [.none])) = false := by
  show (decide ((rs.map ruleD ++ [PyData.none]).length ≤ 60) && (rs.map ruleD ++ [PyData.none]).all isRuleD) = false
  rw [List.all_append]
  have : [PyData.none].all isRuleD = false := rfl
  rw [this, Bool.and_false, Bool.and_false]
theorem spoilt_start (ds : List PyData) : isGramD (.list ([.tuple [.str (Str.ofString "S"), .list [], .int 0]] ++ ds)) = false := by
  show (decide (([PyData.tuple [.str (Str.ofString "S"), .list [], .int 0]] ++ ds).length ≤ 60) && ([PyData.tuple [.str (Str.ofString "S"), .list [], .int 0]] ++ ds).all isRuleD) = false
  rw [List.all_append]
  have : [PyData.tuple [.str (Str.ofString "S"), .list [], .int 0]].all isRuleD = false := by decide +kernel
  rw [this, Bool.false_and, Bool.and_false]
theorem spoilt_long {ds : List PyData} (h : ¬ ds.length ≤ 60) : isGramD (.list ds) = false := by
  show (decide (ds.length ≤ 60) && ds.all isRuleD) = false
  rw [decide_eq_false h, Bool.false_and]
section
set_option hygiene false in
local macro_rules | `(tactic| top_name) => `(tactic| first | refine e_call (df_law_rules T) (hr.mono (by decide)) ?_ | refine e_call (df_show_grammar T) (hr.mono (by decide)) ?_ | refine e_call (df_read_grammar T) (hr.mono (by decide)) ?_ | refine e_call (df_law_broken T) (hr.mono (by decide)) ?_ | refine e_call (df_law_written T) (hr.mono (by decide)) ?_ | refine e_call (df_law_same T) (hr.mono (by decide)) ?_ | refine e_call (df_law_cell_at T) (hr.mono (by decide)) ?_ | refine e_call (df_law_unread T) (hr.mono (by decide)) ?_ | refine e_call (df_law_unshown T) (hr.mono (by decide)) ?_)
theorem ok_law {f : Addr} {fd : FuncData} (F : Fun K "law" "law" s_law f fd) (T : Txt K mg cs) : FnOk P w K mg base (L2.CX P w) 8 f fd ["_law_script"] (sp1 (R_law K)) := by
  refine F.okX sc_law (fun vs H Q E h => sp1_len h) (fun cdv A outer s H vs Q E hr h => ⟨_, PBw (X := X_law P w K mg base f cdv A outer s H E), ?_⟩)
  obtain ⟨a0, rfl, h⟩ := h
  have ib_list := T.b_list
  have ib_tuple := T.b_tuple
  have ib_isinstance := T.b_isinstance
  have ib_str := T.b_str
  have hr' : Room 7 (X_law P w K mg base f cdv A outer s H E).A := hr
  replace hr := hr'
  clear hr'
  obtain ⟨a, ns, rfl, hS, hlen, h⟩ := h
  kxs_still
  refine ⟨a, ns, rfl, hS, hlen, fun l1 vs rs H1 s1 n1 k1 hR hG => ?_⟩
  have hvl := hR.len
  have hfew := hG.few
  have hok := rows_ok hG
  have hS1 := s1.seq hS
  kxs_still
  refine s_setLcP (blkOk_by (sc := defScope s_law) (own := [("_law_rule_here", 3)]) (by decide +kernel)) (fun i y => ∃ r, rs[i]? = some r ∧ y = V.str (showRule r)) (j_list ?_)
  kxs_still
  refine ⟨⟨_, SqL.of k1⟩, _, _, _, walk_list (xs := vs), by omega, fun H' s' => SqL.of (s' _ _ k1), ?_, ?_⟩
  · rintro i x H4 H5 hi s4 ⟨rfl, hx⟩
    obtain ⟨r, hr1, hv⟩ := hR.get i x hx
    refine ⟨Same.refl _, fun _ _ _ _ _ => ?_⟩
    kxs_still
    refine ⟨rfl, Same.refl _, fun _ _ _ _ _ => ?_⟩
    kxs_still
    refine ⟨r, hv.more s4, hG.good r (List.mem_of_getElem? hr1), ?_⟩
    exact ⟨⟨r, hr1, rfl⟩, Same.refl _⟩
  intro l2 H2 ys s2 n2 k2 hyl hys
  have hyE : ys = (rs.map showRule).map V.str := by
    apply List.ext_getElem?
    intro i
    cases e : ys[i]? with
    | none =>
      have := List.getElem?_eq_none_iff.mp e
      rw [List.getElem?_eq_none (by rw [List.length_map, List.length_map]; omega)]
    | some y =>
      obtain ⟨r, q, rfl⟩ := hys i y e
      rw [List.getElem?_map, List.getElem?_map, q]
      rfl
  subst hyE
  clear hys hyl
  kxs_still
  refine e_join ?_
  kxs_still
  refine ⟨⟨_, rfl⟩, ?_⟩
  kxs_still
  refine m_join (.inl (SqL.of k2)) (jb hok (by rw [List.length_map]; omega)) ?_
  rw [show Txt.join (Str.ofString "\n") (rs.map showRule) = showG rs from rfl]
  have hgl := showG_len hG
  have hgr := readG_show hG
  have k12 := s2 _ _ k1
  kxs_still
  refine k_listL (.inl (SqL.of k12)) fun l3 H3 s3 n3 k3 f3 => ?_
  have hR3 := hR.ts (Same.ts (s2.trans s3))
  kxs_still
  refine .inl ⟨l3, vs, rs, ⟨rfl, SqL.of k3, hR3, hG⟩, fun H4 s4 => ?_⟩
  kxs_still
  refine k_isB (TyB.2.2.1 _) (b := true) (by decide +kernel) ?_
  kxs_still
  have k14 := s4 _ _ (s3 _ _ k12)
  have hR4 := hR3.ts (Same.ts s4)
  refine o_neD hr.units (GramAt.dp ⟨rfl, SqL.of (s4 _ _ k3), hR4, hG⟩) (GramAt.dp ⟨rfl, SqL.of k14, hR4, hG⟩) (gram_sh hG.good).ok (gram_sh hG.good).ok ?_
  rw [(gram_sh hG.good).refl]
  kxs_still
  refine .inl ⟨_, rfl, by omega, fun rs' e l5 vs5 H5 s5 n5 k5 hR5 => ?_, fun e => absurd (e.symm.trans hgr) (by simp)⟩
  obtain rfl : rs = rs' := Option.some.inj (hgr.symm.trans e)
  have k15 := s5 _ _ k14
  have hRv5 := hR4.ts (Same.ts s5)
  have hv5l := hR5.len
  kxs_still
  refine ⟨l5, l1, vs5, vs, rs, rfl, k5, hR5, rfl, k15, hRv5, hG, ?_⟩
  kxs_still
  refine ⟨ty_l k5, ?_⟩
  kxs_still
  intro t6 H6 s6 n6 k6 f6
  kxs_still
  intro t7 H7 s7 n7 k7 f7
  have k57 := s7 _ _ (s6 _ _ k5)
  kxs_still
  refine m_append k57 (by omega) fun H8 k8 f8 => ?_
  have s48 : Same H4 H8 := fun x o e => (f8 x fun w => by rw [w, n5] at e; cases e).trans (s7 _ _ (s6 _ _ (s5 _ _ e)))
  have s28 : Same H2 H8 := s3.trans (s4.trans s48)
  have s18 : Same H1 H8 := s2.trans s28
  kxs_still
  refine s_for (j_list ?_)
  kxs_still
  refine ⟨_, _, _, rfl, s18.seq hS1, rfl, by decide, ?_⟩
  kxs_still
  refine o_mulS (.inr ⟨by decide, by decide⟩) ?_
  kxs_still
  refine ⟨_, _, _, rfl, s18.seq hS1, rfl, by decide, ?_⟩
  kxs_still
  refine ⟨l2, rs, _, rfl, s28 _ _ k2, hG, rfl, fun l9 L H9 s9 k9 hL6 hL => ?_⟩
  refine ⟨l9, rfl, ⟨_, SqL.of k9⟩, _, _, _, walk_list (xs := L.map V.str), fun i σ' H' => (∃ v8, σ' = [some (.ref a), some (.ref l1), some (.ref l2), none, some (.str (showG rs)), some (.ref l3), some (.str (showG rs)), some (.ref l5), v8, none, none]) ∧ Same H9 H', ⟨⟨_, rfl⟩, Same.refl _⟩, fun _ _ _ _ ⟨_, s⟩ => SqL.of (s _ _ k9), ?_, ?_⟩
  · rintro i x σ' H10 H11 hi ⟨⟨v8, rfl⟩, s11⟩ ⟨rfl, hx⟩
    obtain ⟨z, hz, rfl⟩ := map_getG hx
    obtain ⟨z1, z2⟩ := hL z (List.mem_of_getElem? hz)
    kxs_still
    refine ⟨.inl ⟨z, rfl, z1, z2⟩, fun H12 s12 => ?_⟩
    kxs_still
    exact ⟨⟨_, rfl⟩, s11.trans s12⟩
  rintro σ' H10 ⟨⟨v8, rfl⟩, s10⟩
  have s110 := s18.trans (s9.trans s10)
  have k110 := s110 _ _ k1
  have hR10 := hR.ts (Same.ts s110)
  kxs_still
  refine s_for (j_list ?_)
  kxs_still
  intro l12 H12 s12 n12 kk12 f12
  kxs_still
  intro l13 H13 s13 n13 kk13 f13
  kxs_still
  intro t14 H14 s14 n14 kk14 f14
  kxs_still
  intro l15 H15 s15 n15 kk15 f15
  kxs_still
  have s1015 := s12.trans (s13.trans (s14.trans s15))
  have s115 := s110.trans s1015
  obtain ⟨xs, kx, hxs⟩ : ∃ xs : List V, H15 l15 = some (.lst xs) ∧ ∀ x ∈ xs, ∃ d, Th K H15 x d ∧ isK d "str" = false := by
    refine ⟨_, kk15, fun x hx => ?_⟩
    have hl6 : (showG rs).length ≤ 1000000 := by omega
    simp only [List.mem_cons, List.not_mem_nil, or_false] at hx
    rcases hx with rfl | rfl | rfl | rfl | rfl | rfl
    · exact ⟨_, .non, rfl⟩
    · exact ⟨_, .int _, rfl⟩
    · exact ⟨_, .lst (SqL.of ((s13.trans (s14.trans s15)) _ _ kk12)) .nil, rfl⟩
    · exact ⟨_, .lst (SqL.of ((s14.trans s15) _ _ kk13)) (.cons (.str _ hl6) .nil), rfl⟩
    · exact ⟨_, .tup (SqT.of (s15 _ _ kk14)) (.cons (.str _ hl6) .nil), rfl⟩
    · exact ⟨_, .lst (SqL.of (s115 _ _ k1)) (rules_th (hR.ts (Same.ts s115)) hG), rfl⟩
  clear kk12 kk13 kk14 kk15
  refine ⟨⟨_, SqL.of kx⟩, _, _, _, walk_list (xs := xs), fun i σ' H' => (∃ v8 v9, σ' = [some (.ref a), some (.ref l1), some (.ref l2), none, some (.str (showG rs)), some (.ref l3), some (.str (showG rs)), some (.ref l5), v8, v9, none]) ∧ Same H15 H', ⟨⟨_, _, rfl⟩, Same.refl _⟩, fun _ _ _ _ ⟨_, s⟩ => SqL.of (s _ _ kx), ?_, ?_⟩
  · rintro i x σ' H16 H17 hi ⟨⟨v8, v9, rfl⟩, s17⟩ ⟨rfl, hx⟩
    obtain ⟨d, hd, hb⟩ := hxs x (List.mem_of_getElem? hx)
    kxs_still
    refine ⟨.inr ⟨d, hd.more s17, hb⟩, fun H18 s18 => ?_⟩
    kxs_still
    exact ⟨⟨_, _, rfl⟩, s17.trans s18⟩
  clear hxs kx
  rintro σ' H16 ⟨⟨v8', v9, rfl⟩, s16⟩
  have s116 := s115.trans s16
  have k116 := s116 _ _ k1
  have hR16 := hR.ts (Same.ts s116)
  kxs_still
  refine k_tupL (SqL.of k116) fun t20 H20 s20 n20 k20 f20 => ?_
  kxs_still
  intro l21 H21 s21 n21 k21 f21
  kxs_still
  refine o_catL ((s20.trans s21) _ _ k116) k21 (by show _ + 1 ≤ _; omega) fun l22 H22 s22 n22 k22 f22 => ?_
  kxs_still
  intro l23 H23 s23 n23 k23 f23
  kxs_still
  intro t24 H24 s24 n24 k24 f24
  kxs_still
  intro l25 H25 s25 n25 k25 f25
  have s2025 := s20.trans (s21.trans (s22.trans (s23.trans (s24.trans s25))))
  have k1_25 := s2025 _ _ k116
  kxs_still
  refine o_catL k25 k1_25 (by show 1 + _ ≤ _; omega) fun l26 H26 s26 n26 k26 f26 => ?_
  kxs_still
  intro t27 H27 s27 n27 k27 f27
  kxs_still
  intro t28 H28 s28' n28 k28 f28
  kxs_still
  intro l29 H29 s29 n29 k29 f29
  kxs_still
  refine o_repLL k29 (by decide) (by decide) (by show 1 ≤ 100; decide) fun l30 H30 s30 n30 k30 => ?_
  have s2530 := s26.trans (s27.trans (s28'.trans (s29.trans s30)))
  kxs_still
  refine o_catL (s2530 _ _ k1_25) k30 (by rw [List.length_flatten, List.map_replicate, List.sum_replicate_nat]; show _ + 61 * 1 ≤ _; omega) fun l31 H31 s31 n31 k31 f31 => ?_
  kxs_still
  refine n_lst (SqL.of k31) fun l32 H32 s32 n32 k32 f32 => ?_
  rw [cutV_to _ (by decide), show (61 : Int).toNat = 61 from rfl] at k32
  kxs_still
  intro l33 H33 s33 n33 k33 f33
  have s2533 := s2530.trans (s31.trans (s32.trans s33))
  have s1633 := s2025.trans s2533
  have hR33 := hR16.ts (Same.ts s1633)
  have hth := rules_th (K := K) hR33 hG
  obtain ⟨xs, kx, hxs⟩ : ∃ xs : List V, H33 l33 = some (.lst xs) ∧ ∀ x ∈ xs, ∃ d, Th K H33 x d ∧ isGramD d = false := by
    refine ⟨_, k33, fun x hx => ?_⟩
    have hl6 : (showG rs).length ≤ 1000000 := by omega
    have u22 : Same H22 H33 := s23.trans (s24.trans (s25.trans s2533))
    simp only [List.mem_cons, List.not_mem_nil, or_false] at hx
    rcases hx with rfl | rfl | rfl | rfl | rfl | rfl
    · exact ⟨_, .non, rfl⟩
    · exact ⟨_, .str _ hl6, rfl⟩
    · exact ⟨_, .tup (SqT.of ((s21.trans (s22.trans u22)) _ _ k20)) hth, rfl⟩
    · exact ⟨_, .lst (SqL.of (u22 _ _ k22)) (hth.app (.cons .non .nil)), spoilt_end rs⟩
    · have u26 : Same H26 H33 := s27.trans (s28'.trans (s29.trans (s30.trans (s31.trans (s32.trans s33)))))
      exact ⟨_, .lst (SqL.of (u26 _ _ k26)) (ThAll.app (.cons (.tup (SqT.of ((s25.trans s2533) _ _ k24)) (.cons (.str _ (by decide +kernel)) (.cons (.lst (SqL.of ((s24.trans (s25.trans s2533)) _ _ k23)) .nil) (.cons (.int _) .nil)))) .nil) hth), spoilt_start _⟩
    · have u28 : Same H28 H33 := s29.trans (s30.trans (s31.trans (s32.trans s33)))
      have hone : Th K H33 (.ref t28) (.tuple [.str (Str.ofString "S"), .tuple [], .int 0]) := .tup (SqT.of (u28 _ _ k28)) (.cons (.str _ (by decide +kernel)) (.cons (.tup (SqT.of ((s28'.trans u28) _ _ k27)) .nil) (.cons (.int _) .nil)))
      obtain ⟨ds, hds, hdl⟩ := th_each (K := K) (H := H33) (xs := (vs ++ (List.replicate (61 : Int).toNat [V.ref t28]).flatten).take 61) fun x hx => by
        rcases List.mem_append.mp (List.mem_of_mem_take hx) with hx | hx
        · obtain ⟨j, hj⟩ := List.getElem?_of_mem hx
          obtain ⟨d, _, hd⟩ := hth.get hj
          exact ⟨d, hd⟩
        · obtain ⟨M, hM, hx⟩ := List.mem_flatten.mp hx
          rw [List.eq_of_mem_replicate hM] at hx
          rw [List.mem_singleton.mp hx]
          exact ⟨_, hone⟩
      refine ⟨_, .lst (SqL.of (s33 _ _ k32)) hds, spoilt_long ?_⟩
      rw [hdl, List.length_take, List.length_append, List.length_flatten, List.map_replicate, List.sum_replicate_nat, show (61 : Int).toNat = 61 from rfl]
      show ¬ min 61 (vs.length + 61 * 1) ≤ 60
      omega
  clear k20 k21 k22 k23 k24 k25 k26 k27 k28 k29 k30 k31 k32 k33 hth
  kxs_still
  refine s_for (j_list ?_)
  kxs_still
  refine ⟨⟨_, SqL.of kx⟩, _, _, _, walk_list (xs := xs), fun i σ' H' => (∃ v9, σ' = [some (.ref a), some (.ref l1), some (.ref l2), none, some (.str (showG rs)), some (.ref l3), some (.str (showG rs)), some (.ref l5), v8', v9, some (.ref l33)]) ∧ Same H33 H', ⟨⟨_, rfl⟩, Same.refl _⟩, fun _ _ _ _ ⟨_, s⟩ => SqL.of (s _ _ kx), ?_, ?_⟩
  · rintro i x σ' H34 H35 hi ⟨⟨v9, rfl⟩, s35⟩ ⟨rfl, hx⟩
    obtain ⟨d, hd, hb⟩ := hxs x (List.mem_of_getElem? hx)
    kxs_still
    refine ⟨⟨d, hd.more s35, hb⟩, fun H36 s36 => ?_⟩
    kxs_still
    exact ⟨⟨_, rfl⟩, s35.trans s36⟩
  rintro σ' H34 ⟨⟨v9', rfl⟩, s34⟩
  have s134 := s116.trans (s1633.trans s34)
  have k134 := s134 _ _ k1
  have hR34 := hR.ts (Same.ts s134)
  kxs_still
  refine .inl ⟨_, rfl, by omega, fun rs' e l36 vs36 H36 s36 n36 k36 hR36 => ?_, fun e => absurd (e.symm.trans hgr) (by simp)⟩
  obtain rfl : rs = rs' := Option.some.inj (hgr.symm.trans e)
  have k136 := s36 _ _ k134
  have hRv36 := hR34.ts (Same.ts s36)
  kxs_still
  refine ⟨l36, l1, vs36, vs, rs, rfl, k36, hR36, rfl, k136, hRv36, hG, ?_⟩
  kxs_still
  refine .inl ⟨l1, vs, rs, ⟨rfl, SqL.of k136, hRv36, hG⟩, fun H37 s37 => ?_⟩
  kxs_still
  rw [decide_eq_true rfl]
  exact h _

end
end
theorem all_mk {l : PySem.W.OpenLaw} {w : World} {K : PySem.W.Frag} {h : Heap} {mg : Str → Option Value} {fa C_ForestError C_NoGrammar C_NoText C_NoRule f_is_whole f_may_stand f_is_sign f_is_name f_are_parts f_is_rule f_checked f_read_figures f_show_part f_read_part f_show_rule f_show_grammar f_read_rule f_read_grammar f_law_cell_at f_law_sign f_law_name f_law_part f_law_worth f_law_rule f_law_written f_law_alike f_law_rules f_law_same f_law_no f_law_unread f_law_unshown f_law_broken f_law : Addr} (X : K.In h) (G : h.Ns mainGlobals mg) (hfa : mg "law" = some (.ref fa))
    {t_MOST_RULES : Tok}
    {t_MOST_PARTS : Tok}
    {t_MOST_WORTH : Tok}
    {t_FIGURES : Tok}
    {t_MOST_FIGURES : Tok}
    {od_is_whole an_is_whole : Option Addr} {sl_is_whole : Array (Option Value)} {oc_is_whole kV_is_whole dc_is_whole pm_is_whole cd_is_whole ct_is_whole : Value}
    {od_may_stand an_may_stand : Option Addr} {sl_may_stand : Array (Option Value)} {oc_may_stand kV_may_stand dc_may_stand pm_may_stand cd_may_stand ct_may_stand : Value}
    {od_is_sign an_is_sign : Option Addr} {sl_is_sign : Array (Option Value)} {oc_is_sign kV_is_sign dc_is_sign pm_is_sign cd_is_sign ct_is_sign : Value}
    {od_is_name an_is_name : Option Addr} {sl_is_name : Array (Option Value)} {oc_is_name kV_is_name dc_is_name pm_is_name cd_is_name ct_is_name : Value}
    {od_are_parts an_are_parts : Option Addr} {sl_are_parts : Array (Option Value)} {oc_are_parts kV_are_parts dc_are_parts pm_are_parts cd_are_parts ct_are_parts : Value}
    {od_is_rule an_is_rule : Option Addr} {sl_is_rule : Array (Option Value)} {oc_is_rule kV_is_rule dc_is_rule pm_is_rule cd_is_rule ct_is_rule : Value}
    {od_checked an_checked : Option Addr} {sl_checked : Array (Option Value)} {oc_checked kV_checked dc_checked pm_checked cd_checked ct_checked : Value}
    {od_read_figures an_read_figures : Option Addr} {sl_read_figures : Array (Option Value)} {oc_read_figures kV_read_figures dc_read_figures pm_read_figures cd_read_figures ct_read_figures : Value}
    {od_show_part an_show_part : Option Addr} {sl_show_part : Array (Option Value)} {oc_show_part kV_show_part dc_show_part pm_show_part cd_show_part ct_show_part : Value}
    {od_read_part an_read_part : Option Addr} {sl_read_part : Array (Option Value)} {oc_read_part kV_read_part dc_read_part pm_read_part cd_read_part ct_read_part : Value}
    {od_show_rule an_show_rule : Option Addr} {sl_show_rule : Array (Option Value)} {oc_show_rule kV_show_rule dc_show_rule pm_show_rule cd_show_rule ct_show_rule : Value}
    {od_show_grammar an_show_grammar : Option Addr} {sl_show_grammar : Array (Option Value)} {oc_show_grammar kV_show_grammar dc_show_grammar pm_show_grammar cd_show_grammar ct_show_grammar : Value}
    {od_read_rule an_read_rule : Option Addr} {sl_read_rule : Array (Option Value)} {oc_read_rule kV_read_rule dc_read_rule pm_read_rule cd_read_rule ct_read_rule : Value}
    {od_read_grammar an_read_grammar : Option Addr} {sl_read_grammar : Array (Option Value)} {oc_read_grammar kV_read_grammar dc_read_grammar pm_read_grammar cd_read_grammar ct_read_grammar : Value}
    {od_law_cell_at an_law_cell_at : Option Addr} {sl_law_cell_at : Array (Option Value)} {oc_law_cell_at kV_law_cell_at dc_law_cell_at pm_law_cell_at cd_law_cell_at ct_law_cell_at : Value}
    {od_law_sign an_law_sign : Option Addr} {sl_law_sign : Array (Option Value)} {oc_law_sign kV_law_sign dc_law_sign pm_law_sign cd_law_sign ct_law_sign : Value}
    {od_law_name an_law_name : Option Addr} {sl_law_name : Array (Option Value)} {oc_law_name kV_law_name dc_law_name pm_law_name cd_law_name ct_law_name : Value}
    {od_law_part an_law_part : Option Addr} {sl_law_part : Array (Option Value)} {oc_law_part kV_law_part dc_law_part pm_law_part cd_law_part ct_law_part : Value}
    {od_law_worth an_law_worth : Option Addr} {sl_law_worth : Array (Option Value)} {oc_law_worth kV_law_worth dc_law_worth pm_law_worth cd_law_worth ct_law_worth : Value}
    {od_law_rule an_law_rule : Option Addr} {sl_law_rule : Array (Option Value)} {oc_law_rule kV_law_rule dc_law_rule pm_law_rule cd_law_rule ct_law_rule : Value}
    {od_law_written an_law_written : Option Addr} {sl_law_written : Array (Option Value)} {oc_law_written kV_law_written dc_law_written pm_law_written cd_law_written ct_law_written : Value}
    {od_law_alike an_law_alike : Option Addr} {sl_law_alike : Array (Option Value)} {oc_law_alike kV_law_alike dc_law_alike pm_law_alike cd_law_alike ct_law_alike : Value}
    {od_law_rules an_law_rules : Option Addr} {sl_law_rules : Array (Option Value)} {oc_law_rules kV_law_rules dc_law_rules pm_law_rules cd_law_rules ct_law_rules : Value}
    {od_law_same an_law_same : Option Addr} {sl_law_same : Array (Option Value)} {oc_law_same kV_law_same dc_law_same pm_law_same cd_law_same ct_law_same : Value}
    {od_law_no an_law_no : Option Addr} {sl_law_no : Array (Option Value)} {oc_law_no kV_law_no dc_law_no pm_law_no cd_law_no ct_law_no : Value}
    {od_law_unread an_law_unread : Option Addr} {sl_law_unread : Array (Option Value)} {oc_law_unread kV_law_unread dc_law_unread pm_law_unread cd_law_unread ct_law_unread : Value}
    {od_law_unshown an_law_unshown : Option Addr} {sl_law_unshown : Array (Option Value)} {oc_law_unshown kV_law_unshown dc_law_unshown pm_law_unshown cd_law_unshown ct_law_unshown : Value}
    {od_law_broken an_law_broken : Option Addr} {sl_law_broken : Array (Option Value)} {oc_law_broken kV_law_broken dc_law_broken pm_law_broken cd_law_broken ct_law_broken : Value}
    {od_law an_law : Option Addr} {sl_law : Array (Option Value)} {oc_law kV_law dc_law pm_law cd_law ct_law : Value}
    (b_ValueError : PySem.W.nsIn K mainGlobals "ValueError" = some none)
    (b_bool : PySem.W.nsIn K mainGlobals "bool" = some none)
    (b_int : PySem.W.nsIn K mainGlobals "int" = some none)
    (b_isinstance : PySem.W.nsIn K mainGlobals "isinstance" = some none)
    (b_len : PySem.W.nsIn K mainGlobals "len" = some none)
    (b_list : PySem.W.nsIn K mainGlobals "list" = some none)
    (b_min : PySem.W.nsIn K mainGlobals "min" = some none)
    (b_ord : PySem.W.nsIn K mainGlobals "ord" = some none)
    (b_range : PySem.W.nsIn K mainGlobals "range" = some none)
    (b_str : PySem.W.nsIn K mainGlobals "str" = some none)
    (b_tuple : PySem.W.nsIn K mainGlobals "tuple" = some none)
    (k_MOST_RULES : PySem.W.nsIn K mainGlobals "MOST_RULES" = some (some (.int (60) t_MOST_RULES)))
    (k_MOST_PARTS : PySem.W.nsIn K mainGlobals "MOST_PARTS" = some (some (.int (6) t_MOST_PARTS)))
    (k_MOST_WORTH : PySem.W.nsIn K mainGlobals "MOST_WORTH" = some (some (.int (1000000000000000000000000000000000000000000000000000000000000) t_MOST_WORTH)))
    (k_FIGURES : PySem.W.nsIn K mainGlobals "FIGURES" = some (some (.str ("0123456789") t_FIGURES)))
    (k_MOST_FIGURES : PySem.W.nsIn K mainGlobals "MOST_FIGURES" = some (some (.int (61) t_MOST_FIGURES)))
    (g_ForestError : PySem.W.nsIn K mainGlobals "ForestError" = some (some (.ref C_ForestError)))
    (ex_ForestError : PySem.W.excIn K C_ForestError [.type "ValueError", .type "Exception", .type "BaseException", .type "object"] "ValueError.__new__" = true)
    (kc_ForestError : PySem.W.keepIn K (.ref C_ForestError) = true)
    (bc_ForestError : PySem.W.subIn K (.ref C_ForestError) (.type "BaseException") = some true)
    (tc_ForestError : PySem.W.typeIn K (.ref C_ForestError) = some (.type "type"))
    (ic_ForestError : PySem.W.isClsIn K C_ForestError = true)
    (ga_ForestError : PySem.W.findIn K (.ref C_ForestError) "__getattribute__" = some (some (.builtin "BaseException.__getattribute__")))
    (gk_ForestError : PySem.W.findIn K (.ref C_ForestError) "__getattr__" = some none)
    (hd_ForestError : PySem.W.hasDictIn K C_ForestError = true)
    (ha_ForestError : PySem.W.findIn K (.ref C_ForestError) "__class__" = some (some (.builtin "object.__class__")))
    (hn_ForestError : PySem.W.specialIn K (.builtin "object.__class__") "__get__" = some (some (.builtin "getset_descriptor.__get__")))
    (ht_ForestError : PySem.W.takesIn K (.builtin "object.__class__") = some true)
    (hm_ForestError : PySem.W.mroIn K C_ForestError (.type "object") = some true)
    (ve_ForestError : PySem.W.subIn K (.ref C_ForestError) (.type "ValueError") = some true)
    (g_NoGrammar : PySem.W.nsIn K mainGlobals "NoGrammar" = some (some (.ref C_NoGrammar)))
    (ex_NoGrammar : PySem.W.excIn K C_NoGrammar [.type "ValueError", .type "Exception", .type "BaseException", .type "object"] "ValueError.__new__" = true)
    (kc_NoGrammar : PySem.W.keepIn K (.ref C_NoGrammar) = true)
    (bc_NoGrammar : PySem.W.subIn K (.ref C_NoGrammar) (.type "BaseException") = some true)
    (tc_NoGrammar : PySem.W.typeIn K (.ref C_NoGrammar) = some (.type "type"))
    (ic_NoGrammar : PySem.W.isClsIn K C_NoGrammar = true)
    (ga_NoGrammar : PySem.W.findIn K (.ref C_NoGrammar) "__getattribute__" = some (some (.builtin "BaseException.__getattribute__")))
    (gk_NoGrammar : PySem.W.findIn K (.ref C_NoGrammar) "__getattr__" = some none)
    (hd_NoGrammar : PySem.W.hasDictIn K C_NoGrammar = true)
    (ha_NoGrammar : PySem.W.findIn K (.ref C_NoGrammar) "__class__" = some (some (.builtin "object.__class__")))
    (hn_NoGrammar : PySem.W.specialIn K (.builtin "object.__class__") "__get__" = some (some (.builtin "getset_descriptor.__get__")))
    (ht_NoGrammar : PySem.W.takesIn K (.builtin "object.__class__") = some true)
    (hm_NoGrammar : PySem.W.mroIn K C_NoGrammar (.type "object") = some true)
    (ve_NoGrammar : PySem.W.subIn K (.ref C_NoGrammar) (.type "ValueError") = some true)
    (g_NoText : PySem.W.nsIn K mainGlobals "NoText" = some (some (.ref C_NoText)))
    (ex_NoText : PySem.W.excIn K C_NoText [.type "ValueError", .type "Exception", .type "BaseException", .type "object"] "ValueError.__new__" = true)
    (kc_NoText : PySem.W.keepIn K (.ref C_NoText) = true)
    (bc_NoText : PySem.W.subIn K (.ref C_NoText) (.type "BaseException") = some true)
    (tc_NoText : PySem.W.typeIn K (.ref C_NoText) = some (.type "type"))
    (ic_NoText : PySem.W.isClsIn K C_NoText = true)
    (ga_NoText : PySem.W.findIn K (.ref C_NoText) "__getattribute__" = some (some (.builtin "BaseException.__getattribute__")))
    (gk_NoText : PySem.W.findIn K (.ref C_NoText) "__getattr__" = some none)
    (hd_NoText : PySem.W.hasDictIn K C_NoText = true)
    (ha_NoText : PySem.W.findIn K (.ref C_NoText) "__class__" = some (some (.builtin "object.__class__")))
    (hn_NoText : PySem.W.specialIn K (.builtin "object.__class__") "__get__" = some (some (.builtin "getset_descriptor.__get__")))
    (ht_NoText : PySem.W.takesIn K (.builtin "object.__class__") = some true)
    (hm_NoText : PySem.W.mroIn K C_NoText (.type "object") = some true)
    (ve_NoText : PySem.W.subIn K (.ref C_NoText) (.type "ValueError") = some true)
    (g_NoRule : PySem.W.nsIn K mainGlobals "NoRule" = some (some (.ref C_NoRule)))
    (ex_NoRule : PySem.W.excIn K C_NoRule [.type "ValueError", .type "Exception", .type "BaseException", .type "object"] "ValueError.__new__" = true)
    (kc_NoRule : PySem.W.keepIn K (.ref C_NoRule) = true)
    (bc_NoRule : PySem.W.subIn K (.ref C_NoRule) (.type "BaseException") = some true)
    (tc_NoRule : PySem.W.typeIn K (.ref C_NoRule) = some (.type "type"))
    (ic_NoRule : PySem.W.isClsIn K C_NoRule = true)
    (ga_NoRule : PySem.W.findIn K (.ref C_NoRule) "__getattribute__" = some (some (.builtin "BaseException.__getattribute__")))
    (gk_NoRule : PySem.W.findIn K (.ref C_NoRule) "__getattr__" = some none)
    (hd_NoRule : PySem.W.hasDictIn K C_NoRule = true)
    (ha_NoRule : PySem.W.findIn K (.ref C_NoRule) "__class__" = some (some (.builtin "object.__class__")))
    (hn_NoRule : PySem.W.specialIn K (.builtin "object.__class__") "__get__" = some (some (.builtin "getset_descriptor.__get__")))
    (ht_NoRule : PySem.W.takesIn K (.builtin "object.__class__") = some true)
    (hm_NoRule : PySem.W.mroIn K C_NoRule (.type "object") = some true)
    (ve_NoRule : PySem.W.subIn K (.ref C_NoRule) (.type "ValueError") = some true)
    (su_NoGrammar_ForestError : PySem.W.subIn K (.ref C_NoGrammar) (.ref C_ForestError) = some true)
    (su_NoGrammar_NoGrammar : PySem.W.subIn K (.ref C_NoGrammar) (.ref C_NoGrammar) = some true)
    (su_NoGrammar_NoText : PySem.W.subIn K (.ref C_NoGrammar) (.ref C_NoText) = some false)
    (su_NoGrammar_NoRule : PySem.W.subIn K (.ref C_NoGrammar) (.ref C_NoRule) = some false)
    (su_NoRule_ForestError : PySem.W.subIn K (.ref C_NoRule) (.ref C_ForestError) = some true)
    (su_NoRule_NoGrammar : PySem.W.subIn K (.ref C_NoRule) (.ref C_NoGrammar) = some false)
    (su_NoRule_NoText : PySem.W.subIn K (.ref C_NoRule) (.ref C_NoText) = some false)
    (su_NoRule_NoRule : PySem.W.subIn K (.ref C_NoRule) (.ref C_NoRule) = some true)
    (a_is_whole : PySem.W.nsIn K mainGlobals "is_whole" = some (some (.ref f_is_whole)))
    (l_is_whole : K.lookup f_is_whole = some ⟨oc_is_whole, od_is_whole, .func (PySem.W.fnOf "is_whole" "is_whole" (defArgs s_is_whole) (defBody s_is_whole) (defScope s_is_whole) .none kV_is_whole dc_is_whole pm_is_whole an_is_whole cd_is_whole ct_is_whole), sl_is_whole⟩)
    (e_is_whole : PySem.W.codeIn K cd_is_whole "is_whole" = true)
    (p_is_whole : PySem.W.keepIn K (.ref f_is_whole) = true)
    (a_may_stand : PySem.W.nsIn K mainGlobals "may_stand" = some (some (.ref f_may_stand)))
    (l_may_stand : K.lookup f_may_stand = some ⟨oc_may_stand, od_may_stand, .func (PySem.W.fnOf "may_stand" "may_stand" (defArgs s_may_stand) (defBody s_may_stand) (defScope s_may_stand) .none kV_may_stand dc_may_stand pm_may_stand an_may_stand cd_may_stand ct_may_stand), sl_may_stand⟩)
    (e_may_stand : PySem.W.codeIn K cd_may_stand "may_stand" = true)
    (p_may_stand : PySem.W.keepIn K (.ref f_may_stand) = true)
    (a_is_sign : PySem.W.nsIn K mainGlobals "is_sign" = some (some (.ref f_is_sign)))
    (l_is_sign : K.lookup f_is_sign = some ⟨oc_is_sign, od_is_sign, .func (PySem.W.fnOf "is_sign" "is_sign" (defArgs s_is_sign) (defBody s_is_sign) (defScope s_is_sign) .none kV_is_sign dc_is_sign pm_is_sign an_is_sign cd_is_sign ct_is_sign), sl_is_sign⟩)
    (e_is_sign : PySem.W.codeIn K cd_is_sign "is_sign" = true)
    (p_is_sign : PySem.W.keepIn K (.ref f_is_sign) = true)
    (a_is_name : PySem.W.nsIn K mainGlobals "is_name" = some (some (.ref f_is_name)))
    (l_is_name : K.lookup f_is_name = some ⟨oc_is_name, od_is_name, .func (PySem.W.fnOf "is_name" "is_name" (defArgs s_is_name) (defBody s_is_name) (defScope s_is_name) .none kV_is_name dc_is_name pm_is_name an_is_name cd_is_name ct_is_name), sl_is_name⟩)
    (e_is_name : PySem.W.codeIn K cd_is_name "is_name" = true)
    (p_is_name : PySem.W.keepIn K (.ref f_is_name) = true)
    (a_are_parts : PySem.W.nsIn K mainGlobals "are_parts" = some (some (.ref f_are_parts)))
    (l_are_parts : K.lookup f_are_parts = some ⟨oc_are_parts, od_are_parts, .func (PySem.W.fnOf "are_parts" "are_parts" (defArgs s_are_parts) (defBody s_are_parts) (defScope s_are_parts) .none kV_are_parts dc_are_parts pm_are_parts an_are_parts cd_are_parts ct_are_parts), sl_are_parts⟩)
    (e_are_parts : PySem.W.codeIn K cd_are_parts "are_parts" = true)
    (p_are_parts : PySem.W.keepIn K (.ref f_are_parts) = true)
    (a_is_rule : PySem.W.nsIn K mainGlobals "is_rule" = some (some (.ref f_is_rule)))
    (l_is_rule : K.lookup f_is_rule = some ⟨oc_is_rule, od_is_rule, .func (PySem.W.fnOf "is_rule" "is_rule" (defArgs s_is_rule) (defBody s_is_rule) (defScope s_is_rule) .none kV_is_rule dc_is_rule pm_is_rule an_is_rule cd_is_rule ct_is_rule), sl_is_rule⟩)
    (e_is_rule : PySem.W.codeIn K cd_is_rule "is_rule" = true)
    (p_is_rule : PySem.W.keepIn K (.ref f_is_rule) = true)
    (a_checked : PySem.W.nsIn K mainGlobals "checked" = some (some (.ref f_checked)))
    (l_checked : K.lookup f_checked = some ⟨oc_checked, od_checked, .func (PySem.W.fnOf "checked" "checked" (defArgs s_checked) (defBody s_checked) (defScope s_checked) .none kV_checked dc_checked pm_checked an_checked cd_checked ct_checked), sl_checked⟩)
    (e_checked : PySem.W.codeIn K cd_checked "checked" = true)
    (p_checked : PySem.W.keepIn K (.ref f_checked) = true)
    (a_read_figures : PySem.W.nsIn K mainGlobals "read_figures" = some (some (.ref f_read_figures)))
    (l_read_figures : K.lookup f_read_figures = some ⟨oc_read_figures, od_read_figures, .func (PySem.W.fnOf "read_figures" "read_figures" (defArgs s_read_figures) (defBody s_read_figures) (defScope s_read_figures) .none kV_read_figures dc_read_figures pm_read_figures an_read_figures cd_read_figures ct_read_figures), sl_read_figures⟩)
    (e_read_figures : PySem.W.codeIn K cd_read_figures "read_figures" = true)
    (p_read_figures : PySem.W.keepIn K (.ref f_read_figures) = true)
    (a_show_part : PySem.W.nsIn K mainGlobals "show_part" = some (some (.ref f_show_part)))
    (l_show_part : K.lookup f_show_part = some ⟨oc_show_part, od_show_part, .func (PySem.W.fnOf "show_part" "show_part" (defArgs s_show_part) (defBody s_show_part) (defScope s_show_part) .none kV_show_part dc_show_part pm_show_part an_show_part cd_show_part ct_show_part), sl_show_part⟩)
    (e_show_part : PySem.W.codeIn K cd_show_part "show_part" = true)
    (p_show_part : PySem.W.keepIn K (.ref f_show_part) = true)
    (a_read_part : PySem.W.nsIn K mainGlobals "read_part" = some (some (.ref f_read_part)))
    (l_read_part : K.lookup f_read_part = some ⟨oc_read_part, od_read_part, .func (PySem.W.fnOf "read_part" "read_part" (defArgs s_read_part) (defBody s_read_part) (defScope s_read_part) .none kV_read_part dc_read_part pm_read_part an_read_part cd_read_part ct_read_part), sl_read_part⟩)
    (e_read_part : PySem.W.codeIn K cd_read_part "read_part" = true)
    (p_read_part : PySem.W.keepIn K (.ref f_read_part) = true)
    (a_show_rule : PySem.W.nsIn K mainGlobals "show_rule" = some (some (.ref f_show_rule)))
    (l_show_rule : K.lookup f_show_rule = some ⟨oc_show_rule, od_show_rule, .func (PySem.W.fnOf "show_rule" "show_rule" (defArgs s_show_rule) (defBody s_show_rule) (defScope s_show_rule) .none kV_show_rule dc_show_rule pm_show_rule an_show_rule cd_show_rule ct_show_rule), sl_show_rule⟩)
    (e_show_rule : PySem.W.codeIn K cd_show_rule "show_rule" = true)
    (p_show_rule : PySem.W.keepIn K (.ref f_show_rule) = true)
    (a_show_grammar : PySem.W.nsIn K mainGlobals "show_grammar" = some (some (.ref f_show_grammar)))
    (l_show_grammar : K.lookup f_show_grammar = some ⟨oc_show_grammar, od_show_grammar, .func (PySem.W.fnOf "show_grammar" "show_grammar" (defArgs s_show_grammar) (defBody s_show_grammar) (defScope s_show_grammar) .none kV_show_grammar dc_show_grammar pm_show_grammar an_show_grammar cd_show_grammar ct_show_grammar), sl_show_grammar⟩)
    (e_show_grammar : PySem.W.codeIn K cd_show_grammar "show_grammar" = true)
    (p_show_grammar : PySem.W.keepIn K (.ref f_show_grammar) = true)
    (a_read_rule : PySem.W.nsIn K mainGlobals "read_rule" = some (some (.ref f_read_rule)))
    (l_read_rule : K.lookup f_read_rule = some ⟨oc_read_rule, od_read_rule, .func (PySem.W.fnOf "read_rule" "read_rule" (defArgs s_read_rule) (defBody s_read_rule) (defScope s_read_rule) .none kV_read_rule dc_read_rule pm_read_rule an_read_rule cd_read_rule ct_read_rule), sl_read_rule⟩)
    (e_read_rule : PySem.W.codeIn K cd_read_rule "read_rule" = true)
    (p_read_rule : PySem.W.keepIn K (.ref f_read_rule) = true)
    (a_read_grammar : PySem.W.nsIn K mainGlobals "read_grammar" = some (some (.ref f_read_grammar)))
    (l_read_grammar : K.lookup f_read_grammar = some ⟨oc_read_grammar, od_read_grammar, .func (PySem.W.fnOf "read_grammar" "read_grammar" (defArgs s_read_grammar) (defBody s_read_grammar) (defScope s_read_grammar) .none kV_read_grammar dc_read_grammar pm_read_grammar an_read_grammar cd_read_grammar ct_read_grammar), sl_read_grammar⟩)
    (e_read_grammar : PySem.W.codeIn K cd_read_grammar "read_grammar" = true)
    (p_read_grammar : PySem.W.keepIn K (.ref f_read_grammar) = true)
    (a_law_cell_at : PySem.W.nsIn K mainGlobals "_law_cell_at" = some (some (.ref f_law_cell_at)))
    (l_law_cell_at : K.lookup f_law_cell_at = some ⟨oc_law_cell_at, od_law_cell_at, .func (PySem.W.fnOf "_law_cell_at" "_law_cell_at" (defArgs s_law_cell_at) (defBody s_law_cell_at) (defScope s_law_cell_at) .none kV_law_cell_at dc_law_cell_at pm_law_cell_at an_law_cell_at cd_law_cell_at ct_law_cell_at), sl_law_cell_at⟩)
    (e_law_cell_at : PySem.W.codeIn K cd_law_cell_at "_law_cell_at" = true)
    (p_law_cell_at : PySem.W.keepIn K (.ref f_law_cell_at) = true)
    (a_law_sign : PySem.W.nsIn K mainGlobals "_law_sign" = some (some (.ref f_law_sign)))
    (l_law_sign : K.lookup f_law_sign = some ⟨oc_law_sign, od_law_sign, .func (PySem.W.fnOf "_law_sign" "_law_sign" (defArgs s_law_sign) (defBody s_law_sign) (defScope s_law_sign) .none kV_law_sign dc_law_sign pm_law_sign an_law_sign cd_law_sign ct_law_sign), sl_law_sign⟩)
    (e_law_sign : PySem.W.codeIn K cd_law_sign "_law_sign" = true)
    (p_law_sign : PySem.W.keepIn K (.ref f_law_sign) = true)
    (a_law_name : PySem.W.nsIn K mainGlobals "_law_name" = some (some (.ref f_law_name)))
    (l_law_name : K.lookup f_law_name = some ⟨oc_law_name, od_law_name, .func (PySem.W.fnOf "_law_name" "_law_name" (defArgs s_law_name) (defBody s_law_name) (defScope s_law_name) .none kV_law_name dc_law_name pm_law_name an_law_name cd_law_name ct_law_name), sl_law_name⟩)
    (e_law_name : PySem.W.codeIn K cd_law_name "_law_name" = true)
    (p_law_name : PySem.W.keepIn K (.ref f_law_name) = true)
    (a_law_part : PySem.W.nsIn K mainGlobals "_law_part" = some (some (.ref f_law_part)))
    (l_law_part : K.lookup f_law_part = some ⟨oc_law_part, od_law_part, .func (PySem.W.fnOf "_law_part" "_law_part" (defArgs s_law_part) (defBody s_law_part) (defScope s_law_part) .none kV_law_part dc_law_part pm_law_part an_law_part cd_law_part ct_law_part), sl_law_part⟩)
    (e_law_part : PySem.W.codeIn K cd_law_part "_law_part" = true)
    (p_law_part : PySem.W.keepIn K (.ref f_law_part) = true)
    (a_law_worth : PySem.W.nsIn K mainGlobals "_law_worth" = some (some (.ref f_law_worth)))
    (l_law_worth : K.lookup f_law_worth = some ⟨oc_law_worth, od_law_worth, .func (PySem.W.fnOf "_law_worth" "_law_worth" (defArgs s_law_worth) (defBody s_law_worth) (defScope s_law_worth) .none kV_law_worth dc_law_worth pm_law_worth an_law_worth cd_law_worth ct_law_worth), sl_law_worth⟩)
    (e_law_worth : PySem.W.codeIn K cd_law_worth "_law_worth" = true)
    (p_law_worth : PySem.W.keepIn K (.ref f_law_worth) = true)
    (a_law_rule : PySem.W.nsIn K mainGlobals "_law_rule" = some (some (.ref f_law_rule)))
    (l_law_rule : K.lookup f_law_rule = some ⟨oc_law_rule, od_law_rule, .func (PySem.W.fnOf "_law_rule" "_law_rule" (defArgs s_law_rule) (defBody s_law_rule) (defScope s_law_rule) .none kV_law_rule dc_law_rule pm_law_rule an_law_rule cd_law_rule ct_law_rule), sl_law_rule⟩)
    (e_law_rule : PySem.W.codeIn K cd_law_rule "_law_rule" = true)
    (p_law_rule : PySem.W.keepIn K (.ref f_law_rule) = true)
    (a_law_written : PySem.W.nsIn K mainGlobals "_law_written" = some (some (.ref f_law_written)))
    (l_law_written : K.lookup f_law_written = some ⟨oc_law_written, od_law_written, .func (PySem.W.fnOf "_law_written" "_law_written" (defArgs s_law_written) (defBody s_law_written) (defScope s_law_written) .none kV_law_written dc_law_written pm_law_written an_law_written cd_law_written ct_law_written), sl_law_written⟩)
    (e_law_written : PySem.W.codeIn K cd_law_written "_law_written" = true)
    (p_law_written : PySem.W.keepIn K (.ref f_law_written) = true)
    (a_law_alike : PySem.W.nsIn K mainGlobals "_law_alike" = some (some (.ref f_law_alike)))
    (l_law_alike : K.lookup f_law_alike = some ⟨oc_law_alike, od_law_alike, .func (PySem.W.fnOf "_law_alike" "_law_alike" (defArgs s_law_alike) (defBody s_law_alike) (defScope s_law_alike) .none kV_law_alike dc_law_alike pm_law_alike an_law_alike cd_law_alike ct_law_alike), sl_law_alike⟩)
    (e_law_alike : PySem.W.codeIn K cd_law_alike "_law_alike" = true)
    (p_law_alike : PySem.W.keepIn K (.ref f_law_alike) = true)
    (a_law_rules : PySem.W.nsIn K mainGlobals "_law_rules" = some (some (.ref f_law_rules)))
    (l_law_rules : K.lookup f_law_rules = some ⟨oc_law_rules, od_law_rules, .func (PySem.W.fnOf "_law_rules" "_law_rules" (defArgs s_law_rules) (defBody s_law_rules) (defScope s_law_rules) .none kV_law_rules dc_law_rules pm_law_rules an_law_rules cd_law_rules ct_law_rules), sl_law_rules⟩)
    (e_law_rules : PySem.W.codeIn K cd_law_rules "_law_rules" = true)
    (p_law_rules : PySem.W.keepIn K (.ref f_law_rules) = true)
    (a_law_same : PySem.W.nsIn K mainGlobals "_law_same" = some (some (.ref f_law_same)))
    (l_law_same : K.lookup f_law_same = some ⟨oc_law_same, od_law_same, .func (PySem.W.fnOf "_law_same" "_law_same" (defArgs s_law_same) (defBody s_law_same) (defScope s_law_same) .none kV_law_same dc_law_same pm_law_same an_law_same cd_law_same ct_law_same), sl_law_same⟩)
    (e_law_same : PySem.W.codeIn K cd_law_same "_law_same" = true)
    (p_law_same : PySem.W.keepIn K (.ref f_law_same) = true)
    (a_law_no : PySem.W.nsIn K mainGlobals "_law_no" = some (some (.ref f_law_no)))
    (l_law_no : K.lookup f_law_no = some ⟨oc_law_no, od_law_no, .func (PySem.W.fnOf "_law_no" "_law_no" (defArgs s_law_no) (defBody s_law_no) (defScope s_law_no) .none kV_law_no dc_law_no pm_law_no an_law_no cd_law_no ct_law_no), sl_law_no⟩)
    (e_law_no : PySem.W.codeIn K cd_law_no "_law_no" = true)
    (p_law_no : PySem.W.keepIn K (.ref f_law_no) = true)
    (a_law_unread : PySem.W.nsIn K mainGlobals "_law_unread" = some (some (.ref f_law_unread)))
    (l_law_unread : K.lookup f_law_unread = some ⟨oc_law_unread, od_law_unread, .func (PySem.W.fnOf "_law_unread" "_law_unread" (defArgs s_law_unread) (defBody s_law_unread) (defScope s_law_unread) .none kV_law_unread dc_law_unread pm_law_unread an_law_unread cd_law_unread ct_law_unread), sl_law_unread⟩)
    (e_law_unread : PySem.W.codeIn K cd_law_unread "_law_unread" = true)
    (p_law_unread : PySem.W.keepIn K (.ref f_law_unread) = true)
    (a_law_unshown : PySem.W.nsIn K mainGlobals "_law_unshown" = some (some (.ref f_law_unshown)))
    (l_law_unshown : K.lookup f_law_unshown = some ⟨oc_law_unshown, od_law_unshown, .func (PySem.W.fnOf "_law_unshown" "_law_unshown" (defArgs s_law_unshown) (defBody s_law_unshown) (defScope s_law_unshown) .none kV_law_unshown dc_law_unshown pm_law_unshown an_law_unshown cd_law_unshown ct_law_unshown), sl_law_unshown⟩)
    (e_law_unshown : PySem.W.codeIn K cd_law_unshown "_law_unshown" = true)
    (p_law_unshown : PySem.W.keepIn K (.ref f_law_unshown) = true)
    (a_law_broken : PySem.W.nsIn K mainGlobals "_law_broken" = some (some (.ref f_law_broken)))
    (l_law_broken : K.lookup f_law_broken = some ⟨oc_law_broken, od_law_broken, .func (PySem.W.fnOf "_law_broken" "_law_broken" (defArgs s_law_broken) (defBody s_law_broken) (defScope s_law_broken) .none kV_law_broken dc_law_broken pm_law_broken an_law_broken cd_law_broken ct_law_broken), sl_law_broken⟩)
    (e_law_broken : PySem.W.codeIn K cd_law_broken "_law_broken" = true)
    (p_law_broken : PySem.W.keepIn K (.ref f_law_broken) = true)
    (a_law : PySem.W.nsIn K mainGlobals "law" = some (some (.ref f_law)))
    (l_law : K.lookup f_law = some ⟨oc_law, od_law, .func (PySem.W.fnOf "law" "law" (defArgs s_law) (defBody s_law) (defScope s_law) .none kV_law dc_law pm_law an_law cd_law ct_law), sl_law⟩)
    (e_law : PySem.W.codeIn K cd_law "law" = true)
    (p_law : PySem.W.keepIn K (.ref f_law) = true)
    : ∃ fd : FuncData, (∀ (s : Shared) (v : Value), BindsTo s fd ⟨[v], []⟩ [("_law_script", v)]) ∧ ∀ base : Heap, K.In base → base.Ns mainGlobals mg → FnOk l.prog w K mg base (L2.CX l.prog w) 8 fa fd ["_law_script"] (sp1 (R_law K)) := by
  have e := hfa.symm.trans (PySem.W.mg_of X G a_law)
  cases e
  have T : Txt K mg ⟨0, C_ForestError, C_NoGrammar, C_NoText, C_NoRule⟩ := {
    b_ValueError := ⟨PySem.W.mg_none_of X G b_ValueError⟩,
    b_bool := ⟨PySem.W.mg_none_of X G b_bool⟩,
    b_int := ⟨PySem.W.mg_none_of X G b_int⟩,
    b_isinstance := ⟨PySem.W.mg_none_of X G b_isinstance⟩,
    b_len := ⟨PySem.W.mg_none_of X G b_len⟩,
    b_list := ⟨PySem.W.mg_none_of X G b_list⟩,
    b_min := ⟨PySem.W.mg_none_of X G b_min⟩,
    b_ord := ⟨PySem.W.mg_none_of X G b_ord⟩,
    b_range := ⟨PySem.W.mg_none_of X G b_range⟩,
    b_str := ⟨PySem.W.mg_none_of X G b_str⟩,
    b_tuple := ⟨PySem.W.mg_none_of X G b_tuple⟩,
    k_MOST_RULES := ⟨_, PySem.W.mg_of X G k_MOST_RULES⟩,
    k_MOST_PARTS := ⟨_, PySem.W.mg_of X G k_MOST_PARTS⟩,
    k_MOST_WORTH := ⟨_, PySem.W.mg_of X G k_MOST_WORTH⟩,
    k_FIGURES := ⟨_, PySem.W.mg_of X G k_FIGURES⟩,
    k_MOST_FIGURES := ⟨_, PySem.W.mg_of X G k_MOST_FIGURES⟩,
    x_ForestError := ⟨PySem.W.mg_of X G g_ForestError, ex_ForestError, kc_ForestError, bc_ForestError, tc_ForestError, ic_ForestError, ga_ForestError, gk_ForestError, hd_ForestError, ha_ForestError, hn_ForestError, ht_ForestError, hm_ForestError, ve_ForestError⟩,
    x_NoGrammar := ⟨PySem.W.mg_of X G g_NoGrammar, ex_NoGrammar, kc_NoGrammar, bc_NoGrammar, tc_NoGrammar, ic_NoGrammar, ga_NoGrammar, gk_NoGrammar, hd_NoGrammar, ha_NoGrammar, hn_NoGrammar, ht_NoGrammar, hm_NoGrammar, ve_NoGrammar⟩,
    x_NoText := ⟨PySem.W.mg_of X G g_NoText, ex_NoText, kc_NoText, bc_NoText, tc_NoText, ic_NoText, ga_NoText, gk_NoText, hd_NoText, ha_NoText, hn_NoText, ht_NoText, hm_NoText, ve_NoText⟩,
    x_NoRule := ⟨PySem.W.mg_of X G g_NoRule, ex_NoRule, kc_NoRule, bc_NoRule, tc_NoRule, ic_NoRule, ga_NoRule, gk_NoRule, hd_NoRule, ha_NoRule, hn_NoRule, ht_NoRule, hm_NoRule, ve_NoRule⟩,
    s_NoGrammar_ForestError := su_NoGrammar_ForestError,
    s_NoGrammar_NoGrammar := su_NoGrammar_NoGrammar,
    s_NoGrammar_NoText := su_NoGrammar_NoText,
    s_NoGrammar_NoRule := su_NoGrammar_NoRule,
    s_NoRule_ForestError := su_NoRule_ForestError,
    s_NoRule_NoGrammar := su_NoRule_NoGrammar,
    s_NoRule_NoText := su_NoRule_NoText,
    s_NoRule_NoRule := su_NoRule_NoRule,
    f_is_whole := ⟨f_is_whole, _, PySem.W.mg_of X G a_is_whole, (fun_mk (st := s_is_whole) l_is_whole e_is_whole p_is_whole), ((fun_mk (st := s_is_whole) l_is_whole e_is_whole p_is_whole).binds (ps := ["thing"]) fun _ _ _ _ _ _ us hl => match us, hl with | [_], _ => rfl)⟩,
    f_may_stand := ⟨f_may_stand, _, PySem.W.mg_of X G a_may_stand, (fun_mk (st := s_may_stand) l_may_stand e_may_stand p_may_stand), ((fun_mk (st := s_may_stand) l_may_stand e_may_stand p_may_stand).binds (ps := ["sign"]) fun _ _ _ _ _ _ us hl => match us, hl with | [_], _ => rfl)⟩,
    f_is_sign := ⟨f_is_sign, _, PySem.W.mg_of X G a_is_sign, (fun_mk (st := s_is_sign) l_is_sign e_is_sign p_is_sign), ((fun_mk (st := s_is_sign) l_is_sign e_is_sign p_is_sign).binds (ps := ["thing"]) fun _ _ _ _ _ _ us hl => match us, hl with | [_], _ => rfl)⟩,
    f_is_name := ⟨f_is_name, _, PySem.W.mg_of X G a_is_name, (fun_mk (st := s_is_name) l_is_name e_is_name p_is_name), ((fun_mk (st := s_is_name) l_is_name e_is_name p_is_name).binds (ps := ["thing"]) fun _ _ _ _ _ _ us hl => match us, hl with | [_], _ => rfl)⟩,
    f_are_parts := ⟨f_are_parts, _, PySem.W.mg_of X G a_are_parts, (fun_mk (st := s_are_parts) l_are_parts e_are_parts p_are_parts), ((fun_mk (st := s_are_parts) l_are_parts e_are_parts p_are_parts).binds (ps := ["thing"]) fun _ _ _ _ _ _ us hl => match us, hl with | [_], _ => rfl)⟩,
    f_is_rule := ⟨f_is_rule, _, PySem.W.mg_of X G a_is_rule, (fun_mk (st := s_is_rule) l_is_rule e_is_rule p_is_rule), ((fun_mk (st := s_is_rule) l_is_rule e_is_rule p_is_rule).binds (ps := ["thing"]) fun _ _ _ _ _ _ us hl => match us, hl with | [_], _ => rfl)⟩,
    f_checked := ⟨f_checked, _, PySem.W.mg_of X G a_checked, (fun_mk (st := s_checked) l_checked e_checked p_checked), ((fun_mk (st := s_checked) l_checked e_checked p_checked).binds (ps := ["thing"]) fun _ _ _ _ _ _ us hl => match us, hl with | [_], _ => rfl)⟩,
    f_read_figures := ⟨f_read_figures, _, PySem.W.mg_of X G a_read_figures, (fun_mk (st := s_read_figures) l_read_figures e_read_figures p_read_figures), ((fun_mk (st := s_read_figures) l_read_figures e_read_figures p_read_figures).binds (ps := ["word"]) fun _ _ _ _ _ _ us hl => match us, hl with | [_], _ => rfl)⟩,
    f_show_part := ⟨f_show_part, _, PySem.W.mg_of X G a_show_part, (fun_mk (st := s_show_part) l_show_part e_show_part p_show_part), ((fun_mk (st := s_show_part) l_show_part e_show_part p_show_part).binds (ps := ["part"]) fun _ _ _ _ _ _ us hl => match us, hl with | [_], _ => rfl)⟩,
    f_read_part := ⟨f_read_part, _, PySem.W.mg_of X G a_read_part, (fun_mk (st := s_read_part) l_read_part e_read_part p_read_part), ((fun_mk (st := s_read_part) l_read_part e_read_part p_read_part).binds (ps := ["word"]) fun _ _ _ _ _ _ us hl => match us, hl with | [_], _ => rfl)⟩,
    f_show_rule := ⟨f_show_rule, _, PySem.W.mg_of X G a_show_rule, (fun_mk (st := s_show_rule) l_show_rule e_show_rule p_show_rule), ((fun_mk (st := s_show_rule) l_show_rule e_show_rule p_show_rule).binds (ps := ["rule"]) fun _ _ _ _ _ _ us hl => match us, hl with | [_], _ => rfl)⟩,
    f_show_grammar := ⟨f_show_grammar, _, PySem.W.mg_of X G a_show_grammar, (fun_mk (st := s_show_grammar) l_show_grammar e_show_grammar p_show_grammar), ((fun_mk (st := s_show_grammar) l_show_grammar e_show_grammar p_show_grammar).binds (ps := ["grammar"]) fun _ _ _ _ _ _ us hl => match us, hl with | [_], _ => rfl)⟩,
    f_read_rule := ⟨f_read_rule, _, PySem.W.mg_of X G a_read_rule, (fun_mk (st := s_read_rule) l_read_rule e_read_rule p_read_rule), ((fun_mk (st := s_read_rule) l_read_rule e_read_rule p_read_rule).binds (ps := ["text"]) fun _ _ _ _ _ _ us hl => match us, hl with | [_], _ => rfl)⟩,
    f_read_grammar := ⟨f_read_grammar, _, PySem.W.mg_of X G a_read_grammar, (fun_mk (st := s_read_grammar) l_read_grammar e_read_grammar p_read_grammar), ((fun_mk (st := s_read_grammar) l_read_grammar e_read_grammar p_read_grammar).binds (ps := ["text"]) fun _ _ _ _ _ _ us hl => match us, hl with | [_], _ => rfl)⟩,
    f_law_cell_at := ⟨f_law_cell_at, _, PySem.W.mg_of X G a_law_cell_at, (fun_mk (st := s_law_cell_at) l_law_cell_at e_law_cell_at p_law_cell_at), ((fun_mk (st := s_law_cell_at) l_law_cell_at e_law_cell_at p_law_cell_at).binds (ps := ["_law_script", "_law_k"]) fun _ _ _ _ _ _ us hl => match us, hl with | [_, _], _ => rfl)⟩,
    f_law_sign := ⟨f_law_sign, _, PySem.W.mg_of X G a_law_sign, (fun_mk (st := s_law_sign) l_law_sign e_law_sign p_law_sign), ((fun_mk (st := s_law_sign) l_law_sign e_law_sign p_law_sign).binds (ps := ["_law_cell"]) fun _ _ _ _ _ _ us hl => match us, hl with | [_], _ => rfl)⟩,
    f_law_name := ⟨f_law_name, _, PySem.W.mg_of X G a_law_name, (fun_mk (st := s_law_name) l_law_name e_law_name p_law_name), ((fun_mk (st := s_law_name) l_law_name e_law_name p_law_name).binds (ps := ["_law_cell"]) fun _ _ _ _ _ _ us hl => match us, hl with | [_], _ => rfl)⟩,
    f_law_part := ⟨f_law_part, _, PySem.W.mg_of X G a_law_part, (fun_mk (st := s_law_part) l_law_part e_law_part p_law_part), ((fun_mk (st := s_law_part) l_law_part e_law_part p_law_part).binds (ps := ["_law_cell"]) fun _ _ _ _ _ _ us hl => match us, hl with | [_], _ => rfl)⟩,
    f_law_worth := ⟨f_law_worth, _, PySem.W.mg_of X G a_law_worth, (fun_mk (st := s_law_worth) l_law_worth e_law_worth p_law_worth), ((fun_mk (st := s_law_worth) l_law_worth e_law_worth p_law_worth).binds (ps := ["_law_cell"]) fun _ _ _ _ _ _ us hl => match us, hl with | [_], _ => rfl)⟩,
    f_law_rule := ⟨f_law_rule, _, PySem.W.mg_of X G a_law_rule, (fun_mk (st := s_law_rule) l_law_rule e_law_rule p_law_rule), ((fun_mk (st := s_law_rule) l_law_rule e_law_rule p_law_rule).binds (ps := ["_law_script", "_law_at"]) fun _ _ _ _ _ _ us hl => match us, hl with | [_, _], _ => rfl)⟩,
    f_law_written := ⟨f_law_written, _, PySem.W.mg_of X G a_law_written, (fun_mk (st := s_law_written) l_law_written e_law_written p_law_written), ((fun_mk (st := s_law_written) l_law_written e_law_written p_law_written).binds (ps := ["_law_rule_here"]) fun _ _ _ _ _ _ us hl => match us, hl with | [_], _ => rfl)⟩,
    f_law_alike := ⟨f_law_alike, _, PySem.W.mg_of X G a_law_alike, (fun_mk (st := s_law_alike) l_law_alike e_law_alike p_law_alike), ((fun_mk (st := s_law_alike) l_law_alike e_law_alike p_law_alike).binds (ps := ["_law_found", "_law_due"]) fun _ _ _ _ _ _ us hl => match us, hl with | [_, _], _ => rfl)⟩,
    f_law_rules := ⟨f_law_rules, _, PySem.W.mg_of X G a_law_rules, (fun_mk (st := s_law_rules) l_law_rules e_law_rules p_law_rules), ((fun_mk (st := s_law_rules) l_law_rules e_law_rules p_law_rules).binds (ps := ["_law_script"]) fun _ _ _ _ _ _ us hl => match us, hl with | [_], _ => rfl)⟩,
    f_law_same := ⟨f_law_same, _, PySem.W.mg_of X G a_law_same, (fun_mk (st := s_law_same) l_law_same e_law_same p_law_same), ((fun_mk (st := s_law_same) l_law_same e_law_same p_law_same).binds (ps := ["_law_found", "_law_rules_here"]) fun _ _ _ _ _ _ us hl => match us, hl with | [_, _], _ => rfl)⟩,
    f_law_no := ⟨f_law_no, _, PySem.W.mg_of X G a_law_no, (fun_mk (st := s_law_no) l_law_no e_law_no p_law_no), ((fun_mk (st := s_law_no) l_law_no e_law_no p_law_no).binds (ps := ["_law_error"]) fun _ _ _ _ _ _ us hl => match us, hl with | [_], _ => rfl)⟩,
    f_law_unread := ⟨f_law_unread, _, PySem.W.mg_of X G a_law_unread, (fun_mk (st := s_law_unread) l_law_unread e_law_unread p_law_unread), ((fun_mk (st := s_law_unread) l_law_unread e_law_unread p_law_unread).binds (ps := ["_law_text"]) fun _ _ _ _ _ _ us hl => match us, hl with | [_], _ => rfl)⟩,
    f_law_unshown := ⟨f_law_unshown, _, PySem.W.mg_of X G a_law_unshown, (fun_mk (st := s_law_unshown) l_law_unshown e_law_unshown p_law_unshown), ((fun_mk (st := s_law_unshown) l_law_unshown e_law_unshown p_law_unshown).binds (ps := ["_law_grammar"]) fun _ _ _ _ _ _ us hl => match us, hl with | [_], _ => rfl)⟩,
    f_law_broken := ⟨f_law_broken, _, PySem.W.mg_of X G a_law_broken, (fun_mk (st := s_law_broken) l_law_broken e_law_broken p_law_broken), ((fun_mk (st := s_law_broken) l_law_broken e_law_broken p_law_broken).binds (ps := ["_law_rows", "_law_cell"]) fun _ _ _ _ _ _ us hl => match us, hl with | [_, _], _ => rfl)⟩ }
  exact ⟨PySem.W.fnOf "law" "law" (defArgs s_law) (defBody s_law) (defScope s_law) .none kV_law dc_law pm_law an_law cd_law ct_law, fun s v => .of_eq rfl, fun base _ _ => ok_law (fun_mk (st := s_law) l_law e_law p_law) T⟩
theorem walk {l : PySem.W.OpenLaw} {q : Program} {loose : List Str} {XP : (Str → Option Value) → Heap → Prop} {YP : World → Heap → Prop} {d : DefRec} {K : Params → PySem.W.Frag} (hn : l.most = some 63) (hdf : d.params.defaults = [])
    (hY : ∀ (w : World) (h : Heap), YP w h → (K w.params).In h)
    (F : ∀ (w : World) (mg : Str → Option Value) (fa : Addr) (h : Heap), (K w.params).In h → h.Ns mainGlobals mg → mg d.name = some (.ref fa) →
      ∃ fd : FuncData, (∀ (s : Shared) (u : Value), BindsTo s fd ⟨[u], []⟩ [("_law_script", u)]) ∧ ∀ base : Heap, (K w.params).In base → base.Ns mainGlobals mg → FnOk l.prog w (K w.params) mg base (L2.CX l.prog w) 8 fa fd ["_law_script"] (sp1 (R_law (K w.params)))) :
    PySem.W.WalkO q loose XP YP l.row.toRowW d [] (fun f vs => PySem.call f vs) :=
  L2.walk_of (n := 63) (k := 8) (x := "_law_script") (CX := fun w => L2.CX l.prog w) (sp := fun w => sp1 (R_law (K w.params))) hn (by decide) hdf ⟨rfl, by decide, by decide⟩ hY F (fun _ _ a ns hl _ hS => ⟨_, rfl, a, ns, rfl, hS, hl, fun _ => rfl⟩) fun w H s e s' h => by
    obtain ⟨_, _, _, _, _, _, _, _, _, _, _, _, z⟩ := h
    exact z
end Lw
open PySem PySem.W PyProof.Rows
set_option maxRecDepth 100000 in
set_option maxHeartbeats 0 in
theorem PySem.Challenge.cw_forestread_k82_grammars_written_holds : PySem.Challenge.rw_forestread_k82_grammars_written.Holds := by
  w_on; o_law; k_head; (case hw => w_witness2)
  k_fill
  refine Lw.walk (l := PySem.Challenge.rw_forestread_k82_grammars_written) rfl rfl (fun w h Y => PySem.W.kIn_of Y) ?F
  case F =>
    intro w mg fa h KX G hmg
    refine' Lw.all_mk KX G hmg ?b_ValueError ?b_bool ?b_int ?b_isinstance ?b_len ?b_list ?b_min ?b_ord ?b_range ?b_str ?b_tuple ?k_MOST_RULES ?k_MOST_PARTS ?k_MOST_WORTH ?k_FIGURES ?k_MOST_FIGURES ?g_ForestError ?ex_ForestError ?kc_ForestError ?bc_ForestError ?tc_ForestError ?ic_ForestError ?ga_ForestError ?gk_ForestError ?hd_ForestError ?ha_ForestError ?hn_ForestError ?ht_ForestError ?hm_ForestError ?ve_ForestError ?g_NoGrammar ?ex_NoGrammar ?kc_NoGrammar ?bc_NoGrammar ?tc_NoGrammar ?ic_NoGrammar ?ga_NoGrammar ?gk_NoGrammar ?hd_NoGrammar ?ha_NoGrammar ?hn_NoGrammar ?ht_NoGrammar ?hm_NoGrammar ?ve_NoGrammar ?g_NoText ?ex_NoText ?kc_NoText ?bc_NoText ?tc_NoText ?ic_NoText ?ga_NoText ?gk_NoText ?hd_NoText ?ha_NoText ?hn_NoText ?ht_NoText ?hm_NoText ?ve_NoText ?g_NoRule ?ex_NoRule ?kc_NoRule ?bc_NoRule ?tc_NoRule ?ic_NoRule ?ga_NoRule ?gk_NoRule ?hd_NoRule ?ha_NoRule ?hn_NoRule ?ht_NoRule ?hm_NoRule ?ve_NoRule ?su_NoGrammar_ForestError ?su_NoGrammar_NoGrammar ?su_NoGrammar_NoText ?su_NoGrammar_NoRule ?su_NoRule_ForestError ?su_NoRule_NoGrammar ?su_NoRule_NoText ?su_NoRule_NoRule ?a_is_whole ?l_is_whole ?e_is_whole ?p_is_whole ?a_may_stand ?l_may_stand ?e_may_stand ?p_may_stand ?a_is_sign ?l_is_sign ?e_is_sign ?p_is_sign ?a_is_name ?l_is_name ?e_is_name ?p_is_name ?a_are_parts ?l_are_parts ?e_are_parts ?p_are_parts ?a_is_rule ?l_is_rule ?e_is_rule ?p_is_rule ?a_checked ?l_checked ?e_checked ?p_checked ?a_read_figures ?l_read_figures ?e_read_figures ?p_read_figures ?a_show_part ?l_show_part ?e_show_part ?p_show_part ?a_read_part ?l_read_part ?e_read_part ?p_read_part ?a_show_rule ?l_show_rule ?e_show_rule ?p_show_rule ?a_show_grammar ?l_show_grammar ?e_show_grammar ?p_show_grammar ?a_read_rule ?l_read_rule ?e_read_rule ?p_read_rule ?a_read_grammar ?l_read_grammar ?e_read_grammar ?p_read_grammar ?a_law_cell_at ?l_law_cell_at ?e_law_cell_at ?p_law_cell_at ?a_law_sign ?l_law_sign ?e_law_sign ?p_law_sign ?a_law_name ?l_law_name ?e_law_name ?p_law_name ?a_law_part ?l_law_part ?e_law_part ?p_law_part ?a_law_worth ?l_law_worth ?e_law_worth ?p_law_worth ?a_law_rule ?l_law_rule ?e_law_rule ?p_law_rule ?a_law_written ?l_law_written ?e_law_written ?p_law_written ?a_law_alike ?l_law_alike ?e_law_alike ?p_law_alike ?a_law_rules ?l_law_rules ?e_law_rules ?p_law_rules ?a_law_same ?l_law_same ?e_law_same ?p_law_same ?a_law_no ?l_law_no ?e_law_no ?p_law_no ?a_law_unread ?l_law_unread ?e_law_unread ?p_law_unread ?a_law_unshown ?l_law_unshown ?e_law_unshown ?p_law_unshown ?a_law_broken ?l_law_broken ?e_law_broken ?p_law_broken ?a_law ?l_law ?e_law ?p_law
    (case b_ValueError => k_is)
    (case b_bool => k_is)
    (case b_int => k_is)
    (case b_isinstance => k_is)
    (case b_len => k_is)
    (case b_list => k_is)
    (case b_min => k_is)
    (case b_ord => k_is)
    (case b_range => k_is)
    (case b_str => k_is)
    (case b_tuple => k_is)
    (case k_MOST_RULES => k_is)
    (case k_MOST_PARTS => k_is)
    (case k_MOST_WORTH => k_is)
    (case k_FIGURES => k_is)
    (case k_MOST_FIGURES => k_is)
    (case g_ForestError => k_is)
    (case ex_ForestError => k_exc)
    (case kc_ForestError => k_is)
    (case bc_ForestError => k_is)
    (case tc_ForestError => k_is)
    (case ic_ForestError => k_is)
    (case ga_ForestError => k_is)
    (case gk_ForestError => k_is)
    (case hd_ForestError => k_is)
    (case ha_ForestError => k_is)
    (case hn_ForestError => k_is)
    (case ht_ForestError => k_is)
    (case hm_ForestError => k_is)
    (case ve_ForestError => k_is)
    (case g_NoGrammar => k_is)
    (case ex_NoGrammar => k_exc)
    (case kc_NoGrammar => k_is)
    (case bc_NoGrammar => k_is)
    (case tc_NoGrammar => k_is)
    (case ic_NoGrammar => k_is)
    (case ga_NoGrammar => k_is)
    (case gk_NoGrammar => k_is)
    (case hd_NoGrammar => k_is)
    (case ha_NoGrammar => k_is)
    (case hn_NoGrammar => k_is)
    (case ht_NoGrammar => k_is)
    (case hm_NoGrammar => k_is)
    (case ve_NoGrammar => k_is)
    (case g_NoText => k_is)
    (case ex_NoText => k_exc)
    (case kc_NoText => k_is)
    (case bc_NoText => k_is)
    (case tc_NoText => k_is)
    (case ic_NoText => k_is)
    (case ga_NoText => k_is)
    (case gk_NoText => k_is)
    (case hd_NoText => k_is)
    (case ha_NoText => k_is)
    (case hn_NoText => k_is)
    (case ht_NoText => k_is)
    (case hm_NoText => k_is)
    (case ve_NoText => k_is)
    (case g_NoRule => k_is)
    (case ex_NoRule => k_exc)
    (case kc_NoRule => k_is)
    (case bc_NoRule => k_is)
    (case tc_NoRule => k_is)
    (case ic_NoRule => k_is)
    (case ga_NoRule => k_is)
    (case gk_NoRule => k_is)
    (case hd_NoRule => k_is)
    (case ha_NoRule => k_is)
    (case hn_NoRule => k_is)
    (case ht_NoRule => k_is)
    (case hm_NoRule => k_is)
    (case ve_NoRule => k_is)
    (case su_NoGrammar_ForestError => first | k_is | rfl | decide)
    (case su_NoGrammar_NoGrammar => first | k_is | rfl | decide)
    (case su_NoGrammar_NoText => first | k_is | rfl | decide)
    (case su_NoGrammar_NoRule => first | k_is | rfl | decide)
    (case su_NoRule_ForestError => first | k_is | rfl | decide)
    (case su_NoRule_NoGrammar => first | k_is | rfl | decide)
    (case su_NoRule_NoText => first | k_is | rfl | decide)
    (case su_NoRule_NoRule => first | k_is | rfl | decide)
    (case a_is_whole => k_is)
    (case l_is_whole => k_is)
    (case e_is_whole => k_is)
    (case p_is_whole => k_is)
    (case a_may_stand => k_is)
    (case l_may_stand => k_is)
    (case e_may_stand => k_is)
    (case p_may_stand => k_is)
    (case a_is_sign => k_is)
    (case l_is_sign => k_is)
    (case e_is_sign => k_is)
    (case p_is_sign => k_is)
    (case a_is_name => k_is)
    (case l_is_name => k_is)
    (case e_is_name => k_is)
    (case p_is_name => k_is)
    (case a_are_parts => k_is)
    (case l_are_parts => k_is)
    (case e_are_parts => k_is)
    (case p_are_parts => k_is)
    (case a_is_rule => k_is)
    (case l_is_rule => k_is)
    (case e_is_rule => k_is)
    (case p_is_rule => k_is)
    (case a_checked => k_is)
    (case l_checked => k_is)
    (case e_checked => k_is)
    (case p_checked => k_is)
    (case a_read_figures => k_is)
    (case l_read_figures => k_is)
    (case e_read_figures => k_is)
    (case p_read_figures => k_is)
    (case a_show_part => k_is)
    (case l_show_part => k_is)
    (case e_show_part => k_is)
    (case p_show_part => k_is)
    (case a_read_part => k_is)
    (case l_read_part => k_is)
    (case e_read_part => k_is)
    (case p_read_part => k_is)
    (case a_show_rule => k_is)
    (case l_show_rule => k_is)
    (case e_show_rule => k_is)
    (case p_show_rule => k_is)
    (case a_show_grammar => k_is)
    (case l_show_grammar => k_is)
    (case e_show_grammar => k_is)
    (case p_show_grammar => k_is)
    (case a_read_rule => k_is)
    (case l_read_rule => k_is)
    (case e_read_rule => k_is)
    (case p_read_rule => k_is)
    (case a_read_grammar => k_is)
    (case l_read_grammar => k_is)
    (case e_read_grammar => k_is)
    (case p_read_grammar => k_is)
    (case a_law_cell_at => k_is)
    (case l_law_cell_at => k_is)
    (case e_law_cell_at => k_is)
    (case p_law_cell_at => k_is)
    (case a_law_sign => k_is)
    (case l_law_sign => k_is)
    (case e_law_sign => k_is)
    (case p_law_sign => k_is)
    (case a_law_name => k_is)
    (case l_law_name => k_is)
    (case e_law_name => k_is)
    (case p_law_name => k_is)
    (case a_law_part => k_is)
    (case l_law_part => k_is)
    (case e_law_part => k_is)
    (case p_law_part => k_is)
    (case a_law_worth => k_is)
    (case l_law_worth => k_is)
    (case e_law_worth => k_is)
    (case p_law_worth => k_is)
    (case a_law_rule => k_is)
    (case l_law_rule => k_is)
    (case e_law_rule => k_is)
    (case p_law_rule => k_is)
    (case a_law_written => k_is)
    (case l_law_written => k_is)
    (case e_law_written => k_is)
    (case p_law_written => k_is)
    (case a_law_alike => k_is)
    (case l_law_alike => k_is)
    (case e_law_alike => k_is)
    (case p_law_alike => k_is)
    (case a_law_rules => k_is)
    (case l_law_rules => k_is)
    (case e_law_rules => k_is)
    (case p_law_rules => k_is)
    (case a_law_same => k_is)
    (case l_law_same => k_is)
    (case e_law_same => k_is)
    (case p_law_same => k_is)
    (case a_law_no => k_is)
    (case l_law_no => k_is)
    (case e_law_no => k_is)
    (case p_law_no => k_is)
    (case a_law_unread => k_is)
    (case l_law_unread => k_is)
    (case e_law_unread => k_is)
    (case p_law_unread => k_is)
    (case a_law_unshown => k_is)
    (case l_law_unshown => k_is)
    (case e_law_unshown => k_is)
    (case p_law_unshown => k_is)
    (case a_law_broken => k_is)
    (case l_law_broken => k_is)
    (case e_law_broken => k_is)
    (case p_law_broken => k_is)
    (case a_law => k_is)
    (case l_law => k_is)
    (case e_law => k_is)
    (case p_law => k_is)
