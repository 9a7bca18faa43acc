import PyProof.Rows.All
import Wide.All
import OpenK.AllK
import Wide.FinOn
import HandS.ForMost
import HandS.ForExc
import HandS.Flow
import HandS.IsInst
import HandS.Wide
import HandS.Walk
import HandS.ExcIs
import HandS.TryElse
import HandS.TryMany
import HandS.HotCalls
import HandS.SuiteRaise
import HandS.TupAny
import HandS.Small
import HandS.SetKeys
import HandS.DictComp
import HandS.Rev
import HandS.More
import HandS.ExcValue
import KE.DataFind
import HandS.ReplaceLit
import HandS.ReplaceList
import KE.GoesEnum
import KE.KDictKeyed
import KE.KDictWalk
import HandS.TupLen
import HandS.SortKw
import KE.DataMinMax
import KE.KDictDisplayH
import HandS.TupMul
import PyProof.ListMulRight
import PySem.Challenge.RW_forestread_k24_wood_refused
set_option Elab.async false
set_option linter.all false
set_option maxRecDepth 100000
set_option maxHeartbeats 2000000
set_option autoImplicit false
/-! Weakest wishes of the pieces of a text: eW, tW, aW, sW, bW; rules by syntax. -/
namespace G
open PySem PySem.Spec PyProof.Rows L2 TL
structure eW (X : Cx) (e : Expr) (σ : L2.St) (H : Hp) (Q : VK) : Prop where
  run : ∀ pins s, Inv X pins σ H s → wpAny (model X.prog X.w) X.A (eval e X.env) (EP X pins σ Q) X.xe s
structure tW (X : Cx) (e : Expr) (σ : L2.St) (H : Hp) (Q : Bool → Hp → Prop) : Prop where
  run : ∀ pins s, Inv X pins σ H s → wpAny (model X.prog X.w) X.A (isTrue e X.env (eval e X.env)) (TP X pins σ Q) X.xe s
structure cW (X : Cx) (e : Expr) (σ : L2.St) (H : Hp) (Q : Bool → Hp → Prop) : Prop where
  run : ∀ whole pins s, Inv X pins σ H s → wpAny (model X.prog X.w) X.A (isTrue e X.env whole) (TP X pins σ Q) X.xe s
structure aW (X : Cx) (es : List Expr) (σ : L2.St) (H : Hp) (Q : List V → Hp → Prop) : Prop where
  run : ∀ pos pins s, Inv X pins σ H s → wpAny (model X.prog X.w) X.A (spliced (backTo pos (starEach es X.env))) (AP X pins σ Q) X.xe s
structure sW (X : Cx) (st : Stmt) (D : Ends) (σ : L2.St) (H : Hp) : Prop where
  run : ∀ pins s, Inv X pins σ H s → wpAny (model X.prog X.w) X.A (exec st X.env) (SP X pins D) X.xe s
structure bW (X : Cx) (b : List Stmt) (D : Ends) (σ : L2.St) (H : Hp) : Prop where
  run : ∀ pins s, Inv X pins σ H s → wpAny (model X.prog X.w) X.A (execs b X.env) (SP X pins D) X.xe s
structure gW (X : Cx) (e : Expr) (v : V) (σ : L2.St) (H : Hp) (Q : L2.St → Hp → Prop) : Prop where
  run : ∀ pins s u, Inv X pins σ H s → RelV v u → wpAny (model X.prog X.w) X.A (assign e X.env u) (fun _ s' => ∃ σ' H', Inv X pins σ' H' s' ∧ Q σ' H') X.xe s
structure oW (X : Cx) (f : Value → Value → Sem Value) (x y : V) (H : Hp) (Q : VK) : Prop where
  run : ∀ pins s σ v u, Inv X pins σ H s → RelV x v → RelV y u → wpAny (model X.prog X.w) X.A (f v u) (EP X pins σ Q) X.xe s
structure uW (X : Cx) (f : Value → Sem Value) (x : V) (H : Hp) (Q : VK) : Prop where
  run : ∀ pins s σ v, Inv X pins σ H s → RelV x v → wpAny (model X.prog X.w) X.A (f v) (EP X pins σ Q) X.xe s
structure kW (X : Cx) (f : Value) (xs : List V) (H : Hp) (Q : VK) : Prop where
  run : ∀ pins s σ us, Inv X pins σ H s → Vals xs us → wpAny (model X.prog X.w) X.A (call f us) (EP X pins σ Q) X.xe s
section
variable {X : Cx} {e : Expr} {es : List Expr} {st : Stmt} {b : List Stmt}
theorem PEw : PE X e (eW X e) := ⟨fun pins s _ _ _ I h => h.run pins s I⟩
theorem PTw : PT X e (tW X e) := ⟨fun pins s _ _ _ I h => h.run pins s I⟩
theorem PWw : PW X e (cW X e) := ⟨fun wh pins s _ _ _ I h => h.run wh pins s I⟩
theorem PAw : PA X es (aW X es) := ⟨fun pos pins s _ _ _ I h => h.run pos pins s I⟩
theorem PSw : PS X st (sW X st) := ⟨fun pins s _ _ _ I h => h.run pins s I⟩
theorem PBw : PSs X b (bW X b) := ⟨fun pins s _ _ _ I h => h.run pins s I⟩
theorem PGw : PG X e (gW X e) := ⟨fun pins s _ _ v u _ I r h => h.run pins s u I r⟩
theorem OPw {f : Value → Value → Sem Value} : OpR X f (oW X f) := fun pins s σ H x y v u Q I rx ry h => h.run pins s σ v u I rx ry
theorem UNw {f : Value → Sem Value} : UnR X f (uW X f) := fun pins s σ H x v Q I rx h => h.run pins s σ v I rx
theorem KRw {f : Value} : CallR X f (kW X f) := fun pins s σ H xs us Q I r h => h.run pins s σ us I r
theorem eI {t : TE} {σ : L2.St} {H : Hp} {Q : VK} (h : PE X e t) (q : t σ H Q) : eW X e σ H Q := ⟨fun pins s I => h.run pins s σ H Q I q⟩
theorem tI {t : TT} {σ : L2.St} {H : Hp} {Q : Bool → Hp → Prop} (h : PT X e t) (q : t σ H Q) : tW X e σ H Q := ⟨fun pins s I => h.run pins s σ H Q I q⟩
theorem cI {t : TT} {σ : L2.St} {H : Hp} {Q : Bool → Hp → Prop} (h : PW X e t) (q : t σ H Q) : cW X e σ H Q := ⟨fun wh pins s I => h.run wh pins s σ H Q I q⟩
theorem aI {t : TA} {σ : L2.St} {H : Hp} {Q : List V → Hp → Prop} (h : PA X es t) (q : t σ H Q) : aW X es σ H Q := ⟨fun pos pins s I => h.run pos pins s σ H Q I q⟩
theorem sI {t : TS} {D : Ends} {σ : L2.St} {H : Hp} (h : PS X st t) (q : t D σ H) : sW X st D σ H := ⟨fun pins s I => h.run pins s σ H D I q⟩
theorem bI {t : TS} {D : Ends} {σ : L2.St} {H : Hp} (h : PSs X b t) (q : t D σ H) : bW X b D σ H := ⟨fun pins s I => h.run pins s σ H D I q⟩
theorem gI {t : TG} {v : V} {σ : L2.St} {H : Hp} {Q : L2.St → Hp → Prop} (h : PG X e t) (q : t v σ H Q) : gW X e v σ H Q := ⟨fun pins s u I r => h.run pins s σ H v u Q I r q⟩
theorem oI {f : Value → Value → Sem Value} {r : R2} {x y : V} {H : Hp} {Q : VK} (h : OpR X f r) (q : r x y H Q) : oW X f x y H Q := ⟨fun pins s σ v u I rx ry => h pins s σ H x y v u Q I rx ry q⟩
theorem uI {f : Value → Sem Value} {r : V → Hp → VK → Prop} {x : V} {H : Hp} {Q : VK} (h : UnR X f r) (q : r x H Q) : uW X f x H Q := ⟨fun pins s σ v I rx => h pins s σ H x v Q I rx q⟩
theorem kI {f : Value} {r : List V → Hp → VK → Prop} {xs : List V} {H : Hp} {Q : VK} (h : CallR X f r) (q : r xs H Q) : kW X f xs H Q := ⟨fun pins s σ us I rx => h pins s σ H xs us Q I rx q⟩
theorem eMono {σ : L2.St} {H : Hp} {Q Q' : VK} (h : eW X e σ H Q) (i : ∀ v H', Q v H' → Q' v H') : eW X e σ H Q' := ⟨fun pins s I => wpAny_mono (h.run pins s I) (fun _ _ ⟨v, H', a, b, c⟩ => ⟨v, H', a, b, i v H' c⟩) fun _ _ x => x⟩
theorem tMono {σ : L2.St} {H : Hp} {Q Q' : Bool → Hp → Prop} (h : tW X e σ H Q) (i : ∀ v H', Q v H' → Q' v H') : tW X e σ H Q' := ⟨fun pins s I => wpAny_mono (h.run pins s I) (fun _ _ ⟨H', a, c⟩ => ⟨H', a, i _ H' c⟩) fun _ _ x => x⟩
end

/-! ### what a context tells -/
def cxr (P : Program) (w : World) (K : PySem.W.Frag) (mg : Str → Option Value) (base : Heap) (N : List Str) (q : Str) (st : Stmt) (f : Addr) (cd : Value) (A : Around) (outer : List Env) (s : Shared) (H : Hp) (E : XK) : Cx := cxOf (L2.CX P w) P w K mg base N q (defScope st) f cd A outer s H E
class CxN (X : Cx) (N : outParam (List Str)) : Prop where h : X.N = N
class CxK (X : Cx) (K : outParam PySem.W.Frag) : Prop where h : X.K = K
class CxM (X : Cx) (mg : outParam (Str → Option Value)) : Prop where h : X.mg = mg
class CxC (X : Cx) : Prop where h : X.calm = true
class CxO (X : Cx) : Prop where h : PassesOwn (model X.prog X.w) X.A X.env X.xe
class CxT (X : Cx) (W : outParam WX) : Prop where h : Takes X W
/-- the slot of a name -/
class Slt (N : List Str) (x : Str) (i : outParam Nat) : Prop where h : N[i]? = some x
instance (priority := high) slt0 {x : Str} {N : List Str} : Slt (x :: N) x 0 := ⟨rfl⟩
instance slt1 {x y : Str} {N : List Str} {i : Nat} [s : Slt N x i] : Slt (y :: N) x (i + 1) := ⟨s.h⟩
class Blt (x : Str) (v : outParam Value) : Prop where h : bootBuiltins x = some v
instance : Blt "len" (.builtin "len") := ⟨boot_len⟩
instance : Blt "isinstance" (.builtin "isinstance") := ⟨boot_isinstance⟩
instance : Blt "min" (.builtin "min") := ⟨boot_min⟩
instance : Blt "max" (.builtin "max") := ⟨boot_max⟩
instance : Blt "sorted" (.builtin "sorted") := ⟨boot_sorted⟩
instance : Blt "sum" (.builtin "sum") := ⟨boot_sum⟩
instance : Blt "any" (.builtin "any") := ⟨boot_any⟩
instance : Blt "all" (.builtin "all") := ⟨boot_all⟩
instance : Blt "abs" (.builtin "abs") := ⟨boot_abs⟩
instance : Blt "ord" (.builtin "ord") := ⟨boot_ord⟩
instance : Blt "chr" (.builtin "chr") := ⟨boot_chr⟩
instance : Blt "range" (.type "range") := ⟨boot_range⟩
instance : Blt "list" (.type "list") := ⟨boot_list⟩
instance : Blt "tuple" (.type "tuple") := ⟨boot_tuple⟩
instance : Blt "int" (.type "int") := ⟨boot_int⟩
instance : Blt "str" (.type "str") := ⟨boot_str⟩
instance : Blt "bool" (.type "bool") := ⟨boot_bool⟩
instance : Blt "set" (.type "set") := ⟨boot_set⟩
instance : Blt "dict" (.type "dict") := ⟨boot_dict⟩
instance : Blt "enumerate" (.type "enumerate") := ⟨boot_enumerate⟩
instance : Blt "zip" (.type "zip") := ⟨boot_zip⟩
instance : Blt "reversed" (.type "reversed") := ⟨boot_reversed⟩
instance : Blt "ValueError" (.type "ValueError") := ⟨by decide +kernel⟩
/-- what a name of the module holds -/
class Gn (mg : Str → Option Value) (x : Str) (v : outParam (Option Value)) : Prop where h : mg x = v
section
variable {P : Program} {w : World} {K : PySem.W.Frag} {mg : Str → Option Value} {base : Heap} {N : List Str} {q : Str} {st : Stmt} {f : Addr} {cd : Value} {A : Around} {outer : List Env} {s : Shared} {H : Hp} {E : XK}
instance : CxN (cxr P w K mg base N q st f cd A outer s H E) N := ⟨rfl⟩
instance : CxK (cxr P w K mg base N q st f cd A outer s H E) K := ⟨rfl⟩
instance : CxM (cxr P w K mg base N q st f cd A outer s H E) mg := ⟨rfl⟩
instance : CxC (cxr P w K mg base N q st f cd A outer s H E) := ⟨rfl⟩
instance : CxO (cxr P w K mg base N q st f cd A outer s H E) := ⟨passes_of (X := cxr P w K mg base N q st f cd A outer s H E) rfl⟩
instance : CxT (cxr P w K mg base N q st f cd A outer s H E) (fun cls d _ H => E cls d H) := ⟨takes_of (X := cxr P w K mg base N q st f cd A outer s H E) rfl rfl rfl rfl⟩
end
section
variable {X : Cx} {s : Shared} {H : Hp} {sc : Scope} {ce : Env} {fp : List Addr} {pn : List (Addr × Obj)} {xe : Value → Shared → Prop} {a : Addr}
instance {N : List Str} [c : CxN X N] : CxN (X.blk s H sc ce fp) N := ⟨c.h⟩
instance {K : PySem.W.Frag} [c : CxK X K] : CxK (X.blk s H sc ce fp) K := ⟨c.h⟩
instance {mg : Str → Option Value} [c : CxM X mg] : CxM (X.blk s H sc ce fp) mg := ⟨c.h⟩
instance [c : CxC X] : CxC (X.blk s H sc ce fp) := ⟨c.h⟩
instance : CxT (X.blk s H sc ce fp) (fun _ _ _ _ => False) := ⟨takes0⟩
instance {N : List Str} [c : CxN X N] : CxN (X.tr pn xe) N := ⟨c.h⟩
instance {K : PySem.W.Frag} [c : CxK X K] : CxK (X.tr pn xe) K := ⟨c.h⟩
instance {mg : Str → Option Value} [c : CxM X mg] : CxM (X.tr pn xe) mg := ⟨c.h⟩
instance [c : CxC X] : CxC (X.tr pn xe) := ⟨c.h⟩
instance {N : List Str} [c : CxN X N] : CxN (X.suite a pn) N := ⟨c.h⟩
instance {K : PySem.W.Frag} [c : CxK X K] : CxK (X.suite a pn) K := ⟨c.h⟩
instance {mg : Str → Option Value} [c : CxM X mg] : CxM (X.suite a pn) mg := ⟨c.h⟩
end

/-! ### expressions -/
section
variable {X : Cx} {σ : L2.St} {H : Hp} {Q : VK} {pos p2 p3 p4 : Pos} {a b c : Expr} {rest : List Expr}
theorem e_var {N : List Str} {x : Str} {i : Nat} {v : V} [cn : CxN X N] [sl : Slt N x i] (hs : σ[i]? = some (some v)) (q : Q v H)
    (hv : Vis X.env.scope x := by first | exact Or.inl rfl | exact Or.inr (Or.inl rfl) | exact Or.inr (Or.inr rfl)) (hd : (x == ("__debug__" : Str)) = false := by decide) (hcd : (x == ("__classdict__" : Str)) = false := by decide) : eW X (.Name x pos) σ H Q :=
  eI (pe_var (i := i) (by rw [cn.h]; exact sl.h) hv hd hcd) ⟨v, hs, q⟩
theorem e_int {i : Int} {j : Nat} (q : Q (.int i) H) : eW X (.Constant (.int i) j pos) σ H Q := eI pe_int q
theorem e_bl {i : Bool} {j : Nat} (q : Q (.bl i) H) : eW X (.Constant (.bool i) j pos) σ H Q := eI pe_bl q
theorem e_non {j : Nat} (q : Q .non H) : eW X (.Constant .none j pos) σ H Q := eI pe_non q
theorem e_str {x : Str} {j : Nat} (q : Q (.str x) H) : eW X (.Constant (.str x) j pos) σ H Q := eI pe_str q
theorem e_glob {mg : Str → Option Value} {x : Str} {u : Value} {v : V} [cm : CxM X mg] [g : Gn mg x (some u)] (r : RelV v u) (q : Q v H) (hg : Gl X x := by rfl) (hd : (x == ("__debug__" : Str)) = false := by decide) : eW X (.Name x pos) σ H Q :=
  eI (pe_glob hg (by rw [cm.h]; exact g.h) r hd) q
theorem e_globR {mg : Str → Option Value} {x : Str} {f : Addr} [cm : CxM X mg] [g : Gn mg x (some (.ref f))] (q : Q (.ref f) H) (hg : Gl X x := by rfl) (hd : (x == ("__debug__" : Str)) = false := by decide) : eW X (.Name x pos) σ H Q :=
  eI (pe_glob (v := .ref f) hg (by rw [cm.h]; exact g.h) rfl hd) q
theorem e_globI {mg : Str → Option Value} {x : Str} {i : Int} {t : Tok} [cm : CxM X mg] [g : Gn mg x (some (.int i t))] (q : Q (.int i) H) (hg : Gl X x := by rfl) (hd : (x == ("__debug__" : Str)) = false := by decide) : eW X (.Name x pos) σ H Q :=
  eI (pe_glob (v := .int i) hg (by rw [cm.h]; exact g.h) ⟨_, rfl⟩ hd) q
theorem e_globS {mg : Str → Option Value} {x : Str} {i : Str} {t : Tok} [cm : CxM X mg] [g : Gn mg x (some (.str i t))] (q : Q (.str i) H) (hg : Gl X x := by rfl) (hd : (x == ("__debug__" : Str)) = false := by decide) : eW X (.Name x pos) σ H Q :=
  eI (pe_glob (v := .str i) hg (by rw [cm.h]; exact g.h) ⟨_, rfl⟩ hd) q
theorem e_ty {mg : Str → Option Value} {x : Str} {n : String} [cm : CxM X mg] [g : Gn mg x none] [bl : Blt x (.type n)] (q : Q (.ty n) H) (hg : Gl X x := by rfl) (hn : x ≠ "__name__" := by decide) (hd : (x == ("__debug__" : Str)) = false := by decide) : eW X (.Name x pos) σ H Q :=
  eI (pe_bltn (v := .ty n) hg (by rw [cm.h]; exact g.h) bl.h rfl hn hd) q
theorem e_bin {op : Operator} (h : eW X a σ H fun x H1 => eW X b σ H1 fun y H2 => oW X (binaryOp op) x y H2 Q) : eW X (.BinOp a op b pos) σ H Q := eI (pe_op OPw PEw PEw) h
theorem e_un {op : UnaryOp} (h : eW X a σ H fun x H1 => uW X (unaryOp op) x H1 Q) : eW X (.UnaryOp op a pos) σ H Q := eI (pe_un UNw PEw) h
theorem e_cmp {op : CmpOp} (h : eW X a σ H fun x H1 => eW X b σ H1 fun y H2 => oW X (compareOp op) x y H2 Q) (hm : behindInMarks op b = false := by first | exact nomark _ | rfl) : eW X (.Compare a [op] [b] pos) σ H Q := eI (pe_cmpR OPw PEw PEw hm) h
theorem e_isN {j : Nat} (h : eW X a σ H fun x H1 => Q (.bl (decide (x = .non))) H1) : eW X (.Compare a [.Is] [.Constant .none j p2] pos) σ H Q := eI (pe_cmp (pc_isN PEw) rfl) h
theorem e_notN {j : Nat} (h : eW X a σ H fun x H1 => Q (.bl (!decide (x = .non))) H1) : eW X (.Compare a [.IsNot] [.Constant .none j p2] pos) σ H Q := eI (pe_cmp (pc_notN PEw) rfl) h
theorem e_ifE {t : Expr} (h : tW X t σ H fun k H1 => if k = true then eW X a σ H1 Q else eW X b σ H1 Q) : eW X (.IfExp t a b pos) σ H Q := eI (pe_ifExp PTw PEw PEw) h
theorem e_one {op : BoolOp} (h : eW X a σ H Q) : eW X (.BoolOp op [a] pos) σ H Q := eI (pe_one PEw) h
theorem e_and (h : eW X a σ H fun x H1 => ∃ k, x = .bl k ∧ if k = true then eW X (.BoolOp .And (b :: rest) pos) σ H1 Q else Q (.bl false) H1) : eW X (.BoolOp .And (a :: b :: rest) pos) σ H Q := eI (pe_and PEw PEw) h
theorem e_or (h : eW X a σ H fun x H1 => ∃ k, x = .bl k ∧ if k = true then Q (.bl true) H1 else eW X (.BoolOp .Or (b :: rest) pos) σ H1 Q) : eW X (.BoolOp .Or (a :: b :: rest) pos) σ H Q := eI (pe_or PEw PEw) h
theorem e_not (h : eW X a σ H fun x H1 => ∃ k, x = .bl k ∧ Q (.bl (!k)) H1) : eW X (.UnaryOp .Not a pos) σ H Q := eI (pe_not PEw) h
theorem e_tup {es : List Expr} {k : Nat} (h : aW X es σ H fun xs H1 => xs.length ≤ sizeLine ∧ ∀ p, H1 p = none → Q (.ref p) (upd H1 p (.tup xs))) : eW X (.Tuple es k pos) σ H Q := eI (pe_tup PAw) h
theorem e_lst {es : List Expr} (h : aW X es σ H fun xs H1 => xs.length ≤ sizeLine ∧ ∀ p, H1 p = none → Q (.ref p) (upd H1 p (.lst xs))) : eW X (.List es pos) σ H Q := eI (pe_lst PAw) h
/-- and, or of two truths whose joint answer is told -/
theorem e_andJ {d : Bool} (h : eW X a σ H fun x H1 => ∃ k, x = .bl k ∧ (k = true → ∀ Q' : VK, Q' (.bl d) H1 → eW X (.BoolOp .And (b :: rest) pos) σ H1 Q') ∧ Q (.bl (k && d)) H1) : eW X (.BoolOp .And (a :: b :: rest) pos) σ H Q :=
  e_and (eMono h fun x H1 ⟨k, e, h1, h2⟩ => ⟨k, e, by cases k with | true => exact (h1 rfl _ h2) | false => exact h2⟩)
theorem e_orJ {d : Bool} (h : eW X a σ H fun x H1 => ∃ k, x = .bl k ∧ (k = false → ∀ Q' : VK, Q' (.bl d) H1 → eW X (.BoolOp .Or (b :: rest) pos) σ H1 Q') ∧ Q (.bl (k || d)) H1) : eW X (.BoolOp .Or (a :: b :: rest) pos) σ H Q :=
  e_or (eMono h fun x H1 ⟨k, e, h1, h2⟩ => ⟨k, e, by cases k with | true => exact h2 | false => exact (h1 rfl _ h2)⟩)
/-- a chain of two comparisons -/
theorem e_chain {op op' : CmpOp} (h : eW X a σ H fun x H1 => eW X b σ H1 fun y H2 => oW X (compareOp op) x y H2 fun z H3 => ∃ k, z = .bl k ∧ (if k = true then eW X c σ H3 (fun w' H4 => oW X (compareOp op') y w' H4 Q) else Q (.bl false) H3))
    (hm : lastMarks [op, op'] [b, c] = false := by with_unfolding_all rfl) : eW X (.Compare a [op, op'] [b, c] pos) σ H Q := eI (pe_chain OPw OPw PEw PEw PEw hm) h
theorem t_chain {op op' : CmpOp} {R : Bool → Hp → Prop} (h : eW X a σ H fun x H1 => eW X b σ H1 fun y H2 => oW X (compareOp op) x y H2 fun z H3 => ∃ k, z = .bl k ∧ (if k = true then eW X c σ H3 (fun w' H4 => oW X (compareOp op') y w' H4 fun u H5 => ∃ k, u = .bl k ∧ R k H5) else (∃ k', V.bl false = .bl k' ∧ R k' H3)))
    (hm : lastMarks [op, op'] [b, c] = false := by with_unfolding_all rfl) : tW X (.Compare a [op, op'] [b, c] pos) σ H R := tI (pt_chain OPw OPw PEw PEw PEw hm) h

/-! ### arguments -/
theorem a_nil {R : List V → Hp → Prop} (h : R [] H) : aW X [] σ H R := aI pa_nil h
theorem a_cons {es : List Expr} {R : List V → Hp → Prop} (h : eW X a σ H fun x H1 => aW X es σ H1 fun xs H2 => R (x :: xs) H2) (hs : starEach (a :: es) X.env = (false, eval a X.env) :: starEach es X.env := by rfl) : aW X (a :: es) σ H R := aI (pa_cons PEw PAw hs) h

/-! ### tests -/
variable {R : Bool → Hp → Prop}
theorem t_val {e : Expr} (h : eW X e σ H fun x H1 => ∃ k, x = .bl k ∧ R k H1) (he : ∀ whole, isTrue e X.env whole = (do let v ← whole; standAt e.pos; holding [v] (truthy v)) := by intro _; rfl) : tW X e σ H R := tI (pt_val PEw he) h
theorem t_tru {e : Expr} (h : eW X e σ H fun x H1 => ∃ k, TruV X.K x H1 k ∧ R k H1) (he : ∀ whole, isTrue e X.env whole = (do let v ← whole; standAt e.pos; holding [v] (truthy v)) := by intro _; rfl) : tW X e σ H R := tI (pt_truth PEw he) h
theorem t_cmp {op : CmpOp} (h : eW X a σ H fun x H1 => eW X b σ H1 fun y H2 => oW X (compareOp op) x y H2 fun z H3 => ∃ k, z = .bl k ∧ R k H3) (hm : behindInMarks op b = false := by first | exact nomark _ | rfl) : tW X (.Compare a [op] [b] pos) σ H R := tI (pt_cmpR OPw PEw PEw hm) h
theorem t_isN {j : Nat} (h : eW X a σ H fun x H1 => R (decide (x = .non)) H1) : tW X (.Compare a [.Is] [.Constant .none j p2] pos) σ H R := tI (pt_cmp (pc_isN PEw) rfl) (eMono h fun _ _ q => ⟨_, rfl, q⟩)
theorem t_notN {j : Nat} (h : eW X a σ H fun x H1 => R (!decide (x = .non)) H1) : tW X (.Compare a [.IsNot] [.Constant .none j p2] pos) σ H R := tI (pt_cmp (pc_notN PEw) rfl) (eMono h fun _ _ q => ⟨_, rfl, q⟩)
theorem t_not (h : tW X a σ H fun k H1 => R (!k) H1) : tW X (.UnaryOp .Not a pos) σ H R := tI (pt_not PTw) h
theorem t_and (h : cW X (.BoolOp .And rest pos) σ H R) : tW X (.BoolOp .And rest pos) σ H R := tI (PWw).pt h
theorem t_or (h : cW X (.BoolOp .Or rest pos) σ H R) : tW X (.BoolOp .Or rest pos) σ H R := tI (PWw).pt h
theorem c_and1 (h : tW X a σ H R) : cW X (.BoolOp .And [a] pos) σ H R := cI (pw_and1 PTw) h
theorem c_or1 (h : tW X a σ H R) : cW X (.BoolOp .Or [a] pos) σ H R := cI (pw_or1 PTw) h
theorem c_and (h : tW X a σ H fun k H1 => if k = true then cW X (.BoolOp .And (b :: rest) pos) σ H1 R else R false H1) : cW X (.BoolOp .And (a :: b :: rest) pos) σ H R := cI (pw_and PTw PWw) h
theorem c_or (h : tW X a σ H fun k H1 => if k = true then R true H1 else cW X (.BoolOp .Or (b :: rest) pos) σ H1 R) : cW X (.BoolOp .Or (a :: b :: rest) pos) σ H R := cI (pw_or PTw PWw) h
/-- .. joined: the answer of both is told -/
theorem c_andJ {d : Bool} (h : tW X a σ H fun k H1 => (k = true → ∀ R' : Bool → Hp → Prop, R' d H1 → cW X (.BoolOp .And (b :: rest) pos) σ H1 R') ∧ R (k && d) H1) : cW X (.BoolOp .And (a :: b :: rest) pos) σ H R :=
  c_and (tMono h fun k H1 ⟨h1, h2⟩ => by cases k with | true => exact (h1 rfl _ h2) | false => exact h2)
theorem c_orJ {d : Bool} (h : tW X a σ H fun k H1 => (k = false → ∀ R' : Bool → Hp → Prop, R' d H1 → cW X (.BoolOp .Or (b :: rest) pos) σ H1 R') ∧ R (k || d) H1) : cW X (.BoolOp .Or (a :: b :: rest) pos) σ H R :=
  c_or (tMono h fun k H1 ⟨h1, h2⟩ => by cases k with | true => exact h2 | false => exact (h1 rfl _ h2))
end

/-! ### statements -/
@[reducible] def Dsq (X : Cx) (more : List Stmt) (D : Ends) : Ends := { D with nx := bW X more D }
@[reducible] def Dlp (D : Ends) (N : L2.St → Hp → Prop) : Ends := { D with nx := N, ct := N, bk := D.nx }
@[reducible] def Dnx (D : Ends) (N : L2.St → Hp → Prop) : Ends := { D with nx := N }
section
variable {X : Cx} {σ : L2.St} {H : Hp} {D : Ends} {pos p2 p3 p4 : Pos} {e it tg : Expr} {st : Stmt} {body more : List Stmt}
theorem b_nil (h : D.nx σ H) : bW X [] D σ H := bI pss_nil h
theorem b_cons (h : sW X st (Dsq X more D) σ H) : bW X (st :: more) D σ H := bI (pss_cons PSw PBw) h
theorem b_one (h : sW X st D σ H) : bW X [st] D σ H := bI (pss_one PSw) h
theorem s_ret (h : eW X e σ H D.rt) : sW X (.Return (some e) pos) D σ H := sI (ps_ret PEw) h
theorem s_retN (h : D.rt .non H) : sW X (.Return none pos) D σ H := sI ps_retN h
theorem s_pass (h : D.nx σ H) : sW X (.Pass pos) D σ H := sI ps_pass h
theorem s_brk (h : D.bk σ H) : sW X (.Break pos) D σ H := sI ps_break h
theorem s_cont (h : D.ct σ H) : sW X (.Continue pos) D σ H := sI ps_continue h
theorem s_expr (h : eW X e σ H fun _ H1 => D.nx σ H1) (hs : swapsWith e none pos.line X.env = pure false := by rfl) : sW X (.Expr e pos) D σ H := sI (ps_expr PEw hs) h
theorem s_if {t : Expr} {x y : List Stmt} (h : tW X t σ H fun k H1 => if k = true then bW X x D σ H1 else bW X y D σ H1) : sW X (.If t x y pos) D σ H := sI (ps_if PTw PBw PBw) h
class NdN (N : List Str) : Prop where h : N.Nodup
theorem s_set {N : List Str} {x : Str} {i : Nat} [cn : CxN X N] [sl : Slt N x i] [nd : NdN N] (h : eW X e σ H fun v H1 => D.nx (σ.set i (some v)) H1) (hx : Loc X.env.scope x := by first | exact Or.inl rfl | exact Or.inr rfl) (hs : swapsWith e (some (.Name x p2)) pos.line X.env = pure false := by rfl)
    (hf : X.fn x = true ∨ X.env.scope.names.lookup x = some .local := by first | exact .inl rfl | exact .inr rfl | assumption) : sW X (.Assign [.Name x p2] e pos) D σ H :=
  sI (ps_set (i := i) (by rw [cn.h]; exact nd.h) (by rw [cn.h]; exact sl.h) hx PEw hs hf) h
theorem g_name {N : List Str} {x : Str} {i : Nat} {v : V} {Q : L2.St → Hp → Prop} [cn : CxN X N] [sl : Slt N x i] [nd : NdN N] (h : Q (σ.set i (some v)) H) (hx : Loc X.env.scope x := by first | exact Or.inl rfl | exact Or.inr rfl)
    (hf : X.fn x = true ∨ X.env.scope.names.lookup x = some .local := by first | exact .inl rfl | exact .inr rfl | assumption) : gW X (.Name x pos) v σ H Q :=
  gI (pg_name (i := i) (by rw [cn.h]; exact nd.h) (by rw [cn.h]; exact sl.h) hx hf) h
theorem s_asg (h : eW X e σ H fun v H1 => gW X tg v σ H1 D.nx) (hs : swapsWithSole [tg] e pos.line X.env = pure false := by rfl) (hw : swappedStores [tg] e X.env = pure none := by rfl)
    (h1 : (assignEach [tg] X.env).map (·.2) = [assign tg X.env] := by rfl) : sW X (.Assign [tg] e pos) D σ H := sI (ps_asg PEw PGw hs hw h1) h
/-- while: W by what is left -/
theorem s_while {c : Expr} [ow : CxO X] (W : Nat → L2.St → Hp → Prop) (m : Nat) (h0 : W m σ H)
    (h : ∀ m σ H, W m σ H → tW X c σ H fun b H1 => if b = true then bW X body (Dlp D fun σ' H' => ∃ m', m' < m ∧ W m' σ' H') σ H1 else D.nx σ H1) : sW X (.While c body [] pos) D σ H :=
  sI (ps_while ow.h PTw PBw) ⟨W, ⟨m, h0⟩, fun m σ H w => tMono (h m σ H w) fun b H1 q => by
    cases b with
    | true => exact ⟨_, fun _ _ z => z, q⟩
    | false => exact q⟩
theorem s_forL [ow : CxO X] [cc : CxC X] (h : eW X it σ H fun x H1 => ∃ a xs, x = .ref a ∧ SqL X.K H1 a xs ∧ ∃ Pv : Nat → L2.St → Hp → Prop, Pv 0 σ H1 ∧ (∀ i σ' H', i ≤ xs.length → Pv i σ' H' → SqL X.K H' a xs) ∧
      (∀ i v σ' H', xs[i]? = some v → Pv i σ' H' → gW X tg v σ' H' fun σ2 H2 => bW X body (Dlp D (Pv (i + 1))) σ2 H2) ∧ ∀ σ' H', Pv xs.length σ' H' → D.nx σ' H') (hs : ∀ x, foldedSetIterable it X.env x = pure x := by intro _; rfl) : sW X (.For tg it body [] pos) D σ H :=
  sI (ps_for ow.h cc.h (pi_list PEw) PGw PBw hs) (eMono h fun x H1 ⟨a, xs, e1, e2, Pv, q0, q1, q2, q3⟩ => ⟨a, e1, ⟨xs, e2⟩, for_list (K := X.K) (a := a) (xs := xs) Pv q0 q1 q2 q3⟩)
theorem s_forT [ow : CxO X] [cc : CxC X] (h : eW X it σ H fun x H1 => ∃ a xs, x = .ref a ∧ SqT X.K H1 a xs ∧ ∃ Pv : Nat → L2.St → Hp → Prop, Pv 0 σ H1 ∧ (∀ i σ' H', i ≤ xs.length → Pv i σ' H' → SqT X.K H' a xs) ∧
      (∀ i v σ' H', xs[i]? = some v → Pv i σ' H' → gW X tg v σ' H' fun σ2 H2 => bW X body (Dlp D (Pv (i + 1))) σ2 H2) ∧ ∀ σ' H', Pv xs.length σ' H' → D.nx σ' H') (hs : ∀ x, foldedSetIterable it X.env x = pure x := by intro _; rfl) : sW X (.For tg it body [] pos) D σ H :=
  sI (ps_for ow.h cc.h (pi_tup PEw) PGw PBw hs) (eMono h fun x H1 ⟨a, xs, e1, e2, Pv, q0, q1, q2, q3⟩ => ⟨a, e1, ⟨xs, e2⟩, for_tup (K := X.K) (a := a) (xs := xs) Pv q0 q1 q2 q3⟩)
end

/-! ### values -/
section
variable {X : Cx} {H : Hp} {Q : VK} {i j : Int} {k l : Bool} {x y : V} {z u : Str}
theorem o_add (q : Q (.int (i + j)) H) : oW X (binaryOp .Add) (.int i) (.int j) H Q := oI op_add ⟨_, _, rfl, rfl, q⟩
theorem o_sub (q : Q (.int (i - j)) H) : oW X (binaryOp .Sub) (.int i) (.int j) H Q := oI op_sub ⟨_, _, rfl, rfl, q⟩
theorem o_mul (h : CMulW i j) (q : Q (.int (i * j)) H) : oW X (binaryOp .Mult) (.int i) (.int j) H Q := oI op_mulW ⟨_, _, rfl, rfl, h, q⟩
theorem o_mulS (h : CMul i j) (q : Q (.int (i * j)) H) : oW X (binaryOp .Mult) (.int i) (.int j) H Q := oI op_mul ⟨_, _, rfl, rfl, h, q⟩
theorem o_mod (h : 0 < j) (q : Q (.int (i % j)) H) : oW X (binaryOp .Mod) (.int i) (.int j) H Q := oI op_mod ⟨_, _, rfl, rfl, h, q⟩
theorem o_div (h : CDiv i j) (q : Q (.int (i / j)) H) : oW X (binaryOp .FloorDiv) (.int i) (.int j) H Q := oI op_fdiv ⟨_, _, rfl, rfl, h, q⟩
theorem o_pow (h : CPow i j) (q : Q (.int (i ^ j.toNat)) H) : oW X (binaryOp .Pow) (.int i) (.int j) H Q := oI op_pow ⟨_, _, rfl, rfl, h, q⟩
theorem o_cat (h : z.length + u.length ≤ sizeLine) (q : Q (.str (z ++ u)) H) : oW X (binaryOp .Add) (.str z) (.str u) H Q := oI op_add_str ⟨_, _, rfl, rfl, h, q⟩
theorem o_lt (q : Q (.bl (decide (i < j))) H) : oW X (compareOp .Lt) (.int i) (.int j) H Q := oI op_lt ⟨_, _, rfl, rfl, q⟩
theorem o_le (q : Q (.bl (decide (i ≤ j))) H) : oW X (compareOp .LtE) (.int i) (.int j) H Q := oI op_le ⟨_, _, rfl, rfl, q⟩
theorem o_gt (q : Q (.bl (decide (j < i))) H) : oW X (compareOp .Gt) (.int i) (.int j) H Q := oI op_gt ⟨_, _, rfl, rfl, q⟩
theorem o_ge (q : Q (.bl (decide (j ≤ i))) H) : oW X (compareOp .GtE) (.int i) (.int j) H Q := oI op_ge ⟨_, _, rfl, rfl, q⟩
theorem o_eqI (q : Q (.bl (decide (i = j))) H) : oW X (compareOp .Eq) (.int i) (.int j) H Q := oI op_eq ⟨rfl, by rw [show decide (V.int i = V.int j) = decide (i = j) from decide_eq_decide.mpr ⟨fun e => V.int.inj e, fun e => by rw [e]⟩]; exact q⟩
theorem o_neI (q : Q (.bl (!decide (i = j))) H) : oW X (compareOp .NotEq) (.int i) (.int j) H Q := oI op_ne ⟨rfl, by rw [show decide (V.int i = V.int j) = decide (i = j) from decide_eq_decide.mpr ⟨fun e => V.int.inj e, fun e => by rw [e]⟩]; exact q⟩
theorem o_eqS (q : Q (.bl (decide (z = u))) H) : oW X (compareOp .Eq) (.str z) (.str u) H Q := oI op_eq ⟨rfl, by rw [show decide (V.str z = V.str u) = decide (z = u) from decide_eq_decide.mpr ⟨fun e => V.str.inj e, fun e => by rw [e]⟩]; exact q⟩
theorem o_neS (q : Q (.bl (!decide (z = u))) H) : oW X (compareOp .NotEq) (.str z) (.str u) H Q := oI op_ne ⟨rfl, by rw [show decide (V.str z = V.str u) = decide (z = u) from decide_eq_decide.mpr ⟨fun e => V.str.inj e, fun e => by rw [e]⟩]; exact q⟩
theorem o_eqB (q : Q (.bl (decide (k = l))) H) : oW X (compareOp .Eq) (.bl k) (.bl l) H Q := oI op_eq ⟨rfl, by rw [show decide (V.bl k = V.bl l) = decide (k = l) from decide_eq_decide.mpr ⟨fun e => V.bl.inj e, fun e => by rw [e]⟩]; exact q⟩
theorem o_neB (q : Q (.bl (!decide (k = l))) H) : oW X (compareOp .NotEq) (.bl k) (.bl l) H Q := oI op_ne ⟨rfl, by rw [show decide (V.bl k = V.bl l) = decide (k = l) from decide_eq_decide.mpr ⟨fun e => V.bl.inj e, fun e => by rw [e]⟩]; exact q⟩
theorem u_neg (q : Q (.int (-i)) H) : uW X (unaryOp .USub) (.int i) H Q := uI un_neg ⟨_, rfl, q⟩
end
theorem iteD {p : Prop} [Decidable p] {A B : Prop} (h1 : p → A) (h2 : ¬ p → B) : if decide p = true then A else B := by
  by_cases h : p
  · rw [if_pos (decide_eq_true h)]; exact h1 h
  · rw [decide_eq_false h, if_neg Bool.false_ne_true]; exact h2 h
theorem iteND {p : Prop} [Decidable p] {A B : Prop} (h1 : ¬ p → A) (h2 : p → B) : if (!decide p) = true then A else B := by
  by_cases h : p
  · rw [decide_eq_true h]; exact iteF (h2 h)
  · rw [decide_eq_false h]; exact iteT (h1 h)
theorem iteB {k : Bool} {A B : Prop} (h1 : k = true → A) (h2 : k = false → B) : if k = true then A else B := by
  cases k with
  | true => exact iteT (h1 rfl)
  | false => exact iteF (h2 rfl)

/-! ### calls -/
section
variable {X : Cx} {σ : L2.St} {H : Hp} {Q : VK} {pos p2 p3 p4 apos : Pos} {a e : Expr} {es : List Expr} {P : Program} {w : World} {K : PySem.W.Frag} {mg : Str → Option Value} {base : Heap}
/-- a def of the module by its name: where it stands, how it binds, its promise -/
structure Df (P : Program) (w : World) (K : PySem.W.Frag) (mg : Str → Option Value) (base : Heap) (x : Str) (k : Nat) (ps : List Str) (sp : Sp) : Prop where
  ex : ∃ (f : Addr) (fd : FuncData), mg x = some (.ref f) ∧ PySem.W.keepIn K (.ref f) = true ∧ Binds K fd ps [] ∧ FnOk P w K mg base (L2.CX P w) k f fd ps sp
theorem e_call {x : Str} {k : Nat} {ps : List Str} {sp : Sp} {W : WX} [ct : CxT X W] (F : Df X.prog X.w X.K X.mg X.base x k ps sp) (hr : Room k X.A) (h : aW X (e :: es) σ H fun vs H1 => sp vs H1 Q fun cls d H' => W cls d σ H')
    (hg : Gl X x := by rfl) (hdb : (x == ("__debug__" : Str)) = false := by decide) (he : starEach (e :: es) X.env = (false, eval e X.env) :: starEach es X.env := by rfl) (hpl : (backTo pos (starEach es X.env)).any (·.1) = false := by rfl) : eW X (.Call (.Name x p2) (e :: es) [] pos) σ H Q := by
  obtain ⟨f, fd, h1, h2, h3, h4⟩ := F.ex
  exact eI (pe_callS (E := WE W) h4 hr hg h1 h2 h3 (fun σ => passAt ct.h σ) PAw hdb he hpl) h
theorem e_call0 {x : Str} {k : Nat} {ps : List Str} {sp : Sp} (F : Df X.prog X.w X.K X.mg X.base x k ps sp) (hr : Room k X.A) (h : sp [] H Q E0)
    (hg : Gl X x := by rfl) (hdb : (x == ("__debug__" : Str)) = false := by decide) : eW X (.Call (.Name x p2) [] [] pos) σ H Q := by
  obtain ⟨f, fd, h1, h2, h3, h4⟩ := F.ex
  exact eI (pe_call0 (E := E0) h4 hr hg h1 h2 h3 .nil passL hdb) h
theorem e_callB {x : Str} {id : String} [cm : CxM X mg] [g : Gn mg x none] [bl : Blt x (.builtin id)] (h : aW X (e :: es) σ H fun vs H1 => kW X (.builtin id) vs H1 Q)
    (hg : Gl X x := by rfl) (hn : x ≠ "__name__" := by decide) (hdb : (x == ("__debug__" : Str)) = false := by decide) (he : starEach (e :: es) X.env = (false, eval e X.env) :: starEach es X.env := by rfl) (hpl : (backTo pos (starEach es X.env)).any (·.1) = false := by rfl) : eW X (.Call (.Name x p2) (e :: es) [] pos) σ H Q :=
  eI (pe_callB KRw hg (by rw [cm.h]; exact g.h) bl.h PAw hn hdb he hpl) h
theorem e_callTy {x : Str} {id : String} [cm : CxM X mg] [g : Gn mg x none] [bl : Blt x (.type id)] (h : aW X (e :: es) σ H fun vs H1 => kW X (.type id) vs H1 Q)
    (hg : Gl X x := by rfl) (hn : x ≠ "__name__" := by decide) (hdb : (x == ("__debug__" : Str)) = false := by decide) (he : starEach (e :: es) X.env = (false, eval e X.env) :: starEach es X.env := by rfl) (hpl : (backTo pos (starEach es X.env)).any (·.1) = false := by rfl) : eW X (.Call (.Name x p2) (e :: es) [] pos) σ H Q :=
  eI (pe_callTy KRw hg (by rw [cm.h]; exact g.h) bl.h PAw hn hdb he hpl) h
end
/-! ### defs and classes of the text -/
structure At (K : PySem.W.Frag) (mg : Str → Option Value) (x q : Str) (st : Stmt) (ps : List Str) : Prop where
  ex : ∃ (f : Addr) (fd : FuncData), mg x = some (.ref f) ∧ Fun K x q st f fd ∧ Binds K fd ps []
structure MAt (K : PySem.W.Frag) (C : Addr) (x q : Str) (st : Stmt) (ps : List Str) : Prop where
  ex : ∃ (f : Addr) (fd : FuncData), Meth K C x f ∧ Fun K x q st f fd ∧ Binds K fd ps []
structure InitF (K : PySem.W.Frag) (C : Addr) (q : Str) (st : Stmt) (ps : List Str) : Prop where
  ex : ∃ (f : Addr) (fd : FuncData), Mk K C f ∧ Fun K "__init__" q st f fd ∧ Binds K fd ps []
structure ClsF (K : PySem.W.Frag) (mg : Str → Option Value) (x : Str) (C : Addr) : Prop where
  mg : mg x = some (.ref C)
  cl : Cls K C
  mks : PySem.W.makesIn K C = true
  kp : PySem.W.keepIn K (.ref C) = true
  ha : PySem.W.findIn K (.ref C) "__class__" = some (some (.builtin "object.__class__"))
  hn : PySem.W.specialIn K (.builtin "object.__class__") "__get__" = some (some (.builtin "getset_descriptor.__get__"))
  ht : PySem.W.takesIn K (.builtin "object.__class__") = some true
  hm : PySem.W.mroIn K C (.type "object") = some true
  ty : PySem.W.typeIn K (.ref C) = some (.type "type")
  ic : PySem.W.isClsIn K C = true
structure ExcF (K : PySem.W.Frag) (mg : Str → Option Value) (x : Str) (C : Addr) : Prop where
  mg : mg x = some (.ref C)
  ex : PySem.W.excIn K C [.type "ValueError", .type "Exception", .type "BaseException", .type "object"] "ValueError.__new__" = true
  kp : PySem.W.keepIn K (.ref C) = true
  be : PySem.W.subIn K (.ref C) (.type "BaseException") = some true
  ty : PySem.W.typeIn K (.ref C) = some (.type "type")
  ic : PySem.W.isClsIn K C = true
  ga : PySem.W.findIn K (.ref C) "__getattribute__" = some (some (.builtin "BaseException.__getattribute__"))
  gk : PySem.W.findIn K (.ref C) "__getattr__" = some none
  hd : PySem.W.hasDictIn K C = true
  ha : PySem.W.findIn K (.ref C) "__class__" = some (some (.builtin "object.__class__"))
  hn : PySem.W.specialIn K (.builtin "object.__class__") "__get__" = some (some (.builtin "getset_descriptor.__get__"))
  ht : PySem.W.takesIn K (.builtin "object.__class__") = some true
  hm : PySem.W.mroIn K C (.type "object") = some true
  ve : PySem.W.subIn K (.ref C) (.type "ValueError") = some true
structure Md (P : Program) (w : World) (K : PySem.W.Frag) (mg : Str → Option Value) (base : Heap) (C : Addr) (x : Str) (k : Nat) (ps : List Str) (sp : Sp) : Prop where
  ex : ∃ (f : Addr) (fd : FuncData), Meth K C x f ∧ Binds K fd ps [] ∧ FnOk P w K mg base (L2.CX P w) k f fd ps sp
/-! ### promises by the number of the arguments -/
def sp0 (R : Hp → VK → XK → Prop) : Sp := fun vs H Q E => vs = [] ∧ R H Q E
def sp1 (R : V → Hp → VK → XK → Prop) : Sp := fun vs H Q E => ∃ a, vs = [a] ∧ R a H Q E
def sp2 (R : V → V → Hp → VK → XK → Prop) : Sp := fun vs H Q E => ∃ a b, vs = [a, b] ∧ R a b H Q E
def sp3 (R : V → V → V → Hp → VK → XK → Prop) : Sp := fun vs H Q E => ∃ a b c, vs = [a, b, c] ∧ R a b c H Q E
def sp4 (R : V → V → V → V → Hp → VK → XK → Prop) : Sp := fun vs H Q E => ∃ a b c d, vs = [a, b, c, d] ∧ R a b c d H Q E
def sp5 (R : V → V → V → V → V → Hp → VK → XK → Prop) : Sp := fun vs H Q E => ∃ a b c d e, vs = [a, b, c, d, e] ∧ R a b c d e H Q E
def sp6 (R : V → V → V → V → V → V → Hp → VK → XK → Prop) : Sp := fun vs H Q E => ∃ a b c d e f, vs = [a, b, c, d, e, f] ∧ R a b c d e f H Q E
section
variable {vs : List V} {H : Hp} {Q : VK} {E : XK}
theorem sp0_len {R} (h : sp0 R vs H Q E) : vs.length = 0 := by obtain ⟨rfl, _⟩ := h; rfl
theorem sp1_len {R} (h : sp1 R vs H Q E) : vs.length = 1 := by obtain ⟨_, rfl, _⟩ := h; rfl
theorem sp2_len {R} (h : sp2 R vs H Q E) : vs.length = 2 := by obtain ⟨_, _, rfl, _⟩ := h; rfl
theorem sp3_len {R} (h : sp3 R vs H Q E) : vs.length = 3 := by obtain ⟨_, _, _, rfl, _⟩ := h; rfl
theorem sp4_len {R} (h : sp4 R vs H Q E) : vs.length = 4 := by obtain ⟨_, _, _, _, rfl, _⟩ := h; rfl
theorem sp5_len {R} (h : sp5 R vs H Q E) : vs.length = 5 := by obtain ⟨_, _, _, _, _, rfl, _⟩ := h; rfl
theorem sp6_len {R} (h : sp6 R vs H Q E) : vs.length = 6 := by obtain ⟨_, _, _, _, _, _, rfl, _⟩ := h; rfl
end
section
variable {X : Cx} {σ : L2.St} {H : Hp} {Q : VK} {pos p2 p3 p4 apos : Pos} {a e o : Expr} {es : List Expr} {mg : Str → Option Value} {C : Addr}
/-- o.m(e, ..), o.m() of an own class -/
theorem e_meth {m : Str} {k : Nat} {ps : List Str} {sp : Sp} (c : Cls X.K C) (F : Md X.prog X.w X.K X.mg X.base C m k ps sp) (hr : Room k X.A)
    (h : eW X o σ H fun x H1 => ∃ a dx fs, x = .ref a ∧ H1 a = some (.ins C dx fs) ∧ fs.lookup m = none ∧ aW X (e :: es) σ H1 fun vs H2 => sp (x :: vs) H2 Q E0) {pl : Sem Bool}
    (hst : starEach (e :: es) X.env = (false, eval e X.env) :: starEach es X.env := by rfl) (hpl : (backTo pos (starEach es X.env)).any (·.1) = false := by rfl)
    (ht : eval (.Call (.Attribute o m apos) (e :: es) [] pos) X.env = (do
      let ov ← eval o X.env
      standAt apos.atName
      let (f, first) ← holding [ov] (getMethod ov m pl)
      callWith pos f first (backTo pos (starEach (e :: es) X.env)) (backToKw pos (keywordEach [] X.env))) := by rfl) : eW X (.Call (.Attribute o m apos) (e :: es) [] pos) σ H Q := by
  obtain ⟨f, fd, h1, h2, h3⟩ := F.ex
  exact eI (pe_meth (E := E0) PEw c h1 h3 hr h2 .nil passL PAw hst hpl ht) (eMono h fun x H1 ⟨a, dx, fs, q1, q2, q3, q4⟩ => ⟨a, dx, fs, q1, q2, q3, by simpa only [List.append_nil] using q4⟩)
theorem e_meth0 {m : Str} {k : Nat} {ps : List Str} {sp : Sp} (c : Cls X.K C) (F : Md X.prog X.w X.K X.mg X.base C m k ps sp) (hr : Room k X.A)
    (h : eW X o σ H fun x H1 => ∃ a dx fs, x = .ref a ∧ H1 a = some (.ins C dx fs) ∧ fs.lookup m = none ∧ sp [x] H1 Q E0) {pl : Sem Bool}
    (ht : eval (.Call (.Attribute o m apos) [] [] pos) X.env = (do
      let ov ← eval o X.env
      standAt apos.atName
      let (f, first) ← holding [ov] (getMethod ov m pl)
      callWith pos f first (backTo pos (starEach [] X.env)) (backToKw pos (keywordEach [] X.env))) := by rfl) : eW X (.Call (.Attribute o m apos) [] [] pos) σ H Q := by
  obtain ⟨f, fd, h1, h2, h3⟩ := F.ex
  exact eI (pe_meth0 (E := E0) PEw c h1 h3 hr h2 .nil passL ht) h
theorem run_makeO {pins : List (Addr × Obj)} {s : Shared} (hm : PySem.W.makesIn X.K C = true) (hi : PySem.W.findIn X.K (.ref C) "__init__" = some (some (.builtin "object.__init__"))) (I : Inv X pins σ H s)
    (h : ∀ x dx, H x = none → H dx = none → dx ≠ x → Q (.ref x) (upd (upd H dx (.own x)) x (.ins C dx []))) : wpAny (model X.prog X.w) X.A (call (.ref C) []) (EP X pins σ Q) X.xe s := by
  have hq := h (s.heap.objs.size + 1) s.heap.objs.size (I.hok.fresh (Nat.le_succ _)) (I.hok.fresh (Nat.le_refl _)) (Nat.ne_of_lt (Nat.lt_succ_self _))
  have I2 := Inv.made (C := C) I
  have KX := I.kIn
  refine wpAny_call (make_map0 KX hm hi (fun self => PySem.W.Looks.of_pure (PySem.W.oi_bind self)) ?_)
  obtain ⟨hh, g, d, t, os⟩ := s
  have Y := PySem.W.makes_of (M := model X.prog X.w) KX hm
  have t1 : PySem.W.Looks (model X.prog X.w) ((hh.push PySem.W.emptyDict).push (PySem.W.instObj C hh.objs.size)) (typeOf (.ref (hh.objs.size + 1))) (.ref C) := (PySem.W.Looks.ld (by
    have z := Heap.get?_push_size (hh.push PySem.W.emptyDict) (o := PySem.W.instObj C hh.objs.size) rfl
    rw [Heap.size_push] at z
    exact z)).andThen .now
  have t2 : PySem.W.Looks (model X.prog X.w) ((hh.push PySem.W.emptyDict).push (PySem.W.instObj C hh.objs.size)) (isInstance (.ref (hh.objs.size + 1)) (.type "object")) true := t1.andThen (Y.top.keeps fun b o e => Heap.get?_push_of_some _ (Heap.get?_push_of_some _ e))
  refine codeAny_call_builtin PySem.W.oi_plain PySem.W.entry_oi (@PySem.W.check_slot (model X.prog X.w) _ _ _ "object.__init__" "object" "__init__" (.ref (hh.objs.size + 1)) [] [] _ PySem.W.oi_kind PySem.W.oi_split t2 (PySem.W.oi_args (.ref (hh.objs.size + 1))) ?_)
  rw [PySem.W.oi_run]
  exact wpAny_pure ⟨rfl, .ref (hh.objs.size + 1), _, I2, rfl, hq⟩
theorem e_makeO {x : Str} [cm : CxM X mg] [g : Gn mg x (some (.ref C))] (hm : PySem.W.makesIn X.K C = true) (hk : PySem.W.keepIn X.K (.ref C) = true) (hi : PySem.W.findIn X.K (.ref C) "__init__" = some (some (.builtin "object.__init__")))
    (h : ∀ x dx, H x = none → H dx = none → dx ≠ x → Q (.ref x) (upd (upd H dx (.own x)) x (.ins C dx []))) (hg : Gl X x := by rfl) (hdb : (x == ("__debug__" : Str)) = false := by decide) : eW X (.Call (.Name x p2) [] [] pos) σ H Q := ⟨fun pins s I =>
  wpAny_Call_Name_kw (ld_glob I hg (by rw [cm.h]; exact g.h) (PySem.W.callWith_K0 I.kIn hk (run_makeO hm hi I h)) hdb)⟩
end
/-! ### isinstance -/
section
variable {X : Cx} {H : Hp} {Q : VK}
theorem k_isi {x c : V} {t u : Value} {b : Bool} (hc : ClsV c u) (hx : TyX X.K H x t) (e : PySem.W.kitOne X.K t u = some b) (q : Q (.bl b) H) : kW X (.builtin "isinstance") [x, c] H Q := kI call_isi ⟨_, _, _, _, _, rfl, hc, hx, e, q⟩
theorem ClsF.tyX {K : PySem.W.Frag} {mg : Str → Option Value} {x : Str} {C a dx : Addr} {fs : List (Str × V)} (T : ClsF K mg x C) (h : H a = some (.ins C dx fs)) : TyX K H (.ref a) (.ref C) := .base (.ins h T.cl T.ha T.hn T.ht T.hm)
theorem kit_refs {K : PySem.W.Frag} {C D : Addr} {b : Bool} (hs : PySem.W.subIn K (.ref C) (.ref D) = some b) (ic : PySem.W.isClsIn K D = true) (ty : PySem.W.typeIn K (.ref D) = some (.type "type")) (ne : C ≠ D) : PySem.W.kitOne K (.ref C) (.ref D) = some b := by
  have e1 : ((PySem.W.clsIn K D).isSome && PySem.W.typeIn K (.ref D) == some (.type "type")) = true := by
    have h2 : (PySem.W.clsIn K D).isSome = true := ic
    rw [h2, ty]; rfl
  have e2 : (Value.ref C == Value.ref D) = false := by simp [ne]
  show (if (Value.ref C == Value.ref D) = true then some true else if ((PySem.W.clsIn K D).isSome && PySem.W.typeIn K (.ref D) == some (.type "type")) = true then PySem.W.subIn K (.ref C) (.ref D) else none) = some b
  rw [e2, if_neg Bool.false_ne_true, if_pos e1]
  exact hs
theorem kit_self {K : PySem.W.Frag} {C : Addr} : PySem.W.kitOne K (.ref C) (.ref C) = some true := by
  show (if (Value.ref C == Value.ref C) = true then some true else _) = some true
  rw [if_pos (by simp)]
end
/-! ### subscripts, equality of data -/
structure iW (X : Cx) (x y : V) (H : Hp) (Q : VK) : Prop where
  run : ∀ (value slice : Expr) pins s σ v u, Inv X pins σ H s → RelV x v → RelV y u → subscripted slice false v u = operate [v, u] (getItem v u) → wpAny (model X.prog X.w) X.A (subscriptTail value slice v u) (EP X pins σ Q) X.xe s
section
variable {X : Cx} {σ : L2.St} {H : Hp} {Q : VK} {pos p2 p3 : Pos} {a b : Expr} {x y v : V} {p : Addr} {xs : List V} {i : Int}
theorem e_ix (h : eW X a σ H fun x H1 => eW X b σ H1 fun y H2 => iW X x y H2 Q) (hs : PlainIx b := by exact fun _ _ => rfl) : eW X (.Subscript a b pos) σ H Q :=
  eI (pe_ix (r := iW X) (fun value slice pins s σ H x y v u Q I rx ry h hs => h.run value slice pins s σ v u I rx ry hs) PEw PEw hs) h
theorem iI {r : R2} (h : IxR X r) (q : r x y H Q) : iW X x y H Q := ⟨fun value slice pins s σ v u I rx ry hs => h value slice pins s σ H x y v u Q I rx ry q hs⟩
theorem i_lst (h : SqL X.K H p xs) (e : atI xs i = some v) (q : Q v H) : iW X (.ref p) (.int i) H Q := iI ix_list ⟨_, _, _, _, rfl, rfl, h, e, q⟩
theorem i_tup (h : SqT X.K H p xs) (e : atI xs i = some v) (q : Q v H) : iW X (.ref p) (.int i) H Q := iI ix_tup ⟨_, _, _, _, rfl, rfl, h, e, q⟩
theorem i_str {z : Str} {c : Nat} (hz : z.length ≤ sizeLine) (e : atI z.cps.toList i = some c) (q : Q (.str ⟨#[c]⟩) H) : iW X (.str z) (.int i) H Q := iI ix_str ⟨_, _, _, rfl, rfl, hz, e, q⟩
theorem o_eqD {d e : PyData} (hu : X.A.units + 64 < cLine) (hx : Dp X.K H x d) (hy : Dp X.K H y e) (sd : SeqAt.shaped d = true) (se : SeqAt.shaped e = true) (q : Q (.bl (PyData.eqv d e)) H) : oW X (compareOp .Eq) x y H Q := oI (op_eqD hu) ⟨d, e, hx, hy, sd, se, q⟩
theorem o_neD {d e : PyData} (hu : X.A.units + 64 < cLine) (hx : Dp X.K H x d) (hy : Dp X.K H y e) (sd : SeqAt.shaped d = true) (se : SeqAt.shaped e = true) (q : Q (.bl (!PyData.eqv d e)) H) : oW X (compareOp .NotEq) x y H Q := oI (op_neD hu) ⟨d, e, hx, hy, sd, se, q⟩
theorem k_min {j : Int} [cc : CxC X] (q : Q (.int (if j < i then j else i)) H) : kW X (.builtin "min") [.int i, .int j] H Q := kI (call_min2 cc.h) ⟨_, _, rfl, q⟩
theorem k_max {j : Int} [cc : CxC X] (q : Q (.int (if j > i then j else i)) H) : kW X (.builtin "max") [.int i, .int j] H Q := kI (call_max2 cc.h) ⟨_, _, rfl, q⟩
end
theorem atI_nat {α : Type} {xs : List α} {i : Int} {v : α} (h0 : 0 ≤ i) (h : xs[i.toNat]? = some v) : atI xs i = some v := by
  have hl := (List.getElem?_eq_some_iff.mp h).1
  unfold atI ixN
  rw [if_pos h0, if_pos (by omega)]
  exact h
theorem atI_all {α : Type} {xs : List α} {i : Int} {P : α → Prop} (h0 : 0 ≤ i) (h1 : i < xs.length) (hp : ∀ x ∈ xs, P x) : ∃ v, atI xs i = some v ∧ P v := by
  have hl : i.toNat < xs.length := by omega
  exact ⟨xs[i.toNat], atI_nat h0 (List.getElem?_eq_getElem hl), hp _ (List.getElem_mem hl)⟩
theorem TyB {K : PySem.W.Frag} {H : Hp} : (∀ i, TyX K H (.int i) (.type "int")) ∧ (∀ b, TyX K H (.bl b) (.type "bool")) ∧ (∀ z, TyX K H (.str z) (.type "str")) ∧ TyX K H .non (.type "NoneType") := ⟨fun _ => .base (.int _), fun _ => .base (.bl _), fun _ => .base (.str _), .base .non⟩
theorem TyL {K : PySem.W.Frag} {H : Hp} {p : Addr} {xs : List V} (h : H p = some (.lst xs)) : TyX K H (.ref p) (.type "list") := .base (.lst h)
theorem TyT {K : PySem.W.Frag} {H : Hp} {p : Addr} {xs : List V} (h : H p = some (.tup xs)) : TyX K H (.ref p) (.type "tuple") := .base (.tup h)
section
variable {X : Cx} {H : Hp} {Q : VK}
/-- isinstance of a value told by its type's name, of a built-in type -/
theorem k_isB {x : V} {t n : String} {b : Bool} (hx : TyX X.K H x (.type t)) (e : kitB t n = some b) (q : Q (.bl b) H) : kW X (.builtin "isinstance") [x, .ty n] H Q := k_isi (.ty n) hx (kit_ty e) q
end
theorem kb_int_int : kitB "int" "int" = some true := by decide +kernel
theorem kb_int_bool : kitB "int" "bool" = some false := by decide +kernel
theorem kb_bool_int : kitB "bool" "int" = some true := by decide +kernel
theorem kb_bool_bool : kitB "bool" "bool" = some true := by decide +kernel
theorem p60 : (10 : Int) ^ (60 : Int).toNat = 1000000000000000000000000000000000000000000000000000000000000 := by decide
theorem p30 : (10 : Int) ^ (30 : Int).toNat = 1000000000000000000000000000000 := by decide
section
variable {X : Cx} {H : Hp} {Q : VK}
theorem o_p60 (q : Q (.int 1000000000000000000000000000000000000000000000000000000000000) H) : oW X (binaryOp .Pow) (.int 10) (.int 60) H Q := oI op_pow ⟨_, _, rfl, rfl, ⟨by decide, by decide, by decide⟩, by show Q (.int ((10 : Int) ^ (60 : Int).toNat)) H; rw [p60]; exact q⟩
theorem o_p30 (q : Q (.int 1000000000000000000000000000000) H) : oW X (binaryOp .Pow) (.int 10) (.int 30) H Q := oI op_pow ⟨_, _, rfl, rfl, ⟨by decide, by decide, by decide⟩, by show Q (.int ((10 : Int) ^ (30 : Int).toNat)) H; rw [p30]; exact q⟩
end
/-- a new list, its heap by what is known of it -/
theorem e_lstN {X : Cx} {σ : L2.St} {H : Hp} {Q : VK} {pos : Pos} {es : List Expr} (h : aW X es σ H fun xs H1 => Nat.ble xs.length 1000 = true ∧ ∀ p H2, Same H1 H2 → H1 p = none → H2 p = some (.lst xs) → (∀ b, b ≠ p → H2 b = H1 b) → Q (.ref p) H2) : eW X (.List es pos) σ H Q :=
  e_lst ⟨fun pos pins s I => wpAny_mono (h.run pos pins s I) (fun us s' ⟨vs, H', a, b, c, d⟩ => ⟨vs, H', a, b, Nat.le_trans (Nat.le_of_ble_eq_true c) (by decide), fun p hp => d p _ (fun x o e => by rw [upd_ne (ne_of_none e hp)]; exact e) hp upd_same fun x hx => upd_ne hx⟩) fun _ _ x => x⟩
theorem e_tupN {X : Cx} {σ : L2.St} {H : Hp} {Q : VK} {pos : Pos} {es : List Expr} {k : Nat} (h : aW X es σ H fun xs H1 => Nat.ble xs.length 1000 = true ∧ ∀ p H2, Same H1 H2 → H1 p = none → H2 p = some (.tup xs) → (∀ b, b ≠ p → H2 b = H1 b) → Q (.ref p) H2) : eW X (.Tuple es k pos) σ H Q :=
  e_tup ⟨fun pos pins s I => wpAny_mono (h.run pos pins s I) (fun us s' ⟨vs, H', a, b, c, d⟩ => ⟨vs, H', a, b, Nat.le_trans (Nat.le_of_ble_eq_true c) (by decide), fun p hp => d p _ (fun x o e => by rw [upd_ne (ne_of_none e hp)]; exact e) hp upd_same fun x hx => upd_ne hx⟩) fun _ _ x => x⟩
section
variable {X : Cx} {H : Hp} {Q : VK} {p : Addr} {xs : List V} {z : Str}
theorem k_lenL (h : SqL X.K H p xs) (q : Q (.int (xs.length : Int)) H) : kW X (.builtin "len") [.ref p] H Q := kI call_len_seq ⟨_, _, rfl, .inl h, q⟩
theorem k_lenT (h : SqT X.K H p xs) (q : Q (.int (xs.length : Int)) H) : kW X (.builtin "len") [.ref p] H Q := kI call_len_seq ⟨_, _, rfl, .inr h, q⟩
theorem k_lenS (h : z.length ≤ sizeLine) (q : Q (.int (z.length : Int)) H) : kW X (.builtin "len") [.str z] H Q := kI call_len_str ⟨_, rfl, h, q⟩
end
theorem Same.made' {H : Hp} {x dx C : Addr} (nx : H x = Option.none) (nd : H dx = Option.none) : Same H (upd (upd H dx (.own x)) x (.ins C dx [])) := fun b o e => by
  rw [upd_ne (ne_of_none e nx), upd_ne (ne_of_none e nd)]
  exact e
def R_law (K : PySem.W.Frag) : V → Hp → VK → XK → Prop := fun x H Q _ => ∃ (a : Addr) (ns : List Int), x = .ref a ∧ SqL K H a (ns.map V.int) ∧ ns.length ≤ 63 ∧ ∀ H', Q (.bl true) H'
/-! ### targets that are tuples -/
structure hW (X : Cx) (es : List Expr) (vs : List V) (σ : L2.St) (H : Hp) (Q : L2.St → Hp → Prop) : Prop where
  run : ∀ pins s us, Inv X pins σ H s → Vals vs us → wpAny (model X.prog X.w) X.A (assignInOrder ((assignEach es X.env).map (·.2)) us) (fun _ s' => ∃ σ' H', Inv X pins σ' H' s' ∧ Q σ' H') X.xe s
section
variable {X : Cx} {σ : L2.St} {H : Hp} {pos : Pos} {e : Expr} {es : List Expr} {Q : L2.St → Hp → Prop}
theorem PHw : PGs X es (hW X es) := ⟨fun pins s _ _ vs us _ I r h => h.run pins s us I r⟩
theorem h_nil (h : Q σ H) : hW X [] [] σ H Q := ⟨fun pins s us I r => pgs_nil.run pins s σ H [] us Q I r ⟨rfl, h⟩⟩
theorem h_cons {v : V} {vs : List V} (h : gW X e v σ H fun σ1 H1 => hW X es vs σ1 H1 Q) (hs : (assignEach (e :: es) X.env).map (·.2) = assign e X.env :: (assignEach es X.env).map (·.2) := by rfl) : hW X (e :: es) (v :: vs) σ H Q :=
  ⟨fun pins s us I r => (pgs_cons PGw PHw hs).run pins s σ H (v :: vs) us Q I r ⟨v, vs, rfl, h⟩⟩
theorem g_tup {k n : Nat} {v : V} [cc : CxC X] (h : ∃ a xs, v = .ref a ∧ SqT X.K H a xs ∧ xs.length = n ∧ hW X es xs σ H Q)
    (hn : (assignEach es X.env).length = n := by rfl) (hst : (assignEach es X.env).findIdx? (·.1) = none := by rfl) : gW X (.Tuple es k pos) v σ H Q := gI (pg_tup cc.h PHw hn hst) h
end
section
variable {X : Cx} {σ : L2.St} {H : Hp} {pos : Pos} {es : List Expr} {Q : L2.St → Hp → Prop}
theorem g_lst {k n : Nat} {v : V} [cc : CxC X] (h : ∃ a xs, v = .ref a ∧ SqL X.K H a xs ∧ xs.length = n ∧ hW X es xs σ H Q)
    (hn : (assignEach es X.env).length = n := by rfl) (hst : (assignEach es X.env).findIdx? (·.1) = none := by rfl) : gW X (.Tuple es k pos) v σ H Q := gI (pg_lst cc.h PHw hn hst) h
theorem is_h {vs : List V} (h : hW X es vs σ H Q) : hW X es vs σ H Q := h
end
theorem s_asgT {X : Cx} {σ : L2.St} {H : Hp} {D : Ends} {pos p2 : Pos} {e : Expr} {es : List Expr} {k : Nat} (h : eW X e σ H fun v H1 => gW X (.Tuple es k p2) v σ H1 D.nx) (hs : swapsWithSole [.Tuple es k p2] e pos.line X.env = pure false := by rfl) (hw : swappedStores [.Tuple es k p2] e X.env = pure none := by rfl)
    (h1 : (assignEach [.Tuple es k p2] X.env).map (·.2) = [assign (.Tuple es k p2) X.env] := by rfl) : sW X (.Assign [.Tuple es k p2] e pos) D σ H := s_asg h hs hw h1
def oV : Option Int → V
  | none => .non
  | some i => .int i
theorem TyO {K : PySem.W.Frag} {H : Hp} : TyX K H .non (.type "NoneType") := .base .non
/-! ### what is walked; for and comprehensions over any walk -/
structure jW (X : Cx) (tg it : Expr) (σ : L2.St) (H : Hp) (R : It → Hp → Prop) : Prop where
  run : ∀ pins s, Inv X pins σ H s → wpAny (model X.prog X.w) X.A (eval it X.env) (fun v s1 => wpAny (model X.prog X.w) X.A (pyIter v) (PIE X pins σ tg R) X.xe s1) X.xe s
structure mW (X : Cx) (id : String) (x : V) (xs : List V) (H : Hp) (Q : VK) : Prop where
  run : ∀ pins s σ v us, Inv X pins σ H s → RelV x v → Vals xs us → wpAny (model X.prog X.w) X.A (call (.builtin id) (v :: us)) (EP X pins σ Q) X.xe s
structure nW (X : Cx) (x : V) (lo hi : Option Int) (H : Hp) (Q : VK) : Prop where
  run : ∀ pins s σ v vl vu sl, Inv X pins σ H s → RelV x v → s.heap.IsSliceOf sl vl vu .none → IsPart vl lo → IsPart vu hi →
    ∃ T id, typeLookup (.type T) "__getitem__" = pure (some (.builtin id)) ∧ s.TypeIs v T ∧ wpAny (model X.prog X.w) X.A (getItem v (.ref sl)) (EP X pins σ Q) X.xe s
section
variable {X : Cx} {σ : L2.St} {H : Hp} {Q : VK} {D : Ends} {pos p2 p3 p4 p5 apos : Pos} {e o it tg elt c a b : Expr} {es : List Expr} {body : List Stmt} {R : It → Hp → Prop} {mg : Str → Option Value}
theorem PJw : PI X tg it (jW X tg it) := ⟨fun pins s _ _ _ I h => h.run pins s I⟩
theorem jI {wi : TI} (h : PI X tg it wi) (q : wi σ H R) : jW X tg it σ H R := ⟨fun pins s I => h.run pins s σ H R I q⟩
theorem MRw {id : String} : MtR X id (mW X id) := fun pins s σ H x xs v us Q I rx r h => h.run pins s σ v us I rx r
theorem mI {id : String} {r : V → List V → Hp → VK → Prop} {x : V} {xs : List V} (h : MtR X id r) (q : r x xs H Q) : mW X id x xs H Q := ⟨fun pins s σ v us I rx rs => h pins s σ H x xs v us Q I rx rs q⟩
theorem NRw : SlR X (nW X) := fun pins s σ H x v vl vu lo hi sl Q I rx h1 h2 h3 q => q.run pins s σ v vl vu sl I rx h1 h2 h3
theorem nI {r : V → Option Int → Option Int → Hp → VK → Prop} {x : V} {lo hi : Option Int} (h : SlR X r) (q : r x lo hi H Q) : nW X x lo hi H Q := ⟨fun pins s σ v vl vu sl I rx h1 h2 h3 => h pins s σ H x v vl vu lo hi sl Q I rx h1 h2 h3 q⟩
theorem j_list (h : eW X it σ H fun x H1 => ∃ a, x = .ref a ∧ (∃ xs, SqL X.K H1 a xs) ∧ R (Itl X.K a) H1) : jW X tg it σ H R := jI (pi_list PEw) h
theorem j_tup (h : eW X it σ H fun x H1 => ∃ a, x = .ref a ∧ (∃ xs, SqT X.K H1 a xs) ∧ R (Itt X.K a) H1) : jW X tg it σ H R := jI (pi_tup PEw) h
theorem j_str (h : eW X it σ H fun x H1 => ∃ z, x = .str z ∧ R (Its z) H1) : jW X tg it σ H R := jI (pi_str PEw) h
theorem j_rng1 [cm : CxM X mg] [g : Gn mg "range" none] (h : aW X [a] σ H fun vs H1 => ∃ j : Int, vs = [.int j] ∧ -(2 ^ 62) ≤ j ∧ j < 2 ^ 62 ∧ R (Itr 0 j.toNat) H1) (hg : Gl X "range" := by rfl) (hs : starEach [a] X.env = [(false, eval a X.env)] := by rfl) : jW X tg (.Call (.Name "range" p2) [a] [] pos) σ H R :=
  jI (pi_range1 hg (by rw [cm.h]; exact g.h) PAw hs) h
theorem j_rng2 [cm : CxM X mg] [g : Gn mg "range" none] (h : aW X [a, b] σ H fun vs H1 => ∃ i j : Int, vs = [.int i, .int j] ∧ (-(2 ^ 62) ≤ i ∧ i < 2 ^ 62 ∧ -(2 ^ 62) ≤ j ∧ j < 2 ^ 62) ∧ R (Itr i (j - i).toNat) H1) (hg : Gl X "range" := by rfl)
    (hs : starEach [a, b] X.env = [(false, eval a X.env), (false, eval b X.env)] := by rfl) (hs2 : starEach [b] X.env = [(false, eval b X.env)] := by rfl) : jW X tg (.Call (.Name "range" p2) [a, b] [] pos) σ H R :=
  jI (pi_range2 hg (by rw [cm.h]; exact g.h) PAw hs hs2) h
theorem j_rng3 [cm : CxM X mg] [g : Gn mg "range" none] (h : aW X [a, b, c] σ H fun vs H1 => ∃ (i j c : Int) (n : Nat), vs = [.int i, .int j, .int c] ∧ RgC i j c n ∧ R (Itc i c n) H1) (hg : Gl X "range" := by rfl)
    (hs : starEach [a, b, c] X.env = (false, eval a X.env) :: starEach [b, c] X.env := by rfl) (hpl : (backTo pos (starEach [b, c] X.env)).any (·.1) = false := by rfl) : jW X tg (.Call (.Name "range" p2) [a, b, c] [] pos) σ H R :=
  jI (pi_range3 hg (by rw [cm.h]; exact g.h) PAw hs hpl) h
theorem j_rev [cm : CxM X mg] [g : Gn mg "reversed" none] (h : aW X [a] σ H fun vs H1 => ∃ (a : Addr) (xs : List V), vs = [.ref a] ∧ SqL X.K H1 a xs ∧ R (Itv X.K a xs.length) H1) (hg : Gl X "reversed" := by rfl) (hs : starEach [a] X.env = [(false, eval a X.env)] := by rfl) : jW X tg (.Call (.Name "reversed" p2) [a] [] pos) σ H R :=
  jI (pi_reversed hg (by rw [cm.h]; exact g.h) PAw hs) h
theorem j_revT [cm : CxM X mg] [g : Gn mg "reversed" none] (h : eW X a σ H fun v H1 => ∃ (p : Addr) (xs : List V), v = .ref p ∧ SqT X.K H1 p xs ∧ R (RT.ItvT X.K p xs.length) H1) (hg : Gl X "reversed" := by rfl) (hs : starEach [a] X.env = (false, eval a X.env) :: starEach [] X.env := by rfl) : jW X tg (.Call (.Name "reversed" p2) [a] [] pos) σ H R :=
  jI (RT.pi_revA hg (by rw [cm.h]; exact g.h) PEw hs) (eMono h fun v H1 ⟨p, xs, e, q, r⟩ => ⟨p, xs, e, .inr ⟨q, r⟩⟩)
theorem walk_revT {K : PySem.W.Frag} {p : Addr} {xs : List V} : Walk (RT.ItvT K p xs.length) xs.length (fun H => SqT K H p xs) (fun i H x H' => H' = H ∧ xs[xs.length - 1 - i]? = some x) :=
  ⟨fun i _ hi q => ⟨hi, xs, xs[xs.length - 1 - i]'(by omega), q, by simp [show xs.length - 1 - i < xs.length by omega]⟩, fun _ _ => Nat.le_refl _, fun _ _ _ _ _ q y => ⟨y.1, y.2 xs q⟩⟩
theorem j_enum {elts : List Expr} {kk : Nat} [cm : CxM X mg] [g : Gn mg "enumerate" none] (h : aW X [a] σ H fun vs H1 => ∃ a xs, vs = [.ref a] ∧ SqL X.K H1 a xs ∧ R (Ite X.K a) H1) (hg : Gl X "enumerate" := by rfl) (hs : starEach [a] X.env = [(false, eval a X.env)] := by rfl) : jW X (.Tuple elts kk p3) (.Call (.Name "enumerate" p2) [a] [] pos) σ H R :=
  jI (pi_enum hg (by rw [cm.h]; exact g.h) PAw hs) h
theorem j_items {elts : List Expr} {kk : Nat} (h : eW X e σ H fun x H1 => ∃ d o kvs, x = .ref d ∧ H1 d = some (.frz o (.dK kvs)) ∧ R (Iti d o kvs) H1) (hbase : attributeBase e "items" X.env (eval e X.env) = eval e X.env := by rfl) (hline : (apos.endLine == pos.line) = true := by rfl) :
    jW X (.Tuple elts kk p3) (.Call (.Attribute e "items" apos) [] [] pos) σ H R := jI (pi_items PEw hbase hline) h
/-- for over any walk -/
theorem s_for [ow : CxO X] [cc : CxC X] (h : jW X tg it σ H fun J H1 => ∃ n G Y, Walk J n G Y ∧ ∃ Pv : Nat → L2.St → Hp → Prop, Pv 0 σ H1 ∧ (∀ i σ' H', i ≤ n → Pv i σ' H' → G H') ∧
      (∀ i x σ' H' H2, i < n → Pv i σ' H' → Y i H' x H2 → gW X tg x σ' H2 fun σ3 H3 => bW X body (Dlp D (Pv (i + 1))) σ3 H3) ∧ ∀ σ' H', Pv n σ' H' → D.nx σ' H')
    (hs : ∀ x, foldedSetIterable it X.env x = pure x := by intro _; rfl) : sW X (.For tg it body [] pos) D σ H :=
  sI (ps_for ow.h cc.h PJw PGw PBw hs) ⟨fun pins s I => wpAny_mono (h.run pins s I) (fun v s1 q => wpAny_mono q (fun u s2 ⟨i, fp, tn, J, H2, e, I2, T, t0, f2, n, G, Y, w, Pv, q0, q1, q2, q3⟩ => ⟨i, fp, tn, J, H2, e, I2, T, t0, f2, for_it w Pv q0 q1 q2 q3⟩) fun _ _ z => z) fun _ _ z => z⟩
/-- the parts of a comprehension, in every context of its block -/
def eB (X : Cx) (sc : Scope) (e : Expr) : TE := fun σ H Q => ∀ (s : Shared) (H0 : Hp) (C : Addr) (cl : List (Str × Addr)) (fp : List Addr), eW (X.blk s H0 sc (compEnvC sc cl C X.env) fp) e σ H Q
def tB' (X : Cx) (sc : Scope) (e : Expr) : TT := fun σ H Q => ∀ (s : Shared) (H0 : Hp) (C : Addr) (cl : List (Str × Addr)) (fp : List Addr), tW (X.blk s H0 sc (compEnvC sc cl C X.env) fp) e σ H Q
def gB (X : Cx) (sc : Scope) (e : Expr) : TG := fun v σ H Q => ∀ (s : Shared) (H0 : Hp) (C : Addr) (cl : List (Str × Addr)) (fp : List Addr), gW (X.blk s H0 sc (compEnvC sc cl C X.env) fp) e v σ H Q
theorem e_lc {sc : Scope} {N : List Str} {own : List (Str × Nat)} [cc : CxC X] [cn : CxN X N] [nd : NdN N] (ok : BlkOk N X.env.scope sc own)
    (h : jW X tg it σ H fun J H1 => ∃ n G Y, Walk J n G Y ∧ ∀ D, H1 D = none → ∃ Pv : Nat → Hp → Prop, Pv 0 (upd H1 D (.lst [])) ∧ (∀ i H', i ≤ n → Pv i H' → G H') ∧
      (∀ i x H' H2, i < n → Pv i H' → Y i H' x H2 → gB X sc tg x (wipe σ (own.map (·.2))) H2 fun σ3 H3 => wipe σ3 (own.map (·.2)) = wipe σ (own.map (·.2)) ∧ eB X sc elt σ3 H3 fun y H4 => ∃ acc, H4 D = some (.lst acc) ∧ acc.length < sizeLine ∧ Pv (i + 1) (upd H4 D (.lst (acc ++ [y])))) ∧
      ∀ H', Pv n H' → Q (.ref D) H') (hs : ∀ x, foldedSetIterable it X.env x = pure x := by intro _; rfl) : eW X (.ListComp elt [⟨tg, it, [], 0⟩] sc pos) σ H Q :=
  eI (pe_lc (g := gB X sc tg) (tt := tYes) (te := eB X sc elt) cc.h (by rw [cn.h]; exact nd.h) PJw (by rw [cn.h]; exact ok) (fun s H0 C cl fp => ⟨fun pins s' _ _ v u _ I r h => (h s H0 C cl fp).run pins s' u I r⟩) (fun _ _ _ _ _ => pts_nil) (fun s H0 C cl fp => ⟨fun pins s' _ _ _ I h => (h s H0 C cl fp).run pins s' I⟩) hs)
    ⟨fun pins s I => wpAny_mono (h.run pins s I) (fun v s1 q => wpAny_mono q (fun u s2 ⟨i, fp, tn, J, H2, e, I2, T, t0, f2, n, G, Y, w, k⟩ => ⟨i, fp, tn, J, H2, e, I2, T, t0, f2, fun D hD => by
      obtain ⟨Pv, q0, q1, q2, q3⟩ := k D hD
      exact lc_it w Pv q0 q1 (fun i x H' H2' hi p y s0 H0 C cl fp => ⟨fun pins s' u I r => wpAny_mono ((q2 i x H' H2' hi p y s0 H0 C cl fp).run pins s' u I r) (fun _ s'' ⟨σ', H'', I'', e1, e2⟩ => ⟨σ', H'', I'', e1, e2⟩) fun _ _ z => z⟩) q3⟩) fun _ _ z => z) fun _ _ z => z⟩
/-- .. with one if -/
theorem e_lcI {sc : Scope} {N : List Str} {own : List (Str × Nat)} [cc : CxC X] [cn : CxN X N] [nd : NdN N] (ok : BlkOk N X.env.scope sc own)
    (h : jW X tg it σ H fun J H1 => ∃ n G Y, Walk J n G Y ∧ ∀ D, H1 D = none → ∃ Pv : Nat → Hp → Prop, Pv 0 (upd H1 D (.lst [])) ∧ (∀ i H', i ≤ n → Pv i H' → G H') ∧
      (∀ i x H' H2, i < n → Pv i H' → Y i H' x H2 → gB X sc tg x (wipe σ (own.map (·.2))) H2 fun σ3 H3 => wipe σ3 (own.map (·.2)) = wipe σ (own.map (·.2)) ∧ tB' X sc c σ3 H3 fun k H4 => if k = true then eB X sc elt σ3 H4 fun y H5 => ∃ acc, H5 D = some (.lst acc) ∧ acc.length < sizeLine ∧ Pv (i + 1) (upd H5 D (.lst (acc ++ [y]))) else Pv (i + 1) H4) ∧
      ∀ H', Pv n H' → Q (.ref D) H') (hs : ∀ x, foldedSetIterable it X.env x = pure x := by intro _; rfl) : eW X (.ListComp elt [⟨tg, it, [c], 0⟩] sc pos) σ H Q :=
  eI (pe_lc (g := gB X sc tg) (tt := tB' X sc c) (te := eB X sc elt) cc.h (by rw [cn.h]; exact nd.h) PJw (by rw [cn.h]; exact ok) (fun s H0 C cl fp => ⟨fun pins s' _ _ v u _ I r h => (h s H0 C cl fp).run pins s' u I r⟩) (fun s H0 C cl fp => pts_one ⟨fun pins s' _ _ _ I h => (h s H0 C cl fp).run pins s' I⟩) (fun s H0 C cl fp => ⟨fun pins s' _ _ _ I h => (h s H0 C cl fp).run pins s' I⟩) hs)
    ⟨fun pins s I => wpAny_mono (h.run pins s I) (fun v s1 q => wpAny_mono q (fun u s2 ⟨i, fp, tn, J, H2, e, I2, T, t0, f2, n, G, Y, w, k⟩ => ⟨i, fp, tn, J, H2, e, I2, T, t0, f2, fun D hD => by
      obtain ⟨Pv, q0, q1, q2, q3⟩ := k D hD
      exact lc_it w Pv q0 q1 q2 q3⟩) fun _ _ z => z) fun _ _ z => z⟩
/-- name = [..] whose place is stored from within -/
theorem s_setLc {sc : Scope} {N : List Str} {own : List (Str × Nat)} {y : Str} {i : Nat} [cc : CxC X] [cn : CxN X N] [sl : Slt N y i] [nd : NdN N] (ok : BlkOk N X.env.scope sc own)
    (h : jW X tg it σ H fun J H1 => ∃ n G Y, Walk J n G Y ∧ ∀ D', H1 D' = none → ∃ Pv : Nat → Hp → Prop, Pv 0 (upd H1 D' (.lst [])) ∧ (∀ i H', i ≤ n → Pv i H' → G H') ∧
      (∀ i x H' H2, i < n → Pv i H' → Y i H' x H2 → gB X sc tg x (wipe σ (own.map (·.2))) H2 fun σ3 H3 => wipe σ3 (own.map (·.2)) = wipe σ (own.map (·.2)) ∧ eB X sc elt σ3 H3 fun y H4 => ∃ acc, H4 D' = some (.lst acc) ∧ acc.length < sizeLine ∧ Pv (i + 1) (upd H4 D' (.lst (acc ++ [y])))) ∧
      ∀ H', Pv n H' → D.nx (σ.set i (some (.ref D'))) H') (hyl : X.env.scope.names.lookup y = some .local := by rfl)
    (hsw : swapsWith (.ListComp elt [⟨tg, it, [], 0⟩] sc pos) (some (.Name y p2)) p3.line X.env = pure true := by exact sw_true rfl rfl rfl (by decide +kernel)) (hs : ∀ x, foldedSetIterable it X.env x = pure x := by intro _; rfl) : sW X (.Assign [.Name y p2] (.ListComp elt [⟨tg, it, [], 0⟩] sc pos) p3) D σ H :=
  sI (ps_setLc (i := i) (g := gB X sc tg) (tt := tYes) (te := eB X sc elt) cc.h (by rw [cn.h]; exact nd.h) (by rw [cn.h]; exact sl.h) hyl hsw PJw (by rw [cn.h]; exact ok) (fun s H0 C cl fp => ⟨fun pins s' _ _ v u _ I r h => (h s H0 C cl fp).run pins s' u I r⟩) (fun _ _ _ _ _ => pts_nil) (fun s H0 C cl fp => ⟨fun pins s' _ _ _ I h => (h s H0 C cl fp).run pins s' I⟩) hs)
    ⟨fun pins s I => wpAny_mono (h.run pins s I) (fun v s1 q => wpAny_mono q (fun u s2 ⟨j, fp, tn, J, H2, e, I2, T, t0, f2, n, G, Y, w, k⟩ => ⟨j, fp, tn, J, H2, e, I2, T, t0, f2, fun D' hD => by
      obtain ⟨Pv, q0, q1, q2, q3⟩ := k D' hD
      exact lc_it w Pv q0 q1 (fun i x H' H2' hi p y s0 H0 C cl fp => ⟨fun pins s' u I r => wpAny_mono ((q2 i x H' H2' hi p y s0 H0 C cl fp).run pins s' u I r) (fun _ s'' ⟨σ', H'', I'', e1, e2⟩ => ⟨σ', H'', I'', e1, e2⟩) fun _ _ z => z⟩) q3⟩) fun _ _ z => z) fun _ _ z => z⟩
/-- name = [.. if ..] whose place is stored from within -/
theorem s_setLcI {sc : Scope} {N : List Str} {own : List (Str × Nat)} {y : Str} {i : Nat} [cc : CxC X] [cn : CxN X N] [sl : Slt N y i] [nd : NdN N] (ok : BlkOk N X.env.scope sc own)
    (h : jW X tg it σ H fun J H1 => ∃ n G Y, Walk J n G Y ∧ ∀ D', H1 D' = none → ∃ Pv : Nat → Hp → Prop, Pv 0 (upd H1 D' (.lst [])) ∧ (∀ i H', i ≤ n → Pv i H' → G H') ∧
      (∀ i x H' H2, i < n → Pv i H' → Y i H' x H2 → gB X sc tg x (wipe σ (own.map (·.2))) H2 fun σ3 H3 => wipe σ3 (own.map (·.2)) = wipe σ (own.map (·.2)) ∧ tB' X sc c σ3 H3 fun k H4 => if k = true then eB X sc elt σ3 H4 fun y H5 => ∃ acc, H5 D' = some (.lst acc) ∧ acc.length < sizeLine ∧ Pv (i + 1) (upd H5 D' (.lst (acc ++ [y]))) else Pv (i + 1) H4) ∧
      ∀ H', Pv n H' → D.nx (σ.set i (some (.ref D'))) H') (hyl : X.env.scope.names.lookup y = some .local := by rfl)
    (hsw : swapsWith (.ListComp elt [⟨tg, it, [c], 0⟩] sc pos) (some (.Name y p2)) p3.line X.env = pure true := by exact sw_true rfl rfl rfl (by decide +kernel)) (hs : ∀ x, foldedSetIterable it X.env x = pure x := by intro _; rfl) : sW X (.Assign [.Name y p2] (.ListComp elt [⟨tg, it, [c], 0⟩] sc pos) p3) D σ H :=
  sI (ps_setLc (i := i) (g := gB X sc tg) (tt := tB' X sc c) (te := eB X sc elt) cc.h (by rw [cn.h]; exact nd.h) (by rw [cn.h]; exact sl.h) hyl hsw PJw (by rw [cn.h]; exact ok) (fun s H0 C cl fp => ⟨fun pins s' _ _ v u _ I r h => (h s H0 C cl fp).run pins s' u I r⟩) (fun s H0 C cl fp => pts_one ⟨fun pins s' _ _ _ I h => (h s H0 C cl fp).run pins s' I⟩) (fun s H0 C cl fp => ⟨fun pins s' _ _ _ I h => (h s H0 C cl fp).run pins s' I⟩) hs)
    ⟨fun pins s I => wpAny_mono (h.run pins s I) (fun v s1 q => wpAny_mono q (fun u s2 ⟨j, fp, tn, J, H2, e, I2, T, t0, f2, n, G, Y, w, k⟩ => ⟨j, fp, tn, J, H2, e, I2, T, t0, f2, fun D' hD => by
      obtain ⟨Pv, q0, q1, q2, q3⟩ := k D' hD
      exact lc_it w Pv q0 q1 q2 q3⟩) fun _ _ z => z) fun _ _ z => z⟩
/-! ### slices -/
structure pW (X : Cx) (e : Option Expr) (σ : L2.St) (H : Hp) (Q : Option Int → Hp → Prop) : Prop where
  run : ∀ pins s, Inv X pins σ H s → wpAny (model X.prog X.w) X.A (evalPart e X.env) (fun u s' => ∃ o H', Inv X pins σ H' s' ∧ IsPart u o ∧ Q o H') X.xe s
theorem p_none {R : Option Int → Hp → Prop} (h : R none H) : pW X none σ H R := ⟨fun pins s I => by
  have z := (po_none (X := X)).run pins s σ H R I h
  exact wpAny_mono z (fun u s' ⟨o, H', a, b, c⟩ => ⟨o, H', a, b, c⟩) fun _ _ z => z⟩
theorem p_some {R : Option Int → Hp → Prop} (h : eW X e σ H fun v H1 => ∃ i, v = .int i ∧ R (some i) H1) : pW X (some e) σ H R := ⟨fun pins s I => by
  have z := (po_some (X := X) (PEw (e := e))).run pins s σ H R I h
  exact wpAny_mono z (fun u s' ⟨o, H', a, b, c⟩ => ⟨o, H', a, b, c⟩) fun _ _ z => z⟩
theorem POw {e : Option Expr} : PO X e (pW X e) := ⟨fun pins s _ _ _ I h => h.run pins s I⟩
theorem e_slice {lo hi : Option Expr} (h : eW X e σ H fun x H1 => pW X lo σ H1 fun l H2 => pW X hi σ H2 fun u H3 => nW X x l u H3 Q) : eW X (.Subscript e (.Slice lo hi none p2) pos) σ H Q := eI (pe_slice NRw PEw POw POw) h
theorem n_str {z : Str} {lo hi : Option Int} (hz : z.length ≤ sizeLine) (q : Q (.str (cutS z lo hi)) H) : nW X (.str z) lo hi H Q := nI sl_str ⟨z, rfl, hz, q⟩
theorem n_lst {p : Addr} {xs : List V} {lo hi : Option Int} (h : SqL X.K H p xs) (q : ∀ l H2, Same H H2 → H l = none → H2 l = some (.lst (cutV xs lo hi)) → (∀ b, b ≠ l → H2 b = H b) → Q (.ref l) H2) : nW X (.ref p) lo hi H Q :=
  nI sl_list ⟨p, xs, rfl, h, fun l hl => q l _ (fun x o e => by rw [upd_ne (ne_of_none e hl)]; exact e) hl upd_same fun x hx => upd_ne hx⟩
/-! ### methods of built-in types -/
theorem e_bm {T id : String} {name : Str} (pa : PlainAttrs T) (slot : Slot T name id) (hty : typeOf (.builtin id) = pure (.type "method_descriptor")) (h : eW X o σ H fun x H1 => tyV X.K T x H1 ∧ aW X (e :: es) σ H1 fun xs H2 => mW X id x xs H2 Q)
    (hbase : attributeBase o name X.env (eval o X.env) = eval o X.env := by rfl)
    (hfew : ((backTo pos (starEach (e :: es) X.env)).all (fun x => !x.1) && (backToKw pos (keywordEach [] X.env)).all (fun x => x.1.isSome) && decide ((e :: es).length + ([] : List Keyword).length + (if ([] : List Keyword).isEmpty then 0 else 1) < 30)) = true := by rfl)
    (hline : (apos.endLine == pos.line) = true := by rfl) (hs : starEach (e :: es) X.env = (false, eval e X.env) :: starEach es X.env := by rfl) (hplain : (backTo pos (starEach es X.env)).any (·.1) = false := by rfl) : eW X (.Call (.Attribute o name apos) (e :: es) [] pos) σ H Q :=
  eI (pe_bm pa slot hty MRw PEw PAw hbase hfew hline hs hplain) h
theorem e_bm0 {T id : String} {name : Str} (pa : PlainAttrs T) (slot : Slot T name id) (hty : typeOf (.builtin id) = pure (.type "method_descriptor")) (h : eW X o σ H fun x H1 => tyV X.K T x H1 ∧ mW X id x [] H1 Q)
    (hbase : attributeBase o name X.env (eval o X.env) = eval o X.env := by rfl) (hline : (apos.endLine == pos.line) = true := by rfl) : eW X (.Call (.Attribute o name apos) [] [] pos) σ H Q := eI (pe_bm0 pa slot hty MRw PEw hbase hline) h
theorem m_append {l : Addr} {xs : List V} {y : V} (h : H l = some (.lst xs)) (hz : xs.length < 16000000) (q : ∀ H2, H2 l = some (.lst (xs ++ [y])) → (∀ b, b ≠ l → H2 b = H b) → Q .non H2) : mW X "list.append" (.ref l) [y] H Q :=
  mI mt_append ⟨l, xs, y, rfl, rfl, h, Nat.lt_of_lt_of_le hz (by decide), q _ upd_same fun b hb => upd_ne hb⟩
theorem m_extend {l b : Addr} {xs zs : List V} (h : H l = some (.lst xs)) (h2 : H b = some (.lst zs)) (hz : xs.length + zs.length ≤ 100000) (q : ∀ H2, H2 l = some (.lst (xs ++ zs)) → (∀ b, b ≠ l → H2 b = H b) → Q .non H2) : mW X "list.extend" (.ref l) [.ref b] H Q :=
  mI mt_extend ⟨l, b, xs, zs, rfl, rfl, h, h2, Nat.le_trans hz (by decide), q _ upd_same fun b hb => upd_ne hb⟩
theorem m_pop {l : Addr} {xs : List V} {y : V} (h : H l = some (.lst (xs ++ [y]))) (q : ∀ H2, H2 l = some (.lst xs) → (∀ b, b ≠ l → H2 b = H b) → Q y H2) : mW X "list.pop" (.ref l) [] H Q :=
  mI mt_pop ⟨l, _, y, rfl, rfl, h, by simp, q _ (by rw [List.dropLast_concat]; exact upd_same) fun b hb => upd_ne hb⟩
theorem m_reverse {l : Addr} {xs : List V} (h : H l = some (.lst xs)) (q : ∀ H2, H2 l = some (.lst xs.reverse) → (∀ b, b ≠ l → H2 b = H b) → Q .non H2) : mW X "list.reverse" (.ref l) [] H Q :=
  mI mt_reverse ⟨l, _, rfl, rfl, h, q _ upd_same fun b hb => upd_ne hb⟩
theorem e_append (h : eW X o σ H fun x H1 => tyV X.K "list" x H1 ∧ aW X [e] σ H1 fun xs H2 => mW X "list.append" x xs H2 Q) (hbase : attributeBase o "append" X.env (eval o X.env) = eval o X.env := by rfl)
    (hfew : ((backTo pos (starEach [e] X.env)).all (fun x => !x.1) && (backToKw pos (keywordEach [] X.env)).all (fun x => x.1.isSome) && decide ([e].length + ([] : List Keyword).length + (if ([] : List Keyword).isEmpty then 0 else 1) < 30)) = true := by rfl)
    (hline : (apos.endLine == pos.line) = true := by rfl) (hs : starEach [e] X.env = (false, eval e X.env) :: starEach [] X.env := by rfl) : eW X (.Call (.Attribute o "append" apos) [e] [] pos) σ H Q :=
  e_bm PySem.F.plainAttrs_list PySem.F.slot_list_append PySem.F.type_list_append h hbase hfew hline hs rfl
theorem e_extend (h : eW X o σ H fun x H1 => tyV X.K "list" x H1 ∧ aW X [e] σ H1 fun xs H2 => mW X "list.extend" x xs H2 Q) (hbase : attributeBase o "extend" X.env (eval o X.env) = eval o X.env := by rfl)
    (hfew : ((backTo pos (starEach [e] X.env)).all (fun x => !x.1) && (backToKw pos (keywordEach [] X.env)).all (fun x => x.1.isSome) && decide ([e].length + ([] : List Keyword).length + (if ([] : List Keyword).isEmpty then 0 else 1) < 30)) = true := by rfl)
    (hline : (apos.endLine == pos.line) = true := by rfl) (hs : starEach [e] X.env = (false, eval e X.env) :: starEach [] X.env := by rfl) : eW X (.Call (.Attribute o "extend" apos) [e] [] pos) σ H Q :=
  e_bm PySem.F.plainAttrs_list PySem.F.slot_list_extend PySem.F.type_list_extend h hbase hfew hline hs rfl
theorem e_pop (h : eW X o σ H fun x H1 => tyV X.K "list" x H1 ∧ mW X "list.pop" x [] H1 Q) (hbase : attributeBase o "pop" X.env (eval o X.env) = eval o X.env := by rfl) (hline : (apos.endLine == pos.line) = true := by rfl) : eW X (.Call (.Attribute o "pop" apos) [] [] pos) σ H Q :=
  e_bm0 PySem.F.plainAttrs_list PySem.F.slot_list_pop PySem.F.type_list_pop h hbase hline
theorem e_reverse (h : eW X o σ H fun x H1 => tyV X.K "list" x H1 ∧ mW X "list.reverse" x [] H1 Q) (hbase : attributeBase o "reverse" X.env (eval o X.env) = eval o X.env := by rfl) (hline : (apos.endLine == pos.line) = true := by rfl) : eW X (.Call (.Attribute o "reverse" apos) [] [] pos) σ H Q :=
  e_bm0 PySem.F.plainAttrs_list PySem.F.slot_list_reverse PySem.F.type_list_reverse h hbase hline
theorem ty_l {K : PySem.W.Frag} {p : Addr} {xs : List V} (h : H p = some (.lst xs)) : tyV K "list" (.ref p) H := .inl ⟨rfl, _, SqL.of h⟩
theorem e_join (h : eW X o σ H fun x H1 => (∃ a, x = .str a) ∧ eW X e σ H1 fun y H2 => mW X "str.join" x [y] H2 Q) (hs : starEach [e] X.env = [(false, eval e X.env)] := by rfl) (hbase : attributeBase o "join" X.env (eval o X.env) = eval o X.env := by rfl) (hline : (apos.endLine == pos.line) = true := by rfl) : eW X (.Call (.Attribute o "join" apos) [e] [] pos) σ H Q :=
  eI (pe_m1 PySem.F.slot_str_join PySem.F.type_str_join MRw PEw PEw hs hbase hline) h
theorem e_split (h : eW X o σ H fun x H1 => (∃ a, x = .str a) ∧ eW X e σ H1 fun y H2 => mW X "str.split" x [y] H2 Q) (hs : starEach [e] X.env = [(false, eval e X.env)] := by rfl) (hbase : attributeBase o "split" X.env (eval o X.env) = eval o X.env := by rfl) (hline : (apos.endLine == pos.line) = true := by rfl) : eW X (.Call (.Attribute o "split" apos) [e] [] pos) σ H Q :=
  eI (pe_m1 PySem.F.slot_str_split PySem.F.type_str_split MRw PEw PEw hs hbase hline) h
end
section
variable {X : Cx} {H : Hp} {Q : VK} {i j : Int} {z u : Str} {p : Addr} {xs : List V}
theorem o_leS (q : Q (.bl (!decide (tl u < tl z))) H) : oW X (compareOp .LtE) (.str z) (.str u) H Q := oI op_le_str ⟨_, _, rfl, rfl, q⟩
theorem o_ltS (q : Q (.bl (decide (tl z < tl u))) H) : oW X (compareOp .Lt) (.str z) (.str u) H Q := oI op_lt_str ⟨_, _, rfl, rfl, q⟩
theorem o_inC {c : Nat} (q : Q (.bl (decide (c ∈ tl z))) H) : oW X (compareOp .In) (.str ⟨#[c]⟩) (.str z) H Q := oI op_in_sign ⟨_, _, rfl, rfl, q⟩
theorem o_niC {c : Nat} (q : Q (.bl (!decide (c ∈ tl z))) H) : oW X (compareOp .NotIn) (.str ⟨#[c]⟩) (.str z) H Q := oI op_notIn_sign ⟨_, _, rfl, rfl, q⟩
theorem k_ordC {c : Nat} (q : Q (.int (c : Int)) H) : kW X (.builtin "ord") [.str ⟨#[c]⟩] H Q := kI call_ord ⟨_, rfl, rfl, q⟩
theorem k_strI (h : i.natAbs.log2 < 1920) (q : Q (.str (Str.ofString (toString i))) H) : kW X (.type "str") [.int i] H Q := kI call_str_int ⟨_, rfl, h, q⟩
theorem k_intS (h : PySem.intText? z = some i) (hz : z.length ≤ 640) (q : Q (.int i) H) : kW X (.type "int") [.str z] H Q := kI call_int_str ⟨_, _, rfl, h, hz, q⟩
theorem k_sum {ns : List Int} [cc : CxC X] (h : SqL X.K H p (ns.map V.int)) (q : Q (.int ns.sum) H) : kW X (.builtin "sum") [.ref p] H Q := kI (cr_sum cc.h) ⟨_, _, rfl, h, q⟩
theorem k_all {bs : List Bool} [cc : CxC X] (h : SqL X.K H p (bs.map V.bl)) (q : Q (.bl (bs.all id)) H) : kW X (.builtin "all") [.ref p] H Q := kI (cr_all cc.h) ⟨_, _, rfl, h, q⟩
theorem k_dictD {kvs : List (Key × V)} (h : Rd H p (.dK kvs)) (q : ∀ l H2, Same H H2 → H l = none → H2 l = some (.dK kvs) → (∀ b, b ≠ l → H2 b = H b) → Q (.ref l) H2) : kW X (.type "dict") [.ref p] H Q :=
  kI call_dictD ⟨_, _, rfl, h, fun l hl => q l _ (fun x o e => by rw [upd_ne (ne_of_none e hl)]; exact e) hl upd_same fun x hx => upd_ne hx⟩
theorem k_listL (h : SqL X.K H p xs ∨ SqT X.K H p xs) (q : ∀ l H2, Same H H2 → H l = none → H2 l = some (.lst xs) → (∀ b, b ≠ l → H2 b = H b) → Q (.ref l) H2) : kW X (.type "list") [.ref p] H Q :=
  kI call_list_of ⟨_, _, rfl, h, fun l hl => q l _ (fun x o e => by rw [upd_ne (ne_of_none e hl)]; exact e) hl upd_same fun x hx => upd_ne hx⟩
theorem k_tupL (h : SqL X.K H p xs) (q : ∀ l H2, Same H H2 → H l = none → H2 l = some (.tup xs) → (∀ b, b ≠ l → H2 b = H b) → Q (.ref l) H2) : kW X (.type "tuple") [.ref p] H Q :=
  kI call_tuple_of ⟨_, _, rfl, .inl ⟨h, fun l hl => q l _ (fun x o e => by rw [upd_ne (ne_of_none e hl)]; exact e) hl upd_same fun x hx => upd_ne hx⟩⟩
theorem o_catL {q2 : Addr} {zs : List V} (h1 : H p = some (.lst xs)) (h2 : H q2 = some (.lst zs)) (hz : xs.length + zs.length ≤ 100000) (q : ∀ l H2, Same H H2 → H l = none → H2 l = some (.lst (xs ++ zs)) → (∀ b, b ≠ l → H2 b = H b) → Q (.ref l) H2) : oW X (binaryOp .Add) (.ref p) (.ref q2) H Q :=
  oI op_cat ⟨_, _, _, _, rfl, rfl, h1, h2, Nat.le_trans hz (by decide), fun l hl => q l _ (fun x o e => by rw [upd_ne (ne_of_none e hl)]; exact e) hl upd_same fun x hx => upd_ne hx⟩
theorem m_join {ys : List Str} {a : Str} (h : SqL X.K H p (ys.map V.str) ∨ SqT X.K H p (ys.map V.str)) (hz : (ys.map Str.length).sum + ys.length * a.length ≤ 16777216) (q : Q (.str (Txt.join a ys)) H) : mW X "str.join" (.str a) [.ref p] H Q := by
  exact mI mt_join ⟨_, _, _, rfl, rfl, h, hz, q⟩
theorem m_split {a b : Str} (hb : (b.length == 0) = false) (ha : a.length ≤ 1000000) (q : ∀ l H2, Same H H2 → H l = none → H2 l = some (.lst ((Txt.split a b).map V.str)) → (∀ b, b ≠ l → H2 b = H b) → Q (.ref l) H2) : mW X "str.split" (.str a) [.str b] H Q :=
  mI mt_split ⟨_, _, rfl, rfl, hb, by rw [sizeLine_eq]; omega, fun l hl => q l _ (fun x o e => by rw [upd_ne (ne_of_none e hl)]; exact e) hl upd_same fun x hx => upd_ne hx⟩
end
/-! ### things of any kind -/
mutual
inductive Th (K : PySem.W.Frag) (H : Hp) : V → PyData → Prop
  | non : Th K H .non .none
  | bl (b : Bool) : Th K H (.bl b) (.bool b)
  | int (i : Int) : Th K H (.int i) (.int i)
  | str (x : Str) (h : x.length ≤ 1000000) : Th K H (.str x) (.str x)
  | lst {a : Addr} {xs : List V} {ds : List PyData} : SqL K H a xs → ThAll K H xs ds → Th K H (.ref a) (.list ds)
  | tup {a : Addr} {xs : List V} {ds : List PyData} : SqT K H a xs → ThAll K H xs ds → Th K H (.ref a) (.tuple ds)
  | dct {a : Addr} {kvs : List (Key × V)} : H a = some (.dK kvs) → Th K H (.ref a) (.dict [])
inductive ThAll (K : PySem.W.Frag) (H : Hp) : List V → List PyData → Prop
  | nil : ThAll K H [] []
  | cons {v : V} {vs : List V} {d : PyData} {ds : List PyData} : Th K H v d → ThAll K H vs ds → ThAll K H (v :: vs) (d :: ds)
end
def tyName : PyData → String
  | .none => "NoneType"
  | .bool _ => "bool"
  | .int _ => "int"
  | .str _ => "str"
  | .list _ => "list"
  | .tuple _ => "tuple"
  | .dict _ => "dict"
theorem Th.ty {K : PySem.W.Frag} {H : Hp} {v : V} {d : PyData} (h : Th K H v d) : TyX K H v (.type (tyName d)) := by
  cases h with
  | non => exact .base .non
  | bl b => exact .base (.bl b)
  | int i => exact .base (.int i)
  | str x _ => exact .base (.str x)
  | lst hs _ =>
    rcases hs with (h | ⟨o, h⟩) | ⟨o, its, n, h, hc, _⟩
    · exact .base (.lst h)
    · exact .base (.frz h)
    · exact .kList h hc
  | tup hs _ =>
    rcases hs with (h | ⟨o, h⟩) | ⟨o, its, n, h, hc, _⟩
    · exact .base (.tup h)
    · exact .fTuple h
    · exact .kTuple h hc
  | dct h => exact .base (.dK h)
/-- whether data is of the built-in type -/
def isK (d : PyData) (n : String) : Bool := match d with
  | .none => false
  | .bool _ => n == "bool" || n == "int"
  | .int _ => n == "int"
  | .str _ => n == "str"
  | .list _ => n == "list"
  | .tuple _ => n == "tuple"
  | .dict _ => n == "dict"
theorem kitTh (d : PyData) : kitB (tyName d) "str" = some (isK d "str") ∧ kitB (tyName d) "int" = some (isK d "int") ∧ kitB (tyName d) "bool" = some (isK d "bool") ∧ kitB (tyName d) "list" = some (isK d "list") ∧ kitB (tyName d) "tuple" = some (isK d "tuple") ∧ kitB (tyName d) "dict" = some (isK d "dict") := by
  cases d <;> (simp only [tyName, isK]; decide +kernel)
section
variable {X : Cx} {H : Hp} {Q : VK} {v : V} {d : PyData}
theorem k_isStr (h : Th X.K H v d) (q : Q (.bl (isK d "str")) H) : kW X (.builtin "isinstance") [v, .ty "str"] H Q := k_isB h.ty (kitTh d).1 q
theorem k_isInt (h : Th X.K H v d) (q : Q (.bl (isK d "int")) H) : kW X (.builtin "isinstance") [v, .ty "int"] H Q := k_isB h.ty (kitTh d).2.1 q
theorem k_isBool (h : Th X.K H v d) (q : Q (.bl (isK d "bool")) H) : kW X (.builtin "isinstance") [v, .ty "bool"] H Q := k_isB h.ty (kitTh d).2.2.1 q
theorem k_isList (h : Th X.K H v d) (q : Q (.bl (isK d "list")) H) : kW X (.builtin "isinstance") [v, .ty "list"] H Q := k_isB h.ty (kitTh d).2.2.2.1 q
theorem k_isTuple (h : Th X.K H v d) (q : Q (.bl (isK d "tuple")) H) : kW X (.builtin "isinstance") [v, .ty "tuple"] H Q := k_isB h.ty (kitTh d).2.2.2.2.1 q
theorem k_isDict (h : Th X.K H v d) (q : Q (.bl (isK d "dict")) H) : kW X (.builtin "isinstance") [v, .ty "dict"] H Q := k_isB h.ty (kitTh d).2.2.2.2.2 q
end
/-- what is tracked stands so in a greater heap -/
theorem sq_more {K : PySem.W.Frag} {H H' : Hp} {a : Addr} {xs : List V} (s : Same H H') (h : SqT K H a xs) : SqT K H' a xs := by
  rcases h with (h | ⟨o, h⟩) | h
  · exact .inl (.inl (s _ _ h))
  · exact .inl (.inr ⟨o, s _ _ h⟩)
  · exact .inr h
mutual
theorem Th.more {K : PySem.W.Frag} {H H' : Hp} (s : Same H H') : ∀ (d : PyData) (v : V), Th K H v d → Th K H' v d
  | .none, _, h => by cases h; exact .non
  | .bool _, _, h => by cases h; exact .bl _
  | .int _, _, h => by cases h; exact .int _
  | .str _, _, h => by cases h with | str _ h => exact .str _ h
  | .list ds, _, h => by cases h with | lst hs ha => exact .lst (s.seq hs) (ThAll.more s ds _ ha)
  | .tuple ds, _, h => by cases h with | tup hs ha => exact .tup (sq_more s hs) (ThAll.more s ds _ ha)
  | .dict _, _, h => by cases h with | dct hd => exact .dct (s _ _ hd)
theorem ThAll.more {K : PySem.W.Frag} {H H' : Hp} (s : Same H H') : ∀ (ds : List PyData) (vs : List V), ThAll K H vs ds → ThAll K H' vs ds
  | [], _, h => by cases h; exact .nil
  | d :: ds, _, h => by cases h with | cons h1 h2 => exact .cons (Th.more s d _ h1) (ThAll.more s ds _ h2)
end
theorem ThAll.len {K : PySem.W.Frag} {H : Hp} : ∀ {vs : List V} {ds : List PyData}, ThAll K H vs ds → vs.length = ds.length
  | _, _, .nil => rfl
  | _, _, .cons _ h => congrArg (· + 1) h.len
theorem ThAll.get {K : PySem.W.Frag} {H : Hp} : ∀ {vs : List V} {ds : List PyData} {i : Nat} {v : V}, ThAll K H vs ds → vs[i]? = some v → ∃ d, ds[i]? = some d ∧ Th K H v d
  | _, _, _, _, .nil, e => by simp at e
  | _, _, 0, _, .cons h _, e => by simp at e; subst e; exact ⟨_, rfl, h⟩
  | _, _, i + 1, v, .cons _ t, e => by
    obtain ⟨d, h1, h2⟩ := ThAll.get (i := i) (v := v) t (by simpa using e)
    exact ⟨d, by simpa using h1, h2⟩
theorem all_snoc {α : Type} {p : α → Bool} {l : List α} {i : Nat} {x : α} (h : l[i]? = some x) : (l.take (i + 1)).all p = ((l.take i).all p && p x) := by
  have hl := (List.getElem?_eq_some_iff.mp h).1
  have e := (List.getElem?_eq_some_iff.mp h).2
  rw [← List.take_append_getElem hl, List.all_append, e]
  simp
theorem all_cut {α : Type} {p : α → Bool} {l : List α} {i : Nat} {x : α} (h : l[i]? = some x) (hx : p x = false) : l.all p = false := by
  have hm := List.mem_of_getElem? h
  cases e : l.all p with
  | false => rfl
  | true => rw [List.all_eq_true.mp e x hm] at hx; cases hx
theorem sz1m {n : Nat} (h : n ≤ 1000000) : n ≤ sizeLine := Nat.le_trans h (by decide)
theorem lt1 (a b : Nat) : ([a] < [b]) ↔ a < b := by simp [List.cons_lt_cons_iff]
section
variable {X : Cx} {σ : L2.St} {H : Hp} {Q : VK} {D : Ends} {pos p2 p3 p4 p5 : Pos} {it tg elt c : Expr}
/-- a comprehension whose elements are told one by one and track nothing that a turn could change -/
theorem e_lcM {sc : Scope} {N : List Str} {own : List (Str × Nat)} [cc : CxC X] [cn : CxN X N] [nd : NdN N] (ok : BlkOk N X.env.scope sc own)
    (h : jW X tg it σ H fun J H1 => ∃ n G Y, Walk J n G Y ∧ ∃ ys : List V, ys.length = n ∧ ys.length ≤ 100000 ∧ (∀ H', Same H1 H' → G H') ∧
      (∀ i x H' H2, i < n → Same H1 H' → Y i H' x H2 → Same H' H2 ∧ gB X sc tg x (wipe σ (own.map (·.2))) H2 fun σ3 H3 => wipe σ3 (own.map (·.2)) = wipe σ (own.map (·.2)) ∧ Same H2 H3 ∧ eB X sc elt σ3 H3 fun y H4 => ys[i]? = some y ∧ Same H3 H4) ∧
      ∀ l H', Same H1 H' → H1 l = none → H' l = some (.lst ys) → Q (.ref l) H') (hs : ∀ x, foldedSetIterable it X.env x = pure x := by intro _; rfl) : eW X (.ListComp elt [⟨tg, it, [], 0⟩] sc pos) σ H Q := by
  refine e_lc ok ⟨fun pins s I => wpAny_mono (h.run pins s I) (fun v s1 q => wpAny_mono q (fun u s2 ⟨i, fp, tn, J, H2, e, I2, T, t0, f2, n, G, Y, w, ys, hl, hn, q1, q2, q3⟩ => ⟨i, fp, tn, J, H2, e, I2, T, t0, f2, n, G, Y, w, fun D' hD => ⟨fun i H' => Same H2 H' ∧ H' D' = some (.lst (ys.take i)), ⟨fun b o e => by rw [upd_ne (ne_of_none e hD)]; exact e, upd_same⟩, fun _ _ _ p => q1 _ p.1, fun i x H' H3 hi p y s0 H0 C cl fp => ?_, fun H' p => q3 D' H' p.1 hD (by rw [p.2, ← hl, List.take_length])⟩⟩) fun _ _ z => z) fun _ _ z => z⟩ hs
  obtain ⟨k1, k2⟩ := q2 i x H' H3 hi p.1 y
  refine ⟨fun pins s' u I r => wpAny_mono ((k2 s0 H0 C cl fp).run pins s' u I r) (fun _ s'' ⟨σ', H'', I'', e1, e2, e3⟩ => ⟨σ', H'', I'', e1, fun s0 H0 C cl fp => ⟨fun pins s' I => wpAny_mono ((e3 s0 H0 C cl fp).run pins s' I) (fun u s4 ⟨v4, H4, I4, r4, ev, e4⟩ => ⟨v4, H4, I4, r4, ys.take i, e4 _ _ (e2 _ _ (k1 _ _ p.2)), ?_, ?_, ?_⟩) fun _ _ z => z⟩⟩) fun _ _ z => z⟩
  · rw [List.length_take]
    exact Nat.lt_of_le_of_lt (Nat.min_le_left _ _) (Nat.lt_of_lt_of_le (Nat.lt_of_lt_of_le (hl ▸ hi) hn) (by decide))
  · intro b o e
    rw [upd_ne (ne_of_none e hD)]
    exact e4 _ _ (e2 _ _ (k1 _ _ (p.1 _ _ e)))
  · rw [upd_same]
    have q := (List.getElem?_eq_some_iff.mp ev).1
    rw [← List.take_append_getElem q, (List.getElem?_eq_some_iff.mp ev).2]
/-- a comprehension whose elements are told by a word of the turn and the element -/
theorem e_lcP {sc : Scope} {N : List Str} {own : List (Str × Nat)} [cc : CxC X] [cn : CxN X N] [nd : NdN N] (ok : BlkOk N X.env.scope sc own) (Pr : Nat → V → Prop)
    (h : jW X tg it σ H fun J H1 => ∃ n G Y, Walk J n G Y ∧ n ≤ 100000 ∧ (∀ H', Same H1 H' → G H') ∧
      (∀ i x H' H2, i < n → Same H1 H' → Y i H' x H2 → Same H' H2 ∧ gB X sc tg x (wipe σ (own.map (·.2))) H2 fun σ3 H3 => wipe σ3 (own.map (·.2)) = wipe σ (own.map (·.2)) ∧ Same H2 H3 ∧ eB X sc elt σ3 H3 fun y H4 => Pr i y ∧ Same H3 H4) ∧
      ∀ l H' ys, Same H1 H' → H1 l = none → H' l = some (.lst ys) → ys.length = n → (∀ i y, ys[i]? = some y → Pr i y) → Q (.ref l) H') (hs : ∀ x, foldedSetIterable it X.env x = pure x := by intro _; rfl) : eW X (.ListComp elt [⟨tg, it, [], 0⟩] sc pos) σ H Q := by
  refine e_lc ok ⟨fun pins s I => wpAny_mono (h.run pins s I) (fun v s1 q => wpAny_mono q (fun u s2 ⟨i, fp, tn, J, H2, e, I2, T, t0, f2, n, G, Y, w, hn, q1, q2, q3⟩ => ⟨i, fp, tn, J, H2, e, I2, T, t0, f2, n, G, Y, w, fun D' hD => ⟨fun i H' => Same H2 H' ∧ ∃ acc, H' D' = some (.lst acc) ∧ acc.length = i ∧ ∀ j z, acc[j]? = some z → Pr j z, ⟨fun b o e => by rw [upd_ne (ne_of_none e hD)]; exact e, [], upd_same, rfl, by simp⟩, fun _ _ _ p => q1 _ p.1, fun i x H' H3 hi p y s0 H0 C cl fp => ?_, fun H' p => by
    obtain ⟨p1, acc, p2, p3, p4⟩ := p
    exact q3 D' H' acc p1 hD p2 p3 p4⟩⟩) fun _ _ z => z) fun _ _ z => z⟩ hs
  obtain ⟨k1, k2⟩ := q2 i x H' H3 hi p.1 y
  obtain ⟨p1, acc, p2, p3, p4⟩ := p
  refine ⟨fun pins s' u I r => wpAny_mono ((k2 s0 H0 C cl fp).run pins s' u I r) (fun _ s'' ⟨σ', H'', I'', e1, e2, e3⟩ => ⟨σ', H'', I'', e1, fun s0 H0 C cl fp => ⟨fun pins s' I => wpAny_mono ((e3 s0 H0 C cl fp).run pins s' I) (fun u s4 ⟨v4, H4, I4, r4, ev, e4⟩ => ⟨v4, H4, I4, r4, acc, e4 _ _ (e2 _ _ (k1 _ _ p2)), ?_, ?_, acc ++ [v4], upd_same, ?_, ?_⟩) fun _ _ z => z⟩⟩) fun _ _ z => z⟩
  · rw [p3]
    exact Nat.lt_of_lt_of_le (Nat.lt_of_lt_of_le hi hn) (by decide)
  · intro b o e
    rw [upd_ne (ne_of_none e hD)]
    exact e4 _ _ (e2 _ _ (k1 _ _ (p1 _ _ e)))
  · rw [List.length_append, p3]; rfl
  · intro j z hz
    by_cases hj : j < i
    · rw [List.getElem?_append_left (by omega)] at hz
      exact p4 j z hz
    · rw [List.getElem?_append_right (by omega), p3] at hz
      have hj2 : j = i := by
        have := (List.getElem?_eq_some_iff.mp hz).1
        simp at this
        omega
      subst hj2
      simp at hz
      rw [← hz]
      exact ev
theorem s_setLcP {sc : Scope} {N : List Str} {own : List (Str × Nat)} {y : Str} {i : Nat} [cc : CxC X] [cn : CxN X N] [sl : Slt N y i] [nd : NdN N] (ok : BlkOk N X.env.scope sc own) (Pr : Nat → V → Prop)
    (h : jW X tg it σ H fun J H1 => ∃ n G Y, Walk J n G Y ∧ n ≤ 100000 ∧ (∀ H', Same H1 H' → G H') ∧
      (∀ i x H' H2, i < n → Same H1 H' → Y i H' x H2 → Same H' H2 ∧ gB X sc tg x (wipe σ (own.map (·.2))) H2 fun σ3 H3 => wipe σ3 (own.map (·.2)) = wipe σ (own.map (·.2)) ∧ Same H2 H3 ∧ eB X sc elt σ3 H3 fun y H4 => Pr i y ∧ Same H3 H4) ∧
      ∀ l H' ys, Same H1 H' → H1 l = none → H' l = some (.lst ys) → ys.length = n → (∀ i y, ys[i]? = some y → Pr i y) → D.nx (σ.set i (some (.ref l))) H') (hyl : X.env.scope.names.lookup y = some .local := by rfl)
    (hsw : swapsWith (.ListComp elt [⟨tg, it, [], 0⟩] sc pos) (some (.Name y p2)) p3.line X.env = pure true := by exact sw_true rfl rfl rfl (by decide +kernel)) (hs : ∀ x, foldedSetIterable it X.env x = pure x := by intro _; rfl) : sW X (.Assign [.Name y p2] (.ListComp elt [⟨tg, it, [], 0⟩] sc pos) p3) D σ H := by
  refine s_setLc ok ⟨fun pins s I => wpAny_mono (h.run pins s I) (fun v s1 q => wpAny_mono q (fun u s2 ⟨i, fp, tn, J, H2, e, I2, T, t0, f2, n, G, Y, w, hn, q1, q2, q3⟩ => ⟨i, fp, tn, J, H2, e, I2, T, t0, f2, n, G, Y, w, fun D' hD => ⟨fun i H' => Same H2 H' ∧ ∃ acc, H' D' = some (.lst acc) ∧ acc.length = i ∧ ∀ j z, acc[j]? = some z → Pr j z, ⟨fun b o e => by rw [upd_ne (ne_of_none e hD)]; exact e, [], upd_same, rfl, by simp⟩, fun _ _ _ p => q1 _ p.1, fun i x H' H3 hi p y s0 H0 C cl fp => ?_, fun H' p => by
    obtain ⟨p1, acc, p2, p3, p4⟩ := p
    exact q3 D' H' acc p1 hD p2 p3 p4⟩⟩) fun _ _ z => z) fun _ _ z => z⟩ hyl hsw hs
  obtain ⟨k1, k2⟩ := q2 i x H' H3 hi p.1 y
  obtain ⟨p1, acc, p2, p3, p4⟩ := p
  refine ⟨fun pins s' u I r => wpAny_mono ((k2 s0 H0 C cl fp).run pins s' u I r) (fun _ s'' ⟨σ', H'', I'', e1, e2, e3⟩ => ⟨σ', H'', I'', e1, fun s0 H0 C cl fp => ⟨fun pins s' I => wpAny_mono ((e3 s0 H0 C cl fp).run pins s' I) (fun u s4 ⟨v4, H4, I4, r4, ev, e4⟩ => ⟨v4, H4, I4, r4, acc, e4 _ _ (e2 _ _ (k1 _ _ p2)), ?_, ?_, acc ++ [v4], upd_same, ?_, ?_⟩) fun _ _ z => z⟩⟩) fun _ _ z => z⟩
  · rw [p3]
    exact Nat.lt_of_lt_of_le (Nat.lt_of_lt_of_le hi hn) (by decide)
  · intro b o e
    rw [upd_ne (ne_of_none e hD)]
    exact e4 _ _ (e2 _ _ (k1 _ _ (p1 _ _ e)))
  · rw [List.length_append, p3]; rfl
  · intro j z hz
    by_cases hj : j < i
    · rw [List.getElem?_append_left (by omega)] at hz
      exact p4 j z hz
    · rw [List.getElem?_append_right (by omega), p3] at hz
      have hj2 : j = i := by
        have := (List.getElem?_eq_some_iff.mp hz).1
        simp at this
        omega
      subst hj2
      simp at hz
      rw [← hz]
      exact ev
/-- raise X('..') -/
theorem s_raise {x m : Str} {C : Addr} {j : Nat} {W : WX} [cc : CxC X] [ct : CxT X W] (T : ExcF X.K X.mg x C) (h : W (.ref C) none σ H) (hg : Gl X x := by rfl) (hdb : (x == ("__debug__" : Str)) = false := by decide) : sW X (.Raise (some (.Call (.Name x p2) [.Constant (.str m) j p3] [] p4)) none pos) D σ H :=
  sI (ps_raise cc.h ct.h (pmk_own PySem.F.excBase_ValueError T.ex T.mg T.kp (raises_own T.be T.ty) hg hdb)) h
end
theorem range_map {α β : Type} (f : α → β) (d : β) : ∀ (l : List α), (List.range l.length).map (fun i => (l[i]?.map f).getD d) = l.map f
  | [] => rfl
  | a :: l => by
    rw [List.length_cons, List.range_succ_eq_map, List.map_cons, List.map_map, List.map_cons, ← range_map f d l]
    simp [Function.comp_def]
theorem sIx_nn (n d : Nat) {i : Int} (h : 0 ≤ i) : HT.sIx n d (some i) = min i.toNat n := by
  show (if i < 0 then (i + (n : Int)).toNat else min i.toNat n) = _
  rw [if_neg (by omega)]
theorem cutL_from {α : Type} (xs : List α) {n : Nat} (hn : xs.length = n) {i : Int} (h : 0 ≤ i) : (xs.drop (HT.sIx n 0 (some i))).take (HT.sIx n n none - HT.sIx n 0 (some i)) = xs.drop i.toNat := by
  rw [sIx_nn _ _ h, HT.sIx_none, ← hn]
  by_cases k : i.toNat ≤ xs.length
  · rw [Nat.min_eq_left k, List.take_of_length_le (by rw [List.length_drop]; omega)]
  · rw [Nat.min_eq_right (by omega), List.drop_length, List.drop_of_length_le (by omega)]
    simp
theorem cutL_to {α : Type} (xs : List α) {n : Nat} (hn : xs.length = n) {i : Int} (h : 0 ≤ i) : (xs.drop (HT.sIx n 0 none)).take (HT.sIx n n (some i) - HT.sIx n 0 none) = xs.take i.toNat := by
  rw [sIx_nn _ _ h, HT.sIx_none, ← hn, List.drop_zero, Nat.sub_zero]
  by_cases k : i.toNat ≤ xs.length
  · rw [Nat.min_eq_left k]
  · rw [Nat.min_eq_right (by omega), List.take_length, List.take_of_length_le (by omega)]
theorem cutL_mid {α : Type} (xs : List α) {n : Nat} (hn : xs.length = n) {i j : Int} (h : 0 ≤ i) (h2 : i ≤ j) : (xs.drop (HT.sIx n 0 (some i))).take (HT.sIx n n (some j) - HT.sIx n 0 (some i)) = (xs.drop i.toNat).take (j.toNat - i.toNat) := by
  rw [sIx_nn _ _ h, sIx_nn _ _ (by omega), ← hn]
  by_cases k : i.toNat ≤ xs.length
  · rw [Nat.min_eq_left k]
    by_cases k2 : j.toNat ≤ xs.length
    · rw [Nat.min_eq_left k2]
    · rw [Nat.min_eq_right (by omega), List.take_of_length_le (by rw [List.length_drop]; omega), List.take_of_length_le (by rw [List.length_drop]; omega)]
  · rw [Nat.min_eq_right (a := i.toNat) (by omega), List.drop_length, List.drop_of_length_le (by omega)]
    simp
theorem cutV_from (xs : List V) {i : Int} (h : 0 ≤ i) : cutV xs (some i) none = xs.drop i.toNat := cutL_from xs rfl h
theorem cutV_to (xs : List V) {i : Int} (h : 0 ≤ i) : cutV xs none (some i) = xs.take i.toNat := cutL_to xs rfl h
theorem cutV_mid (xs : List V) {i j : Int} (h : 0 ≤ i) (h2 : i ≤ j) : cutV xs (some i) (some j) = (xs.drop i.toNat).take (j.toNat - i.toNat) := cutL_mid xs rfl h h2
theorem cutV_last (xs : List V) : cutV xs none (some (-1)) = xs.dropLast := by
  have h : HT.sIx xs.length xs.length (some (-1)) = xs.length - 1 := by
    show (if (-1 : Int) < 0 then (-1 + (xs.length : Int)).toNat else min (-1 : Int).toNat xs.length) = _
    rw [if_pos (by decide)]
    omega
  unfold cutV
  rw [h, HT.sIx_none, List.drop_zero, Nat.sub_zero, List.dropLast_eq_take]
theorem cutS_from (z : Str) {i : Int} (h : 0 ≤ i) : tl (cutS z (some i) none) = (tl z).drop i.toNat := cutL_from (tl z) (len_tl z).symm h
theorem cutS_to (z : Str) {i : Int} (h : 0 ≤ i) : tl (cutS z none (some i)) = (tl z).take i.toNat := cutL_to (tl z) (len_tl z).symm h
theorem cutS_mid (z : Str) {i j : Int} (h : 0 ≤ i) (h2 : i ≤ j) : tl (cutS z (some i) (some j)) = ((tl z).drop i.toNat).take (j.toNat - i.toNat) := cutL_mid (tl z) (len_tl z).symm h h2

/-! ### data that == may be asked of -/
structure Sh (k : Nat) (d : PyData) : Prop where
  can : d.canLay0 = true
  dep : d.depth ≤ k
theorem Sh.int {k : Nat} (i : Int) : Sh k (.int i) := ⟨rfl, Nat.zero_le _⟩
theorem Sh.bl {k : Nat} (i : Bool) : Sh k (.bool i) := ⟨rfl, Nat.zero_le _⟩
theorem Sh.non {k : Nat} : Sh k .none := ⟨rfl, Nat.zero_le _⟩
theorem Sh.str {k : Nat} {z : Str} (h : ∀ c ∈ tl z, c < 1114112) : Sh k (.str z) := ⟨by
  show z.cps.all (· < 0x110000) = true
  rw [← Array.all_toList]
  exact List.all_eq_true.mpr fun c hc => decide_eq_true (h c hc), Nat.zero_le _⟩
theorem can_all : ∀ {ds : List PyData}, (∀ d ∈ ds, d.canLay0 = true) → PyData.canLayAll0 ds = true
  | [], _ => rfl
  | d :: ds, h => by
    show (d.canLay0 && PyData.canLayAll0 ds) = true
    rw [h d (List.mem_cons_self ..), can_all fun x hx => h x (List.mem_cons_of_mem _ hx)]
    rfl
theorem depth_all {k : Nat} : ∀ {ds : List PyData}, (∀ d ∈ ds, d.depth ≤ k) → PyData.depthAll ds ≤ k
  | [], _ => Nat.zero_le _
  | d :: ds, h => by
    show max d.depth (PyData.depthAll ds) ≤ k
    exact Nat.max_le.mpr ⟨h d (List.mem_cons_self ..), depth_all fun x hx => h x (List.mem_cons_of_mem _ hx)⟩
theorem Sh.lst {k : Nat} {ds : List PyData} (h : ∀ d ∈ ds, Sh k d) : Sh (k + 1) (.list ds) := ⟨can_all fun d hd => (h d hd).can, Nat.succ_le_succ (depth_all fun d hd => (h d hd).dep)⟩
theorem Sh.tup {k : Nat} {ds : List PyData} (h : ∀ d ∈ ds, Sh k d) : Sh (k + 1) (.tuple ds) := ⟨can_all fun d hd => (h d hd).can, Nat.succ_le_succ (depth_all fun d hd => (h d hd).dep)⟩
theorem Sh.ok {k : Nat} {d : PyData} (h : Sh k d) (hk : k ≤ 64 := by decide) : SeqAt.shaped d = true := by
  show (d.canLay0 && decide (d.depth ≤ 64)) = true
  rw [h.can, decide_eq_true (Nat.le_trans h.dep hk)]
  rfl
theorem Sh.refl {k : Nat} {d : PyData} (h : Sh k d) : PyData.eqv d d = true := SeqAt.eqv_refl d h.can
theorem dp_strs {K : PySem.W.Frag} {H : Hp} : ∀ (l : List Str), DpAll K H (l.map V.str) (l.map PyData.str)
  | [] => .nil
  | z :: l => .cons (.str z) (dp_strs l)
theorem dp_ints {K : PySem.W.Frag} {H : Hp} : ∀ (l : List Int), DpAll K H (l.map V.int) (l.map PyData.int)
  | [] => .nil
  | z :: l => .cons (.int z) (dp_ints l)

/-! ### what kind of goal stands here -/
/-- a word of one value, once for all that follows -/
theorem eVia {X : Cx} {e : Expr} {σ : L2.St} {H : Hp} {Q : VK} (v : V) (h1 : ∀ Q' : VK, Q' v H → eW X e σ H Q') (h2 : Q v H) : eW X e σ H Q := h1 Q h2
/-- .., where the heap may grow -/
theorem eViaS {X : Cx} {e : Expr} {σ : L2.St} {H : Hp} {Q : VK} (P : V → Hp → Prop) (h1 : ∀ Q' : VK, (∀ v H', P v H' → Q' v H') → eW X e σ H Q') (h2 : ∀ v H', P v H' → Q v H') : eW X e σ H Q := h1 Q h2
theorem oMono {X : Cx} {f : Value → Value → Sem Value} {x y : V} {H : Hp} {Q Q' : VK} (h : oW X f x y H Q) (i : ∀ v H', Q v H' → Q' v H') : oW X f x y H Q' := ⟨fun pins s σ v u I rx ry => wpAny_mono (h.run pins s σ v u I rx ry) (fun _ _ ⟨v, H', a, b, c⟩ => ⟨v, H', a, b, i v H' c⟩) fun _ _ x => x⟩
theorem e_chainJ {X : Cx} {σ : L2.St} {H : Hp} {Q : VK} {pos : Pos} {a b c : Expr} {op op' : CmpOp} {d : Bool} (h : eW X a σ H fun x H1 => eW X b σ H1 fun y H2 => oW X (compareOp op) x y H2 fun z H3 => ∃ k, z = .bl k ∧ (k = true → ∀ Q' : VK, Q' (.bl d) H3 → eW X c σ H3 (fun w' H4 => oW X (compareOp op') y w' H4 Q')) ∧ Q (.bl (k && d)) H3)
    (hm : lastMarks [op, op'] [b, c] = false := by with_unfolding_all rfl) : eW X (.Compare a [op, op'] [b, c] pos) σ H Q :=
  e_chain (eMono h fun x H1 h1 => eMono h1 fun y H2 h2 => oMono h2 fun z H3 ⟨k, e, h3, q⟩ => ⟨k, e, by
    cases k with
    | true => exact iteT (h3 rfl _ q)
    | false => exact iteF q⟩) hm
theorem s_augA {X : Cx} {σ : L2.St} {H : Hp} {D : Ends} {pos p2 : Pos} {e : Expr} {N : List Str} {x : Str} {i : Nat} {v : Int} [cn : CxN X N] [sl : Slt N x i] [nd : NdN N] (hs : σ[i]? = some (some (.int v))) (h : eW X e σ H fun y H1 => ∃ j, y = .int j ∧ D.nx (σ.set i (some (.int (v + j)))) H1) (hx : Loc X.env.scope x := by first | exact Or.inl rfl | exact Or.inr rfl)
    (hf : X.fn x = true ∨ X.env.scope.names.lookup x = some .local := by first | exact .inl rfl | exact .inr rfl | assumption) : sW X (.AugAssign (.Name x p2) .Add e pos) D σ H :=
  sI (ps_aug (i := i) (by rw [cn.h]; exact nd.h) (by rw [cn.h]; exact sl.h) hx PEw ip_add hf) ⟨.int v, hs, eMono h fun y H1 ⟨j, e, q⟩ => ⟨v, j, rfl, e, q⟩⟩
theorem e_neg {X : Cx} {a : Expr} {σ : L2.St} {H : Hp} {Q : VK} {pos : Pos} (h : eW X a σ H fun x H1 => ∃ i, x = .int i ∧ Q (.int (-i)) H1) : eW X (.UnaryOp .USub a pos) σ H Q := e_un (eMono h fun x H1 ⟨i, e, q⟩ => by subst e; exact u_neg q)
/-- a test of one truth, once for all that follows -/
theorem tVia {X : Cx} {e : Expr} {σ : L2.St} {H : Hp} {R : Bool → Hp → Prop} (b : Bool) (P : Hp → Prop) (h1 : ∀ R' : Bool → Hp → Prop, (∀ H', P H' → R' b H') → tW X e σ H R') (h2 : ∀ H', P H' → R b H') : tW X e σ H R := h1 R h2
/-! ### dict displays -/
theorem sameU {H : Hp} {p : Addr} {o : HO} (hp : H p = none) : Same H (upd H p o) := fun x u e => by rw [upd_ne (ne_of_none e hp)]; exact e
section
variable {X : Cx} {σ : L2.St} {H : Hp} {Q : VK} {pos : Pos} {a b : Expr}
theorem e_dct0 (h : ∀ p H2, Same H H2 → H p = none → H2 p = some (.dK []) → (∀ b, b ≠ p → H2 b = H b) → Q (.ref p) H2) : eW X (.Dict [] [] pos) σ H Q :=
  eI pe_dnewK fun p hp => h p _ (sameU hp) hp upd_same fun _ hb => upd_ne hb
theorem e_dct1 (h : ∀ p H', Same H H' → H p = none → H' p = some (.dK []) → (∀ b, b ≠ p → H' b = H b) → eW X a σ H' fun x H1 => eW X b σ H1 fun y H2 => H2 p = some (.dK []) ∧ ∃ k : Key, x = kV k ∧ ∀ H3, H3 p = some (.dK (mergeK [] [(k, y)])) → (∀ b, b ≠ p → H3 b = H2 b) → Q (.ref p) H3) : eW X (.Dict [some a] [b] pos) σ H Q :=
  eI (pe_disp (pps_cons PEw PEw pps_nil) rfl rfl (fun z => nomatch z) (Nat.le_of_ble_eq_true rfl)) fun p hp => eMono (h p _ (sameU hp) hp upd_same fun _ hb => upd_ne hb) fun x H1 h1 => eMono h1 fun y H2 ⟨e, k, ek, q⟩ => ⟨e, [(k, y)], by rw [ek]; rfl, Nat.le_of_ble_eq_true rfl, q _ upd_same fun _ hb => upd_ne hb⟩
end
/-! ### tuples: parts and sums; dicts -/
/-- all that is a tuple stays -/
def TS (H H' : Hp) : Prop := ∀ b xs, H b = some (.tup xs) → H' b = some (.tup xs)
theorem TS.refl (H : Hp) : TS H H := fun _ _ h => h
theorem TS.trans {H H1 H2 : Hp} (a : TS H H1) (b : TS H1 H2) : TS H H2 := fun c o h => b c o (a c o h)
theorem Same.ts {H H' : Hp} (s : Same H H') : TS H H' := fun _ _ h => s _ _ h
/-- a list's or dict's place is stored anew: tuples stay -/
theorem TS.but {H H' : Hp} {l : Addr} {o : HO} (h : H l = some o) (hn : ∀ xs, o ≠ .tup xs) (k : ∀ b, b ≠ l → H' b = H b) : TS H H' := fun b xs e => by
  rw [k b fun z => hn xs (by rw [z, h] at e; exact Option.some.inj e)]
  exact e
theorem TS.butL {H H' : Hp} {l : Addr} {ys : List V} (h : H l = some (.lst ys)) (k : ∀ b, b ≠ l → H' b = H b) : TS H H' := TS.but h (fun _ z => nomatch z) k
theorem TS.butD {H H' : Hp} {l : Addr} {ys : List (Key × V)} (h : H l = some (.dK ys)) (k : ∀ b, b ≠ l → H' b = H b) : TS H H' := TS.but h (fun _ z => nomatch z) k
section
variable {X : Cx} {σ : L2.St} {H : Hp} {Q : VK} {pos p2 : Pos} {p q : Addr} {xs ys : List V} {lo hi : Option Int}
theorem n_tup (h : H p = some (.tup xs)) (k : ∀ t H2, Same H H2 → H2 t = some (.tup (cutV xs lo hi)) → Q (.ref t) H2) : nW X (.ref p) lo hi H Q :=
  nI sl_tupA ⟨p, xs, rfl, SqT.of h, fun ⟨e1, e2⟩ => k p H (Same.refl _) (by
    have e : cutV xs lo hi = xs := by
      unfold cutV
      rw [e1, e2, List.drop_zero, Nat.sub_zero, List.take_length]
    rw [e]; exact h), fun _ t ht => k t _ (sameU ht) upd_same⟩
theorem n_tupS (h : SqT X.K H p xs) (k : ∀ t H2, Same H H2 → SqT X.K H2 t (cutV xs lo hi) → Q (.ref t) H2) : nW X (.ref p) lo hi H Q :=
  nI sl_tupA ⟨p, xs, rfl, h, fun ⟨e1, e2⟩ => k p H (Same.refl _) (by
    have e : cutV xs lo hi = xs := by
      unfold cutV
      rw [e1, e2, List.drop_zero, Nat.sub_zero, List.take_length]
    rw [e]; exact h), fun _ t ht => k t _ (sameU ht) (SqT.of upd_same)⟩
theorem o_catT (h1 : H p = some (.tup xs)) (h2 : H q = some (.tup ys)) (hz : xs.length + ys.length ≤ 100000) (k : ∀ t H2, Same H H2 → H2 t = some (.tup (xs ++ ys)) → Q (.ref t) H2) : oW X (binaryOp .Add) (.ref p) (.ref q) H Q :=
  oI op_catA ⟨p, q, xs, ys, rfl, rfl, SqT.of h1, SqT.of h2, Nat.le_trans hz (by decide), fun e => k q H (Same.refl _) (by rw [e]; exact h2), fun _ e => k p H (Same.refl _) (by rw [e, List.append_nil]; exact h1), fun _ _ t ht => k t _ (sameU ht) upd_same⟩
theorem k_listD {d : Addr} {kvs : List (Key × V)} [cc : CxC X] (h : H d = some (.dK kvs)) (k : ∀ l H2, Same H H2 → H l = none → H2 l = some (.lst (kvs.map fun kv => kV kv.1)) → (∀ b, b ≠ l → H2 b = H b) → Q (.ref l) H2) : kW X (.type "list") [.ref d] H Q :=
  kI (call_listD cc.h) ⟨d, kvs, rfl, .inl h, fun l hl => k l _ (sameU hl) hl upd_same fun b hb => upd_ne hb⟩
/-- o[i] = v, o a dict whose keys are ints and texts -/
theorem g_setD {o i : Expr} {v : V} {R : L2.St → Hp → Prop} (hu : X.A.units + 1 < cLine) (h : eW X o σ H fun x H1 => eW X i σ H1 fun y H2 => ∃ d kvs k, x = .ref d ∧ H2 d = some (.dK kvs) ∧ y = kV k ∧ kvs.length ≤ 100000 ∧ ∀ H3, H3 d = some (.dK (putK kvs k v)) → (∀ b, b ≠ d → H3 b = H2 b) → R σ H3)
    (ha : ∀ v, assign (.Subscript o i pos) X.env v = (holding [v] (eval o X.env) >>= fun ov => holding [v, ov] (eval i X.env) >>= fun iv => standAt pos >>= fun _ => holding [v, ov, iv] (setItem ov iv v) >>= fun _ => release [v, ov, iv] []) := by intro _; rfl) : gW X (.Subscript o i pos) v σ H R :=
  gI (pg_sub PEw PEw (set_dict hu) ha) (eMono h fun x H1 h1 => eMono h1 fun y H2 ⟨d, kvs, k, e1, e2, e3, e4, q⟩ => ⟨d, _, e1, by rw [e3]; exact .k e2 (Nat.lt_of_le_of_lt e4 (by decide)), q _ upd_same fun b hb => upd_ne hb⟩)
theorem g_setL {o i : Expr} {v : V} {R : L2.St → Hp → Prop} (h : eW X o σ H fun x H1 => eW X i σ H1 fun y H2 => ∃ p xs k j, x = .ref p ∧ y = .int k ∧ H2 p = some (.lst xs) ∧ ixN xs.length k = some j ∧ ∀ H3, H3 p = some (.lst (xs.set j v)) → (∀ b, b ≠ p → H3 b = H2 b) → R σ H3)
    (ha : ∀ v, assign (.Subscript o i pos) X.env v = (holding [v] (eval o X.env) >>= fun ov => holding [v, ov] (eval i X.env) >>= fun iv => standAt pos >>= fun _ => holding [v, ov, iv] (setItem ov iv v) >>= fun _ => release [v, ov, iv] []) := by intro _; rfl) : gW X (.Subscript o i pos) v σ H R :=
  gI (pg_sub PEw PEw set_list ha) (eMono h fun x H1 h1 => eMono h1 fun y H2 ⟨p, xs, k, j, e1, e2, e3, e4, q⟩ => ⟨p, xs, k, j, e1, e2, e3, e4, q _ upd_same fun b hb => upd_ne hb⟩)
/-- a comprehension, its elements by a word of the heap that holds while tuples stay -/
theorem lcH_h {it tg elt : Expr} {sc : Scope} {own : List (Str × Nat)} {R : Addr → Hp → Prop} (Pr : Nat → V → Hp → Prop) (hP : ∀ i y H H', TS H H' → Pr i y H → Pr i y H')
    (h : jW X tg it σ H fun J H1 => ∃ n G Y, Walk J n G Y ∧ n ≤ 100000 ∧ (∀ H', Same H1 H' → G H') ∧
      (∀ i x H' H2, i < n → Same H1 H' → Y i H' x H2 → Same H' H2 ∧ gB X sc tg x (wipe σ (own.map (·.2))) H2 fun σ3 H3 => wipe σ3 (own.map (·.2)) = wipe σ (own.map (·.2)) ∧ Same H2 H3 ∧ eB X sc elt σ3 H3 fun y H4 => Pr i y H4 ∧ Same H3 H4) ∧
      ∀ l H' ys, Same H1 H' → H1 l = none → H' l = some (.lst ys) → ys.length = n → (∀ i y, ys[i]? = some y → Pr i y H') → R l H') :
    jW X tg it σ H fun J H1 => ∃ n G Y, Walk J n G Y ∧ ∀ D, H1 D = none → ∃ Pv : Nat → Hp → Prop, Pv 0 (upd H1 D (.lst [])) ∧ (∀ i H', i ≤ n → Pv i H' → G H') ∧
      (∀ i x H' H2, i < n → Pv i H' → Y i H' x H2 → gB X sc tg x (wipe σ (own.map (·.2))) H2 fun σ3 H3 => wipe σ3 (own.map (·.2)) = wipe σ (own.map (·.2)) ∧ eB X sc elt σ3 H3 fun y H4 => ∃ acc, H4 D = some (.lst acc) ∧ acc.length < sizeLine ∧ Pv (i + 1) (upd H4 D (.lst (acc ++ [y])))) ∧
      ∀ H', Pv n H' → R D H' := by
  refine ⟨fun pins s I => wpAny_mono (h.run pins s I) (fun v s1 q => wpAny_mono q (fun u s2 ⟨i, fp, tn, J, H2, e, I2, T, t0, f2, n, G, Y, w, hn, q1, q2, q3⟩ => ⟨i, fp, tn, J, H2, e, I2, T, t0, f2, n, G, Y, w, fun D' hD => ⟨fun i H' => Same H2 H' ∧ ∃ acc, H' D' = some (.lst acc) ∧ acc.length = i ∧ ∀ j z, acc[j]? = some z → Pr j z H', ⟨sameU hD, [], upd_same, rfl, by simp⟩, fun _ _ _ p => q1 _ p.1, fun i x H' H3 hi p y s0 H0 C cl fp => ?_, fun H' p => by
    obtain ⟨p1, acc, p2, p3, p4⟩ := p
    exact q3 D' H' acc p1 hD p2 p3 p4⟩⟩) fun _ _ z => z) fun _ _ z => z⟩
  obtain ⟨k1, k2⟩ := q2 i x H' H3 hi p.1 y
  obtain ⟨p1, acc, p2, p3, p4⟩ := p
  refine ⟨fun pins s' u I r => wpAny_mono ((k2 s0 H0 C cl fp).run pins s' u I r) (fun _ s'' ⟨σ', H'', I'', e1, e2, e3⟩ => ⟨σ', H'', I'', e1, fun s0 H0 C cl fp => ⟨fun pins s' I => wpAny_mono ((e3 s0 H0 C cl fp).run pins s' I) (fun u s4 ⟨v4, H4, I4, r4, ev, e4⟩ => ⟨v4, H4, I4, r4, acc, e4 _ _ (e2 _ _ (k1 _ _ p2)), ?_, ?_, acc ++ [v4], upd_same, ?_, ?_⟩) fun _ _ z => z⟩⟩) fun _ _ z => z⟩
  · rw [p3]
    exact Nat.lt_of_lt_of_le (Nat.lt_of_lt_of_le hi hn) (by decide)
  · intro b o e
    rw [upd_ne (ne_of_none e hD)]
    exact e4 _ _ (e2 _ _ (k1 _ _ (p1 _ _ e)))
  · rw [List.length_append, p3]; rfl
  · have k4 := e4 _ _ (e2 _ _ (k1 _ _ p2))
    have up : TS H4 (upd H4 D' (.lst (acc ++ [v4]))) := TS.butL k4 fun b hb => upd_ne hb
    intro j z hz
    by_cases hj : j < i
    · rw [List.getElem?_append_left (by omega)] at hz
      exact hP _ _ _ _ ((TS.trans (Same.ts k1) (TS.trans (Same.ts e2) (Same.ts e4))).trans up) (p4 j z hz)
    · rw [List.getElem?_append_right (by omega), p3] at hz
      have hj2 : j = i := by
        have := (List.getElem?_eq_some_iff.mp hz).1
        simp at this
        omega
      subst hj2
      simp at hz
      rw [← hz]
      exact hP _ _ _ _ up ev
theorem e_lcH {it tg elt : Expr} {sc : Scope} {N : List Str} {own : List (Str × Nat)} [cc : CxC X] [cn : CxN X N] [nd : NdN N] (ok : BlkOk N X.env.scope sc own) (Pr : Nat → V → Hp → Prop) (hP : ∀ i y H H', TS H H' → Pr i y H → Pr i y H')
    (h : jW X tg it σ H fun J H1 => ∃ n G Y, Walk J n G Y ∧ n ≤ 100000 ∧ (∀ H', Same H1 H' → G H') ∧
      (∀ i x H' H2, i < n → Same H1 H' → Y i H' x H2 → Same H' H2 ∧ gB X sc tg x (wipe σ (own.map (·.2))) H2 fun σ3 H3 => wipe σ3 (own.map (·.2)) = wipe σ (own.map (·.2)) ∧ Same H2 H3 ∧ eB X sc elt σ3 H3 fun y H4 => Pr i y H4 ∧ Same H3 H4) ∧
      ∀ l H' ys, Same H1 H' → H1 l = none → H' l = some (.lst ys) → ys.length = n → (∀ i y, ys[i]? = some y → Pr i y H') → Q (.ref l) H') (hs : ∀ x, foldedSetIterable it X.env x = pure x := by intro _; rfl) : eW X (.ListComp elt [⟨tg, it, [], 0⟩] sc pos) σ H Q :=
  e_lc ok (lcH_h (R := fun l H' => Q (.ref l) H') Pr hP h) hs
theorem s_setLcH {it tg elt : Expr} {sc : Scope} {N : List Str} {own : List (Str × Nat)} {y : Str} {i : Nat} {D : Ends} {p3 : Pos} [cc : CxC X] [cn : CxN X N] [sl : Slt N y i] [nd : NdN N] (ok : BlkOk N X.env.scope sc own) (Pr : Nat → V → Hp → Prop) (hP : ∀ i y H H', TS H H' → Pr i y H → Pr i y H')
    (h : jW X tg it σ H fun J H1 => ∃ n G Y, Walk J n G Y ∧ n ≤ 100000 ∧ (∀ H', Same H1 H' → G H') ∧
      (∀ i x H' H2, i < n → Same H1 H' → Y i H' x H2 → Same H' H2 ∧ gB X sc tg x (wipe σ (own.map (·.2))) H2 fun σ3 H3 => wipe σ3 (own.map (·.2)) = wipe σ (own.map (·.2)) ∧ Same H2 H3 ∧ eB X sc elt σ3 H3 fun y H4 => Pr i y H4 ∧ Same H3 H4) ∧
      ∀ l H' ys, Same H1 H' → H1 l = none → H' l = some (.lst ys) → ys.length = n → (∀ i y, ys[i]? = some y → Pr i y H') → D.nx (σ.set i (some (.ref l))) H') (hyl : X.env.scope.names.lookup y = some .local := by rfl)
    (hsw : swapsWith (.ListComp elt [⟨tg, it, [], 0⟩] sc pos) (some (.Name y p2)) p3.line X.env = pure true := by exact sw_true rfl rfl rfl (by decide +kernel)) (hs : ∀ x, foldedSetIterable it X.env x = pure x := by intro _; rfl) : sW X (.Assign [.Name y p2] (.ListComp elt [⟨tg, it, [], 0⟩] sc pos) p3) D σ H :=
  s_setLc ok (lcH_h (R := fun l H' => D.nx (σ.set i (some (.ref l))) H') Pr hP h) hyl hsw hs
/-- a comprehension, its elements by a word of the heap that holds while all but the comprehension's own list stays -/
theorem lcK_h {it tg elt : Expr} {sc : Scope} {own : List (Str × Nat)} {R : Addr → Hp → Prop} (Pr : Nat → V → Hp → Prop) (hP : ∀ i y H H', Same H H' → Pr i y H → Pr i y H') (hK : ∀ i y H H' D acc, H D = some (.lst acc) → (∀ (j : Nat) z, acc[j]? = some z → Pr j z H) → (∀ b, b ≠ D → H' b = H b) → Pr i y H → Pr i y H')
    (h : jW X tg it σ H fun J H1 => ∃ n G Y, Walk J n G Y ∧ n ≤ 100000 ∧ (∀ H', Same H1 H' → G H') ∧
      (∀ i x H' H2, i < n → Same H1 H' → Y i H' x H2 → Same H' H2 ∧ gB X sc tg x (wipe σ (own.map (·.2))) H2 fun σ3 H3 => wipe σ3 (own.map (·.2)) = wipe σ (own.map (·.2)) ∧ Same H2 H3 ∧ eB X sc elt σ3 H3 fun y H4 => Pr i y H4 ∧ Same H3 H4) ∧
      ∀ l H' ys, Same H1 H' → H1 l = none → H' l = some (.lst ys) → ys.length = n → (∀ i y, ys[i]? = some y → Pr i y H') → R l H') :
    jW X tg it σ H fun J H1 => ∃ n G Y, Walk J n G Y ∧ ∀ D, H1 D = none → ∃ Pv : Nat → Hp → Prop, Pv 0 (upd H1 D (.lst [])) ∧ (∀ i H', i ≤ n → Pv i H' → G H') ∧
      (∀ i x H' H2, i < n → Pv i H' → Y i H' x H2 → gB X sc tg x (wipe σ (own.map (·.2))) H2 fun σ3 H3 => wipe σ3 (own.map (·.2)) = wipe σ (own.map (·.2)) ∧ eB X sc elt σ3 H3 fun y H4 => ∃ acc, H4 D = some (.lst acc) ∧ acc.length < sizeLine ∧ Pv (i + 1) (upd H4 D (.lst (acc ++ [y])))) ∧
      ∀ H', Pv n H' → R D H' := by
  refine ⟨fun pins s I => wpAny_mono (h.run pins s I) (fun v s1 q => wpAny_mono q (fun u s2 ⟨i, fp, tn, J, H2, e, I2, T, t0, f2, n, G, Y, w, hn, q1, q2, q3⟩ => ⟨i, fp, tn, J, H2, e, I2, T, t0, f2, n, G, Y, w, fun D' hD => ⟨fun i H' => Same H2 H' ∧ ∃ acc, H' D' = some (.lst acc) ∧ acc.length = i ∧ ∀ j z, acc[j]? = some z → Pr j z H', ⟨sameU hD, [], upd_same, rfl, by simp⟩, fun _ _ _ p => q1 _ p.1, fun i x H' H3 hi p y s0 H0 C cl fp => ?_, fun H' p => by
    obtain ⟨p1, acc, p2, p3, p4⟩ := p
    exact q3 D' H' acc p1 hD p2 p3 p4⟩⟩) fun _ _ z => z) fun _ _ z => z⟩
  obtain ⟨k1, k2⟩ := q2 i x H' H3 hi p.1 y
  obtain ⟨p1, acc, p2, p3, p4⟩ := p
  refine ⟨fun pins s' u I r => wpAny_mono ((k2 s0 H0 C cl fp).run pins s' u I r) (fun _ s'' ⟨σ', H'', I'', e1, e2, e3⟩ => ⟨σ', H'', I'', e1, fun s0 H0 C cl fp => ⟨fun pins s' I => wpAny_mono ((e3 s0 H0 C cl fp).run pins s' I) (fun u s4 ⟨v4, H4, I4, r4, ev, e4⟩ => ⟨v4, H4, I4, r4, acc, e4 _ _ (e2 _ _ (k1 _ _ p2)), ?_, ?_, acc ++ [v4], upd_same, ?_, ?_⟩) fun _ _ z => z⟩⟩) fun _ _ z => z⟩
  · rw [p3]
    exact Nat.lt_of_lt_of_le (Nat.lt_of_lt_of_le hi hn) (by decide)
  · intro b o e
    rw [upd_ne (ne_of_none e hD)]
    exact e4 _ _ (e2 _ _ (k1 _ _ (p1 _ _ e)))
  · rw [List.length_append, p3]; rfl
  · have k4 := e4 _ _ (e2 _ _ (k1 _ _ p2))
    have sm : Same H' H4 := k1.trans (e2.trans e4)
    have pa : ∀ (j : Nat) z, acc[j]? = some z → Pr j z H4 := fun j z hz => hP _ _ _ _ sm (p4 j z hz)
    have up : ∀ i y, Pr i y H4 → Pr i y (upd H4 D' (.lst (acc ++ [v4]))) := fun i y h => hK _ _ _ _ _ _ k4 pa (fun b hb => upd_ne hb) h
    intro j z hz
    by_cases hj : j < i
    · rw [List.getElem?_append_left (by omega)] at hz
      exact up _ _ (pa j z hz)
    · rw [List.getElem?_append_right (by omega), p3] at hz
      have hj2 : j = i := by
        have := (List.getElem?_eq_some_iff.mp hz).1
        simp at this
        omega
      subst hj2
      simp at hz
      rw [← hz]
      exact up _ _ ev
theorem e_lcK {it tg elt : Expr} {sc : Scope} {N : List Str} {own : List (Str × Nat)} [cc : CxC X] [cn : CxN X N] [nd : NdN N] (ok : BlkOk N X.env.scope sc own) (Pr : Nat → V → Hp → Prop) (hP : ∀ i y H H', Same H H' → Pr i y H → Pr i y H') (hK : ∀ i y H H' D acc, H D = some (.lst acc) → (∀ (j : Nat) z, acc[j]? = some z → Pr j z H) → (∀ b, b ≠ D → H' b = H b) → Pr i y H → Pr i y H')
    (h : jW X tg it σ H fun J H1 => ∃ n G Y, Walk J n G Y ∧ n ≤ 100000 ∧ (∀ H', Same H1 H' → G H') ∧
      (∀ i x H' H2, i < n → Same H1 H' → Y i H' x H2 → Same H' H2 ∧ gB X sc tg x (wipe σ (own.map (·.2))) H2 fun σ3 H3 => wipe σ3 (own.map (·.2)) = wipe σ (own.map (·.2)) ∧ Same H2 H3 ∧ eB X sc elt σ3 H3 fun y H4 => Pr i y H4 ∧ Same H3 H4) ∧
      ∀ l H' ys, Same H1 H' → H1 l = none → H' l = some (.lst ys) → ys.length = n → (∀ i y, ys[i]? = some y → Pr i y H') → Q (.ref l) H') (hs : ∀ x, foldedSetIterable it X.env x = pure x := by intro _; rfl) : eW X (.ListComp elt [⟨tg, it, [], 0⟩] sc pos) σ H Q :=
  e_lc ok (lcK_h (R := fun l H' => Q (.ref l) H') Pr hP hK h) hs
theorem s_setLcK {it tg elt : Expr} {sc : Scope} {N : List Str} {own : List (Str × Nat)} {y : Str} {i : Nat} {D : Ends} {p3 : Pos} [cc : CxC X] [cn : CxN X N] [sl : Slt N y i] [nd : NdN N] (ok : BlkOk N X.env.scope sc own) (Pr : Nat → V → Hp → Prop) (hP : ∀ i y H H', Same H H' → Pr i y H → Pr i y H') (hK : ∀ i y H H' D acc, H D = some (.lst acc) → (∀ (j : Nat) z, acc[j]? = some z → Pr j z H) → (∀ b, b ≠ D → H' b = H b) → Pr i y H → Pr i y H')
    (h : jW X tg it σ H fun J H1 => ∃ n G Y, Walk J n G Y ∧ n ≤ 100000 ∧ (∀ H', Same H1 H' → G H') ∧
      (∀ i x H' H2, i < n → Same H1 H' → Y i H' x H2 → Same H' H2 ∧ gB X sc tg x (wipe σ (own.map (·.2))) H2 fun σ3 H3 => wipe σ3 (own.map (·.2)) = wipe σ (own.map (·.2)) ∧ Same H2 H3 ∧ eB X sc elt σ3 H3 fun y H4 => Pr i y H4 ∧ Same H3 H4) ∧
      ∀ l H' ys, Same H1 H' → H1 l = none → H' l = some (.lst ys) → ys.length = n → (∀ i y, ys[i]? = some y → Pr i y H') → D.nx (σ.set i (some (.ref l))) H') (hyl : X.env.scope.names.lookup y = some .local := by rfl)
    (hsw : swapsWith (.ListComp elt [⟨tg, it, [], 0⟩] sc pos) (some (.Name y p2)) p3.line X.env = pure true := by exact sw_true rfl rfl rfl (by decide +kernel)) (hs : ∀ x, foldedSetIterable it X.env x = pure x := by intro _; rfl) : sW X (.Assign [.Name y p2] (.ListComp elt [⟨tg, it, [], 0⟩] sc pos) p3) D σ H :=
  s_setLc ok (lcK_h (R := fun l H' => D.nx (σ.set i (some (.ref l))) H') Pr hP hK h) hyl hsw hs
end
/-! ### a text so often -/
theorem fold_app : ∀ (n : Nat) (a : Array Nat) (z : Array Nat), ((List.replicate n z).foldl (· ++ ·) a).toList = a.toList ++ (List.replicate n z.toList).flatten
  | 0, a, z => by simp
  | n + 1, a, z => by
    rw [List.replicate_succ, List.foldl_cons, fold_app n, Array.toList_append, List.replicate_succ, List.flatten_cons, List.append_assoc]
theorem o_repS {X : Cx} {H : Hp} {Q : VK} {z : Str} {n : Int} (h0 : 0 ≤ n) (h1 : n ≤ 100000) (hz : z.length ≤ 100) (q : ∀ y, tl y = (List.replicate n.toNat (tl z)).flatten → Q (.str y) H) : oW X (binaryOp .Mult) (.str z) (.int n) H Q := by
  refine ⟨fun pins s σ v u I rx ry => ?_⟩
  obtain ⟨t, rfl⟩ := rx
  obtain ⟨t', rfl⟩ := ry
  have hm : z.length * n.toNat ≤ 100 * 100000 := Nat.mul_le_mul hz (by omega)
  refine PySem.P.mul_str (by rw [decide_eq_false (by omega), decide_eq_false (by omega)]; rfl) (fun c _ => ?_) (fun _ _ => ?_) ?_
  · have : (z.length : Int) ≤ (2 ^ 63 - 1) / n := by
      refine Int.le_ediv_of_mul_le (by omega) ?_
      have e : (z.length : Int) * n = ((z.length * n.toNat : Nat) : Int) := by
        rw [Int.natCast_mul, Int.toNat_of_nonneg h0]
      rw [e]
      omega
    omega
  · show decide (z.length * n.toNat > sizeLine) = false
    rw [sizeLine_eq]
    exact decide_eq_false (by omega)
  · by_cases c : n < 1
    · rw [if_pos c]
      refine ⟨by decide, ⟨.str Str.empty, H, I.tok _, ⟨_, rfl⟩, q _ ?_⟩⟩
      have : n.toNat = 0 := by omega
      rw [this]
      rfl
    · rw [if_neg c]
      by_cases c2 : (n == 1 || z.length == 0) = true
      · rw [if_pos c2]
        refine ⟨.str z, H, I.tok _, ⟨t, rfl⟩, q z ?_⟩
        rcases Bool.or_eq_true_iff.mp c2 with c3 | c3
        · have : n = 1 := beq_iff_eq.mp c3
          subst this
          simp
        · have e : tl z = [] := List.eq_nil_of_length_eq_zero (by rw [← len_tl]; exact beq_iff_eq.mp c3)
          rw [e]
          simp
      · rw [if_neg c2]
        have e : tl (⟨(List.replicate n.toNat z.cps).foldl (· ++ ·) #[]⟩ : Str) = (List.replicate n.toNat (tl z)).flatten := by
          show ((List.replicate n.toNat z.cps).foldl (· ++ ·) #[]).toList = _
          rw [fold_app]
          rfl
        refine ⟨?_, ⟨.str _, H, I.tok _, ⟨_, rfl⟩, q _ e⟩⟩
        rw [len_tl, e, List.length_flatten, List.map_replicate, List.sum_replicate_nat, ← len_tl, Nat.mul_comm, sizeLine_eq]
        omega
/-! ### exceptions: try, what a clause names, isinstance of what is caught -/
def trX (X : Cx) (pn : List (Addr × Obj)) (xe : Value → Shared → Prop) : Cx := X.tr pn xe
def suX (X : Cx) (a : Addr) (pn : List (Addr × Obj)) : Cx := X.suite a pn
theorem bMono {X : Cx} {b : List Stmt} {D : Ends} {σ : L2.St} {H : Hp} {nx : L2.St → Hp → Prop} (h : bW X b D σ H) (i : ∀ σ' H', D.nx σ' H' → nx σ' H') : bW X b { D with nx := nx } σ H := ⟨fun pins s I => wpAny_mono (h.run pins s I) (fun f s1 q => by
  cases f with
  | next => obtain ⟨σ', H', a, c⟩ := q; exact ⟨σ', H', a, i _ _ c⟩
  | brk => exact q
  | cont => exact q
  | ret v => exact q) fun _ _ x => x⟩
theorem sMono {X : Cx} {st : Stmt} {D : Ends} {σ : L2.St} {H : Hp} (nx : L2.St → Hp → Prop) (h : sW X st (Dnx D nx) σ H) (i : ∀ σ' H', nx σ' H' → D.nx σ' H') : sW X st D σ H := ⟨fun pins s I => wpAny_mono (h.run pins s I) (fun f s1 q => by
  cases f with
  | next => obtain ⟨σ', H', a, c⟩ := q; exact ⟨σ', H', a, i _ _ c⟩
  | brk => exact q
  | cont => exact q
  | ret v => exact q) fun _ _ x => x⟩
section
variable {X : Cx} {pn : List (Addr × Obj)} {xe : Value → Shared → Prop} {a : Addr}
instance {N : List Str} [c : CxN X N] : CxN (trX X pn xe) N := ⟨c.h⟩
instance {K : PySem.W.Frag} [c : CxK X K] : CxK (trX X pn xe) K := ⟨c.h⟩
instance {mg : Str → Option Value} [c : CxM X mg] : CxM (trX X pn xe) mg := ⟨c.h⟩
instance [c : CxC X] : CxC (trX X pn xe) := ⟨c.h⟩
instance {N : List Str} [c : CxN X N] : CxN (suX X a pn) N := ⟨c.h⟩
instance {K : PySem.W.Frag} [c : CxK X K] : CxK (suX X a pn) K := ⟨c.h⟩
instance {mg : Str → Option Value} [c : CxM X mg] : CxM (suX X a pn) mg := ⟨c.h⟩
instance : CxO (suX X a pn) := ⟨PassesOwn.never⟩
instance : CxT (suX X a pn) (fun _ _ _ _ => False) := ⟨takes0 (X := suX X a pn)⟩
end
section
variable {K : PySem.W.Frag} {mg : Str → Option Value} {x y : Str} {C D : Addr} {b : Bool}
theorem ExcF.excC (T : ExcF K mg x C) : ExcC K C := ⟨T.ga, T.gk, T.be, T.hd, T.ha, T.hn, T.ht, T.hm⟩
theorem ExcF.self (T : ExcF K mg x C) : PySem.W.subIn K (.ref C) (.ref C) = some true := by
  have q := T.ex
  unfold PySem.W.excIn at q
  show PySem.W.mroIn K C (.ref C) = some true
  unfold PySem.W.mroIn PySem.W.clsIn
  split at q
  · rename_i dd cd sl ho
    rw [ho]
    dsimp only
    split at q
    · rename_i C' bm k0 k1 k2 k3 n k5 hm hs
      simp only [Bool.and_eq_true, beq_iff_eq] at q
      obtain ⟨⟨⟨⟨⟨e, _⟩, _⟩, _⟩, _⟩, _⟩ := q
      subst e
      rw [Option.bind_some, hm]
      simp
    · cases q
  · cases q
theorem ExcF.kit (TD : ExcF K mg x D) (TC : ExcF K mg y C) (h : PySem.W.subIn K (.ref D) (.ref C) = some b) : PySem.W.kitOne K (.ref D) (.ref C) = some b := by
  by_cases e : D = C
  · subst e
    rw [TD.self] at h
    cases h
    exact kit_self
  · exact kit_refs h TC.ic TC.ty e
theorem ExcF.kitVE (TD : ExcF K mg x D) : PySem.W.kitOne K (.ref D) (.type "ValueError") = some true := by
  have e2 : (Value.ref D == Value.type "ValueError") = false := by simp
  have e3 : PySem.W.kitMeta "ValueError" = true := by decide +kernel
  show (if (Value.ref D == Value.type "ValueError") = true then some true else if PySem.W.kitMeta "ValueError" = true then PySem.W.subIn K (.ref D) (.type "ValueError") else none) = some true
  rw [e2, if_neg Bool.false_ne_true, if_pos e3]
  exact TD.ve
theorem ExcF.exm (TC : ExcF K mg y C) (h : PySem.W.subIn K (.ref D) (.ref C) = some b) : PySem.W.exmOne K (.ref D) (.ref C) = some b := PySem.W.exm_ref TC.be TC.hd TC.ty h
theorem kit_none {t : Value} : ∀ {cs : List Addr}, (∀ c ∈ cs, PySem.W.kitOne K t (.ref c) = some false) → PySem.W.kitAny K t (cs.map Value.ref) = some false
  | [], _ => rfl
  | c :: cs, h => by
    show (match PySem.W.kitOne K t (.ref c) with
      | some true => some true
      | some false => PySem.W.kitAny K t (cs.map Value.ref)
      | none => none) = some false
    rw [h c List.mem_cons_self]
    exact kit_none fun d hd => h d (List.mem_cons_of_mem _ hd)
theorem vals_refs : ∀ {cs : List Addr} {its : List Value}, Vals (cs.map V.ref) its → its = cs.map Value.ref
  | [], _, .nil => rfl
  | c :: cs, _, .cons r t => by
    have e : _ = Value.ref c := r
    rw [e, vals_refs t]
    rfl
end
section
variable {X : Cx} {σ : L2.St} {H : Hp} {D : Ends} {Q : VK} {pos pos' np p2 p3 p4 : Pos} {st b₀ : Stmt} {body suite orelse : List Stmt} {N : List Str} {x y n : Str} {a C E : Addr} {oe : Obj} {pn : List (Addr × Obj)} {b : Bool} {mg : Str → Option Value}
/-- isinstance(e, C), e what the suite holds -/
theorem k_isE (TD : ExcF X.K mg x E) (TC : ExcF X.K mg y C) (hz : Zc (.ref E) none oe) (hf : ∃ vs, oe.data = .fields vs) (h : PySem.W.subIn X.K (.ref E) (.ref C) = some b) (q : Q (.bl b) H) : kW (suX X a ((a, oe) :: pn)) (.builtin "isinstance") [.ref a, .ref C] H Q :=
  kI (X := X.suite a ((a, oe) :: pn)) (call_isE TD.excC hz hf) ⟨_, _, _, rfl, fun _ r => r, TD.kit TC h, q⟩
theorem k_isEV (TD : ExcF X.K mg x E) (hz : Zc (.ref E) none oe) (hf : ∃ vs, oe.data = .fields vs) (q : Q (.bl true) H) : kW (suX X a ((a, oe) :: pn)) (.builtin "isinstance") [.ref a, .ty "ValueError"] H Q :=
  kI (X := X.suite a ((a, oe) :: pn)) (call_isE TD.excC hz hf) ⟨_, _, _, rfl, fun _ r => r, TD.kitVE, q⟩
/-- isinstance(e, (C1, C2, ..)), none of them -/
theorem k_isEN {t : Addr} (cs : List Addr) (TD : ExcF X.K mg x E) (hz : Zc (.ref E) none oe) (hf : ∃ vs, oe.data = .fields vs) (ht : H t = some (.tup (cs.map V.ref))) (h : ∀ c ∈ cs, PySem.W.kitOne X.K (.ref E) (.ref c) = some false) (q : Q (.bl false) H) :
    kW (suX X a ((a, oe) :: pn)) (.builtin "isinstance") [.ref a, .ref t] H Q := by
  refine ⟨fun pins s σ us I r => ?_⟩
  cases r with
  | cons rx rr =>
    cases rr with
    | cons rt rr =>
      cases rr
      cases rx
      cases rt
      obtain ⟨hget, _⟩ := I.pin (a, oe) (List.mem_append.mpr (.inl List.mem_cons_self))
      obtain ⟨vs, hv⟩ := hf
      have J : PySem.W.InstAt s.heap a oe E none := by
        obtain ⟨oc, od, oda, osl⟩ := oe
        obtain ⟨h1, h2⟩ := hz
        dsimp only at h1 h2 hv
        subst h1 h2 hv
        exact ⟨hget, rfl, rfl, trivial⟩
      have C := TD.excC
      obtain ⟨_, its, rv, ho⟩ : ObjOk X.prog X.w H s.heap t (.tup (cs.map V.ref)) := I.hok t _ ht
      have e := vals_refs rv
      subst e
      obtain ⟨⟨oc, dd, dt, osl⟩, hg, e1, nn, e2⟩ := ho
      dsimp only at e1 e2
      subst e1 e2
      exact PySem.W.kia_tup (PySem.W.handS_kitx_exc C.hg C.hk C.hs C.hd C.ha C.hn C.ht C.hm) I.kIn J hg (kit_none h) (fun z => nomatch z) fun tk => ⟨.bl false, H, I.kept (t' := tk) fun _ _ z => z, rfl, q⟩
theorem k_intB {k : Bool} (q : Q (.int (if k then 1 else 0)) H) : kW X (.type "int") [.bl k] H Q := kI call_int1 (.inr ⟨k, rfl, q⟩)
/-- try: body, except x as n: suite -/
theorem s_tryAs {i : Nat} {Wout : WX} [cn : CxN X N] [sl : Slt N n i] [nd : NdN N] [ct : CxT X Wout] (T : ExcF X.K X.mg x C) (W : WX)
    (hw : ∀ cls d σ' H', W cls d σ' H' → (PySem.W.exmOne X.K cls (.ref C) = some true ∧ ∀ a oe pn, H' a = none → Zc cls d oe → (∃ vs, oe.data = .fields vs) →
        bW (suX X a ((a, oe) :: pn)) (b₀ :: suite) { nx := fun σ' H' => D.nx (σ'.set i none) H', rt := D.rt, bk := fun σ' H' => D.bk (σ'.set i none) H', ct := fun σ' H' => D.ct (σ'.set i none) H' } (σ'.set i (some (.ref a))) H') ∨
      (PySem.W.exmOne X.K cls (.ref C) = some false ∧ Wout cls d σ' H'))
    (hb : ∀ pn xe, CxT (trX X pn xe) W → CxO (trX X pn xe) → bW (trX X pn xe) body D σ H)
    (hg : Gl X x := by rfl) (hdb : (x == ("__debug__" : Str)) = false := by decide) (hln : X.env.kindOf n = some .local := by rfl) (hs : X.stack = X.env :: X.outer := by rfl) (hf : X.env.frame = some X.env.locals := by rfl) :
    sW X (.Try body [.ExceptHandler (some (.Name x np)) (some n) (b₀ :: suite) pos'] [] [] pos) D σ H :=
  sI (ps_try_as hs hf (by rw [cn.h]; exact nd.h) (by rw [cn.h]; exact sl.h) hln ⟨hg, hdb, .inl T.mg⟩ ct.h
    (tb := fun W' D' σ' H' => ∀ pn xe, CxT (trX X pn xe) W' → CxO (trX X pn xe) → bW (trX X pn xe) body D' σ' H')
    (ts := fun a cls d D' σ' H' => ∀ oe pn, Zc cls d oe → (∃ vs, oe.data = .fields vs) → bW (suX X a ((a, oe) :: pn)) (b₀ :: suite) D' σ' H')
    (fun W' pn xe tk ow => ⟨fun pins s σ H D I q => (q pn xe ⟨tk⟩ ⟨ow⟩).run pins s I⟩)
    (fun a oe cls d pn hz hf => ⟨fun pins s σ H D I q => (q oe pn hz hf).run pins s I⟩))
   (fun pn xe c1 c2 => hb pn xe ⟨c1.h.imp fun cls d σ' H' w => (hw cls d σ' H' w).elim (fun ⟨h1, h2⟩ => ⟨true, h1, fun _ a ha oe pn hz hf => h2 a oe pn ha hz hf, fun z => nomatch z⟩) fun ⟨h1, h2⟩ => ⟨false, h1, (fun z => nomatch z), fun _ => h2⟩⟩ c2)
/-- try: body, except x: suite, else: orelse -/
theorem s_tryElse {Wout : WX} [ct : CxT X Wout] (T : ExcF X.K X.mg x C) (W : WX)
    (hw : ∀ cls d σ' H', W cls d σ' H' → (PySem.W.exmOne X.K cls (.ref C) = some true ∧ ∀ a oe pn, H' a = none → Zc cls d oe → (∃ vs, oe.data = .fields vs) → bW (suX X a ((a, oe) :: pn)) (b₀ :: suite) D σ' H') ∨ (PySem.W.exmOne X.K cls (.ref C) = some false ∧ Wout cls d σ' H'))
    (hb : ∀ pn xe, CxT (trX X pn xe) W → CxO (trX X pn xe) → bW (trX X pn xe) body (Dsq X orelse D) σ H)
    (hg : Gl X x := by rfl) (hdb : (x == ("__debug__" : Str)) = false := by decide) (hs : X.stack = X.env :: X.outer := by rfl) (hf : X.env.frame = some X.env.locals := by rfl) :
    sW X (.Try body [.ExceptHandler (some (.Name x np)) none (b₀ :: suite) pos'] orelse [] pos) D σ H :=
  sI (ps_try_onlyE (u := bW X orelse) PBw hs hf ⟨hg, hdb, .inl T.mg⟩ ct.h
    (tb := fun W' D' σ' H' => ∀ pn xe, CxT (trX X pn xe) W' → CxO (trX X pn xe) → bW (trX X pn xe) body D' σ' H')
    (ts := fun a cls d D' σ' H' => ∀ oe pn, Zc cls d oe → (∃ vs, oe.data = .fields vs) → bW (suX X a ((a, oe) :: pn)) (b₀ :: suite) D' σ' H')
    (fun W' pn xe tk ow => ⟨fun pins s σ H D I q => (q pn xe ⟨tk⟩ ⟨ow⟩).run pins s I⟩)
    (fun a oe cls d pn hz hf => ⟨fun pins s σ H D I q => (q oe pn hz hf).run pins s I⟩))
   (fun pn xe c1 c2 => hb pn xe ⟨c1.h.imp fun cls d σ' H' w => (hw cls d σ' H' w).elim (fun ⟨h1, h2⟩ => ⟨true, h1, fun _ a ha oe pn hz hf => h2 a oe pn ha hz hf, fun z => nomatch z⟩) fun ⟨h1, h2⟩ => ⟨false, h1, (fun z => nomatch z), fun _ => h2⟩⟩ c2)
/-- try: body, except x: suite -/
theorem s_tryOnly {Wout : WX} [ct : CxT X Wout] (T : ExcF X.K X.mg x C) (W : WX)
    (hw : ∀ cls d σ' H', W cls d σ' H' → (PySem.W.exmOne X.K cls (.ref C) = some true ∧ ∀ a oe pn, H' a = none → Zc cls d oe → (∃ vs, oe.data = .fields vs) → bW (suX X a ((a, oe) :: pn)) (b₀ :: suite) D σ' H') ∨ (PySem.W.exmOne X.K cls (.ref C) = some false ∧ Wout cls d σ' H'))
    (hb : ∀ pn xe, CxT (trX X pn xe) W → CxO (trX X pn xe) → bW (trX X pn xe) body D σ H)
    (hg : Gl X x := by rfl) (hdb : (x == ("__debug__" : Str)) = false := by decide) (hs : X.stack = X.env :: X.outer := by rfl) (hf : X.env.frame = some X.env.locals := by rfl) :
    sW X (.Try body [.ExceptHandler (some (.Name x np)) none (b₀ :: suite) pos'] [] [] pos) D σ H :=
  s_tryElse T W hw (fun pn xe c1 c2 => ⟨fun pins s I => (bMono (hb pn xe c1 c2) (fun σ' H' q => b_nil q)).run pins s I⟩) hg hdb hs hf
end
/-! ### try with clauses of any kind -/
theorem wp_forIn {M : Model} {A : Around} {E : Value → Shared → Prop} {α β : Type} {f : α → β → Sem (ForInStep β)} {init : β} {s : Shared} {Q : β → Shared → Prop} : ∀ L : List α, (∀ c ∈ L, ∀ R : ForInStep β → Shared → Prop, R (.yield init) s → wpAny M A (f c init) R E s) → Q init s → wpAny M A (forIn L init f) Q E s
  | [], _, q => by rw [List.forIn_nil]; exact wpAny_pure q
  | c :: L, h, q => by
    rw [List.forIn_cons]
    exact wpAny_bind (h c (List.mem_cons_self ..) _ (wp_forIn L (fun d hd => h d (List.mem_cons_of_mem _ hd)) q))
theorem exm_none {M : Model} {K : PySem.W.Frag} {cs : List Addr} {cls : Value} {tp e : Addr} {h : Heap} (X : K.In h) (LT : PySem.W.Looks M h (typeOf (.ref e)) cls) (hp : h.get? tp = some { cls := .type "tuple", data := .seq (cs.map Value.ref).toArray })
    (hx : ∀ c ∈ cs, PySem.W.exmOne K cls (.ref c) = some false) : PySem.W.Looks M h (excMatches (.ref e) (.ref tp)) false := by
  intro A Q E s k₀ q
  obtain ⟨hh, g, d, tk, os⟩ := s
  have k : ∀ b o, h.get? b = some o → hh.get? b = some o := k₀
  have LTT : PySem.W.Looks M h (isInstance (.ref tp) (.type "tuple")) true := ((PySem.W.Looks.ld hp).andThen .now).andThen (PySem.W.Looks.of_pure isSubtype_tuple_tuple)
  have hpp := k _ _ hp
  unfold excMatches
  refine wpAny_bind ((LTT.keeps k).at ?_)
  dsimp only
  rw [if_pos rfl]
  first
    | refine wpAny_bind (wpAny_seqItems hpp rfl ?_)
    | refine wpAny_bind (wpAny_bind (wpAny_seqItems hpp rfl (wpAny_pure ?_)))
  dsimp only [Option.getD_some, Option.getD]
  have get : ∀ v ∈ cs.map Value.ref, PySem.W.exmOne K cls v = some false := fun v hv => by
    obtain ⟨c, hc, rfl⟩ := List.mem_map.mp hv
    exact hx c hc
  refine wpAny_bind (wpAny_pure (wpAny_bind (wp_forIn _ (fun c hc R r => ?_) ?_)))
  · have L1 := (PySem.W.exm_cls (M := M) X (get c hc)).1.keeps k
    refine wpAny_bind (L1.at ?_)
    rw [if_neg (by decide)]
    exact wpAny_pure r
  · refine wpAny_bind ((LT.keeps k).at ?_)
    refine wpAny_bind (wp_forIn _ (fun c hc R r => ?_) ?_)
    · have L1 := (PySem.W.exm_cls (M := M) X (get c hc)).2.keeps k
      refine wpAny_bind (L1.at ?_)
      rw [if_neg (by decide)]
      exact wpAny_pure r
    · exact wpAny_pure q
/-- an exception that was caught, kept -/
def ExK (cls : Value) (d : Option Addr) (a : Addr) : HO := .ext fun h => ∃ (oe : Obj) (vs : Array Value), h.get? a = some oe ∧ Zc cls d oe ∧ oe.data = .fields vs
theorem exK_ok {P : Program} {w : World} {H : Hp} {h : Heap} {a : Addr} {cls : Value} {d : Option Addr} {oe : Obj} {vs : Array Value} (e : h.get? a = some oe) (z : Zc cls d oe) (q : oe.data = .fields vs) : ObjOk P w H h a (ExK cls d a) :=
  ⟨⟨oe, vs, e, z, q⟩, ⟨oe, e⟩, fun _ _ ⟨o, v, q, r⟩ k => ⟨o, v, k o q, r⟩⟩
/-- what stood unseen is seen -/
theorem lay_old {X : Cx} {pins : List (Addr × Obj)} {σ : L2.St} {H : Hp} {s : Shared} {a : Addr} {o : HO} (I : Inv X pins σ H s) (hn : H a = none) (h0 : X.s_0.heap.get? a = none) (nl : a ≠ X.env.locals) (nc : ∀ v, ¬ s.heap.IsCell a v)
    (np : ∀ p ∈ X.pn ++ pins, p.1 ≠ a) (new : ObjOk X.prog X.w (upd H a o) s.heap a o) : Inv X pins σ (upd H a o) s where
  ok := I.ok
  os := I.os
  bare := I.bare
  base := { keep := I.base.keep, slot := I.base.slot, there := I.base.there
            free := fun b u q n x => by rw [upd_ne fun z => by rw [z, h0] at q; cases q]; exact I.base.free b u q n x
            tups := fun b xs q => by
              have t := I.base.tups b xs q
              rw [upd_ne fun z => by rw [z, hn] at t; cases t]; exact t
            frzs := fun b u xs q => by
              have t := I.base.frzs b u xs q
              rw [upd_ne fun z => by rw [z, hn] at t; cases t]; exact t
            tbls := fun b ps q => by
              obtain ⟨m, t⟩ := I.base.tbls b ps q
              exact ⟨m, by rw [upd_ne fun z => by rw [z, hn] at t; cases t]; exact t⟩ }
  loc := I.loc
  cell := I.cell
  free := by rw [upd_ne (Ne.symm nl)]; exact I.free
  freeC := fun x c e => by
    rw [upd_ne fun z => by
      obtain ⟨v, hv⟩ := I.cell x c e
      rw [z] at hv
      exact nc v hv]
    exact I.freeC x c e
  pin := fun p hp => by
    obtain ⟨q1, q2, q3⟩ := I.pin p hp
    exact ⟨q1, by rw [upd_ne (np p hp)]; exact q2, q3⟩
  hok := HOk.laidN I.hok (fun _ _ z => z) hn new
  len := I.len
/-- the ends of a suite: what is held is kept -/
def keptD (D : Ends) (f : L2.St → L2.St) (cls : Value) (d : Option Addr) (a : Addr) : Ends where
  nx := fun σ H => ∀ H2, Same H H2 → H2 a = some (ExK cls d a) → D.nx (f σ) H2
  rt := fun v H => ∀ H2, Same H H2 → H2 a = some (ExK cls d a) → D.rt v H2
  bk := fun σ H => ∀ H2, Same H H2 → H2 a = some (ExK cls d a) → D.bk (f σ) H2
  ct := fun σ H => ∀ H2, Same H H2 → H2 a = some (ExK cls d a) → D.ct (f σ) H2
/-- the names of a tuple of classes -/
inductive Tst (X : Cx) : List Expr → List Addr → Prop
  | nil : Tst X [] []
  | cons {x : Str} {c : Addr} {np : Pos} {es : List Expr} {cs : List Addr} (hc : Names X x (.ref c)) (hs : starEach (.Name x np :: es) X.env = (false, eval (.Name x np) X.env) :: starEach es X.env) (t : Tst X es cs) : Tst X (.Name x np :: es) (c :: cs)
/-- what the clauses do with an exception of the class cls -/
inductive Caught (X : Cx) (D : Ends) (Wout : WX) (cls : Value) (d : Option Addr) (σ : L2.St) (H : Hp) : List ExceptHandler → Prop
  | out (w : Wout cls d σ H) : Caught X D Wout cls d σ H []
  | skip {x : Str} {c : Addr} {np pos : Pos} {nm : Option Str} {b₀ : Stmt} {suite : List Stmt} {hds : List ExceptHandler} (hc : Names X x (.ref c)) (hx : PySem.W.exmOne X.K cls (.ref c) = some false) (r : Caught X D Wout cls d σ H hds) : Caught X D Wout cls d σ H (.ExceptHandler (some (.Name x np)) nm (b₀ :: suite) pos :: hds)
  | skipT {es : List Expr} {k : Nat} {cs : List Addr} {tp pos : Pos} {nm : Option Str} {b₀ : Stmt} {suite : List Stmt} {hds : List ExceptHandler} (t : Tst X es cs) (hz : cs.length ≤ 1000) (hx : ∀ c ∈ cs, PySem.W.exmOne X.K cls (.ref c) = some false) (r : Caught X D Wout cls d σ H hds) :
      Caught X D Wout cls d σ H (.ExceptHandler (some (.Tuple es k tp)) nm (b₀ :: suite) pos :: hds)
  | hit {x : Str} {c : Addr} {np pos : Pos} {b₀ : Stmt} {suite : List Stmt} {hds : List ExceptHandler} (hc : Names X x (.ref c)) (hx : PySem.W.exmOne X.K cls (.ref c) = some true)
      (q : ∀ a oe pn, H a = none → Zc cls d oe → (∃ vs, oe.data = .fields vs) → bW (suX X a ((a, oe) :: pn)) (b₀ :: suite) (keptD D id cls d a) σ H) : Caught X D Wout cls d σ H (.ExceptHandler (some (.Name x np)) none (b₀ :: suite) pos :: hds)
  | hitAs {x n : Str} {i : Nat} {c : Addr} {np pos : Pos} {b₀ : Stmt} {suite : List Stmt} {hds : List ExceptHandler} (hN : X.N.Nodup) (hi : X.N[i]? = some n) (hln : X.env.kindOf n = some .local) (hc : Names X x (.ref c)) (hx : PySem.W.exmOne X.K cls (.ref c) = some true)
      (q : ∀ a oe pn, H a = none → Zc cls d oe → (∃ vs, oe.data = .fields vs) → bW (suX X a ((a, oe) :: pn)) (b₀ :: suite) (keptD D (·.set i none) cls d a) (σ.set i (some (.ref a))) H) : Caught X D Wout cls d σ H (.ExceptHandler (some (.Name x np)) (some n) (b₀ :: suite) pos :: hds)
theorem tst_name {X : Cx} {a : Addr} {pn pins : List (Addr × Obj)} {σ : L2.St} {H : Hp} {s : Shared} {x : Str} {np : Pos} {c : Value} (hc : Names X x c) (S : Inv (X.suite a pn) pins σ H s) {Q : Value → Shared → Prop} {E : Value → Shared → Prop} (q : Q c s) :
    wpAny (model X.prog X.w) (X.A.mark (some (.ref a))) (eval (.Name x np) X.env) Q E s := by
  obtain ⟨hg, hdb, hm | ⟨hm, hv, hn⟩⟩ := hc
  · exact ld_glob (X := X.suite a pn) S hg hm q hdb
  · exact ld_blt (X := X.suite a pn) S hg hm hv q hn hdb
theorem tst_run {X : Cx} {a : Addr} {pn pins : List (Addr × Obj)} {σ : L2.St} {H : Hp} {s : Shared} {pos : Pos} (S : Inv (X.suite a pn) pins σ H s) {E : Value → Shared → Prop} : ∀ {es : List Expr} {cs : List Addr}, Tst X es cs → ∀ {Q : List Value → Shared → Prop}, Q (cs.map Value.ref) s →
    wpAny (model X.prog X.w) (X.A.mark (some (.ref a))) (spliced (backTo pos (starEach es X.env))) Q E s
  | _, _, .nil, Q, q => wpAny_pure q
  | _, _, .cons hc hs t, Q, q => by
    rw [hs]
    show wpAny _ _ (spliced ((false, eval _ X.env) :: backTo pos _)) _ _ s
    exact Calls.spliced_cons (tst_name hc S (tst_run S t q))
theorem s_tryC {X : Cx} {σ : L2.St} {H : Hp} {D : Ends} {pos : Pos} {body orelse : List Stmt} {h₀ : ExceptHandler} {hds : List ExceptHandler} {Wout : WX} [ct : CxT X Wout] (W : WX)
    (hw : ∀ cls d σ' H', W cls d σ' H' → Caught X D Wout cls d σ' H' (h₀ :: hds))
    (hb : ∀ pn xe, CxT (trX X pn xe) W → CxO (trX X pn xe) → bW (trX X pn xe) body (Dsq X orelse D) σ H)
    (hs : X.stack = X.env :: X.outer := by rfl) (hf : X.env.frame = some X.env.locals := by rfl) (hex : X.ex = [] := by rfl) : sW X (.Try body (h₀ :: hds) orelse [] pos) D σ H := by
  refine ⟨fun pins s I => ?_⟩
  have ok := I.ok
  have fr0 : X.A.frames = some (X.env :: X.outer) := by rw [ok.frames, hs]
  refine wpAny_Try_except ?_
  refine wpAny_mono ((hb (X.pn ++ pins) (fun e s1 => wpAny (model X.prog X.w) X.A (noteFrame e X.env) (fun _ s2 => wpAny (model X.prog X.w) X.A (setFlight e none) (fun _ s3 => wpAny (model X.prog X.w) X.A (handleBy e X.env (h₀ :: hds)) (SP X pins D) X.xe s3) X.xe s2) X.xe s1)
    ⟨fun u s' xx => ?_⟩ ⟨PassesOwn.looking⟩).run [] s (I.toTry _)) (fun f s1 hsp => ?_) (fun e s1 he => he)
  · obtain ⟨a, B, sI, pins', σ', H', cls, d, rfl, J0, nb, up, sky, na, os, ag, w⟩ := xx
    have JJ : Inv X pins σ' H' sI := J0.ofTry ok
    have sky2 : Sky B (X.env :: X.outer) a (Zc cls d) X.env.locals s'.heap := by rw [← hs]; exact sky
    show wpAny (model X.prog X.w) X.A (noteFrame (.ref a) X.env) _ _ _
    refine Sky.land Zc.steady fr0 hf sky2 fun h3 fl3 up3 => ?_
    have aB : B.get? a = none := fl3.2.1
    have nfr : a ∉ frs (X.env :: X.outer) := fun hm => by
      obtain ⟨oe3, vs3, he3, _, hd3⟩ := fl3.there
      obtain ⟨_, o', e', hnf⟩ := fl3.2.2.1.mem hm; rw [he3] at e'; cases e'; exact hnf _ hd3
    have nL : a ≠ X.env.locals := fun z => nfr (List.mem_filterMap.mpr ⟨X.env, List.mem_cons_self .., by rw [hf, z]⟩)
    have nF : a ∉ X.fs := fun hm => by
      obtain ⟨e, he, q⟩ := List.mem_filterMap.mp hm; exact nfr (List.mem_filterMap.mpr ⟨e, List.mem_cons_of_mem _ he, q⟩)
    have ngr : ∀ o, ¬ sI.heap.get? a = some o := fun o e => by
      have t := nb a o e (by show a ∉ frs X.stack; rw [hs]; exact nfr); rw [aB] at t; cases t
    have h0 : X.s_0.heap.get? a = none := by
      cases e : X.s_0.heap.get? a with
      | none => rfl
      | some o => obtain ⟨o', q⟩ := JJ.base.there a o e (by rw [hex]; simp); exact absurd q (ngr o')
    have np : ∀ p ∈ X.pn ++ pins, p.1 ≠ a := fun p hp z => ngr p.2 (by rw [← z]; exact (JJ.pin p hp).1)
    have fac : ∀ h, HandSPX.FlyingZ B (X.env :: X.outer) a (Zc cls d) h → sI.heap.UpToSlots h → Inv X pins σ' H' { s' with heap := h } ∧ ∃ oe, Zc cls d oe ∧ (∃ vs, oe.data = .fields vs) ∧ h.get? a = some oe ∧ Inv (X.suite a ((a, oe) :: (X.pn ++ pins))) [] σ' H' { s' with heap := h } := fun h fl u => by
      obtain ⟨oe, vs, he, hz, hd⟩ := fl.there
      have J : Inv X pins σ' H' { s' with heap := h } := JJ.landed nb fl.1 u os ag
      exact ⟨J, oe, hz, ⟨vs, hd⟩, he, J.suite he hd na nL nF⟩
    have kept6 : ∀ {oe : Obj} {σ6 : L2.St} {H6 : Hp} {s6 : Shared}, Zc cls d oe → (∃ vs, oe.data = .fields vs) → Inv (X.suite a ((a, oe) :: (X.pn ++ pins))) [] σ6 H6 s6 → Inv X pins σ6 (upd H6 a (ExK cls d a)) s6 ∧ Same H6 (upd H6 a (ExK cls d a)) := fun {oe σ6 H6 s6} hz hd S6 => by
      obtain ⟨vs, hd⟩ := hd
      obtain ⟨p1, p2, p3, p4, p5⟩ := S6.pin (a, oe) (List.mem_append_left _ (List.mem_cons_self ..))
      exact ⟨lay_old (S6.unsuite ok) p2 h0 nL (fun v ⟨o, q1, q2⟩ => by rw [p1] at q1; cases q1; exact p5 v q2) np (exK_ok p1 hz hd), sameU p2⟩
    have go : ∀ {hs2 : List ExceptHandler}, Caught X D Wout cls d σ' H' hs2 → ∀ h, HandSPX.FlyingZ B (X.env :: X.outer) a (Zc cls d) h → sI.heap.UpToSlots h → wpAny (model X.prog X.w) X.A (handleBy (.ref a) X.env hs2) (SP X pins D) X.xe { s' with heap := h } := by
      intro hs2 hk
      induction hk with
      | out w =>
        intro h fl u
        refine wpAny_handleBy_nil ?_
        obtain ⟨_, _, _, oe, vs, T, oT, ts, he, hz, hd, h1, hr⟩ := id fl
        unfold PySem.passOn; refine wpAny_bind (wpAny_field he hd h1 ?_); rw [if_neg (show ¬ ((Value.ref T == Value.none) = true) from by simp)]
        have fin : wpAny (model X.prog X.w) X.A (setFlight (.ref a) X.env.frame) (fun _ s4 => wpAny (model X.prog X.w) X.A (throw (.ref a) : Sem Flow) (SP X pins D) X.xe s4) X.xe { s' with heap := h } := by
          rw [hf]; exact HandSPX.setFlight_upZ fl fun h4 hh4 up4 => wpAny_throw (ct.h _ _ ⟨a, B, sI, pins, σ', H', cls, d, rfl, JJ, nb, u.trans up4, .inr (.inr (by rw [hs]; exact hh4)), na, os, ag, w⟩)
        first | exact wpAny_bind (wpAny_pure (wpAny_bind fin)) | exact wpAny_bind fin
      | skip hc hx r ih =>
        intro h fl u
        obtain ⟨J, oe, hz, hd, he, S⟩ := fac h fl u
        refine wpAny_handleBy_cons (codeAny_handlers_test ?_) (by intro q; cases q)
        have LT : PySem.W.Looks (model X.prog X.w) h (typeOf (.ref a)) cls := fun A Q E s k q => wpAny_typeOf_ref (k _ _ he) (by rw [hz.1]; exact q)
        refine tst_name hc S ((PySem.W.exm_one (M := model X.prog X.w) J.kIn LT hx).here ?_)
        exact ih h fl u
      | @skipT es k cs tp pos nm b₀ suite hds t hz1 hx r ih =>
        intro h fl u
        obtain ⟨J, oe, hz, hd, he, S⟩ := fac h fl u
        refine wpAny_handleBy_cons (codeAny_handlers_test ?_) (by intro q; cases q)
        refine wpAny_Tuple_spliced (tst_run S t ⟨by rw [List.length_map]; exact Nat.le_trans hz1 (by decide), ?_⟩)
        have kp : ∀ b o, h.get? b = some o → (h.push { cls := .type "tuple", data := .seq (cs.map Value.ref).toArray }).get? b = some o := fun b o e => Heap.get?_push_of_some _ e
        have fl2 : HandSPX.FlyingZ B (X.env :: X.outer) a (Zc cls d) (h.push { cls := .type "tuple", data := .seq (cs.map Value.ref).toArray }) := by
          obtain ⟨q1, q2, q3, oe', vs, T, oT, ts, r1, r2, r3, r4, r5, r6, r7, r8⟩ := id fl
          exact ⟨fun b o e => kp b o (q1 b o e), q2, q3.of_keeps fun b o e _ => ⟨o, kp b o e, rfl⟩, oe', vs, T, oT, ts, kp _ _ r1, r2, r3, r4, r5, r6, kp _ _ r7, r8⟩
        have u2 : sI.heap.UpToSlots (h.push { cls := .type "tuple", data := .seq (cs.map Value.ref).toArray }) := u.trans fun b o e _ => ⟨o.slots, kp b o e⟩
        have LT : PySem.W.Looks (model X.prog X.w) (h.push { cls := .type "tuple", data := .seq (cs.map Value.ref).toArray }) (typeOf (.ref a)) cls := fun A Q E s k q => wpAny_typeOf_ref (k _ _ (kp _ _ he)) (by rw [hz.1]; exact q)
        refine (exm_none (M := model X.prog X.w) (fac _ fl2 u2).1.kIn LT (Heap.get?_push_size _ rfl) hx).here ?_
        exact ih _ fl2 u2
      | hit hc hx q =>
        intro h fl u
        obtain ⟨J, oe, hz, hd, he, S⟩ := fac h fl u
        refine wpAny_handleBy_cons (codeAny_handlers_test ?_) (by intro q; cases q)
        have LT : PySem.W.Looks (model X.prog X.w) h (typeOf (.ref a)) cls := fun A Q E s k q => wpAny_typeOf_ref (k _ _ he) (by rw [hz.1]; exact q)
        refine tst_name hc S ((PySem.W.exm_one (M := model X.prog X.w) J.kIn LT hx).here ?_)
        refine codeAny_handlers_suite (HandSPX.lands_againZ fl fun h4 fl4 up4 => ?_)
        obtain ⟨J4, oe4, hz4, hd4, he4, S4⟩ := fac h4 fl4 (u.trans up4)
        refine wpAny_mono ((q a oe4 (X.pn ++ pins) na hz4 hd4).run [] _ S4) (fun f s6 hsp => ?_) fun _ _ z => False.elim z
        cases f with
        | next => obtain ⟨σ6, H6, S6, q6⟩ := hsp; obtain ⟨k1, k2⟩ := kept6 hz4 hd4 S6; exact ⟨_, _, k1, q6 _ k2 upd_same⟩
        | brk => obtain ⟨σ6, H6, S6, q6⟩ := hsp; obtain ⟨k1, k2⟩ := kept6 hz4 hd4 S6; exact ⟨_, _, k1, q6 _ k2 upd_same⟩
        | cont => obtain ⟨σ6, H6, S6, q6⟩ := hsp; obtain ⟨k1, k2⟩ := kept6 hz4 hd4 S6; exact ⟨_, _, k1, q6 _ k2 upd_same⟩
        | ret v => obtain ⟨v6, σ6, H6, S6, r6, q6⟩ := hsp; obtain ⟨k1, k2⟩ := kept6 hz4 hd4 S6; exact ⟨_, _, _, k1, r6, q6 _ k2 upd_same⟩
      | @hitAs x n i c np pos b₀ suite hds hN hi hln hc hx q =>
        intro h fl u
        obtain ⟨J, oe, hz, hd, he, S⟩ := fac h fl u
        refine wpAny_handleBy_cons (codeAny_handlers_test ?_) (by intro q; cases q)
        have LT : PySem.W.Looks (model X.prog X.w) h (typeOf (.ref a)) cls := fun A Q E s k q => wpAny_typeOf_ref (k _ _ he) (by rw [hz.1]; exact q)
        refine tst_name hc S ((PySem.W.exm_one (M := model X.prog X.w) J.kIn LT hx).here ?_)
        refine codeAny_handlers_suite_as (HandSPX.lands_againZ fl fun h4 fl4 up4 => ?_)
        obtain ⟨J4, oe4, hz4, hd4, he4, S4⟩ := fac h4 fl4 (u.trans up4)
        have hloc : Loc X.env.scope n := .inl hln
        refine store_ok (X := X.suite a ((a, oe4) :: (X.pn ++ pins))) (v := .ref a) S4 hN hi hloc rfl (fun s5 S5 => ?_) (.inr hln)
        refine wpAny_mono ((q a oe4 (X.pn ++ pins) na hz4 hd4).run [] s5 S5) (fun f s6 hsp => ?_) fun _ _ z => False.elim z
        cases f with
        | next => obtain ⟨σ6, H6, S6, q6⟩ := hsp; obtain ⟨k1, k2⟩ := kept6 hz4 hd4 S6; exact gone_ok k1 hN hi hln fun s7 J7 => ⟨_, _, J7, q6 _ k2 upd_same⟩
        | brk => obtain ⟨σ6, H6, S6, q6⟩ := hsp; obtain ⟨k1, k2⟩ := kept6 hz4 hd4 S6; exact gone_ok k1 hN hi hln fun s7 J7 => ⟨_, _, J7, q6 _ k2 upd_same⟩
        | cont => obtain ⟨σ6, H6, S6, q6⟩ := hsp; obtain ⟨k1, k2⟩ := kept6 hz4 hd4 S6; exact gone_ok k1 hN hi hln fun s7 J7 => ⟨_, _, J7, q6 _ k2 upd_same⟩
        | ret v => obtain ⟨v6, σ6, H6, S6, r6, q6⟩ := hsp; obtain ⟨k1, k2⟩ := kept6 hz4 hd4 S6; exact gone_ok k1 hN hi hln fun s7 J7 => ⟨_, _, _, J7, r6, q6 _ k2 upd_same⟩
    exact go (hw cls d σ' H' w) h3 fl3 (up.trans up3)
  · cases f with
    | next => obtain ⟨σ2, H2, J2, q⟩ := hsp; exact q.run pins s1 (J2.ofTry ok)
    | brk => obtain ⟨σ2, H2, J2, q⟩ := hsp; exact ⟨σ2, H2, J2.ofTry ok, q⟩
    | cont => obtain ⟨σ2, H2, J2, q⟩ := hsp; exact ⟨σ2, H2, J2.ofTry ok, q⟩
    | ret v => obtain ⟨v, σ2, H2, J2, r, q⟩ := hsp; exact ⟨v, σ2, H2, J2.ofTry ok, r, q⟩
section
variable {X : Cx} {H : Hp} {Q : VK} {x y : Str} {a C E : Addr} {b : Bool} {mg : Str → Option Value}
theorem instK {pins : List (Addr × Obj)} {σ : L2.St} {s : Shared} (I : Inv X pins σ H s) (hk : H a = some (ExK (.ref E) none a)) : ∃ oe, PySem.W.InstAt s.heap a oe E none := by
  obtain ⟨⟨oe, vs, e, z, hv⟩, _⟩ : ObjOk X.prog X.w H s.heap a (ExK (.ref E) none a) := I.hok a _ hk
  refine ⟨oe, ?_⟩
  obtain ⟨oc, od, oda, osl⟩ := oe
  obtain ⟨h1, h2⟩ := z
  dsimp only at h1 h2 hv
  subst h1 h2 hv
  exact ⟨e, rfl, rfl, trivial⟩
/-- isinstance(e, C), e an exception that was caught and kept -/
theorem k_isK (TD : ExcF X.K mg x E) (TC : ExcF X.K mg y C) (hk : H a = some (ExK (.ref E) none a)) (h : PySem.W.subIn X.K (.ref E) (.ref C) = some b) (q : Q (.bl b) H) : kW X (.builtin "isinstance") [.ref a, .ref C] H Q := by
  refine ⟨fun pins s σ us I r => ?_⟩
  cases r with
  | cons rx rr =>
    cases rr with
    | cons rt rr =>
      cases rr; cases rx; cases rt
      obtain ⟨oe, J⟩ := instK I hk
      have K := TD.excC
      exact PySem.W.kia_one (PySem.W.handS_kitx_exc K.hg K.hk K.hs K.hd K.ha K.hn K.ht K.hm) I.kIn J (TD.kit TC h) (fun z => nomatch z) fun tk => ⟨.bl b, H, I.kept (t' := tk) fun _ _ z => z, rfl, q⟩
theorem k_isKV (TD : ExcF X.K mg x E) (hk : H a = some (ExK (.ref E) none a)) (q : Q (.bl true) H) : kW X (.builtin "isinstance") [.ref a, .ty "ValueError"] H Q := by
  refine ⟨fun pins s σ us I r => ?_⟩
  cases r with
  | cons rx rr =>
    cases rr with
    | cons rt rr =>
      cases rr; cases rx; cases rt
      obtain ⟨oe, J⟩ := instK I hk
      have K := TD.excC
      exact PySem.W.kia_one (PySem.W.handS_kitx_exc K.hg K.hk K.hs K.hd K.ha K.hn K.ht K.hm) I.kIn J TD.kitVE (fun z => nomatch z) fun tk => ⟨.bl true, H, I.kept (t' := tk) fun _ _ z => z, rfl, q⟩
end
/-! ### list(reversed(xs)) -/
section
open RT
section
variable {prog : Program} {w : World} {A : Around} {E : Value → Shared → Prop} {s : Shared}
theorem wpAny_extend_rev {R : Result → Shared → Prop} (hh : A.handled = none) {it l : Addr} {items : Array Value} (S : Addr) (res : Value) (c₀ : Nat) (hS : s.heap.get? S = some { cls := .type "list", data := .seq #[] c₀ })
    (hit : s.heap.IsRevIter it l ((items.size : Int) - 1)) (hl : s.heap.IsList l items) (hne : l ≠ it) (hSi : S ≠ it) (hSl : S ≠ l) (hn : items.size ≤ sizeLine)
    (hR : ∀ h' tk acc' c', (∀ b o, b ≠ S → b ≠ it → s.heap.get? b = some o → h'.get? b = some o) → h'.get? S = some { cls := .type "list", dict := none, data := .seq acc' c', slots := #[] } →
      ItemsOf (fun i v => items[items.size - 1 - i]? = some v) acc' items.size → R (.ok (.ret res)) { s with heap := h', toks := tk }) :
    wpAny (model prog w) A.in1 (Builtin.List.listExtendWith (.ref S) (.ref it) res)
      (fun fin s' => match fin with | .done f => R (.ok f) s' | .again c' => c'.quiet = true ∧ codeAny (model prog w) A c' R s') (fun e s' => R (.error e) s') s := by
  have W := (Walks.listRev (prog := prog) (w := w) (A := A.in1) hh it l hne items).toS
  have hSf : S ∉ [it, l] := by simp only [List.mem_cons, List.not_mem_nil, or_false, not_or]; exact ⟨hSi, hSl⟩
  have hT : s.TypeIs (.ref it) "list_reverseiterator" := Heap.IsRevIter.typeIs hit
  have h1 : Builtin.List.listSameRef (.ref S) (.ref it) = false := by simp [Builtin.List.listSameRef, hSi]
  unfold Builtin.List.listExtendWith
  refine wpAny_bind (wpAny_typeOf hT ?_)
  rw [if_neg (by rw [h1]; decide)]
  refine wpAny_bind (wpAny_pyIter_revIter hit ?_)
  refine wpAny_bind (wpAny_holding ?_)
  unfold Builtin.List.listLengthHint
  refine wpAny_bind (wpAny_specialOf hT nolen_lri ?_)
  show wpAny _ A.in1 (specialOf (Value.ref it) (Str.ofString "__length_hint__") >>= _) _ _ _
  refine wpAny_bind (wpAny_specialOf hT hint_lri ?_)
  generalize hid : ("list_reverseiterator.__length_hint__" : String) = id0
  wp_delta
  rw [show splitId id0 = some ("list_reverseiterator", "__length_hint__") from by subst hid; decide +kernel]
  subst hid
  refine wpAny_bind (wpAny_isInstance (b := true) hT (by rw [isSubtype_type]; kernel_rfl) ?_)
  refine wpAny_pure ?_
  rw [if_neg (by decide)]
  have e0 : ((items.size : Nat) : Int) - 1 - ((0 : Nat) : Int) = (items.size : Int) - 1 := by omega
  refine wpAny_pure ⟨plainId_quiet F.plain_extend_loop _, codeAny_extend_loopS W hn _ hSf _ items.size 0 _ _ _ rfl (Nat.zero_le _) ⟨Nat.zero_le _, by rw [e0]; exact hit, hl⟩ hS (ItemsOf.nil _) fun s' acc' c' hm hS' hacc => ?_⟩
  rw [Moved.eq_with hm]
  refine hR s'.heap s'.toks acc' c' (fun b o hb hb2 e => hm.heap b o (fun hmem => ?_) e) hS' hacc
  rcases List.mem_cons.mp hmem with e' | hmem
  · exact hb e'
  · exact hb2 (List.mem_singleton.mp hmem)
theorem call_list_rev {it l : Addr} {items : Array Value} {Q : Value → Shared → Prop} (hh : A.handled = none) (hit : s.heap.IsRevIter it l ((items.size : Int) - 1)) (hl : s.heap.IsList l items) (hne : l ≠ it) (hn : items.size ≤ sizeLine)
    (hQ : ∀ h' tk acc' c', (∀ b o, b ≠ it → s.heap.get? b = some o → h'.get? b = some o) →
      h'.get? s.heap.objs.size = some { cls := .type "list", dict := none, data := .seq acc' c', slots := #[] } → ItemsOf (fun i v => items[items.size - 1 - i]? = some v) acc' items.size → Q (.ref s.heap.objs.size) { s with heap := h', toks := tk }) :
    wpAny (model prog w) A (call (.type "list") [.ref it]) Q E s := by
  obtain ⟨oi, hoi, _⟩ := id hit
  obtain ⟨ol, hol, _⟩ := id hl
  have hSi : s.heap.objs.size ≠ it := Nat.ne_of_gt (Heap.lt_size hoi)
  have hSl : s.heap.objs.size ≠ l := Nat.ne_of_gt (Heap.lt_size hol)
  refine callType_codes (Q₁ := fun obj s₁ => obj = .ref s.heap.objs.size ∧ s₁ = { s with heap := s.heap.push { cls := .type "list", data := .seq #[] } }) F.called_list (F.typeCall_list_1 _) F.entry_list_init
    (code_list_new _ ⟨rfl, rfl⟩) fun obj s₁ h₁ => ?_
  obtain ⟨rfl, rfl⟩ := h₁
  have hS : (s.heap.push { cls := .type "list", data := .seq #[] }).get? s.heap.objs.size = some { cls := .type "list", data := .seq #[] } := Heap.get?_push_size _ rfl
  have hit1 : (s.heap.push { cls := .type "list", data := .seq #[] }).IsRevIter it l ((items.size : Int) - 1) := hit.at fun o e => Heap.get?_push_of_some _ e
  have hl1 : (s.heap.push { cls := .type "list", data := .seq #[] }).IsList l items := hl.push _
  refine ⟨⟨_, hS, rfl⟩, F.args_list_init_2 _ _, ?_⟩
  show wpAny _ _ (do let old ← Builtin.List.listItems (.ref s.heap.objs.size); Builtin.List.listUpdate (.ref s.heap.objs.size) (fun _ => #[]); letGo old.toList.reverse; Builtin.List.listExtendWith (.ref s.heap.objs.size) (.ref it) .none) _ _ _
  refine wpAny_bind ?_
  unfold Builtin.List.listItems
  refine wpAny_bind (wpAny_seqItems hS rfl (wpAny_pure ?_))
  show wpAny _ _ (updateSeq s.heap.objs.size (fun _ => #[]) >>= fun _ => letGo (#[] : Array Value).toList.reverse >>= fun _ => Builtin.List.listExtendWith (.ref s.heap.objs.size) (.ref it) .none) _ _ _
  refine wpAny_bind (wpAny_updateSeq hS rfl ?_)
  have hS₂ := Heap.get?_update_self (Obj.mapSeq (fun _ => (#[] : Array Value))) hS rfl
  have oth : ∀ b o, b ≠ s.heap.objs.size → (s.heap.push { cls := .type "list", data := .seq #[] }).get? b = some o → ((s.heap.push { cls := .type "list", data := .seq #[] }).update s.heap.objs.size (Obj.mapSeq (fun _ => (#[] : Array Value)))).get? b = some o :=
    fun b o hb e => (Heap.get?_update_other _ _ (Ne.symm hb)).trans e
  have hit2 : ((s.heap.push { cls := .type "list", data := .seq #[] }).update s.heap.objs.size (Obj.mapSeq (fun _ => (#[] : Array Value)))).IsRevIter it l ((items.size : Int) - 1) := hit1.at fun o e => oth it o hSi.symm e
  have hl2 : ((s.heap.push { cls := .type "list", data := .seq #[] }).update s.heap.objs.size (Obj.mapSeq (fun _ => (#[] : Array Value)))).IsList l items := by
    obtain ⟨o, ho, r⟩ := hl1
    exact ⟨o, oth l o hSl.symm ho, r⟩
  refine wpAny_bind (wpAny_letGo ?_)
  refine wpAny_extend_rev (s := { s with heap := (s.heap.push { cls := .type "list", data := .seq #[] }).update s.heap.objs.size (Obj.mapSeq (fun _ => (#[] : Array Value))) }) (R := wants (fun r s₂ => r = Value.none ∧ Q (Value.ref s.heap.objs.size) s₂) E) (A := A.in1) hh s.heap.objs.size .none _ hS₂ hit2 hl2 hne hSi hSl hn fun h' tk acc' c' hk hS' hacc => ?_
  exact ⟨rfl, hQ h' tk acc' c' (fun b o hb e => hk b o (Nat.ne_of_lt (Heap.lt_size e)) hb (oth b o (Nat.ne_of_lt (Heap.lt_size e)) (Heap.get?_push_of_some _ e))) hS' hacc⟩
end
/-- list(reversed(xs)), xs a list -/
theorem e_listRev {X : Cx} {σ : L2.St} {H : Hp} {Q : VK} {e : Expr} {p p2 pos pos2 : Pos} {mg : Str → Option Value} [cc : CxC X] [cm : CxM X mg] [g1 : Gn mg "list" none] [g2 : Gn mg "reversed" none]
    (h : eW X e σ H fun v H1 => ∃ (a : Addr) (xs : List V), v = .ref a ∧ SqL X.K H1 a xs ∧ ∀ l H2, Same H1 H2 → H1 l = none → H2 l = some (.lst xs.reverse) → (∀ b, b ≠ l → H2 b = H1 b) → Q (.ref l) H2)
    (hg : Gl X "list" := by rfl) (hg2 : Gl X "reversed" := by rfl) (hs : starEach [e] X.env = (false, eval e X.env) :: starEach [] X.env := by rfl)
    (hs2 : starEach [.Call (.Name "reversed" p2) [e] [] pos2] X.env = (false, eval (.Call (.Name "reversed" p2) [e] [] pos2) X.env) :: starEach [] X.env := by rfl) : eW X (.Call (.Name "list" p) [.Call (.Name "reversed" p2) [e] [] pos2] [] pos) σ H Q := by
  refine ⟨fun pins s I => ?_⟩
  have hm : X.mg "list" = none := by rw [cm.h]; exact g1.h
  have hm2 : X.mg "reversed" = none := by rw [cm.h]; exact g2.h
  refine Call_ (ld_blt I hg hm boot_list (PyProof.Rows.callWith_type1 (args_cons (Call_ (ld_blt I hg2 hm2 PyProof.Rows.boot_reversed (PyProof.Rows.callWith_type1 (args_cons (thn (h.run pins s I) fun u s1 ⟨v, H1, I1, r1, q1⟩ => args_nil ?_) hs) hs rfl))) hs2) hs2 rfl))
  obtain ⟨a, xs, ev, hq, q⟩ := q1
  subst ev
  obtain rfl : u = Value.ref a := r1
  obtain ⟨its, rv, p', hz⟩ := I1.list hq
  refine call_reversed_list p'.isList (args_nil ?_)
  have k0 : ∀ b o, s1.heap.get? b = some o → (s1.heap.push (revObj a ((its.toArray.size : Int) - 1))).get? b = some o := fun b o e => Heap.get?_push_of_some _ e
  have I2 : Inv X pins σ H1 { s1 with heap := s1.heap.push (revObj a ((its.toArray.size : Int) - 1)) } := I1.kept (t' := s1.toks) k0
  obtain ⟨f0, f1, f2, f3, f4, f5⟩ := I1.fpOk (H' := H1) (b := s1.heap.objs.size) (Nat.le_refl _) (I1.hok.fresh (Nat.le_refl _))
  have hl := p'.isList
  obtain ⟨ol, hol, _⟩ := id hl
  have hne : a ≠ s1.heap.objs.size := Nat.ne_of_lt (Heap.lt_size hol)
  have hn : its.toArray.size ≤ sizeLine := by rw [List.size_toArray, ← rv.length]; exact hz
  refine call_list_rev (s := { s1 with heap := s1.heap.push (revObj a ((its.toArray.size : Int) - 1)) }) (I1.ok.hd cc.h) ⟨_, Heap.get?_push_size _ rfl, rfl, rfl⟩ (hl.push _) hne hn fun h' tk acc c' hk hS hi => ?_
  have I3 : Inv X pins σ H1 { s1 with heap := h', toks := tk } := I2.turned (t' := tk) (fun b o hb e => hk b o hb e) f0 f1 f3 f4 f5
  have hn1 : H1 (s1.heap.push (revObj a ((its.toArray.size : Int) - 1))).objs.size = none := I2.hok.fresh (Nat.le_refl _)
  refine ⟨.ref _, upd H1 (s1.heap.push (revObj a ((its.toArray.size : Int) - 1))).objs.size (.lst xs.reverse), I1.laid (t' := tk) (fun b u e => hk b u (Nat.ne_of_lt (Heap.lt_size e)) (k0 b u e)) ?_ ⟨by rw [List.length_reverse]; exact hz, acc.toList, c', RT.vals_rev rv hi, by simpa using hS⟩, rfl, q _ _ (sameU hn1) hn1 upd_same fun b hb => upd_ne hb⟩
  show s1.heap.objs.size ≤ _
  rw [Heap.size_push]
  omega
end
/-! ### comprehensions with one if, told turn by turn -/
section
variable {X : Cx} {σ : L2.St} {H : Hp} {Q : VK} {pos p2 p3 : Pos} {it tg elt cnd : Expr} {D : Ends}
theorem lcF_h {sc : Scope} {own : List (Str × Nat)} {R : Addr → Hp → Prop} (c : Nat → Bool) (ys : Nat → V)
    (h : jW X tg it σ H fun J H1 => ∃ n G Y, Walk J n G Y ∧ n ≤ 100000 ∧ (∀ H', Same H1 H' → G H') ∧
      (∀ i x H' H2, i < n → Same H1 H' → Y i H' x H2 → Same H' H2 ∧ gB X sc tg x (wipe σ (own.map (·.2))) H2 fun σ3 H3 => wipe σ3 (own.map (·.2)) = wipe σ (own.map (·.2)) ∧ Same H2 H3 ∧ tB' X sc cnd σ3 H3 fun k H4 => Same H3 H4 ∧ k = c i ∧ (k = true → eB X sc elt σ3 H4 fun y H5 => y = ys i ∧ Same H4 H5)) ∧
      ∀ l H', Same H1 H' → H1 l = none → H' l = some (.lst (((List.range n).filter c).map ys)) → R l H') :
    jW X tg it σ H fun J H1 => ∃ n G Y, Walk J n G Y ∧ ∀ D, H1 D = none → ∃ Pv : Nat → Hp → Prop, Pv 0 (upd H1 D (.lst [])) ∧ (∀ i H', i ≤ n → Pv i H' → G H') ∧
      (∀ i x H' H2, i < n → Pv i H' → Y i H' x H2 → gB X sc tg x (wipe σ (own.map (·.2))) H2 fun σ3 H3 => wipe σ3 (own.map (·.2)) = wipe σ (own.map (·.2)) ∧ tB' X sc cnd σ3 H3 fun k H4 => if k = true then eB X sc elt σ3 H4 fun y H5 => ∃ acc, H5 D = some (.lst acc) ∧ acc.length < sizeLine ∧ Pv (i + 1) (upd H5 D (.lst (acc ++ [y]))) else Pv (i + 1) H4) ∧
      ∀ H', Pv n H' → R D H' := by
  refine ⟨fun pins s I => wpAny_mono (h.run pins s I) (fun v s1 q => wpAny_mono q (fun u s2 ⟨i, fp, tn, J, H2, e, I2, T, t0, f2, n, G, Y, w, hn, q1, q2, q3⟩ => ⟨i, fp, tn, J, H2, e, I2, T, t0, f2, n, G, Y, w, fun D' hD => ⟨fun i H' => Same H2 H' ∧ H' D' = some (.lst (((List.range i).filter c).map ys)), ⟨sameU hD, upd_same⟩, fun _ _ _ p => q1 _ p.1, fun i x H' H3 hi p y s0 H0 C cl fp => ?_, fun H' p => q3 D' H' p.1 hD p.2⟩⟩) fun _ _ z => z) fun _ _ z => z⟩
  obtain ⟨k1, k2⟩ := q2 i x H' H3 hi p.1 y
  obtain ⟨p1, p2⟩ := p
  have step : (List.range (i + 1)).filter c = (List.range i).filter c ++ (if c i = true then [i] else []) := by
    rw [List.range_succ, List.filter_append]
    congr 1
    by_cases q : c i = true
    · rw [if_pos q, List.filter_cons_of_pos q, List.filter_nil]
    · rw [if_neg q, List.filter_cons_of_neg q, List.filter_nil]
  refine ⟨fun pins s' u I r => wpAny_mono ((k2 s0 H0 C cl fp).run pins s' u I r) (fun _ s'' ⟨σ', H'', I'', e1, e2, e3⟩ => ⟨σ', H'', I'', e1, fun s0 H0 C cl fp => ⟨fun pins s' I => wpAny_mono ((e3 s0 H0 C cl fp).run pins s' I) (fun u s4 ⟨H4, I4, e4, ek, ey⟩ => ⟨H4, I4, ?_⟩) fun _ _ z => z⟩⟩) fun _ _ z => z⟩
  have s4' : Same H' H4 := fun b o q => e4 _ _ (e2 _ _ (k1 _ _ q))
  cases u with
  | false =>
    refine iteF ⟨fun b o q => s4' _ _ (p1 _ _ q), ?_⟩
    rw [step, if_neg (by rw [← ek]; exact Bool.false_ne_true), List.append_nil]
    exact s4' _ _ p2
  | true =>
    refine iteT fun s0 H0 C cl fp => ⟨fun pins s' I => wpAny_mono ((ey rfl s0 H0 C cl fp).run pins s' I) (fun u s5 ⟨v5, H5, I5, r5, ev, e5⟩ => ⟨v5, H5, I5, r5, _, e5 _ _ (s4' _ _ p2), ?_, ?_, ?_⟩) fun _ _ z => z⟩
    · rw [List.length_map]
      have := List.length_filter_le c (List.range i)
      rw [List.length_range] at this
      rw [sizeLine_eq]
      omega
    · intro b o e
      rw [upd_ne (ne_of_none e hD)]
      exact e5 _ _ (s4' _ _ (p1 _ _ e))
    · rw [upd_same, step, if_pos ek.symm, List.map_append, ev]
      rfl
theorem e_lcF {sc : Scope} {N : List Str} {own : List (Str × Nat)} [cc : CxC X] [cn : CxN X N] [nd : NdN N] (ok : BlkOk N X.env.scope sc own) (c : Nat → Bool) (ys : Nat → V)
    (h : jW X tg it σ H fun J H1 => ∃ n G Y, Walk J n G Y ∧ n ≤ 100000 ∧ (∀ H', Same H1 H' → G H') ∧
      (∀ i x H' H2, i < n → Same H1 H' → Y i H' x H2 → Same H' H2 ∧ gB X sc tg x (wipe σ (own.map (·.2))) H2 fun σ3 H3 => wipe σ3 (own.map (·.2)) = wipe σ (own.map (·.2)) ∧ Same H2 H3 ∧ tB' X sc cnd σ3 H3 fun k H4 => Same H3 H4 ∧ k = c i ∧ (k = true → eB X sc elt σ3 H4 fun y H5 => y = ys i ∧ Same H4 H5)) ∧
      ∀ l H', Same H1 H' → H1 l = none → H' l = some (.lst (((List.range n).filter c).map ys)) → Q (.ref l) H') (hs : ∀ x, foldedSetIterable it X.env x = pure x := by intro _; rfl) : eW X (.ListComp elt [⟨tg, it, [cnd], 0⟩] sc pos) σ H Q :=
  e_lcI ok (lcF_h (R := fun l H' => Q (.ref l) H') c ys h) hs
theorem s_setLcF {sc : Scope} {N : List Str} {own : List (Str × Nat)} {y : Str} {i : Nat} [cc : CxC X] [cn : CxN X N] [sl : Slt N y i] [nd : NdN N] (ok : BlkOk N X.env.scope sc own) (c : Nat → Bool) (ys : Nat → V)
    (h : jW X tg it σ H fun J H1 => ∃ n G Y, Walk J n G Y ∧ n ≤ 100000 ∧ (∀ H', Same H1 H' → G H') ∧
      (∀ i x H' H2, i < n → Same H1 H' → Y i H' x H2 → Same H' H2 ∧ gB X sc tg x (wipe σ (own.map (·.2))) H2 fun σ3 H3 => wipe σ3 (own.map (·.2)) = wipe σ (own.map (·.2)) ∧ Same H2 H3 ∧ tB' X sc cnd σ3 H3 fun k H4 => Same H3 H4 ∧ k = c i ∧ (k = true → eB X sc elt σ3 H4 fun y H5 => y = ys i ∧ Same H4 H5)) ∧
      ∀ l H', Same H1 H' → H1 l = none → H' l = some (.lst (((List.range n).filter c).map ys)) → D.nx (σ.set i (some (.ref l))) H') (hyl : X.env.scope.names.lookup y = some .local := by rfl)
    (hsw : swapsWith (.ListComp elt [⟨tg, it, [cnd], 0⟩] sc pos) (some (.Name y p2)) p3.line X.env = pure true := by exact sw_true rfl rfl rfl (by decide +kernel)) (hs : ∀ x, foldedSetIterable it X.env x = pure x := by intro _; rfl) : sW X (.Assign [.Name y p2] (.ListComp elt [⟨tg, it, [cnd], 0⟩] sc pos) p3) D σ H :=
  s_setLcI ok (lcF_h (R := fun l H' => D.nx (σ.set i (some (.ref l))) H') c ys h) hyl hsw hs
theorem lcG_h {sc : Scope} {own : List (Str × Nat)} {R : Addr → Hp → Prop}
    (h : jW X tg it σ H fun J H1 => ∃ c : Nat → Bool, ∃ ys : Nat → V, ∃ n G Y, Walk J n G Y ∧ n ≤ 100000 ∧ (∀ H', Same H1 H' → G H') ∧
      (∀ i x H' H2, i < n → Same H1 H' → Y i H' x H2 → Same H' H2 ∧ gB X sc tg x (wipe σ (own.map (·.2))) H2 fun σ3 H3 => wipe σ3 (own.map (·.2)) = wipe σ (own.map (·.2)) ∧ Same H2 H3 ∧ tB' X sc cnd σ3 H3 fun k H4 => Same H3 H4 ∧ k = c i ∧ (k = true → eB X sc elt σ3 H4 fun y H5 => y = ys i ∧ Same H4 H5)) ∧
      ∀ l H', Same H1 H' → H1 l = none → H' l = some (.lst (((List.range n).filter c).map ys)) → R l H') :
    jW X tg it σ H fun J H1 => ∃ n G Y, Walk J n G Y ∧ ∀ D, H1 D = none → ∃ Pv : Nat → Hp → Prop, Pv 0 (upd H1 D (.lst [])) ∧ (∀ i H', i ≤ n → Pv i H' → G H') ∧
      (∀ i x H' H2, i < n → Pv i H' → Y i H' x H2 → gB X sc tg x (wipe σ (own.map (·.2))) H2 fun σ3 H3 => wipe σ3 (own.map (·.2)) = wipe σ (own.map (·.2)) ∧ tB' X sc cnd σ3 H3 fun k H4 => if k = true then eB X sc elt σ3 H4 fun y H5 => ∃ acc, H5 D = some (.lst acc) ∧ acc.length < sizeLine ∧ Pv (i + 1) (upd H5 D (.lst (acc ++ [y]))) else Pv (i + 1) H4) ∧
      ∀ H', Pv n H' → R D H' := by
  refine ⟨fun pins s I => wpAny_mono (h.run pins s I) (fun v s1 q => wpAny_mono q (fun u s2 ⟨i, fp, tn, J, H2, e, I2, T, t0, f2, c, ys, n, G, Y, w, hn, q1, q2, q3⟩ => ⟨i, fp, tn, J, H2, e, I2, T, t0, f2, n, G, Y, w, fun D' hD => ⟨fun i H' => Same H2 H' ∧ H' D' = some (.lst (((List.range i).filter c).map ys)), ⟨sameU hD, upd_same⟩, fun _ _ _ p => q1 _ p.1, fun i x H' H3 hi p y s0 H0 C cl fp => ?_, fun H' p => q3 D' H' p.1 hD p.2⟩⟩) fun _ _ z => z) fun _ _ z => z⟩
  obtain ⟨k1, k2⟩ := q2 i x H' H3 hi p.1 y
  obtain ⟨p1, p2⟩ := p
  have step : (List.range (i + 1)).filter c = (List.range i).filter c ++ (if c i = true then [i] else []) := by
    rw [List.range_succ, List.filter_append]
    congr 1
    by_cases q : c i = true
    · rw [if_pos q, List.filter_cons_of_pos q, List.filter_nil]
    · rw [if_neg q, List.filter_cons_of_neg q, List.filter_nil]
  refine ⟨fun pins s' u I r => wpAny_mono ((k2 s0 H0 C cl fp).run pins s' u I r) (fun _ s'' ⟨σ', H'', I'', e1, e2, e3⟩ => ⟨σ', H'', I'', e1, fun s0 H0 C cl fp => ⟨fun pins s' I => wpAny_mono ((e3 s0 H0 C cl fp).run pins s' I) (fun u s4 ⟨H4, I4, e4, ek, ey⟩ => ⟨H4, I4, ?_⟩) fun _ _ z => z⟩⟩) fun _ _ z => z⟩
  have s4' : Same H' H4 := fun b o q => e4 _ _ (e2 _ _ (k1 _ _ q))
  cases u with
  | false =>
    refine iteF ⟨fun b o q => s4' _ _ (p1 _ _ q), ?_⟩
    rw [step, if_neg (by rw [← ek]; exact Bool.false_ne_true), List.append_nil]
    exact s4' _ _ p2
  | true =>
    refine iteT fun s0 H0 C cl fp => ⟨fun pins s' I => wpAny_mono ((ey rfl s0 H0 C cl fp).run pins s' I) (fun u s5 ⟨v5, H5, I5, r5, ev, e5⟩ => ⟨v5, H5, I5, r5, _, e5 _ _ (s4' _ _ p2), ?_, ?_, ?_⟩) fun _ _ z => z⟩
    · rw [List.length_map]
      have := List.length_filter_le c (List.range i)
      rw [List.length_range] at this
      rw [sizeLine_eq]
      omega
    · intro b o e
      rw [upd_ne (ne_of_none e hD)]
      exact e5 _ _ (s4' _ _ (p1 _ _ e))
    · rw [upd_same, step, if_pos ek.symm, List.map_append, ev]
      rfl
theorem e_lcG {sc : Scope} {N : List Str} {own : List (Str × Nat)} [cc : CxC X] [cn : CxN X N] [nd : NdN N] (ok : BlkOk N X.env.scope sc own)
    (h : jW X tg it σ H fun J H1 => ∃ c : Nat → Bool, ∃ ys : Nat → V, ∃ n G Y, Walk J n G Y ∧ n ≤ 100000 ∧ (∀ H', Same H1 H' → G H') ∧
      (∀ i x H' H2, i < n → Same H1 H' → Y i H' x H2 → Same H' H2 ∧ gB X sc tg x (wipe σ (own.map (·.2))) H2 fun σ3 H3 => wipe σ3 (own.map (·.2)) = wipe σ (own.map (·.2)) ∧ Same H2 H3 ∧ tB' X sc cnd σ3 H3 fun k H4 => Same H3 H4 ∧ k = c i ∧ (k = true → eB X sc elt σ3 H4 fun y H5 => y = ys i ∧ Same H4 H5)) ∧
      ∀ l H', Same H1 H' → H1 l = none → H' l = some (.lst (((List.range n).filter c).map ys)) → Q (.ref l) H') (hs : ∀ x, foldedSetIterable it X.env x = pure x := by intro _; rfl) : eW X (.ListComp elt [⟨tg, it, [cnd], 0⟩] sc pos) σ H Q :=
  e_lcI ok (lcG_h (R := fun l H' => Q (.ref l) H') h) hs
theorem s_setLcG {sc : Scope} {N : List Str} {own : List (Str × Nat)} {y : Str} {i : Nat} [cc : CxC X] [cn : CxN X N] [sl : Slt N y i] [nd : NdN N] (ok : BlkOk N X.env.scope sc own)
    (h : jW X tg it σ H fun J H1 => ∃ c : Nat → Bool, ∃ ys : Nat → V, ∃ n G Y, Walk J n G Y ∧ n ≤ 100000 ∧ (∀ H', Same H1 H' → G H') ∧
      (∀ i x H' H2, i < n → Same H1 H' → Y i H' x H2 → Same H' H2 ∧ gB X sc tg x (wipe σ (own.map (·.2))) H2 fun σ3 H3 => wipe σ3 (own.map (·.2)) = wipe σ (own.map (·.2)) ∧ Same H2 H3 ∧ tB' X sc cnd σ3 H3 fun k H4 => Same H3 H4 ∧ k = c i ∧ (k = true → eB X sc elt σ3 H4 fun y H5 => y = ys i ∧ Same H4 H5)) ∧
      ∀ l H', Same H1 H' → H1 l = none → H' l = some (.lst (((List.range n).filter c).map ys)) → D.nx (σ.set i (some (.ref l))) H') (hyl : X.env.scope.names.lookup y = some .local := by rfl)
    (hsw : swapsWith (.ListComp elt [⟨tg, it, [cnd], 0⟩] sc pos) (some (.Name y p2)) p3.line X.env = pure true := by exact sw_true rfl rfl rfl (by decide +kernel)) (hs : ∀ x, foldedSetIterable it X.env x = pure x := by intro _; rfl) : sW X (.Assign [.Name y p2] (.ListComp elt [⟨tg, it, [cnd], 0⟩] sc pos) p3) D σ H :=
  s_setLcI ok (lcG_h (R := fun l H' => D.nx (σ.set i (some (.ref l))) H') h) hyl hsw hs
theorem e_lcQ {sc : Scope} {N : List Str} {own : List (Str × Nat)} [cc : CxC X] [cn : CxN X N] [nd : NdN N] (ok : BlkOk N X.env.scope sc own)
    (h : jW X tg it σ H fun J H1 => ∃ Pr : Nat → V → Prop, ∃ n G Y, Walk J n G Y ∧ n ≤ 100000 ∧ (∀ H', Same H1 H' → G H') ∧
      (∀ i x H' H2, i < n → Same H1 H' → Y i H' x H2 → Same H' H2 ∧ gB X sc tg x (wipe σ (own.map (·.2))) H2 fun σ3 H3 => wipe σ3 (own.map (·.2)) = wipe σ (own.map (·.2)) ∧ Same H2 H3 ∧ eB X sc elt σ3 H3 fun y H4 => Pr i y ∧ Same H3 H4) ∧
      ∀ l H' ys, Same H1 H' → H1 l = none → H' l = some (.lst ys) → ys.length = n → (∀ i y, ys[i]? = some y → Pr i y) → Q (.ref l) H') (hs : ∀ x, foldedSetIterable it X.env x = pure x := by intro _; rfl) : eW X (.ListComp elt [⟨tg, it, [], 0⟩] sc pos) σ H Q := by
  refine e_lc ok ⟨fun pins s I => wpAny_mono (h.run pins s I) (fun v s1 q => wpAny_mono q (fun u s2 ⟨i, fp, tn, J, H2, e, I2, T, t0, f2, Pr, n, G, Y, w, hn, q1, q2, q3⟩ => ⟨i, fp, tn, J, H2, e, I2, T, t0, f2, n, G, Y, w, fun D' hD => ⟨fun i H' => Same H2 H' ∧ ∃ acc, H' D' = some (.lst acc) ∧ acc.length = i ∧ ∀ j z, acc[j]? = some z → Pr j z, ⟨fun b o e => by rw [upd_ne (ne_of_none e hD)]; exact e, [], upd_same, rfl, by simp⟩, fun _ _ _ p => q1 _ p.1, fun i x H' H3 hi p y s0 H0 C cl fp => ?_, fun H' p => by
    obtain ⟨p1, acc, p2, p3, p4⟩ := p
    exact q3 D' H' acc p1 hD p2 p3 p4⟩⟩) fun _ _ z => z) fun _ _ z => z⟩ hs
  obtain ⟨k1, k2⟩ := q2 i x H' H3 hi p.1 y
  obtain ⟨p1, acc, p2, p3, p4⟩ := p
  refine ⟨fun pins s' u I r => wpAny_mono ((k2 s0 H0 C cl fp).run pins s' u I r) (fun _ s'' ⟨σ', H'', I'', e1, e2, e3⟩ => ⟨σ', H'', I'', e1, fun s0 H0 C cl fp => ⟨fun pins s' I => wpAny_mono ((e3 s0 H0 C cl fp).run pins s' I) (fun u s4 ⟨v4, H4, I4, r4, ev, e4⟩ => ⟨v4, H4, I4, r4, acc, e4 _ _ (e2 _ _ (k1 _ _ p2)), ?_, ?_, acc ++ [v4], upd_same, ?_, ?_⟩) fun _ _ z => z⟩⟩) fun _ _ z => z⟩
  · rw [p3]
    exact Nat.lt_of_lt_of_le (Nat.lt_of_lt_of_le hi hn) (by decide)
  · intro b o e
    rw [upd_ne (ne_of_none e hD)]
    exact e4 _ _ (e2 _ _ (k1 _ _ (p1 _ _ e)))
  · rw [List.length_append, p3]; rfl
  · intro j z hz
    by_cases hj : j < i
    · rw [List.getElem?_append_left (by omega)] at hz
      exact p4 j z hz
    · rw [List.getElem?_append_right (by omega), p3] at hz
      have hj2 : j = i := by
        have := (List.getElem?_eq_some_iff.mp hz).1
        simp at this
        omega
      subst hj2
      simp at hz
      rw [← hz]
      exact ev
theorem s_setLcQ {sc : Scope} {N : List Str} {own : List (Str × Nat)} {y : Str} {i : Nat} [cc : CxC X] [cn : CxN X N] [sl : Slt N y i] [nd : NdN N] (ok : BlkOk N X.env.scope sc own)
    (h : jW X tg it σ H fun J H1 => ∃ Pr : Nat → V → Prop, ∃ n G Y, Walk J n G Y ∧ n ≤ 100000 ∧ (∀ H', Same H1 H' → G H') ∧
      (∀ i x H' H2, i < n → Same H1 H' → Y i H' x H2 → Same H' H2 ∧ gB X sc tg x (wipe σ (own.map (·.2))) H2 fun σ3 H3 => wipe σ3 (own.map (·.2)) = wipe σ (own.map (·.2)) ∧ Same H2 H3 ∧ eB X sc elt σ3 H3 fun y H4 => Pr i y ∧ Same H3 H4) ∧
      ∀ l H' ys, Same H1 H' → H1 l = none → H' l = some (.lst ys) → ys.length = n → (∀ i y, ys[i]? = some y → Pr i y) → D.nx (σ.set i (some (.ref l))) H') (hyl : X.env.scope.names.lookup y = some .local := by rfl)
    (hsw : swapsWith (.ListComp elt [⟨tg, it, [], 0⟩] sc pos) (some (.Name y p2)) p3.line X.env = pure true := by exact sw_true rfl rfl rfl (by decide +kernel)) (hs : ∀ x, foldedSetIterable it X.env x = pure x := by intro _; rfl) : sW X (.Assign [.Name y p2] (.ListComp elt [⟨tg, it, [], 0⟩] sc pos) p3) D σ H := by
  refine s_setLc ok ⟨fun pins s I => wpAny_mono (h.run pins s I) (fun v s1 q => wpAny_mono q (fun u s2 ⟨i, fp, tn, J, H2, e, I2, T, t0, f2, Pr, n, G, Y, w, hn, q1, q2, q3⟩ => ⟨i, fp, tn, J, H2, e, I2, T, t0, f2, n, G, Y, w, fun D' hD => ⟨fun i H' => Same H2 H' ∧ ∃ acc, H' D' = some (.lst acc) ∧ acc.length = i ∧ ∀ j z, acc[j]? = some z → Pr j z, ⟨fun b o e => by rw [upd_ne (ne_of_none e hD)]; exact e, [], upd_same, rfl, by simp⟩, fun _ _ _ p => q1 _ p.1, fun i x H' H3 hi p y s0 H0 C cl fp => ?_, fun H' p => by
    obtain ⟨p1, acc, p2, p3, p4⟩ := p
    exact q3 D' H' acc p1 hD p2 p3 p4⟩⟩) fun _ _ z => z) fun _ _ z => z⟩ hyl hsw hs
  obtain ⟨k1, k2⟩ := q2 i x H' H3 hi p.1 y
  obtain ⟨p1, acc, p2, p3, p4⟩ := p
  refine ⟨fun pins s' u I r => wpAny_mono ((k2 s0 H0 C cl fp).run pins s' u I r) (fun _ s'' ⟨σ', H'', I'', e1, e2, e3⟩ => ⟨σ', H'', I'', e1, fun s0 H0 C cl fp => ⟨fun pins s' I => wpAny_mono ((e3 s0 H0 C cl fp).run pins s' I) (fun u s4 ⟨v4, H4, I4, r4, ev, e4⟩ => ⟨v4, H4, I4, r4, acc, e4 _ _ (e2 _ _ (k1 _ _ p2)), ?_, ?_, acc ++ [v4], upd_same, ?_, ?_⟩) fun _ _ z => z⟩⟩) fun _ _ z => z⟩
  · rw [p3]
    exact Nat.lt_of_lt_of_le (Nat.lt_of_lt_of_le hi hn) (by decide)
  · intro b o e
    rw [upd_ne (ne_of_none e hD)]
    exact e4 _ _ (e2 _ _ (k1 _ _ (p1 _ _ e)))
  · rw [List.length_append, p3]; rfl
  · intro j z hz
    by_cases hj : j < i
    · rw [List.getElem?_append_left (by omega)] at hz
      exact p4 j z hz
    · rw [List.getElem?_append_right (by omega), p3] at hz
      have hj2 : j = i := by
        have := (List.getElem?_eq_some_iff.mp hz).1
        simp at this
        omega
      subst hj2
      simp at hz
      rw [← hz]
      exact ev
end
theorem filter_ix {α : Type} (f : α → V) (p : α → Bool) (d : V) : ∀ (l : List α), ((List.range l.length).filter fun i => (l[i]?.map p).getD false).map (fun i => (l[i]?.map f).getD d) = (l.filter p).map f
  | [] => rfl
  | a :: l => by
    rw [List.length_cons, List.range_succ_eq_map, List.filter_cons, List.filter_map]
    have ih := filter_ix f p d l
    have e1 : ((fun i => ((a :: l)[i]?.map p).getD false) ∘ Nat.succ) = fun i => (l[i]?.map p).getD false := by
      funext i
      simp
    rw [e1]
    simp only [List.getElem?_cons_zero, Option.map_some, Option.getD_some]
    by_cases q : p a = true
    · rw [if_pos q, List.filter_cons_of_pos q, List.map_cons, List.map_cons, List.map_map, ← ih]
      simp [Function.comp_def]
    · rw [if_neg q, List.filter_cons_of_neg q, List.map_map, ← ih]
      simp [Function.comp_def]
/-! ### a dict that is walked is locked -/
def lockD (D : Ends) (d : Addr) (u : HO) (od : Obj) : Ends where
  nx := fun σ H => H d = some (.frz od u) ∧ ∀ H2, H2 d = some u → (∀ b, b ≠ d → H2 b = H b) → D.nx σ H2
  rt := fun v H => H d = some (.frz od u) ∧ ∀ H2, H2 d = some u → (∀ b, b ≠ d → H2 b = H b) → D.rt v H2
  bk := fun σ H => H d = some (.frz od u) ∧ ∀ H2, H2 d = some u → (∀ b, b ≠ d → H2 b = H b) → D.bk σ H2
  ct := fun σ H => H d = some (.frz od u) ∧ ∀ H2, H2 d = some u → (∀ b, b ≠ d → H2 b = H b) → D.ct σ H2
theorem s_lock {X : Cx} {st : Stmt} {D : Ends} {σ : L2.St} {H : Hp} {d : Addr} {u : HO} (hd : H d = some u) (mu : Mut (some u)) (h : ∀ od H1, H1 d = some (.frz od u) → (∀ b, b ≠ d → H1 b = H b) → sW X st (lockD D d u od) σ H1) : sW X st D σ H :=
  sI (ps_lock PSw) ⟨d, u, hd, mu, fun od => ⟨fun pins s I => wpAny_mono ((h od _ upd_same fun b hb => upd_ne hb).run pins s I) (fun f s1 q => by
    cases f with
    | next => obtain ⟨σ', H', a, e, c⟩ := q; exact ⟨σ', H', a, e, c _ upd_same fun b hb => upd_ne hb⟩
    | brk => obtain ⟨σ', H', a, e, c⟩ := q; exact ⟨σ', H', a, e, c _ upd_same fun b hb => upd_ne hb⟩
    | cont => obtain ⟨σ', H', a, e, c⟩ := q; exact ⟨σ', H', a, e, c _ upd_same fun b hb => upd_ne hb⟩
    | ret v => obtain ⟨x, σ', H', a, r, e, c⟩ := q; exact ⟨x, σ', H', a, r, e, c _ upd_same fun b hb => upd_ne hb⟩) fun _ _ z => z⟩⟩
/-! ### words that want that a token was given out; replace -/
structure eT (X : Cx) (e : Expr) (σ : L2.St) (H : Hp) (Q : VK) : Prop where
  run : ∀ pins s, 1 ≤ s.toks → Inv X pins σ H s → wpAny (model X.prog X.w) X.A (eval e X.env) (EP X pins σ Q) X.xe s
structure aT (X : Cx) (es : List Expr) (σ : L2.St) (H : Hp) (Q : List V → Hp → Prop) : Prop where
  run : ∀ pos pins s, 1 ≤ s.toks → Inv X pins σ H s → wpAny (model X.prog X.w) X.A (spliced (backTo pos (starEach es X.env))) (AP X pins σ Q) X.xe s
section
variable {X : Cx} {σ : L2.St} {H : Hp} {Q : VK} {R : List V → Hp → Prop} {pos p2 apos : Pos} {a o : Expr} {es : List Expr} {c y z : Str} {j k : Nat} {c0 c1 : Pos}
theorem eT_of (h : eW X a σ H Q) : eT X a σ H Q := ⟨fun pins s _ I => h.run pins s I⟩
theorem aT_of (h : aW X es σ H R) : aT X es σ H R := ⟨fun pos pins s _ I => h.run pos pins s I⟩
theorem aT_cons (h : eT X a σ H fun x H1 => aT X es σ H1 fun xs H2 => R (x :: xs) H2) (hs : starEach (a :: es) X.env = (false, eval a X.env) :: starEach es X.env := by rfl) : aT X (a :: es) σ H R := ⟨fun pos pins s ht I => by
  rw [hs]
  show wpAny _ _ (spliced ((false, eval a X.env) :: backTo pos (starEach es X.env))) _ _ s
  exact Calls.spliced_cons (wpAny_mono (PySem.wpAny_toks (h.run pins s ht I)) (fun u s1 ⟨hk, x, H1, I1, r1, q1⟩ => wpAny_mono (q1.run pos pins s1 (Nat.le_trans ht hk) I1) (fun us s2 ⟨xs, H2, I2, r2, q2⟩ => ⟨x :: xs, H2, I2, .cons r1 r2, q2⟩) fun _ _ w => w) fun _ _ w => w.2)⟩
theorem a_binS {op : Operator} (h : eW X a σ H fun x H1 => oW X (binaryOp op) x (.str c) H1 fun v H2 => aT X es σ H2 fun xs H3 => R (v :: xs) H3)
    (hs : starEach (.BinOp a op (.Constant (.str c) j p2) pos :: es) X.env = (false, eval (.BinOp a op (.Constant (.str c) j p2) pos) X.env) :: starEach es X.env := by rfl) : aW X (.BinOp a op (.Constant (.str c) j p2) pos :: es) σ H R := ⟨fun pos2 pins s I => by
  rw [hs]
  show wpAny _ _ (spliced ((false, eval _ X.env) :: backTo pos2 (starEach es X.env))) _ _ s
  exact Calls.spliced_cons (wpAny_BinOp (thn (h.run pins s I) fun v s1 ⟨x, H1, I1, r1, q1⟩ => Calls.Constant_str (wpAny_mono (PySem.wpAny_toks (q1.run pins _ σ v _ (I1.tok (s1.toks + 1)) r1 ⟨s1.toks, rfl⟩)) (fun u s3 ⟨hk, w, H3, I3, r3, q3⟩ =>
    wpAny_mono (q3.run pos2 pins s3 (Nat.le_trans (Nat.le_add_left 1 _) hk) I3) (fun us s4 ⟨xs, H4, I4, r4, q4⟩ => ⟨w :: xs, H4, I4, .cons r3 r4, q4⟩) fun _ _ w => w) fun _ _ w => w.2)))⟩
theorem eT_repl (h : eW X o σ H fun v H1 => ∃ x, v = .str x ∧ x.length + (x.length + 1) * z.length ≤ 16777216 ∧ Q (.str (Txt.replace x y z)) H1) (hyz : (y == z) = false := by decide)
    (hst : starEach [.Constant (.str y) j c0, .Constant (.str z) k c1] X.env = [(false, eval (.Constant (.str y) j c0) X.env), (false, eval (.Constant (.str z) k c1) X.env)] := by rfl)
    (hbase : attributeBase o "replace" X.env (eval o X.env) = eval o X.env := by rfl) (hline : (apos.endLine == pos.line) = true := by rfl) : eT X (.Call (.Attribute o "replace" apos) [.Constant (.str y) j c0, .Constant (.str z) k c1] [] pos) σ H Q :=
  ⟨fun pins s ht I => CwR.pet_replC PEw hyz hst hbase hline pins s σ H Q ht I h⟩
theorem e_lower (h : eW X o σ H fun v H1 => ∃ x, v = .str x ∧ x.length ≤ 5592405 ∧ Q (.str (Txt.lower x)) H1) (hbase : attributeBase o "lower" X.env (eval o X.env) = eval o X.env := by rfl) (hline : (apos.endLine == pos.line) = true := by rfl) : eW X (.Call (.Attribute o "lower" apos) [] [] pos) σ H Q :=
  eI (pe_lower PEw hbase hline) (eMono h fun v H1 ⟨x, e, hz, q⟩ => ⟨⟨x, e⟩, x, e, rfl, hz, q⟩)
end
/-! ### the longer walk: what stands in a heap, found by itself -/
theorem _root_.L2.Same.none {G H : Hp} {p : Addr} (s : Same G H) (h : H p = Option.none) : G p = Option.none := by
  cases e : G p with
  | none => rfl
  | some o => rw [s _ _ e] at h; cases h
theorem Same.at' {G H : Hp} {p : Addr} {o : HO} (s : Same G H) (h : G p = some o) : H p = some o := s _ _ h
theorem Same.seq' {K : PySem.W.Frag} {G H : Hp} {a : Addr} {xs : List V} (s : Same G H) (h : SqL K G a xs) : SqL K H a xs := s.seq h
theorem Same.seqT' {K : PySem.W.Frag} {G H : Hp} {a : Addr} {xs : List V} (s : Same G H) (h : SqT K G a xs) : SqT K H a xs := sq_more s h
theorem Same.th' {K : PySem.W.Frag} {G H : Hp} {v : V} {d : PyData} (s : Same G H) (h : Th K G v d) : Th K H v d := Th.more s d v h
theorem Same.thA' {K : PySem.W.Frag} {G H : Hp} {v : List V} {d : List PyData} (s : Same G H) (h : ThAll K G v d) : ThAll K H v d := ThAll.more s d v h
theorem Same.tr' {F G H : Hp} (s : Same G H) (h : Same F G) : Same F H := h.trans s
mutual
theorem Th.dp {K : PySem.W.Frag} {H : Hp} : ∀ (d : PyData) (v : V), Th K H v d → d.canLay0 = true → Dp K H v d
  | .none, _, h, _ => by cases h; exact .non
  | .bool _, _, h, _ => by cases h; exact .bl _
  | .int _, _, h, _ => by cases h; exact .int _
  | .str _, _, h, _ => by cases h; exact .str _
  | .list ds, _, h, c => by cases h with | lst hs ha => exact .lst hs (ThAll.dp ds _ ha c)
  | .tuple ds, _, h, c => by cases h with | tup hs ha => exact .tup hs (ThAll.dp ds _ ha c)
  | .dict _, _, _, c => by cases c
theorem ThAll.dp {K : PySem.W.Frag} {H : Hp} : ∀ (ds : List PyData) (vs : List V), ThAll K H vs ds → PyData.canLayAll0 ds = true → DpAll K H vs ds
  | [], _, h, _ => by cases h; exact .nil
  | d :: ds, _, h, c => by
    have c2 : (d.canLay0 && PyData.canLayAll0 ds) = true := c
    rw [Bool.and_eq_true] at c2
    cases h with | cons h1 h2 => exact .cons (Th.dp d _ h1 c2.1) (ThAll.dp ds _ h2 c2.2)
end
theorem Th.dpS {K : PySem.W.Frag} {H : Hp} {k : Nat} {d : PyData} {v : V} (h : Th K H v d) (s : Sh k d) : Dp K H v d := Th.dp d v h s.can
theorem vals_signs : ∀ (cs : List Nat) (vs : List Value), vs.length = cs.length → (∀ (j : Nat) (v : Value), vs[j]? = some v → ∃ c u, cs[j]? = some c ∧ v = Value.str ⟨#[c]⟩ u) → Vals (cs.map fun c => V.str ⟨#[c]⟩) vs
  | [], [], _, _ => .nil
  | c :: cs, v :: vs, h, k => by
    obtain ⟨c', u, e1, e2⟩ := k 0 v rfl
    cases e1
    exact .cons ⟨u, e2⟩ (vals_signs cs vs (by simpa using h) fun j w e => by simpa using k (j + 1) w (by simpa using e))
  | [], _ :: _, h, _ => by simp at h
  | _ :: _, [], h, _ => by simp at h
/-- list(s), s a text -/
theorem k_listS {X : Cx} {H : Hp} {Q : VK} {z : Str} [cc : CxC X] (hz : z.length ≤ 100000) (q : ∀ l H2, Same H H2 → H l = none → H2 l = some (.lst ((tl z).map fun c => V.str ⟨#[c]⟩)) → (∀ b, b ≠ l → H2 b = H b) → Q (.ref l) H2) : kW X (.type "list") [.str z] H Q := ⟨fun pins s σ us I r => by
  obtain ⟨u, rfl, rx⟩ := vals1 r
  obtain ⟨t, rfl⟩ := rx
  have hz2 : z.cps.size ≤ sizeLine := Nat.le_trans (show z.length ≤ 100000 from hz) (by decide)
  refine PySem.call_list_str (I.ok.hd cc.h) z t (fun h' tk acc' c' k e hit => ?_) hz2
  have hn := I.hok.fresh (Nat.le_refl s.heap.objs.size)
  refine ⟨.ref _, upd H s.heap.objs.size (.lst ((tl z).map fun c => V.str ⟨#[c]⟩)), I.laid (t' := tk) k (Nat.le_refl _) ⟨?_, acc'.toList, c', vals_signs _ _ ?_ fun j v hv => ?_, by simpa using e⟩, rfl, q _ _ (sameU hn) hn upd_same fun b hb => upd_ne hb⟩
  · rw [List.length_map]; exact hz2
  · rw [Array.length_toList, hit.1]
    rfl
  · obtain ⟨c, u, q1, q2⟩ := hit.2 j v (by simpa using hv)
    exact ⟨c, u, by simpa [tl] using q1, q2⟩⟩
/-! ### enumerate over a tuple, over a text -/
section
open PySem.Builtin PySem.W
set_option maxHeartbeats 2000000 in
theorem meets_enum1 {v : Value} {o : Obj} {H : Heap → Prop} (B : Begins v o H) :
    Meets (Builtin.«enumerate.__new__» ⟨[.type "enumerate", v], []⟩) (fun _ R s => H s.heap ∧
      R (.ok (.ret (.ref (s.heap.push o).objs.size))) { s with heap := (s.heap.push o).push { cls := .type "enumerate", data := .fields #[.none, .bool false, .ref s.heap.objs.size, rawInt 0, .none, .none] } }) :=
  .of_wp fun prog w A R s h => by
    obtain ⟨hp, g, d, tk, os⟩ := s; obtain ⟨h1, h⟩ := h
    have hsub := sub_enumerate
    have q1 : ∀ {A' : Around} {E : Value → Shared → Prop} {Q : Value → Shared → Prop}, Q (.ref hp.objs.size) ⟨hp.push o, g, d, tk, os⟩ → wpAny (model prog w) A' (pyIter v) Q E ⟨hp, g, d, tk, os⟩ :=
      fun q => B.iter prog w _ _ ⟨hp, g, d, tk, os⟩ _ h1 q
    wp_walk using q1
    refine wpAny_stack_any fun st => wpAny_pure ?_
    split
    · rename_i c _ _ _ _ _
      cases (c == Value.type "enumerate")
      · wp_walk using q1
        exact ⟨_, rfl, h⟩
      · wp_walk using q1
        exact ⟨_, rfl, h⟩
    · wp_walk using q1
      exact ⟨_, rfl, h⟩
theorem enum_begins1 {prog : Program} {w : World} {A : Around} {E : Value → Shared → Prop} {s : Shared} {v : Value} {o : Obj} {H : Heap → Prop} {Q : Value → Shared → Prop} (B : Begins v o H) (h1 : H s.heap)
    (h : ∀ h', IsEnum h' (s.heap.objs.size + 1) s.heap.objs.size 0 .none → h'.get? s.heap.objs.size = some o → h'.objs.size = s.heap.objs.size + 2 →
      (∀ b o, s.heap.get? b = some o → h'.get? b = some o) → Q (.ref (s.heap.objs.size + 1)) { s with heap := h' }) :
    wpAny (model prog w) A (call (.type "enumerate") [v]) Q E s := by
  refine callType_new F.called_enumerate (by decide) (F.typeCall_enumerate_1 _) (F.newCall_enumerate_1 _) (fun obj => F.args_object_init_2 obj _) F.entry_enumerate_new
    (meets_enum1 B) ⟨h1, ?_⟩
  have hz : (s.heap.push o).objs.size = s.heap.objs.size + 1 := Heap.size_push ..
  show _ ∧ _
  rw [hz]
  have he : IsEnum ((s.heap.push o).push { cls := .type "enumerate", data := .fields #[.none, .bool false, .ref s.heap.objs.size, rawInt 0, .none, .none] }) (s.heap.objs.size + 1) s.heap.objs.size 0 .none := by
    have := Heap.get?_push_size (s.heap.push o) (o := { cls := .type "enumerate", data := .fields #[.none, .bool false, .ref s.heap.objs.size, rawInt 0, .none, .none] }) rfl
    rw [hz] at this; exact this
  refine ⟨⟨_, he, rfl⟩, h _ he (Heap.get?_push_of_some _ (Heap.get?_push_size _ B.free)) (by rw [Heap.size_push, hz]) fun b o x => Heap.get?_push_of_some _ (Heap.get?_push_of_some _ x)⟩
def IteT (K : PySem.W.Frag) (a : Addr) : It :=
  ⟨fun i H => ∃ (xs : List V) (x : V), SqT K H a xs ∧ xs[i]? = some x, fun i H v H' => ∃ T x, v = .ref T ∧ H T = none ∧ H' = upd H T (.tup [.int (i : Nat), x]) ∧ ∀ xs, SqT K H a xs → xs[i]? = some x, fun i H => ∃ xs : List V, SqT K H a xs ∧ xs.length = i⟩
def IteS (z : Str) : It :=
  ⟨fun i _ => i < z.cps.size, fun i H v H' => ∃ T c, v = .ref T ∧ H T = none ∧ H' = upd H T (.tup [.int (i : Nat), .str ⟨#[c]⟩]) ∧ z.cps[i]? = some c, fun i _ => i = z.cps.size⟩
theorem enum_turn {X : Cx} {pins : List (Addr × Obj)} {s : Shared} {σ : L2.St} {H : Hp} {E : Value → Shared → Prop} {elts : List Expr} {kk : Nat} {tpos : Pos} {e it : Addr} {fp : List Addr} {n i : Nat} {Pu : Nat → Value → Prop} {St : Nat → Heap → Prop} {PV : V → Prop} {old : Value}
    (I : Inv X pins σ H s) (hf : ∀ b ∈ [e, it], FpOk X pins H b) (D : Draws X.prog X.w X.A.in1 it fp n Pu St) (he : IsEnum s.heap e it ((i : Nat) : Int) old) (hst : St i s.heap) (hlt : i < n) (hne : e ≠ it) (hef : e ∉ fp)
    (hPV : ∀ u, Pu i u → ∃ x, RelV x u ∧ PV x) :
    wpAny (model X.prog X.w) X.A (pyNext (.ref e)) (fun r s1 => ∃ u, r = some u ∧ wpAny (model X.prog X.w) X.A (letOwnedTupleGo (.Tuple elts kk tpos) (.ref e) u) (fun _ s2 => ∃ x H', Inv X pins σ H' s2 ∧ RelV x u ∧
      (∃ T y, x = .ref T ∧ H T = none ∧ H' = upd H T (.tup [.int (i : Nat), y]) ∧ PV y) ∧ ((∃ old, IsEnum s2.heap e it ((i + 1 : Nat) : Int) old) ∧ St (i + 1) s2.heap) ∧ ∀ b ∈ [e, it], H' b = none) E s1) E s := by
  have hel : e < s.heap.objs.size := Heap.lt_size he
  have hil : it < s.heap.objs.size := by obtain ⟨_, q⟩ := D.live _ _ hst; exact Heap.lt_size q
  refine wpAny_pyNext_enum_itemD D he hst hlt hne hef fun u h' tk hPu ho hst' hT hsz hk => ?_
  obtain ⟨x, ru, px⟩ := hPV u hPu
  refine ⟨_, rfl, wpAny_letOwnedTupleGo_enum (s := { s with heap := h', toks := tk + 1 }) ho fun h'' he' sb => ?_⟩
  have hT2 : h''.get? s.heap.objs.size = some { cls := .type "tuple", data := .seq #[.int i tk, u] } := (sb.2 _ (Nat.ne_of_gt hel)).trans hT
  have new : ObjOk X.prog X.w (upd H s.heap.objs.size (.tup [.int (i : Nat), x])) h'' s.heap.objs.size (.tup [.int (i : Nat), x]) :=
    ⟨by show 2 ≤ sizeLine; decide, [.int i tk, u], .cons ⟨_, rfl⟩ (.cons ru .nil), ⟨_, hT2, rfl, _, rfl⟩⟩
  have I1 : Inv X pins σ (upd H s.heap.objs.size (.tup [.int (i : Nat), x])) { s with heap := h'', toks := tk + 1 } :=
    I.turnedNew (ch := [e, it]) (fun b ob hb q => (sb.2 b (fun z => hb (by simp [z]))).trans (hk b ob (fun z => hb (by simp [z])) (fun z => hb (by simp [z])) q)) hf (Nat.le_refl _) new
  refine ⟨.ref s.heap.objs.size, _, I1, rfl, ⟨_, x, rfl, I.hok.fresh (Nat.le_refl _), rfl, px⟩, ⟨⟨u, ?_⟩, D.frame _ _ _ hst' fun b hb o q => (sb.2 b fun z => hef (z ▸ hb)).trans q⟩, fun b hb => ?_⟩
  · have e1 : ((i + 1 : Nat) : Int) = (i : Int) + 1 := by omega
    rw [e1]; exact he'
  · have hb' : b < s.heap.objs.size := by
      have e' : b = e ∨ b = it := by simpa using hb
      rcases e' with z | z
      · rw [z]; exact hel
      · rw [z]; exact hil
    rw [upd_ne (Nat.ne_of_lt hb')]
    exact (hf b hb).1
theorem turn_enumT {P : Program} {w : World} {K : PySem.W.Frag} {elts : List Expr} {kk : Nat} {tpos : Pos} (a e it : Addr) :
    Turn P w K (.Tuple elts kk tpos) (IteT K a) [e, it] e (fun i h => (∃ old, IsEnum h e it ((i : Nat) : Int) old) ∧ h.IsTupleIter it a i ∧ e ≠ it ∧ a ≠ it ∧ a ≠ e) where
  mem := by simp
  obj := fun i h st b hb => by
    obtain ⟨⟨old, he⟩, ⟨o, ho, hc, hd⟩, _⟩ := st
    have e' : b = e ∨ b = it := by simpa using hb
    rcases e' with z | z
    · rw [z]; exact ⟨_, he, fun v q => nomatch q⟩
    · rw [z]; exact ⟨o, ho, fun v q => by rw [hd] at q; cases q⟩
  keep := fun i h h' st k => let ⟨⟨old, he⟩, hi, hne⟩ := st; ⟨⟨old, k e (by simp) _ he⟩, hi.at fun o q => k it (by simp) o q, hne⟩
  item := by
    intro X hP hw hK hc i pins s σ H E I hf st hg
    subst hP hw hK
    obtain ⟨⟨old, he⟩, hit, hne, hai, hae⟩ := st
    obtain ⟨xs, x, hq, hx⟩ := hg
    obtain ⟨its, rv, p, hz⟩ := I.tuple hq
    obtain ⟨u, hu, ru⟩ := rv.get hx
    have hli : i < its.toArray.size := by
      have := (List.getElem?_eq_some_iff.mp hu).1
      simpa using this
    refine wpAny_mono (enum_turn (PV := fun y => ∀ xs, SqT X.K H a xs → xs[i]? = some y) I hf (Draws.tuple (A := X.A.in1) (show X.A.in1.handled = Option.none from I.ok.hd hc) it a hai its.toArray) he ⟨hit, p⟩ hli hne (by simp only [List.mem_cons, List.not_mem_nil, or_false, not_or]; exact ⟨hne, hae.symm⟩) fun u' hu' => ?_) (fun r s1 ⟨u1, e1, h1⟩ => ⟨u1, e1, wpAny_mono h1 (fun _ s2 ⟨x2, H', I2, r2, y2, ⟨q1, q2, _⟩, q3⟩ => ⟨x2, H', I2, r2, y2, ⟨q1, q2, hne, hai, hae⟩, q3⟩) fun _ _ z => z⟩) fun _ _ z => z
    have e2 : u' = u := by
      have hu' : its.toArray[i]? = some u' := hu'
      rw [List.getElem?_toArray, hu] at hu'
      exact (Option.some.inj hu').symm
    subst e2
    exact ⟨x, ru, fun ys hy => by rw [I.tuple_inj hy hq]; exact hx⟩
  done := by
    intro X hP hw hK hc i pins s σ H E I hf st hg
    subst hP hw hK
    obtain ⟨⟨old, he⟩, hit, hne, hai, hae⟩ := st
    obtain ⟨xs, hq, hx⟩ := hg
    obtain ⟨its, rv, p, hz⟩ := I.tuple hq
    obtain ⟨f0, f1, f2, f3, f4, f5⟩ := hf it (by simp)
    have hl := rv.length
    refine wpAny_pyNext_enum_endD (Draws.tuple (A := X.A.in1) (show X.A.in1.handled = Option.none from I.ok.hd hc) it a hai its.toArray) he (St := fun i h => h.IsTupleIter it a i ∧ h.IsTuple a its.toArray) ⟨?_, p⟩ fun h' eb => ⟨rfl, I.turned (t' := s.toks) (fun b o hb q => eb b o hb q) f0 f1 f3 f4 f5⟩
    rw [List.size_toArray, ← hl, hx]
    exact hit
  self := fun A i s Q E st h => let ⟨⟨_, he⟩, _⟩ := st; wpAny_pyIter_enum he h
theorem j_enumT {X : Cx} {σ : L2.St} {H : Hp} {R : It → Hp → Prop} {a : Expr} {p2 p3 pos : Pos} {mg : Str → Option Value} {elts : List Expr} {kk : Nat} [cm : CxM X mg] [g : Gn mg "enumerate" none] (h : eW X a σ H fun v H1 => ∃ (p : Addr) (xs : List V), v = .ref p ∧ SqT X.K H1 p xs ∧ R (IteT X.K p) H1) (hg : Gl X "enumerate" := by rfl) (hs : starEach [a] X.env = (false, eval a X.env) :: starEach [] X.env := by rfl) :
    jW X (.Tuple elts kk p3) (.Call (.Name "enumerate" p2) [a] [] pos) σ H R := ⟨fun pins s I => by
  have hm : X.mg "enumerate" = none := by rw [cm.h]; exact g.h
  refine Call_ (ld_blt I hg hm boot_enumerate (PyProof.Rows.callWith_type1 (args_cons (thn (h.run pins s I) fun u s1 ⟨v, H1, I1, r1, q1⟩ => args_nil ?_) hs) hs rfl))
  obtain ⟨p, xs, ev, hq, q⟩ := q1
  subst ev
  obtain rfl : u = Value.ref p := r1
  obtain ⟨its, rv, p', hz⟩ := I1.tuple hq
  refine enum_begins1 (begins_tuple p its.toArray) p' fun h' he hit hsz hk => wpAny_pyIter_enum he ?_
  have I2 : Inv X pins σ H1 { s1 with heap := h' } := I1.kept (t' := s1.toks) hk
  have hpl : p < s1.heap.objs.size := by obtain ⟨o, ho, _⟩ := p'; exact Heap.lt_size ho
  refine ⟨s1.heap.objs.size + 1, [s1.heap.objs.size + 1, s1.heap.objs.size], _, _, H1, rfl, I2, turn_enumT p (s1.heap.objs.size + 1) s1.heap.objs.size, ⟨⟨.none, he⟩, ⟨_, hit, rfl, rfl⟩, Nat.succ_ne_self _, Nat.ne_of_lt hpl, Nat.ne_of_lt (Nat.lt_succ_of_lt hpl)⟩, fun b hb => ?_, q⟩
  have e' : b = s1.heap.objs.size + 1 ∨ b = s1.heap.objs.size := by simpa using hb
  have hle : s1.heap.objs.size ≤ b := by
    rcases e' with z | z
    · rw [z]; exact Nat.le_add_right _ _
    · rw [z]; exact Nat.le_refl _
  exact I1.fpOk hle (I1.hok.fresh hle)⟩
theorem walk_enumT {K : PySem.W.Frag} {a : Addr} {xs : List V} : Walk (IteT K a) xs.length (fun H => SqT K H a xs) (fun i H v H' => ∃ T x, v = .ref T ∧ H T = none ∧ H' = upd H T (.tup [.int (i : Nat), x]) ∧ xs[i]? = some x) :=
  ⟨fun i _ hi q => ⟨xs, xs[i], q, by simp [hi]⟩, fun _ q => ⟨xs, q, rfl⟩, fun _ _ _ _ _ q ⟨T, x, e1, e2, e3, e4⟩ => ⟨T, x, e1, e2, e3, e4 xs q⟩⟩
theorem walk_enumL {K : PySem.W.Frag} {a : Addr} {xs : List V} : Walk (Ite K a) xs.length (fun H => SqL K H a xs) (fun i H v H' => ∃ T x, v = .ref T ∧ H T = none ∧ H' = upd H T (.tup [.int (i : Nat), x]) ∧ xs[i]? = some x) :=
  ⟨fun i _ hi q => ⟨xs, xs[i], q, by simp [hi]⟩, fun _ q => ⟨xs, q, Nat.le_refl _⟩, fun _ _ _ _ _ q ⟨T, x, e1, e2, e3, e4⟩ => ⟨T, x, e1, e2, e3, e4 xs q⟩⟩
theorem turn_enumS {P : Program} {w : World} {K : PySem.W.Frag} {elts : List Expr} {kk : Nat} {tpos : Pos} (z : Str) (t : Tok) (e it : Addr) :
    Turn P w K (.Tuple elts kk tpos) (IteS z) [e, it] e (fun i h => (∃ old, IsEnum h e it ((i : Nat) : Int) old) ∧ h.IsStrIter it (strIterType z) z t i ∧ e ≠ it) where
  mem := by simp
  obj := fun i h st b hb => by
    obtain ⟨⟨old, he⟩, ⟨o, ho, hc, hd⟩, _⟩ := st
    have e' : b = e ∨ b = it := by simpa using hb
    rcases e' with z | z
    · rw [z]; exact ⟨_, he, fun v q => nomatch q⟩
    · rw [z]; exact ⟨o, ho, fun v q => by rw [hd] at q; cases q⟩
  keep := fun i h h' st k => let ⟨⟨old, he⟩, ⟨o, ho, r⟩, hne⟩ := st; ⟨⟨old, k e (by simp) _ he⟩, ⟨o, k it (by simp) o ho, r⟩, hne⟩
  item := by
    intro X hP hw hK hc i pins s σ H E I hf st hg
    subst hP hw hK
    obtain ⟨⟨old, he⟩, hit, hne⟩ := st
    have hg : i < z.cps.size := hg
    refine wpAny_mono (enum_turn (PV := fun y => ∃ c, z.cps[i]? = some c ∧ y = V.str ⟨#[c]⟩) I hf (Draws.text (A := X.A.in1) (show X.A.in1.handled = Option.none from I.ok.hd hc) it z t) he hit hg hne (by simp only [List.mem_cons, List.not_mem_nil, or_false]; exact hne) fun u' hu' => ?_) (fun r s1 ⟨u1, e1, h1⟩ => ⟨u1, e1, wpAny_mono h1 (fun _ s2 ⟨x2, H', I2, r2, ⟨T, y, y1, y2, y3, c, y4, y5⟩, ⟨q1, q2⟩, q3⟩ => ⟨x2, H', I2, r2, ⟨T, c, y1, y2, by rw [y3, y5], y4⟩, ⟨q1, q2, hne⟩, q3⟩) fun _ _ z => z⟩) fun _ _ z => z
    obtain ⟨c, u, q1, rfl⟩ := hu'
    exact ⟨.str ⟨#[c]⟩, ⟨u, rfl⟩, c, q1, rfl⟩
  done := by
    intro X hP hw hK hc i pins s σ H E I hf st hg
    subst hP hw hK
    obtain ⟨⟨old, he⟩, hit, hne⟩ := st
    have hg : i = z.cps.size := hg
    obtain ⟨f0, f1, f2, f3, f4, f5⟩ := hf it (by simp)
    exact wpAny_pyNext_enum_endD (Draws.text (A := X.A.in1) (show X.A.in1.handled = Option.none from I.ok.hd hc) it z t) he (by rw [← hg]; exact hit) fun h' eb => ⟨rfl, I.turned (t' := s.toks) (fun b o hb q => eb b o hb q) f0 f1 f3 f4 f5⟩
  self := fun A i s Q E st h => let ⟨⟨_, he⟩, _⟩ := st; wpAny_pyIter_enum he h
theorem j_enumS {X : Cx} {σ : L2.St} {H : Hp} {R : It → Hp → Prop} {a : Expr} {p2 p3 pos : Pos} {mg : Str → Option Value} {elts : List Expr} {kk : Nat} [cm : CxM X mg] [g : Gn mg "enumerate" none] (h : eW X a σ H fun v H1 => ∃ (z : Str), v = .str z ∧ R (IteS z) H1) (hg : Gl X "enumerate" := by rfl) (hs : starEach [a] X.env = (false, eval a X.env) :: starEach [] X.env := by rfl) :
    jW X (.Tuple elts kk p3) (.Call (.Name "enumerate" p2) [a] [] pos) σ H R := ⟨fun pins s I => by
  have hm : X.mg "enumerate" = none := by rw [cm.h]; exact g.h
  refine Call_ (ld_blt I hg hm boot_enumerate (PyProof.Rows.callWith_type1 (args_cons (thn (h.run pins s I) fun u s1 ⟨v, H1, I1, r1, q1⟩ => args_nil ?_) hs) hs rfl))
  obtain ⟨z, ev, q⟩ := q1
  subst ev
  obtain ⟨t, rfl⟩ := r1
  refine enum_begins1 (begins_text z t) trivial fun h' he hit hsz hk => wpAny_pyIter_enum he ?_
  have I2 : Inv X pins σ H1 { s1 with heap := h' } := I1.kept (t' := s1.toks) hk
  refine ⟨s1.heap.objs.size + 1, [s1.heap.objs.size + 1, s1.heap.objs.size], _, _, H1, rfl, I2, turn_enumS z t (s1.heap.objs.size + 1) s1.heap.objs.size, ⟨⟨.none, he⟩, ⟨_, hit, rfl, rfl⟩, Nat.succ_ne_self _⟩, fun b hb => ?_, q⟩
  have e' : b = s1.heap.objs.size + 1 ∨ b = s1.heap.objs.size := by simpa using hb
  have hle : s1.heap.objs.size ≤ b := by
    rcases e' with z | z
    · rw [z]; exact Nat.le_add_right _ _
    · rw [z]; exact Nat.le_refl _
  exact I1.fpOk hle (I1.hok.fresh hle)⟩
theorem walk_enumS {z : Str} : Walk (IteS z) z.cps.size (fun _ => True) (fun i H v H' => ∃ T c, v = .ref T ∧ H T = none ∧ H' = upd H T (.tup [.int (i : Nat), .str ⟨#[c]⟩]) ∧ z.cps[i]? = some c) :=
  ⟨fun i _ hi _ => hi, fun _ _ => rfl, fun _ _ _ _ _ _ y => y⟩
end
/-! ### a part's first sign -/
def isSg (p : Str) : Bool := (tl p).head? == some 39
section
variable {X : Cx} {σ : L2.St} {H : Hp} {R : Bool → Hp → Prop} {p1 p2 p3 p4 : Pos} {e : Expr} {j1 j2 : Nat}
theorem isq (a : Nat) : decide ((⟨#[a]⟩ : Str) = Str.ofString "'") = decide (a = 39) := decide_eq_decide.mpr (by
  have h : tl (Str.ofString "'") = [39] := by decide +kernel
  constructor
  · intro e
    have : tl (⟨#[a]⟩ : Str) = [39] := by rw [e, h]
    exact (List.cons.inj this).1
  · intro e
    exact ext_tl (by rw [h, e]))
theorem isq_sg {p : Str} {c : Nat} {l : List Nat} (h : tl p = c :: l) : isSg p = decide (c = 39) := by
  unfold isSg
  rw [h]
  show (some c == some 39) = _
  by_cases q : c = 39
  · rw [q]; rfl
  · rw [decide_eq_false q]; simp [q]
theorem o_sgN {p : Str} {c : Nat} {l : List Nat} (h : tl p = c :: l) {Q : VK} (q : Q (.bl (!isSg p)) H) : oW X (compareOp .NotEq) (.str ⟨#[c]⟩) (.str (Str.ofString "'")) H Q := o_neS (by rw [isq, ← isq_sg h]; exact q)
theorem o_sgE {p : Str} {c : Nat} {l : List Nat} (h : tl p = c :: l) {Q : VK} (q : Q (.bl (isSg p)) H) : oW X (compareOp .Eq) (.str ⟨#[c]⟩) (.str (Str.ofString "'")) H Q := o_eqS (by rw [isq, ← isq_sg h]; exact q)
/-- e[0] != "'" -/
theorem t_sg (h : eW X e σ H fun x H1 => ∃ p, x = .str p ∧ ((∃ c l, tl p = c :: l) ∧ p.length ≤ 1000000) ∧ R (!isSg p) H1) : tW X (.Compare (.Subscript e (.Constant (.int 0) j1 p1) p2) [.NotEq] [.Constant (.str (Str.ofString "'")) j2 p3] p4) σ H R :=
  t_cmp (e_ix (eMono h fun x H1 ⟨p, ex, ⟨⟨c, l, hc⟩, hl⟩, q⟩ => by
    subst ex
    exact e_int (i_str (sz1m hl) (c := c) (by rw [show p.cps.toList = c :: l from hc]; exact atI_nat (by decide) rfl) (e_str (o_sgN hc ⟨_, rfl, q⟩)))))
theorem t_sgE (h : eW X e σ H fun x H1 => ∃ p, x = .str p ∧ ((∃ c l, tl p = c :: l) ∧ p.length ≤ 1000000) ∧ R (isSg p) H1) : tW X (.Compare (.Subscript e (.Constant (.int 0) j1 p1) p2) [.Eq] [.Constant (.str (Str.ofString "'")) j2 p3] p4) σ H R :=
  t_cmp (e_ix (eMono h fun x H1 ⟨p, ex, ⟨⟨c, l, hc⟩, hl⟩, q⟩ => by
    subst ex
    exact e_int (i_str (sz1m hl) (c := c) (by rw [show p.cps.toList = c :: l from hc]; exact atI_nat (by decide) rfl) (e_str (o_sgE hc ⟨_, rfl, q⟩)))))
end
/-! ### dicts by values: what stands at a key -/
theorem subTail {M : Model} {A : Around} {E : Value → Shared → Prop} {s : Shared} {prog : Program} {w : World} {value slice : Expr} {o i : Value} {T id : String} {Q : Value → Shared → Prop} (hT : s.TypeIs o T)
    (hl : typeLookup (.type T) "__getitem__" = pure (some (.builtin id))) (h : wpAny (model prog w) A (getItem o i) Q E s)
    (hs : subscripted slice false o i = operate [o, i] (getItem o i)) : wpAny (model prog w) A (subscriptTail value slice o i) Q E s := by
  unfold subscriptTail
  refine wpAny_bind ?_
  rw [getitemInPython_of_ne hT.not_modules]
  refine wpAny_bind (wpAny_specialOf hT hl ?_)
  have fin : wpAny (model prog w) A (subscripted slice false o i) (fun r s₃ => wpAny (model prog w) A (letTemporaryGo value o r >>= fun _ => pure r) Q E s₃) E s := by
    rw [hs]
    exact wpAny_operating (wpAny_mono h (fun r s₃ h₃ => wpAny_bind (wpAny_letTemporaryGo (wpAny_pure h₃))) fun _ _ x => x)
  first
    | exact wpAny_pure (wpAny_bind fin)
    | exact wpAny_bind (wpAny_pure (wpAny_bind fin))
    | exact wpAny_bind fin
section
variable {X : Cx} {σ : L2.St} {H : Hp} {Q : VK} {a b : Addr} {y v : V} {r : Option V} {pos p2 apos : Pos} {o e f : Expr}
theorem i_dget (hu : X.A.units + 1 < cLine) (g : DGet H a y (some v)) (q : Q v H) : iW X (.ref a) y H Q := ⟨fun value slice pins s σ u' u I rx ry hs => by
  obtain rfl : u' = Value.ref a := rx
  exact subTail (M := model X.prog X.w) (dict_typeIs I g) PySem.F.slot_dict_getitem.lookup (d_getItem hu I g ry fun w' s3 I3 rw' => ⟨v, H, I3, rw', q⟩) hs⟩
theorem o_din (hu : X.A.units + 1 < cLine) (g : DGet H a y r) (q : Q (.bl r.isSome) H) : oW X (compareOp .In) y (.ref a) H Q := ⟨fun pins s σ u u' I ry rx => by
  obtain rfl : u' = Value.ref a := rx
  exact d_in hu I g ry fun s3 I3 => ⟨.bl r.isSome, H, I3, rfl, q⟩⟩
theorem o_dni (hu : X.A.units + 1 < cLine) (g : DGet H a y r) (q : Q (.bl (!r.isSome)) H) : oW X (compareOp .NotIn) y (.ref a) H Q := ⟨fun pins s σ u u' I ry rx => by
  obtain rfl : u' = Value.ref a := rx
  exact d_notIn hu I g ry fun s3 I3 => ⟨.bl (!r.isSome), H, I3, rfl, q⟩⟩
theorem e_dget1 (hu : X.A.units + 1 < cLine) (h : eW X o σ H fun x H1 => ∃ a, x = .ref a ∧ IsD H1 a ∧ eW X e σ H1 fun y H2 => ∃ r, DGet H2 a y r ∧ Q (r.getD .non) H2) (hb : attributeBase o "get" X.env (eval o X.env) = eval o X.env := by rfl)
    (hf : ((backTo pos (starEach [e] X.env)).all (fun x => !x.1) && (backToKw pos (keywordEach [] X.env)).all (fun x => x.1.isSome) && decide (([e] : List Expr).length + ([] : List Keyword).length + (if ([] : List Keyword).isEmpty then 0 else 1) < 30)) = true := by rfl)
    (hl : (apos.endLine == pos.line) = true := by rfl) (ht : backTo pos (starEach [e] X.env) = [(false, eval e X.env)] := by rfl) : eW X (.Call (.Attribute o "get" apos) [e] [] pos) σ H Q := eI (pe_dget1 hu PEw PEw ⟨hb, hf, hl, ht⟩) h
theorem e_dget2 (hu : X.A.units + 1 < cLine) (h : eW X o σ H fun x H1 => ∃ a, x = .ref a ∧ IsD H1 a ∧ eW X e σ H1 fun y H2 => eW X f σ H2 fun z H3 => ∃ r, DGet H3 a y r ∧ Q (r.getD z) H3) (hb : attributeBase o "get" X.env (eval o X.env) = eval o X.env := by rfl)
    (hf : ((backTo pos (starEach [e, f] X.env)).all (fun x => !x.1) && (backToKw pos (keywordEach [] X.env)).all (fun x => x.1.isSome) && decide (([e, f] : List Expr).length + ([] : List Keyword).length + (if ([] : List Keyword).isEmpty then 0 else 1) < 30)) = true := by rfl)
    (hl : (apos.endLine == pos.line) = true := by rfl) (ht : backTo pos (starEach [e, f] X.env) = [(false, eval e X.env), (false, eval f X.env)] := by rfl) : eW X (.Call (.Attribute o "get" apos) [e, f] [] pos) σ H Q := eI (pe_dget2 hu PEw PEw PEw ⟨hb, hf, hl, ht⟩) h
theorem e_dsetd (h : eW X o σ H fun x H1 => ∃ a, x = .ref a ∧ IsD H1 a ∧ eW X e σ H1 fun y H2 => eW X f σ H2 fun z H3 => ∃ (kvs : List (Key × V)) (k : Key), H3 a = some (.dK kvs) ∧ y = kV k ∧ kvs.length ≤ 100000 ∧ (∀ v, valV kvs k = some v → Q v H3) ∧ (valV kvs k = none → ∀ H4, H4 a = some (.dK (putK kvs k z)) → (∀ b, b ≠ a → H4 b = H3 b) → Q z H4)) (hb : attributeBase o "setdefault" X.env (eval o X.env) = eval o X.env := by rfl)
    (hf : ((backTo pos (starEach [e, f] X.env)).all (fun x => !x.1) && (backToKw pos (keywordEach [] X.env)).all (fun x => x.1.isSome) && decide (([e, f] : List Expr).length + ([] : List Keyword).length + (if ([] : List Keyword).isEmpty then 0 else 1) < 30)) = true := by rfl)
    (hl : (apos.endLine == pos.line) = true := by rfl) (ht : backTo pos (starEach [e, f] X.env) = [(false, eval e X.env), (false, eval f X.env)] := by rfl) : eW X (.Call (.Attribute o "setdefault" apos) [e, f] [] pos) σ H Q :=
  eI (pe_dsetd PEw PEw PEw ⟨hb, hf, hl, ht⟩) (eMono h fun x H1 ⟨a, ea, d, h1⟩ => ⟨a, ea, d, eMono h1 fun y H2 h2 => eMono h2 fun z H3 ⟨kvs, k, e1, e2, e3, q1, q2⟩ => ⟨kvs, k, e1, e2, Nat.lt_of_le_of_lt e3 (by decide), q1, fun hn => q2 hn _ upd_same fun b hb => upd_ne hb⟩⟩)
/-- o[i] = v, o a dict whose keys are tuples -/
theorem g_setT {i : Expr} {R : L2.St → Hp → Prop} (hu : X.A.units + 1 < cLine) (h : eW X o σ H fun x H1 => eW X i σ H1 fun y H2 => ∃ (d : Addr) (kvs : List (List Key × V)) (k : List Key) (b : Addr), x = .ref d ∧ H2 d = some (.dT kvs) ∧ y = .ref b ∧ H2 b = some (.tup (k.map kV)) ∧ kvs.length ≤ 10000000 ∧ ∀ H3, H3 d = some (.dT (putK kvs k v)) → (∀ b, b ≠ d → H3 b = H2 b) → R σ H3)
    (ha : ∀ v, assign (.Subscript o i pos) X.env v = (holding [v] (eval o X.env) >>= fun ov => holding [v, ov] (eval i X.env) >>= fun iv => standAt pos >>= fun _ => holding [v, ov, iv] (setItem ov iv v) >>= fun _ => release [v, ov, iv] []) := by intro _; rfl) : gW X (.Subscript o i pos) v σ H R :=
  gI (pg_sub PEw PEw (set_dict hu) ha) (eMono h fun x H1 h1 => eMono h1 fun y H2 ⟨d, kvs, k, b, e1, e2, e3, e4, e5, q⟩ => ⟨d, _, e1, by rw [e3]; exact .t e2 e4 (Nat.lt_of_le_of_lt e5 (by decide)), q _ upd_same fun b hb => upd_ne hb⟩)
theorem e_dctT (h : ∀ p H2, Same H H2 → H p = none → H2 p = some (.dT []) → (∀ b, b ≠ p → H2 b = H b) → Q (.ref p) H2) : eW X (.Dict [] [] pos) σ H Q :=
  eI pe_dnewT fun p hp => h p _ (sameU hp) hp upd_same fun _ hb => upd_ne hb
end
theorem rm1 {k : Nat} {A : Around} (hr : Room k A) : A.units + 1 < cLine := by have := hr.units; omega
/-! ### two lists, one by one -/
inductive All2 {α β : Type} (R : α → β → Prop) : List α → List β → Prop
  | nil : All2 R [] []
  | cons {a : α} {b : β} {as : List α} {bs : List β} : R a b → All2 R as bs → All2 R (a :: as) (b :: bs)
section
variable {α β : Type} {R S : α → β → Prop}
theorem All2.len : ∀ {as : List α} {bs : List β}, All2 R as bs → as.length = bs.length
  | _, _, .nil => rfl
  | _, _, .cons _ h => congrArg (· + 1) h.len
theorem All2.mono (i : ∀ a b, R a b → S a b) : ∀ {as : List α} {bs : List β}, All2 R as bs → All2 S as bs
  | _, _, .nil => .nil
  | _, _, .cons h t => .cons (i _ _ h) (t.mono i)
theorem All2.get : ∀ {as : List α} {bs : List β} {i : Nat} {a : α}, All2 R as bs → as[i]? = some a → ∃ b, bs[i]? = some b ∧ R a b
  | _, _, _, _, .nil, e => by simp at e
  | _, _, 0, _, .cons h _, e => by simp at e; subst e; exact ⟨_, rfl, h⟩
  | _, _, i + 1, a, .cons _ t, e => by
    obtain ⟨d, h1, h2⟩ := All2.get (i := i) (a := a) t (by simpa using e)
    exact ⟨d, by simpa using h1, h2⟩
theorem All2.get' : ∀ {as : List α} {bs : List β} {i : Nat} {b : β}, All2 R as bs → bs[i]? = some b → ∃ a, as[i]? = some a ∧ R a b
  | _, _, _, _, .nil, e => by simp at e
  | _, _, 0, _, .cons h _, e => by simp at e; subst e; exact ⟨_, rfl, h⟩
  | _, _, i + 1, a, .cons _ t, e => by
    obtain ⟨d, h1, h2⟩ := All2.get' (i := i) (b := a) t (by simpa using e)
    exact ⟨d, by simpa using h1, h2⟩
theorem All2.app : ∀ {as : List α} {bs : List β} {cs : List α} {ds : List β}, All2 R as bs → All2 R cs ds → All2 R (as ++ cs) (bs ++ ds)
  | _, _, _, _, .nil, k => k
  | _, _, _, _, .cons h t, k => .cons h (t.app k)
theorem All2.snoc {as : List α} {bs : List β} {a : α} {b : β} (h : All2 R as bs) (k : R a b) : All2 R (as ++ [a]) (bs ++ [b]) := h.app (.cons k .nil)
theorem All2.take : ∀ {as : List α} {bs : List β} (n : Nat), All2 R as bs → All2 R (as.take n) (bs.take n)
  | _, _, 0, _ => by simp; exact .nil
  | _, _, _ + 1, .nil => by simp; exact .nil
  | _, _, n + 1, .cons h t => .cons h (t.take n)
theorem All2.drop : ∀ {as : List α} {bs : List β} (n : Nat), All2 R as bs → All2 R (as.drop n) (bs.drop n)
  | _, _, 0, h => by simpa using h
  | _, _, _ + 1, .nil => by simp; exact .nil
  | _, _, n + 1, .cons _ t => t.drop n
theorem All2.rev : ∀ {as : List α} {bs : List β}, All2 R as bs → All2 R as.reverse bs.reverse
  | _, _, .nil => .nil
  | _, _, .cons h t => by simp only [List.reverse_cons]; exact t.rev.snoc h
theorem All2.ex {P : α → Prop} (h : ∀ a, P a → ∃ b, R a b) : ∀ {as : List α}, (∀ a ∈ as, P a) → ∃ bs, All2 R as bs
  | [], _ => ⟨[], .nil⟩
  | a :: as, k => by
    obtain ⟨b, hb⟩ := h a (k a (List.mem_cons_self ..))
    obtain ⟨bs, hbs⟩ := All2.ex h (as := as) fun x hx => k x (List.mem_cons_of_mem _ hx)
    exact ⟨b :: bs, .cons hb hbs⟩
end
theorem thAll_of {K : PySem.W.Frag} {H : Hp} : ∀ {vs : List V} {ds : List PyData}, All2 (Th K H) vs ds → ThAll K H vs ds
  | _, _, .nil => .nil
  | _, _, .cons h t => .cons h (thAll_of t)
theorem thAll_to {K : PySem.W.Frag} {H : Hp} : ∀ {vs : List V} {ds : List PyData}, ThAll K H vs ds → All2 (Th K H) vs ds
  | _, _, .nil => .nil
  | _, _, .cons h t => .cons h (thAll_to t)
theorem ThAll.app {K : PySem.W.Frag} {H : Hp} {xs ys : List V} {ds es : List PyData} (h : ThAll K H xs ds) (k : ThAll K H ys es) : ThAll K H (xs ++ ys) (ds ++ es) := thAll_of ((thAll_to h).app (thAll_to k))
theorem ThAll.take {K : PySem.W.Frag} {H : Hp} {xs : List V} {ds : List PyData} (n : Nat) (h : ThAll K H xs ds) : ThAll K H (xs.take n) (ds.take n) := thAll_of ((thAll_to h).take n)
theorem ThAll.drop {K : PySem.W.Frag} {H : Hp} {xs : List V} {ds : List PyData} (n : Nat) (h : ThAll K H xs ds) : ThAll K H (xs.drop n) (ds.drop n) := thAll_of ((thAll_to h).drop n)
theorem walk_range0 {n : Nat} : Walk (Itr 0 n) n (fun _ => True) (fun i H v H' => H' = H ∧ v = .int ((i : Nat) : Int)) :=
  ⟨fun _ _ hi _ => hi, fun _ _ => Nat.le_refl _, fun i H x H' _ _ y => ⟨y.1, y.2.trans (by show V.int (0 + (i : Int)) = _; rw [Int.zero_add])⟩⟩
/-! ### a number in a list of numbers -/
theorem inV_int (h : Int) : ∀ hs : List Int, inV (.int h) (hs.map V.int) = decide (h ∈ hs)
  | [] => rfl
  | a :: hs => by
    have ih := inV_int h hs
    unfold inV at ih ⊢
    rw [List.map_cons, List.any_cons, ih]
    have e : eqV (.int a) (.int h) = decide (a = h) := by
      by_cases q : a = h
      · subst q
        rw [decide_eq_true rfl]
        simp [eqV]
      · rw [decide_eq_false q]
        simp [eqV, q]
    rw [e]
    by_cases q : a = h
    · subst q; simp
    · have q2 : ¬ h = a := fun z => q z.symm
      simp [q, q2]
theorem inV_nat (h : Nat) (hs : List Nat) : inV (.int (h : Nat)) (hs.map fun k => V.int (k : Nat)) = decide (h ∈ hs) := by
  have e : (hs.map fun k => V.int ((k : Nat) : Int)) = (hs.map fun k => ((k : Nat) : Int)).map V.int := by rw [List.map_map]; rfl
  rw [e, inV_int]
  refine decide_eq_decide.mpr ⟨fun q => ?_, fun q => List.mem_map.mpr ⟨h, q, rfl⟩⟩
  obtain ⟨x, hx, ex⟩ := List.mem_map.mp q
  have : x = h := by omega
  rw [← this]
  exact hx
theorem flat_nats (hs : List Nat) : (hs.map fun k => V.int ((k : Nat) : Int)).all flatV = true := by
  rw [List.all_map]
  exact List.all_eq_true.mpr fun _ _ => rfl
theorem o_inN {X : Cx} {H : Hp} {Q : VK} {p : Addr} {h : Nat} {hs : List Nat} (k : SqL X.K H p (hs.map fun k => V.int ((k : Nat) : Int))) (q : Q (.bl (decide (h ∈ hs))) H) : oW X (compareOp .In) (.int (h : Nat)) (.ref p) H Q :=
  oI op_in_seq ⟨p, _, rfl, .inl k, rfl, flat_nats hs, by rw [if_neg Bool.false_ne_true, inV_nat]; exact q⟩
theorem o_niN {X : Cx} {H : Hp} {Q : VK} {p : Addr} {h : Nat} {hs : List Nat} (k : SqL X.K H p (hs.map fun k => V.int ((k : Nat) : Int))) (q : Q (.bl (!decide (h ∈ hs))) H) : oW X (compareOp .NotIn) (.int (h : Nat)) (.ref p) H Q :=
  oI op_notIn_seq ⟨p, _, rfl, .inl k, rfl, flat_nats hs, by rw [if_pos rfl, inV_nat]; exact q⟩
theorem dp_nats {K : PySem.W.Frag} {H : Hp} : ∀ (l : List Nat), DpAll K H (l.map fun k => V.int ((k : Nat) : Int)) (l.map fun k => PyData.int ((k : Nat) : Int))
  | [] => .nil
  | z :: l => .cons (.int _) (dp_nats l)
theorem th_nats {K : PySem.W.Frag} {H : Hp} : ∀ (l : List Nat), ThAll K H (l.map fun k => V.int ((k : Nat) : Int)) (l.map fun k => PyData.int ((k : Nat) : Int))
  | [] => .nil
  | z :: l => .cons (.int _) (th_nats l)
theorem nat_get {ks : List Nat} {i : Nat} {k : Nat} (h : ks[i]? = some k) {j : Int} (hj : j = (i : Nat)) : atI (ks.map fun k => V.int ((k : Nat) : Int)) j = some (.int ((k : Nat) : Int)) := by
  subst hj
  exact atI_nat (by omega) (by rw [show ((i : Nat) : Int).toNat = i by omega, List.getElem?_map, h]; rfl)
theorem nats_sh (l : List Nat) : Sh 1 (.list (l.map fun k => PyData.int ((k : Nat) : Int))) := .lst fun d hd => by
  obtain ⟨k, _, rfl⟩ := List.mem_map.mp hd
  exact .int _
theorem eqvAll_nats : ∀ (l m : List Nat), PyData.eqvAll (l.map fun k => PyData.int ((k : Nat) : Int)) (m.map fun k => PyData.int ((k : Nat) : Int)) = decide (l = m)
  | [], [] => rfl
  | [], _ :: _ => by rw [decide_eq_false (by simp)]; rfl
  | _ :: _, [] => by rw [decide_eq_false (by simp)]; rfl
  | a :: l, b :: m => by
    show (((a : Int) == (b : Int)) && PyData.eqvAll (l.map fun k => PyData.int ((k : Nat) : Int)) (m.map fun k => PyData.int ((k : Nat) : Int))) = _
    rw [eqvAll_nats l m]
    by_cases e : a = b
    · subst e
      by_cases e2 : l = m
      · subst e2; simp
      · rw [decide_eq_false e2, decide_eq_false fun z => e2 (List.cons.inj z).2]; simp
    · rw [decide_eq_false fun z => e (List.cons.inj z).1]
      have : ((a : Int) == (b : Int)) = false := by rw [beq_eq_false_iff_ne]; omega
      rw [this]; rfl
theorem eqv_nats (l m : List Nat) : PyData.eqv (.list (l.map fun k => PyData.int ((k : Nat) : Int))) (.list (m.map fun k => PyData.int ((k : Nat) : Int))) = decide (l = m) := eqvAll_nats l m
/-! ### existences whose first word is an equation of values -/
section
theorem xV1 {A1 : Type} {v : V} {f : A1 → V} {p : A1 → Prop} (h : ∃ x1, v = f x1 ∧ p x1) : ∃ x1, v = f x1 ∧ p x1 := h
theorem xL1 {A1 : Type} {v : List V} {f : A1 → List V} {p : A1 → Prop} (h : ∃ x1, v = f x1 ∧ p x1) : ∃ x1, v = f x1 ∧ p x1 := h
theorem xV2 {A1 : Type} {A2 : Type} {v : V} {f : A1 → A2 → V} {p : A1 → A2 → Prop} (h : ∃ x1 x2, v = f x1 x2 ∧ p x1 x2) : ∃ x1 x2, v = f x1 x2 ∧ p x1 x2 := h
theorem xL2 {A1 : Type} {A2 : Type} {v : List V} {f : A1 → A2 → List V} {p : A1 → A2 → Prop} (h : ∃ x1 x2, v = f x1 x2 ∧ p x1 x2) : ∃ x1 x2, v = f x1 x2 ∧ p x1 x2 := h
theorem xV3 {A1 : Type} {A2 : Type} {A3 : Type} {v : V} {f : A1 → A2 → A3 → V} {p : A1 → A2 → A3 → Prop} (h : ∃ x1 x2 x3, v = f x1 x2 x3 ∧ p x1 x2 x3) : ∃ x1 x2 x3, v = f x1 x2 x3 ∧ p x1 x2 x3 := h
theorem xL3 {A1 : Type} {A2 : Type} {A3 : Type} {v : List V} {f : A1 → A2 → A3 → List V} {p : A1 → A2 → A3 → Prop} (h : ∃ x1 x2 x3, v = f x1 x2 x3 ∧ p x1 x2 x3) : ∃ x1 x2 x3, v = f x1 x2 x3 ∧ p x1 x2 x3 := h
theorem xV4 {A1 : Type} {A2 : Type} {A3 : Type} {A4 : Type} {v : V} {f : A1 → A2 → A3 → A4 → V} {p : A1 → A2 → A3 → A4 → Prop} (h : ∃ x1 x2 x3 x4, v = f x1 x2 x3 x4 ∧ p x1 x2 x3 x4) : ∃ x1 x2 x3 x4, v = f x1 x2 x3 x4 ∧ p x1 x2 x3 x4 := h
theorem xL4 {A1 : Type} {A2 : Type} {A3 : Type} {A4 : Type} {v : List V} {f : A1 → A2 → A3 → A4 → List V} {p : A1 → A2 → A3 → A4 → Prop} (h : ∃ x1 x2 x3 x4, v = f x1 x2 x3 x4 ∧ p x1 x2 x3 x4) : ∃ x1 x2 x3 x4, v = f x1 x2 x3 x4 ∧ p x1 x2 x3 x4 := h
theorem xV5 {A1 : Type} {A2 : Type} {A3 : Type} {A4 : Type} {A5 : Type} {v : V} {f : A1 → A2 → A3 → A4 → A5 → V} {p : A1 → A2 → A3 → A4 → A5 → Prop} (h : ∃ x1 x2 x3 x4 x5, v = f x1 x2 x3 x4 x5 ∧ p x1 x2 x3 x4 x5) : ∃ x1 x2 x3 x4 x5, v = f x1 x2 x3 x4 x5 ∧ p x1 x2 x3 x4 x5 := h
theorem xL5 {A1 : Type} {A2 : Type} {A3 : Type} {A4 : Type} {A5 : Type} {v : List V} {f : A1 → A2 → A3 → A4 → A5 → List V} {p : A1 → A2 → A3 → A4 → A5 → Prop} (h : ∃ x1 x2 x3 x4 x5, v = f x1 x2 x3 x4 x5 ∧ p x1 x2 x3 x4 x5) : ∃ x1 x2 x3 x4 x5, v = f x1 x2 x3 x4 x5 ∧ p x1 x2 x3 x4 x5 := h
theorem xV6 {A1 : Type} {A2 : Type} {A3 : Type} {A4 : Type} {A5 : Type} {A6 : Type} {v : V} {f : A1 → A2 → A3 → A4 → A5 → A6 → V} {p : A1 → A2 → A3 → A4 → A5 → A6 → Prop} (h : ∃ x1 x2 x3 x4 x5 x6, v = f x1 x2 x3 x4 x5 x6 ∧ p x1 x2 x3 x4 x5 x6) : ∃ x1 x2 x3 x4 x5 x6, v = f x1 x2 x3 x4 x5 x6 ∧ p x1 x2 x3 x4 x5 x6 := h
theorem xL6 {A1 : Type} {A2 : Type} {A3 : Type} {A4 : Type} {A5 : Type} {A6 : Type} {v : List V} {f : A1 → A2 → A3 → A4 → A5 → A6 → List V} {p : A1 → A2 → A3 → A4 → A5 → A6 → Prop} (h : ∃ x1 x2 x3 x4 x5 x6, v = f x1 x2 x3 x4 x5 x6 ∧ p x1 x2 x3 x4 x5 x6) : ∃ x1 x2 x3 x4 x5 x6, v = f x1 x2 x3 x4 x5 x6 ∧ p x1 x2 x3 x4 x5 x6 := h
theorem xV7 {A1 : Type} {A2 : Type} {A3 : Type} {A4 : Type} {A5 : Type} {A6 : Type} {A7 : Type} {v : V} {f : A1 → A2 → A3 → A4 → A5 → A6 → A7 → V} {p : A1 → A2 → A3 → A4 → A5 → A6 → A7 → Prop} (h : ∃ x1 x2 x3 x4 x5 x6 x7, v = f x1 x2 x3 x4 x5 x6 x7 ∧ p x1 x2 x3 x4 x5 x6 x7) : ∃ x1 x2 x3 x4 x5 x6 x7, v = f x1 x2 x3 x4 x5 x6 x7 ∧ p x1 x2 x3 x4 x5 x6 x7 := h
theorem xL7 {A1 : Type} {A2 : Type} {A3 : Type} {A4 : Type} {A5 : Type} {A6 : Type} {A7 : Type} {v : List V} {f : A1 → A2 → A3 → A4 → A5 → A6 → A7 → List V} {p : A1 → A2 → A3 → A4 → A5 → A6 → A7 → Prop} (h : ∃ x1 x2 x3 x4 x5 x6 x7, v = f x1 x2 x3 x4 x5 x6 x7 ∧ p x1 x2 x3 x4 x5 x6 x7) : ∃ x1 x2 x3 x4 x5 x6 x7, v = f x1 x2 x3 x4 x5 x6 x7 ∧ p x1 x2 x3 x4 x5 x6 x7 := h
theorem iteBT {b : Bool} {A B : Prop} (hb : b = true) (h : A) : if b = true then A else B := by subst hb; exact iteT h
theorem iteBF {b : Bool} {A B : Prop} (hb : b = false) (h : B) : if b = true then A else B := by subst hb; exact iteF h
theorem xA {v u : V} {p : Prop} (h : v = u ∧ p) : v = u ∧ p := h
theorem xC {v u : Bool} {p : Prop} (h : v = u ∧ p) : v = u ∧ p := h
theorem xB {v u : List V} {p : Prop} (h : v = u ∧ p) : v = u ∧ p := h
end
section
variable {X : Cx} {σ : L2.St} {H : Hp} {Q : VK} {D : Ends} {e : Expr} {es : List Expr} {st : Stmt} {b : List Stmt} {R : Bool → Hp → Prop} {U : List V → Hp → Prop} {x y : V} {f : Value → Value → Sem Value} {g : Value} {xs : List V}
theorem is_e (h : eW X e σ H Q) : eW X e σ H Q := h
theorem is_call {n : Str} {p2 pos : Pos} {ks : List Keyword} (h : eW X (.Call (.Name n p2) es ks pos) σ H Q) : eW X (.Call (.Name n p2) es ks pos) σ H Q := h
theorem is_raise {e o : Option Expr} {pos : Pos} (h : sW X (.Raise e o pos) D σ H) : sW X (.Raise e o pos) D σ H := h
theorem is_ex {α : Type} {p : α → Prop} (h : ∃ x, p x) : ∃ x, p x := h
theorem is_and {α : Type} {a b : α} {p : Prop} (h : a = b ∧ p) : a = b ∧ p := h
theorem is_bo {op : Operator} (h : oW X (binaryOp op) x y H Q) : oW X (binaryOp op) x y H Q := h
theorem is_ixP {n : Nat} {o : OfNat Int n} (h : iW X x (.int (@OfNat.ofNat Int n o)) H Q) : iW X x (.int (@OfNat.ofNat Int n o)) H Q := h
theorem is_ixN {n : Nat} {o : OfNat Int n} (h : iW X x (.int (-(@OfNat.ofNat Int n o))) H Q) : iW X x (.int (-(@OfNat.ofNat Int n o))) H Q := h
theorem is_o (h : oW X f x y H Q) : oW X f x y H Q := h
theorem is_k (h : kW X g xs H Q) : kW X g xs H Q := h
theorem is_i (h : iW X x y H Q) : iW X x y H Q := h
theorem is_a (h : aW X es σ H U) : aW X es σ H U := h
theorem is_s (h : sW X st D σ H) : sW X st D σ H := h
theorem is_b (h : bW X b D σ H) : bW X b D σ H := h
theorem is_t (h : tW X e σ H R) : tW X e σ H R := h
theorem is_c (h : cW X e σ H R) : cW X e σ H R := h
theorem is_p {e : Option Expr} {q : Option Int → Hp → Prop} (h : pW X e σ H q) : pW X e σ H q := h
theorem is_g {v : V} {q : L2.St → Hp → Prop} (h : gW X e v σ H q) : gW X e v σ H q := h
theorem is_iteD {p : Prop} {d : Decidable p} {e : Decidable (decide p = true)} {A B : Prop} (h : @ite Prop (decide p = true) e A B) : @ite Prop (decide p = true) e A B := h
theorem is_iteND {p : Prop} {d : Decidable p} {e : Decidable ((!decide p) = true)} {A B : Prop} (h : @ite Prop ((!decide p) = true) e A B) : @ite Prop ((!decide p) = true) e A B := h
theorem iteDT {p : Prop} [Decidable p] {A B : Prop} (hp : p) (h : A) : if decide p = true then A else B := by rw [decide_eq_true hp]; exact iteT h
theorem iteDF {p : Prop} [Decidable p] {A B : Prop} (hp : ¬ p) (h : B) : if decide p = true then A else B := by rw [decide_eq_false hp]; exact iteF h
theorem iteNDT {p : Prop} [Decidable p] {A B : Prop} (hp : ¬ p) (h : A) : if (!decide p) = true then A else B := by rw [decide_eq_false hp]; exact iteT h
theorem iteNDF {p : Prop} [Decidable p] {A B : Prop} (hp : p) (h : B) : if (!decide p) = true then A else B := by rw [decide_eq_true hp]; exact iteF h
theorem ref_ne_non {a : Addr} : ¬ V.ref a = V.non := fun z => nomatch z
theorem int_ne_non {a : Int} : ¬ V.int a = V.non := fun z => nomatch z
theorem str_ne_non {a : Str} : ¬ V.str a = V.non := fun z => nomatch z
theorem bl_ne_non {a : Bool} : ¬ V.bl a = V.non := fun z => nomatch z
theorem is_ite {p : Prop} {d : Decidable p} {A B : Prop} (h : @ite Prop p d A B) : @ite Prop p d A B := h
end
end G

namespace G
open PySem PySem.Spec PyProof.Rows L2 TL
/-! ### attributes -/
section
variable {X : Cx} {σ : L2.St} {H : Hp} {Q : VK} {D : Ends} {pos p2 p3 : Pos} {o e : Expr} {f : Str}
theorem e_fld (h : eW X e σ H fun x H1 => ∃ a C dx fs v, x = .ref a ∧ H1 a = some (.ins C dx fs) ∧ Cls X.K C ∧ NoAttr X.K C f ∧ fs.lookup f = some v ∧ Q v H1) (hb : attributeBase e f X.env (eval e X.env) = eval e X.env := by rfl) : eW X (.Attribute e f pos) σ H Q := eI (pe_fld PEw hb) h
theorem s_fld (h : eW X e σ H fun y H1 => eW X o σ H1 fun x H2 => ∃ a C dx fs, x = .ref a ∧ H2 a = some (.ins C dx fs) ∧ Cls X.K C ∧ NoAttr X.K C f ∧ fs.length < 1000 ∧ ∀ H3, H3 a = some (.ins C dx (putF f y fs)) → (∀ b, b ≠ a → H3 b = H2 b) → D.nx σ H3)
    (hs : swapsWith e (some (.Attribute o f p2)) pos.line X.env = pure false := by rfl) : sW X (.Assign [.Attribute o f p2] e pos) D σ H :=
  sI (ps_fld PEw PEw hs) (eMono h fun y H1 q => eMono q fun x H2 ⟨a, C, dx, fs, e1, e2, e3, e4, e5, q⟩ => ⟨a, C, dx, fs, e1, e2, e3, e4, e5, q _ upd_same fun b hb => upd_ne hb⟩)
/-- o.f += e, numbers -/
theorem s_fldaug (h : eW X o σ H fun x H1 => ∃ a C dx fs i, x = .ref a ∧ H1 a = some (.ins C dx fs) ∧ Cls X.K C ∧ NoAttr X.K C f ∧ fs.lookup f = some (.int i) ∧ eW X e σ H1 fun y H2 => ∃ j dx' fs', y = .int j ∧ H2 a = some (.ins C dx' fs') ∧ fs'.length < 1000 ∧ ∀ H3, H3 a = some (.ins C dx' (putF f (.int (i + j)) fs')) → (∀ b, b ≠ a → H3 b = H2 b) → D.nx σ H3) : sW X (.AugAssign (.Attribute o f p2) .Add e pos) D σ H :=
  sI (ps_fldaug PEw PEw in_add) (eMono h fun x H1 ⟨a, C, dx, fs, i, e1, e2, e3, e4, e5, q⟩ => ⟨a, C, dx, fs, .int i, e1, e2, e3, e4, e5, eMono q fun y H2 ⟨j, dx', fs', w1, w2, w3, w4⟩ => ⟨i, j, rfl, w1, dx', fs', w2, w3, w4 _ upd_same fun b hb => upd_ne hb⟩⟩)
end
/-- facts of the classes by instances -/
class NoA (K : PySem.W.Frag) (C : Addr) (f : Str) : Prop where h : NoAttr K C f
class ClsI (K : PySem.W.Frag) (C : Addr) : Prop where h : Cls K C
section
variable {X : Cx} {σ : L2.St} {H : Hp} {Q : VK} {D : Ends} {pos p2 p3 : Pos} {e : Expr} {f x : Str} {N : List Str} {K : PySem.W.Frag} {i : Nat} {a C dx : Addr} {fs : List (Str × V)} {v : V}
/-- x.f, x a name -/
theorem is_attr (h : eW X (.Attribute (.Name x p2) f pos) σ H Q) : eW X (.Attribute (.Name x p2) f pos) σ H Q := h
theorem e_fldV [cn : CxN X N] [ck : CxK X K] [sl : Slt N x i] (hs : σ[i]? = some (some (.ref a))) (hi : H a = some (.ins C dx fs)) [na : NoA K C f] [cl : ClsI K C] (hl : fs.lookup f = some v) (q : Q v H)
    (hv : Vis X.env.scope x := by first | exact Or.inl rfl | exact Or.inr (Or.inl rfl) | exact Or.inr (Or.inr rfl)) (hd : (x == ("__debug__" : Str)) = false := by decide) (hcd : (x == ("__classdict__" : Str)) = false := by decide)
    (hb : attributeBase (.Name x p2) f X.env (eval (.Name x p2) X.env) = eval (.Name x p2) X.env := by rfl) : eW X (.Attribute (.Name x p2) f pos) σ H Q :=
  e_fld (e_var hs ⟨a, C, dx, fs, v, rfl, hi, by rw [ck.h]; exact cl.h, by rw [ck.h]; exact na.h, hl, q⟩ hv hd hcd) hb
/-- x.f = e, x a name -/
theorem s_fldV [cn : CxN X N] [ck : CxK X K] [sl : Slt N x i] (h : eW X e σ H fun y H1 => ∃ a C dx fs, σ[i]? = some (some (.ref a)) ∧ H1 a = some (.ins C dx fs) ∧ NoA K C f ∧ ClsI K C ∧ fs.length < 1000 ∧ ∀ H3, H3 a = some (.ins C dx (putF f y fs)) → (∀ b, b ≠ a → H3 b = H1 b) → D.nx σ H3)
    (hv : Vis X.env.scope x := by first | exact Or.inl rfl | exact Or.inr (Or.inl rfl) | exact Or.inr (Or.inr rfl)) (hd : (x == ("__debug__" : Str)) = false := by decide) (hcd : (x == ("__classdict__" : Str)) = false := by decide)
    (hs : swapsWith e (some (.Attribute (.Name x p3) f p2)) pos.line X.env = pure false := by rfl) : sW X (.Assign [.Attribute (.Name x p3) f p2] e pos) D σ H :=
  s_fld (eMono h fun y H1 ⟨a, C, dx, fs, w1, w2, w3, w4, w5, w6⟩ => e_var w1 ⟨a, C, dx, fs, rfl, w2, by rw [ck.h]; exact w4.h, by rw [ck.h]; exact w3.h, w5, w6⟩ hv hd hcd) hs
end
/-! ### classes with __init__ -/
structure Ini (P : Program) (w : World) (K : PySem.W.Frag) (mg : Str → Option Value) (base : Heap) (C : Addr) (k : Nat) (ps : List Str) (sp : Sp) : Prop where
  ex : ∃ (f : Addr) (fd : FuncData), Mk K C f ∧ Binds K fd ps [] ∧ FnOk P w K mg base (L2.CX P w) k f fd ps sp
section
variable {X : Cx} {σ : L2.St} {H : Hp} {Q : VK} {pos p2 apos : Pos} {e o : Expr} {es : List Expr} {mg : Str → Option Value} {C : Addr} {x m : Str} {k : Nat} {ps : List Str} {sp : Sp} {W : WX}
theorem run_makeS {CX : CXT} {f : Addr} {fd : FuncData} {E : XK} {pins : List (Addr × Obj)} {s : Shared} {us : List Value} {vs : List V} (M : Mk X.K C f) (F : FnOk X.prog X.w X.K X.mg X.base CX k f fd ps sp) (hr : Room (k + 1) X.A) (hb : Binds X.K fd ps [])
    (hx : PassesAt CX X σ E) (I : Inv X pins σ H s) (r : Vals vs us)
    (h : ∀ x dx, H x = none → H dx = none → dx ≠ x → sp (.ref x :: vs) (upd (upd H dx (.own x)) x (.ins C dx [])) (fun v H2 => v = .non ∧ Q (.ref x) H2) E) :
    wpAny (model X.prog X.w) X.A (call (.ref C) us) (EP X pins σ Q) X.xe s := by
  have hq := h (s.heap.objs.size + 1) s.heap.objs.size (I.hok.fresh (Nat.le_succ _)) (I.hok.fresh (Nat.le_refl _)) (Nat.ne_of_lt (Nat.lt_succ_self _))
  have I2 := Inv.made (C := C) I
  have r2 : Vals (V.ref (s.heap.objs.size + 1) :: vs) (Value.ref (s.heap.objs.size + 1) :: us) := .cons rfl r
  have hl : (Value.ref (s.heap.objs.size + 1) :: us ++ []).length = ps.length := by
    have e := r2.length
    rw [F.len _ _ _ _ hq] at e
    rw [List.append_nil]
    exact e.symm
  have b := hb _ (Value.ref (s.heap.objs.size + 1) :: us) I2.kIn hl
  rw [List.append_nil] at b
  refine wpAny_call (make_map (f := f) I.kIn M.makes M.init (beq_iff_eq.mp M.fn) (codeAny_mono (F.run _ X.stack _ _ ⟨Value.ref (s.heap.objs.size + 1) :: us, []⟩ (Value.ref (s.heap.objs.size + 1) :: us) _ _ E (hr.make C us [])
    (I2.env0.make C us []) b r2 hq) fun r s' hq' => ?_))
  cases r with
  | error e => exact hx pins _ _ e s' I2 hq'
  | ok fl =>
    cases fl with
    | ret u =>
      obtain ⟨v, H', I3, rv, ev, q3⟩ := I2.after hq'
      subst ev
      exact ⟨rv, ⟨V.ref (s.heap.objs.size + 1), H', I3, rfl, q3⟩⟩
    | next => exact False.elim hq'
    | brk => exact False.elim hq'
    | cont => exact False.elim hq'
theorem e_make [ct : CxT X W] [cm : CxM X mg] [g : Gn mg x (some (.ref C))] (F : Ini X.prog X.w X.K X.mg X.base C k ps sp) (hr : Room (k + 1) X.A)
    (h : aW X (e :: es) σ H fun vs H1 => ∀ p dx H2, Same H1 H2 → H1 p = none → H1 dx = none → dx ≠ p → H2 p = some (.ins C dx []) → H2 dx = some (.own p) → (∀ b, b ≠ p → b ≠ dx → H2 b = H1 b) → sp (.ref p :: vs) H2 (fun v H3 => v = .non ∧ Q (.ref p) H3) fun cls d H' => W cls d σ H')
    (hg : Gl X x := by rfl) (hdb : (x == ("__debug__" : Str)) = false := by decide) (he : starEach (e :: es) X.env = (false, eval e X.env) :: starEach es X.env := by rfl) (hpl : (backTo pos (starEach es X.env)).any (·.1) = false := by rfl) : eW X (.Call (.Name x p2) (e :: es) [] pos) σ H Q := by
  obtain ⟨f, fd, h1, h2, h3⟩ := F.ex
  refine ⟨fun pins s I => wpAny_Call_Name_kw (ld_glob I hg (by rw [cm.h]; exact g.h) ?_ hdb)⟩
  refine PySem.W.callWith_K (h₀ := X.base) I.ok.mod.kin h1.kp (thn (h.run pos pins s I) fun us s1 ⟨vs, H1, I1, r, q⟩ => ⟨I1.kIn, ?_⟩) he hpl
  exact run_makeS h1 h3 hr h2 (passAt ct.h σ) I1 r fun p dx hp hdx hne => q p dx _ (Same.made' hp hdx) hp hdx hne upd_same (by rw [upd_ne hne]; exact upd_same) fun b hb hb2 => by rw [upd_ne hb, upd_ne hb2]
/-- o.m(e, ..), that may raise -/
theorem e_methR [ct : CxT X W] (c : Cls X.K C) (F : Md X.prog X.w X.K X.mg X.base C m k ps sp) (hr : Room k X.A)
    (h : eW X o σ H fun x H1 => ∃ a dx fs, x = .ref a ∧ H1 a = some (.ins C dx fs) ∧ fs.lookup m = none ∧ aW X (e :: es) σ H1 fun vs H2 => sp (x :: vs) H2 Q fun cls d H' => W cls d σ H') {pl : Sem Bool}
    (hst : starEach (e :: es) X.env = (false, eval e X.env) :: starEach es X.env := by rfl) (hpl : (backTo pos (starEach es X.env)).any (·.1) = false := by rfl)
    (ht : eval (.Call (.Attribute o m apos) (e :: es) [] pos) X.env = (do
      let ov ← eval o X.env
      standAt apos.atName
      let (f, first) ← holding [ov] (getMethod ov m pl)
      callWith pos f first (backTo pos (starEach (e :: es) X.env)) (backToKw pos (keywordEach [] X.env))) := by rfl) : eW X (.Call (.Attribute o m apos) (e :: es) [] pos) σ H Q := by
  obtain ⟨f, fd, h1, h2, h3⟩ := F.ex
  refine ⟨fun pins s I => PySem.W.methodCall_KW (pl := pl) (thn (h.run pins s I) fun u s1 ⟨x, H1, I1, rx, a, dx, fs, ex, ea, l, q⟩ => ?_) ht⟩
  subst ex
  obtain rfl : u = Value.ref a := rx
  refine getmeth_ok I1 ea c h1 l ?_
  refine PySem.W.callWith_K (first := [.ref a]) (h₀ := X.base) I.ok.mod.kin h1.kp (thn (q.run pos pins s1 I1) fun us s2 ⟨vs, H2, I2, r, q2⟩ => ⟨I2.kIn, ?_⟩) hst hpl
  exact run_fnS (E := WE W) (us := .ref a :: us) (vs := .ref a :: vs) h3 hr h2 (passAt ct.h σ) I2 (.cons rfl r) q2
/-- x.m(e, ..), x.m(), x a name -/
theorem is_meth {ks : List Keyword} {y : Str} {p3 : Pos} (h : eW X (.Call (.Attribute (.Name y p3) m apos) es ks pos) σ H Q) : eW X (.Call (.Attribute (.Name y p3) m apos) es ks pos) σ H Q := h
theorem e_methV {N : List Str} {y : Str} {i : Nat} {a dx : Addr} {fs : List (Str × V)} {p3 : Pos} [ct : CxT X W] [cn : CxN X N] [sl : Slt N y i] (c : Cls X.K C) (F : Md X.prog X.w X.K X.mg X.base C m k ps sp) (hr : Room k X.A) (hs : σ[i]? = some (some (.ref a))) (hi : H a = some (.ins C dx fs)) (hl : fs.lookup m = none)
    (h : aW X (e :: es) σ H fun vs H2 => sp (.ref a :: vs) H2 Q fun cls d H' => W cls d σ H') {pl : Sem Bool}
    (hv : Vis X.env.scope y := by first | exact Or.inl rfl | exact Or.inr (Or.inl rfl) | exact Or.inr (Or.inr rfl)) (hd : (y == ("__debug__" : Str)) = false := by decide) (hcd : (y == ("__classdict__" : Str)) = false := by decide)
    (hst : starEach (e :: es) X.env = (false, eval e X.env) :: starEach es X.env := by rfl) (hpl : (backTo pos (starEach es X.env)).any (·.1) = false := by rfl)
    (ht : eval (.Call (.Attribute (.Name y p3) m apos) (e :: es) [] pos) X.env = (do
      let ov ← eval (.Name y p3) X.env
      standAt apos.atName
      let (f, first) ← holding [ov] (getMethod ov m pl)
      callWith pos f first (backTo pos (starEach (e :: es) X.env)) (backToKw pos (keywordEach [] X.env))) := by rfl) : eW X (.Call (.Attribute (.Name y p3) m apos) (e :: es) [] pos) σ H Q :=
  e_methR c F hr (e_var hs ⟨a, dx, fs, rfl, hi, hl, h⟩ hv hd hcd) hst hpl ht
theorem e_methR0 [ct : CxT X W] (c : Cls X.K C) (F : Md X.prog X.w X.K X.mg X.base C m k ps sp) (hr : Room k X.A)
    (h : eW X o σ H fun x H1 => ∃ a dx fs, x = .ref a ∧ H1 a = some (.ins C dx fs) ∧ fs.lookup m = none ∧ sp [x] H1 Q fun cls d H' => W cls d σ H') {pl : Sem Bool}
    (ht : eval (.Call (.Attribute o m apos) [] [] pos) X.env = (do
      let ov ← eval o X.env
      standAt apos.atName
      let (f, first) ← holding [ov] (getMethod ov m pl)
      callWith pos f first (backTo pos (starEach [] X.env)) (backToKw pos (keywordEach [] X.env))) := by rfl) : eW X (.Call (.Attribute o m apos) [] [] pos) σ H Q := by
  obtain ⟨f, fd, h1, h2, h3⟩ := F.ex
  refine ⟨fun pins s I => PySem.W.methodCall_KW (pl := pl) (thn (h.run pins s I) fun u s1 ⟨x, H1, I1, rx, a, dx, fs, ex, ea, l, q⟩ => ?_) ht⟩
  subst ex
  obtain rfl : u = Value.ref a := rx
  refine getmeth_ok I1 ea c h1 l ?_
  exact PySem.W.callWith_K0 (first := [.ref a]) I1.kIn h1.kp (run_fnS (E := WE W) (us := [.ref a]) (vs := [.ref a]) h3 hr h2 (passAt ct.h σ) I1 (.cons rfl .nil) q)
theorem e_methV0 {N : List Str} {y : Str} {i : Nat} {a dx : Addr} {fs : List (Str × V)} {p3 : Pos} [ct : CxT X W] [cn : CxN X N] [sl : Slt N y i] (c : Cls X.K C) (F : Md X.prog X.w X.K X.mg X.base C m k ps sp) (hr : Room k X.A) (hs : σ[i]? = some (some (.ref a))) (hi : H a = some (.ins C dx fs)) (hl : fs.lookup m = none)
    (h : sp [.ref a] H Q fun cls d H' => W cls d σ H') {pl : Sem Bool}
    (hv : Vis X.env.scope y := by first | exact Or.inl rfl | exact Or.inr (Or.inl rfl) | exact Or.inr (Or.inr rfl)) (hd : (y == ("__debug__" : Str)) = false := by decide) (hcd : (y == ("__classdict__" : Str)) = false := by decide)
    (ht : eval (.Call (.Attribute (.Name y p3) m apos) [] [] pos) X.env = (do
      let ov ← eval (.Name y p3) X.env
      standAt apos.atName
      let (f, first) ← holding [ov] (getMethod ov m pl)
      callWith pos f first (backTo pos (starEach [] X.env)) (backToKw pos (keywordEach [] X.env))) := by rfl) : eW X (.Call (.Attribute (.Name y p3) m apos) [] [] pos) σ H Q :=
  e_methR0 c F hr (e_var hs ⟨a, dx, fs, rfl, hi, hl, h⟩ hv hd hcd) ht
end
/-! ### dicts with tuple keys -/
section
variable {X : Cx} {pins : List (Addr × Obj)} {σ : L2.St} {H : Hp} {s : Shared} {a b : Addr} {r : Value} {d : V} {k : List Key} {A : Around} {E : Value → Shared → Prop}
theorem d_setdT {kvs : List (List Key × V)} {Q : Value → Shared → Prop} (hu : A.units + 1 < cLine) (I : Inv X pins σ H s) (e : H a = some (.dT kvs)) (eb : H b = some (.tup (k.map kV))) (rd : RelV d r) (hl : kvs.length < sizeLine)
    (h1 : ∀ v, valV kvs k = some v → ∀ (w' : Value) (s' : Shared), Inv X pins σ H s' → RelV v w' → Q w' s') (h2 : valV kvs k = none → ∀ (w' : Value) (s' : Shared), Inv X pins σ (upd H a (.dT (putK kvs k d))) s' → RelV d w' → Q w' s') :
    wpAny (model X.prog X.w) A (call (.builtin "dict.setdefault") [.ref a, .ref b, r]) Q E s := by
  obtain ⟨z, hd, xs, rel, dd⟩ := dt_of I.hok e
  have hz : xs.length ≤ sizeLine := by rw [← Paired.length rel]; exact z
  have hl2 : (putK kvs k d).length ≤ sizeLine := by have := length_putK kvs k d; omega
  refine call_setdefault_heap (hsz := hz) (tupleKind_room_in1 hu) (key_of I.hok eb) hd dd (fun p hp => ?_) fun hn h' dd' hs => ?_
  · have q := rel.val k
    rw [hp] at q
    cases q0 : valV kvs k with
    | none => rw [q0] at q; exact (show False from q).elim
    | some v0 => rw [q0] at q; exact h1 v0 q0 _ _ (I.tok _) q
  · have q := rel.val k
    rw [hn] at q
    cases q0 : valV kvs k with
    | some v0 => rw [q0] at q; exact (show False from q).elim
    | none =>
      refine h2 q0 _ _ ?_ rd
      obtain ⟨q, es, ep, hq, h2, h3, h4, _, h5⟩ := dd'
      refine d_write I (by rw [e]; exact True.intro) hs ⟨q, hq⟩ ⟨hl2, hd, _, (rel.put k eb rd).keeps fun c ys ec => ?_, q, es, ep, hq, h2, h3, h4, h5⟩
      rw [upd_ne (ne_of ec e (fun z => nomatch z))]
      exact ec
end
section
variable {X : Cx} {σ : L2.St} {H : Hp} {Q : VK} {o e f : Expr} {apos cpos : Pos} {R : It → Hp → Prop}
theorem e_dsetdT (hu : X.A.units + 1 < cLine) (h : eW X o σ H fun x H1 => ∃ a, x = .ref a ∧ IsD H1 a ∧ eW X e σ H1 fun y H2 => eW X f σ H2 fun z H3 => ∃ (kvs : List (List Key × V)) (k : List Key) (b : Addr), H3 a = some (.dT kvs) ∧ y = .ref b ∧ H3 b = some (.tup (k.map kV)) ∧ kvs.length ≤ 10000000 ∧ (∀ v, valV kvs k = some v → Q v H3) ∧ (valV kvs k = none → ∀ H4, H4 a = some (.dT (putK kvs k z)) → (∀ b, b ≠ a → H4 b = H3 b) → Q z H4))
    (m : M2 X o "setdefault" apos e f cpos := by exact ⟨rfl, rfl, rfl, rfl⟩) : eW X (.Call (.Attribute o "setdefault" apos) [e, f] [] cpos) σ H Q := by
  refine ⟨fun pins s I => ?_⟩
  refine wpAny_Call_method m.base m.few m.line PySem.F.plainAttrs_dict PySem.F.slot_dict_setdefault PySem.F.type_dict_setdefault (thn (h.run pins s I) fun u s1 ⟨x, H1, I1, rx, a, ex, d, q1⟩ => ?_)
  subst ex
  obtain rfl : u = Value.ref a := rx
  obtain ⟨t1, t2, _⟩ := isD_at I1 d
  refine ⟨t1, t2, ?_⟩
  rw [m.trees]
  refine Calls.callWith_builtin rfl (Calls.evalArgs_plain (Calls.spliced_cons (thn (q1.run pins s1 I1) fun iv s2 ⟨y, H2, I2, ry, q2⟩ =>
    Calls.spliced_cons (thn (q2.run pins s2 I2) fun fv s3 ⟨z, H3, I3, rz, kvs, k, b, ea, ey, eb, hl, q3, q4⟩ => Calls.spliced_nil ?_))))
  subst ey
  obtain rfl : iv = Value.ref b := ry
  exact d_setdT hu I3 ea eb rz (by rw [sizeLine_eq]; omega) (fun v hv w' s4 I4 rw' => ⟨v, _, I4, rw', q3 v hv⟩) fun hn w' s4 I4 rw' => ⟨z, _, I4, rw', q4 hn _ upd_same fun c hc => upd_ne hc⟩
/-- the entries of the locked dict at d, tuple keys -/
def ItiT (d : Addr) (o : Obj) (kvs : List (List Key × V)) : It :=
  ⟨fun i H => H d = some (.frz o (.dT kvs)) ∧ i < kvs.length, fun i H x H' => ∃ T k v q, kvs[i]? = some (k, v) ∧ x = .ref T ∧ H T = none ∧ H q = some (.tup (k.map kV)) ∧ H' = upd H T (.tup [.ref q, v]), fun i H => H d = some (.frz o (.dT kvs)) ∧ kvs.length ≤ i⟩
end
theorem Inv.frzT2 {X : Cx} {pins : List (Addr × Obj)} {σ : L2.St} {H : Hp} {s : Shared} {d : Addr} {o : Obj} {kvs : List (List Key × V)} (I : Inv X pins σ H s) (h : H d = some (.frz o (.dT kvs))) :
    (d == sysModules) = false ∧ s.heap.get? d = some o ∧ o.ExactDict ∧ ∃ (es : Array DictEntry) (ep : Nat), o.data = .dict es ep ∧ es.size = kvs.length ∧
      ∀ (i : Nat) (k : List Key) (v : V), kvs[i]? = some (k, v) → ∃ (en : DictEntry) (q : Addr), es[i]? = some en ∧ en.key = .ref q ∧ H q = some (.tup (k.map kV)) ∧ RelV v en.val := by
  obtain ⟨hd, z, hs, xs, pr, o', es, ep, ho, hx, hdt, he, _⟩ := I.hok d _ h
  rw [hd] at ho
  cases ho
  refine ⟨hs, hd, hx, es, ep, hdt, ?_, fun i k v e => ?_⟩
  · have l1 : es.size = xs.length := size_of_entries he
    have l2 : kvs.length = xs.length := Paired.length pr
    omega
  · obtain ⟨b, hb, e1, e2, e3⟩ := paired_get pr e
    have q := entry_at he i
    rw [hb] at q
    exact ⟨_, b.2.1, q, rfl, e2, e3⟩
section
variable {P : Program} {w : World} {K : PySem.W.Frag} {tg : Expr} {d : Addr} {o : Obj} {es : Array DictEntry} {ep : Nat}
theorem turn_itemsT {kvs : List (List Key × V)} {elts : List Expr} {kk : Nat} {tpos : Pos} (it : Addr) (hod : o.data = .dict es ep) :
    Turn P w K (.Tuple elts kk tpos) (ItiT d o kvs) [it] it (fun i h => ∃ ok ov, IsItemIter h it d i kvs.length ep ok ov) where
  mem := by simp
  obj := fun i h st b hb => by
    have e : b = it := by simpa using hb
    subst e
    obtain ⟨ok, ov, e⟩ := st
    exact ⟨_, e, fun v z => nomatch z⟩
  keep := fun i h h' st k => let ⟨ok, ov, e⟩ := st; ⟨ok, ov, k it (by simp) _ e⟩
  item := by
    intro X hP hw hK hc i pins s σ H E I hf st hg
    subst hP hw hK
    obtain ⟨hd, hi⟩ := hg
    obtain ⟨hs, hgd, hx, es', ep', hdt, hsz, ent⟩ := Inv.frzT2 I hd
    obtain ⟨rfl, rfl⟩ := dict_ep hod hdt
    obtain ⟨⟨k, v⟩, hkv⟩ : ∃ p, kvs[i]? = some p := ⟨kvs[i], List.getElem?_eq_getElem hi⟩
    obtain ⟨en, q, hen, hkey, hq, ru⟩ := ent i k v hkv
    obtain ⟨ok, ov, he⟩ := st
    rw [← hsz] at he
    have hlt : it < s.heap.objs.size := Heap.lt_size he
    have hi2 : i < es'.size := by omega
    have een : es'[i] = en := by
      have := Array.getElem?_eq_getElem hi2
      rw [this] at hen
      exact Option.some.inj hen
    refine wpAny_pyNext_items_item_raw he ⟨o, hgd, hx, hdt⟩ hi2 fun h' ho hT hz hk => ?_
    rw [een, hkey] at ho hT
    refine ⟨_, rfl, wpAny_letOwnedTupleGo_items (s := { s with heap := h' }) ho fun h'' he' sb => ?_⟩
    have hT2 : h''.get? s.heap.objs.size = some { cls := .type "tuple", data := .seq #[.ref q, en.val] } := (sb.2 _ (Nat.ne_of_gt hlt)).trans hT
    have new : ObjOk X.prog X.w (upd H s.heap.objs.size (.tup [.ref q, v])) h'' s.heap.objs.size (.tup [.ref q, v]) :=
      ⟨by show 2 ≤ sizeLine; decide, [.ref q, en.val], .cons rfl (.cons ru .nil), ⟨_, hT2, rfl, _, rfl⟩⟩
    have I1 : Inv X pins σ (upd H s.heap.objs.size (.tup [.ref q, v])) { s with heap := h'' } :=
      I.turnedNew (t' := s.toks) (ch := [it]) (fun b ob hb e => (sb.2 b (by simpa using hb)).trans (hk b ob (by simpa using hb) e)) hf (Nat.le_refl _) new
    refine ⟨.ref s.heap.objs.size, _, I1, rfl, ⟨_, k, v, q, hkv, rfl, I.hok.fresh (Nat.le_refl _), hq, rfl⟩, ⟨.ref q, en.val, ?_⟩, fun b hb => ?_⟩
    · rw [← hsz]; exact he'
    · have e : b = it := by simpa using hb
      rw [e, upd_ne (Nat.ne_of_lt hlt)]
      exact (hf it (by simp)).1
  done := by
    intro X hP hw hK hc i pins s σ H E I hf st hg
    subst hP hw hK
    obtain ⟨hd, hi⟩ := hg
    obtain ⟨f0, f1, f2, f3, f4, f5⟩ := hf it (by simp)
    obtain ⟨hs, hgd, hx, es', ep', hdt, hsz, ent⟩ := Inv.frzT2 I hd
    obtain ⟨rfl, rfl⟩ := dict_ep hod hdt
    obtain ⟨ok, ov, he⟩ := st
    rw [← hsz] at he
    exact wpAny_pyNext_items_end_raw (I.ok.hd hc) he ⟨o, hgd, hx, hdt⟩ (by omega) fun h' eb => ⟨rfl, I.turned (t' := s.toks) (fun b ob hb e => eb b ob hb e) f0 f1 f3 f4 f5⟩
  self := fun A i s Q E st h => let ⟨_, _, e⟩ := st; PySem.W.kcp_self e h
end
theorem j_itemsT {X : Cx} {σ : L2.St} {H : Hp} {R : It → Hp → Prop} {e : Expr} {elts : List Expr} {kk : Nat} {p3 apos cpos : Pos} (h : eW X e σ H fun x H1 => ∃ d o kvs, x = .ref d ∧ H1 d = some (.frz o (.dT kvs)) ∧ R (ItiT d o kvs) H1)
    (hbase : attributeBase e "items" X.env (eval e X.env) = eval e X.env := by rfl) (hline : (apos.endLine == cpos.line) = true := by rfl) : jW X (.Tuple elts kk p3) (.Call (.Attribute e "items" apos) [] [] cpos) σ H R := by
  refine ⟨fun pins s I => ?_⟩
  refine wpAny_Call_method (T := "dict") (id := "dict.items") hbase rfl hline F.plainAttrs_dict F.slot_dict_items F.type_dict_items (thn (h.run pins s I) fun u s1 ⟨x, H1, I1, rx, d, o, kvs, ex, hd, q⟩ => ?_)
  subst ex
  obtain rfl : u = Value.ref d := rx
  obtain ⟨hs, hgd, hx, es, ep, hdt, hsz, ent⟩ := Inv.frzT2 I1 hd
  have hr : s1.heap.DictRaw d es ep := ⟨o, hgd, hx, hdt⟩
  refine ⟨hr.typeIs, fun b q => by cases q; exact ⟨o, hgd, hx.2.1⟩, ?_⟩
  have I2 : Inv X pins σ H1 { s1 with heap := s1.heap.push { cls := .type "dict_items", data := .fields #[.ref d] } } := I1.kept (t' := s1.toks) fun b ob q => Heap.get?_push_of_some _ q
  have fin : wpAny (model X.prog X.w) X.A (pyIter (.ref s1.heap.objs.size)) (PIE X pins σ (.Tuple elts kk p3) R) X.xe { s1 with heap := s1.heap.push { cls := .type "dict_items", data := .fields #[.ref d] } } := by
    refine wpAny_pyIter_items_raw (d := d) ⟨_, Heap.get?_push_size _ rfl, rfl, rfl⟩ (hr.at fun ob q => Heap.get?_push_of_some _ q) (pi_one (tk := s1.toks) I2 _ (turn_itemsT _ hdt) ⟨.none, .none, ?_⟩ q)
    rw [← hsz]
    exact Heap.get?_push_size _ rfl
  show wpAny _ _ (callWith cpos (.builtin "dict.items") [.ref d] [] []) _ X.xe s1
  exact method_meetsIn F.slot_dict_items F.entry_dict_items rfl (PySem.evalArgs_none ⟨rfl, hr.typeIs, F.args_dict_items_1 _, _, meets_dict_items_raw d hs, ⟨es, ep, hr⟩, fin⟩)
theorem walk_itemsT {d : Addr} {o : Obj} {kvs : List (List Key × V)} : Walk (ItiT d o kvs) kvs.length (fun H => H d = some (.frz o (.dT kvs))) (fun i H x H' => ∃ T k v q, kvs[i]? = some (k, v) ∧ x = .ref T ∧ H T = none ∧ H q = some (.tup (k.map kV)) ∧ H' = upd H T (.tup [.ref q, v])) :=
  ⟨fun _ _ hi q => ⟨q, hi⟩, fun _ q => ⟨q, Nat.le_refl _⟩, fun _ _ _ _ _ _ y => y⟩
/-! ### a list against the empty one -/
section
variable {X : Cx} {H : Hp} {Q : VK} {p q : Addr} {xs : List V}
theorem o_neNil (hu : X.A.units + 64 < cLine) (h1 : H p = some (.lst xs)) (h2 : H q = some (.lst [])) (qq : Q (.bl (!decide (xs = []))) H) : oW X (compareOp .NotEq) (.ref p) (.ref q) H Q := by
  refine ⟨fun pins s σ v u I rx ry => ?_⟩
  cases rx
  cases ry
  obtain ⟨z, its, n, r, hl, e⟩ := I.lstM h1
  obtain ⟨z2, its2, n2, r2, hl2, e2⟩ := I.lstM h2
  cases r2
  have L1 : s.heap.IsList p its.toArray := ⟨_, e, rfl, n, rfl⟩
  have L2 : s.heap.IsList q (#[] : Array Value) := ⟨_, e2, rfl, n2, rfl⟩
  cases r with
  | nil =>
    refine SeqAt.RcNeAt.lists (e := fun _ => true) L1 L2 rfl (by omega) (fun j h1 => by cases h1) X.prog X.w X.xe _ ?_
    exact ⟨.bl false, H, I, rfl, qq⟩
  | @cons x y xs ys a b =>
    refine SeqAt.RcNeAt.lists_lengths L1 L2 (by simp) (by omega) X.prog X.w X.xe _ ?_
    exact ⟨.bl true, H, I, rfl, by rw [decide_eq_false (by simp)] at qq; exact qq⟩
theorem o_eqNil (hu : X.A.units + 64 < cLine) (h1 : H p = some (.lst xs)) (h2 : H q = some (.lst [])) (qq : Q (.bl (decide (xs = []))) H) : oW X (compareOp .Eq) (.ref p) (.ref q) H Q := by
  refine ⟨fun pins s σ v u I rx ry => ?_⟩
  cases rx
  cases ry
  obtain ⟨z, its, n, r, hl, e⟩ := I.lstM h1
  obtain ⟨z2, its2, n2, r2, hl2, e2⟩ := I.lstM h2
  cases r2
  have L1 : s.heap.IsList p its.toArray := ⟨_, e, rfl, n, rfl⟩
  have L2 : s.heap.IsList q (#[] : Array Value) := ⟨_, e2, rfl, n2, rfl⟩
  cases r with
  | nil =>
    refine SeqAt.RcAt.lists (e := fun _ => true) L1 L2 rfl (by omega) (fun j h1 => by cases h1) X.prog X.w X.xe _ ?_
    exact ⟨.bl true, H, I, rfl, qq⟩
  | @cons x y xs ys a b =>
    refine SeqAt.RcAt.lists_lengths L1 L2 (by simp) (by omega) X.prog X.w X.xe _ ?_
    exact ⟨.bl false, H, I, rfl, by rw [decide_eq_false (by simp)] at qq; exact qq⟩
end
/-! ### a list is told more by a tuple; list(d) with tuple keys -/
section
open PySem.AutoSeq1
theorem list_extend_tupG (l : Addr) (items : Array Value) (n : Nat) (b : Addr) (items2 : Array Value) (hs0 : ¬(!items.isEmpty && Builtin.List.listTooLong (items.size + items2.size)) = true) (hs1 : items.size ≤ sizeLine) (hs2 : items.size + items2.size ≤ sizeLine + 1) :
    Meets (Builtin.«list.extend» ⟨[.ref l, .ref b], []⟩) (fun _ R s => s.heap.get? l = some { cls := .type "list", dict := none, data := .seq items n, slots := #[] } ∧ IsTup s.heap b items2 ∧ R (.ok (.ret Value.none)) { s with heap := s.heap.update l (Obj.mapSeq fun x => x ++ items2), toks := s.toks }) :=
  .of_wp fun prog w A R s h => by
    obtain ⟨hp, g, d, tk, os⟩ := s; obtain ⟨hl, ⟨⟨c, dd, da, sl⟩, hb, hc, n2, hd⟩, h⟩ := h
    cases hc
    cases hd
    have f1 := idx_int; have f2 := AutoSeq1.sub_tuple_tuple; have f3 := AutoSeq1.sub_list_list; have f4 := AutoSeq1.sub_tuple_list; have f5 := AutoSeq1.sub_list_tuple;
    have hz' : (items ++ items2).size ≤ sizeLine + 1 := by rw [Array.size_append]; exact hs2
    wp_walk using (wpAny_updateSeq hl rfl (hz := hs1) (_hz' := hz')), wpAny_loadPart' hl, wpAny_loadPart' hb; exact ⟨_, rfl, h⟩
end
theorem mt_extendT {X : Cx} : MtM X "list.extend" (fun x vs H Q => ∃ l b xs zs, x = .ref l ∧ vs = [.ref b] ∧ H l = some (.lst xs) ∧ SqT X.K H b zs ∧ xs.length + zs.length ≤ sizeLine ∧ Q .non (upd H l (.lst (xs ++ zs)))) := by
  intro pins s σ H x vs v us Q I rx rv h
  obtain ⟨l, b, xs, zs, rfl, rfl, hH, hB, hz, q⟩ := h
  cases rx
  obtain ⟨u, rfl, ru⟩ := rv.one
  cases ru
  obtain ⟨z, its, n, r, hl, e⟩ := I.lstM hH
  obtain ⟨its2, r2, e2, z2⟩ := I.tuple hB
  have hl2 := r2.length
  have hsz : its.toArray.size + its2.toArray.size ≤ sizeLine := by rw [List.size_toArray, List.size_toArray]; omega
  have hlong : ¬ (!its.toArray.isEmpty && Builtin.List.listTooLong (its.toArray.size + its2.toArray.size)) = true := by
    rw [notLongL hsz, Bool.and_false]
    exact Bool.false_ne_true
  refine call_meets F.slot_list_extend ⟨_, e, rfl⟩ F.entry_list_extend (F.args_list_extend_2 _ _)
    (list_extend_tupG l its.toArray n b its2.toArray hlong (by rw [List.size_toArray]; omega) (by omega)) ⟨e, e2, ?_⟩
  refine ⟨.non, _, I.lset (its' := its ++ its2) hH e (by simp) (r.append r2) ?_, rfl, q⟩
  rw [List.length_append]
  omega
theorem m_extendT {X : Cx} {H : Hp} {Q : VK} {l b : Addr} {xs zs : List V} (h : H l = some (.lst xs)) (h2 : SqT X.K H b zs) (hz : xs.length + zs.length ≤ 16000000) (q : ∀ H2, H2 l = some (.lst (xs ++ zs)) → (∀ b, b ≠ l → H2 b = H b) → Q .non H2) : mW X "list.extend" (.ref l) [.ref b] H Q :=
  mI mt_extendT ⟨l, b, xs, zs, rfl, rfl, h, h2, Nat.le_trans hz (by decide), q _ upd_same fun b hb => upd_ne hb⟩
theorem k_listDT {X : Cx} {H : Hp} {Q : VK} {d : Addr} {kvs : List (List Key × V)} [cc : CxC X] (h : H d = some (.dT kvs)) (q : ∀ l bs H2, Same H H2 → H l = none → H2 l = some (.lst (bs.map V.ref)) → IsKeys H kvs bs → (∀ b, b ≠ l → H2 b = H b) → Q (.ref l) H2) : kW X (.type "list") [.ref d] H Q :=
  kI (call_list_dT cc.h) ⟨d, kvs, rfl, .inl h, fun l bs hl hk => q l bs _ (sameU hl) hl upd_same hk fun b hb => upd_ne hb⟩
theorem length_putK_old {κ : Type} [DecidableEq κ] {kvs : List (κ × V)} {k : κ} {v : V} (h : (valV kvs k).isSome = true) : (putK kvs k v).length = kvs.length := by
  unfold putK
  rw [valV_any, h, if_pos rfl, List.length_map]
/-- d[k] -= e, keys that are tuples, numbers -/
theorem s_dsubT {X : Cx} {σ : L2.St} {H : Hp} {D : Ends} {o i e : Expr} {pos p2 : Pos} (hu : X.A.units + 1 < cLine) (h : eW X o σ H fun x H1 => eW X i σ H1 fun y H2 => ∃ (d : Addr) (kvs : List (List Key × V)) (k : List Key) (b : Addr) (n : Int), x = .ref d ∧ H2 d = some (.dT kvs) ∧ y = .ref b ∧ H2 b = some (.tup (k.map kV)) ∧ valV kvs k = some (.int n) ∧ kvs.length ≤ 10000000 ∧ eW X e σ H2 fun z H3 => ∃ j, z = .int j ∧ Same H2 H3 ∧ ∀ H4, H4 d = some (.dT (putK kvs k (.int (n - j)))) → (∀ b, b ≠ d → H4 b = H3 b) → D.nx σ H4)
    (ha : ∀ ov iv new, augStore i ov iv new = (do holding [new, ov, iv] (setItem ov iv new); release [new, ov, iv] []; pure .next) := by intro _ _ _; rfl) : sW X (.AugAssign (.Subscript o i p2) .Sub e pos) D σ H :=
  sI (ps_daug hu PEw PEw PEw in_sub ha) (eMono h fun x H1 h1 => eMono h1 fun y H2 ⟨d, kvs, k, b, n, e1, e2, e3, e4, e5, e6, q⟩ => ⟨d, .int n, e1, by rw [e3, ← e5]; exact DGet.t e2 e4, eMono q fun z H3 ⟨j, ej, s, q2⟩ => ⟨n, j, rfl, ej, _, by rw [e3]; exact DPut.t (s _ _ e2) (s _ _ e4) (Nat.lt_of_le_of_lt e6 (by decide)), q2 _ upd_same fun b hb => upd_ne hb⟩⟩)
/-- x in t, a tuple, as data -/
theorem o_inTD {X : Cx} {H : Hp} {Q : VK} {x y : V} {d : PyData} {ds : List PyData} (hu : X.A.units + 64 < cLine) (hx : Dp X.K H x d) (hy : Dp X.K H y (.tuple ds)) (sd : Sh 10 d) (se : Sh 10 (.tuple ds)) (q : Q (.bl (ds.any fun e => PyData.eqv e d)) H) : oW X (compareOp .In) x y H Q := ⟨fun pins s σ u u' I rx ry => by
  obtain ⟨as, r1⟩ := Dp.reads I d x u hx rx
  obtain ⟨bs, r2⟩ := Dp.reads I (.tuple ds) y u' hy ry
  have h1 := sd.dep
  have h2 : min (PyData.depthAll ds) d.depth ≤ d.depth := Nat.min_le_right _ _
  exact SeqAt.in_tuple_data r2 r1 (PySem.PyData.plain_of_canLay0 _ se.can) (PySem.PyData.plain_of_canLay0 _ sd.can) (by omega) ⟨.bl _, H, I, rfl, q⟩⟩
/-- x in xs, a list, as data -/
theorem o_inLD {X : Cx} {H : Hp} {Q : VK} {x y : V} {d : PyData} {ds : List PyData} (hu : X.A.units + 64 < cLine) (hx : Dp X.K H x d) (hy : Dp X.K H y (.list ds)) (sd : Sh 10 d) (se : Sh 10 (.list ds)) (q : Q (.bl (ds.any fun e => PyData.eqv e d)) H) : oW X (compareOp .In) x y H Q := ⟨fun pins s σ u u' I rx ry => by
  obtain ⟨as, r1⟩ := Dp.reads I d x u hx rx
  obtain ⟨bs, r2⟩ := Dp.reads I (.list ds) y u' hy ry
  have h1 := sd.dep
  have h2 : min (PyData.depthAll ds) d.depth ≤ d.depth := Nat.min_le_right _ _
  exact SeqAt.in_list_data r2 r1 (PySem.PyData.plain_of_canLay0 _ se.can) (PySem.PyData.plain_of_canLay0 _ sd.can) (by omega) ⟨.bl _, H, I, rfl, q⟩⟩
/-- x not in xs, a list, as data -/
theorem o_niLD {X : Cx} {H : Hp} {Q : VK} {x y : V} {d : PyData} {ds : List PyData} (hu : X.A.units + 64 < cLine) (hx : Dp X.K H x d) (hy : Dp X.K H y (.list ds)) (sd : Sh 10 d) (se : Sh 10 (.list ds)) (q : Q (.bl (!ds.any fun e => PyData.eqv e d)) H) : oW X (compareOp .NotIn) x y H Q := ⟨fun pins s σ u u' I rx ry => by
  obtain ⟨as, r1⟩ := Dp.reads I d x u hx rx
  obtain ⟨bs, r2⟩ := Dp.reads I (.list ds) y u' hy ry
  have h1 := sd.dep
  have h2 : min (PyData.depthAll ds) d.depth ≤ d.depth := Nat.min_le_right _ _
  exact SeqAt.notIn_list_data r2 r1 (PySem.PyData.plain_of_canLay0 _ se.can) (PySem.PyData.plain_of_canLay0 _ sd.can) (by omega) ⟨.bl _, H, I, rfl, q⟩⟩
theorem e_clear {X : Cx} {σ : L2.St} {H : Hp} {Q : VK} {o : Expr} {apos pos : Pos} (h : eW X o σ H fun x H1 => tyV X.K "list" x H1 ∧ mW X "list.clear" x [] H1 Q) (hbase : attributeBase o "clear" X.env (eval o X.env) = eval o X.env := by rfl) (hline : (apos.endLine == pos.line) = true := by rfl) : eW X (.Call (.Attribute o "clear" apos) [] [] pos) σ H Q :=
  e_bm0 PySem.F.plainAttrs_list PySem.F.slot_list_clear PySem.F.type_list_clear h hbase hline
theorem m_clear {X : Cx} {H : Hp} {Q : VK} {l : Addr} {xs : List V} (h : H l = some (.lst xs)) (q : ∀ H2, H2 l = some (.lst []) → (∀ b, b ≠ l → H2 b = H b) → Q .non H2) : mW X "list.clear" (.ref l) [] H Q :=
  mI mt_clear ⟨l, _, rfl, rfl, h, q _ upd_same fun b hb => upd_ne hb⟩
theorem j_keysT {X : Cx} {σ : L2.St} {H : Hp} {R : It → Hp → Prop} {it tg : Expr} (h : eW X it σ H fun x H1 => ∃ d o kvs, x = .ref d ∧ H1 d = some (.frz o (.dT kvs)) ∧ R (Itkt d o kvs) H1) : jW X tg it σ H R :=
  jI (pi_keys PEw) (eMono h fun x H1 ⟨d, o, kvs, e, k, q⟩ => ⟨d, o, e, .inr ⟨kvs, k, q⟩⟩)
theorem k_lenDT {X : Cx} {H : Hp} {Q : VK} {d : Addr} {kvs : List (List Key × V)} (h : H d = some (.dT kvs)) (q : Q (.int ((kvs.length : Nat) : Int)) H) : kW X (.builtin "len") [.ref d] H Q := kI call_len_dT ⟨_, _, rfl, h, q⟩
/-! ### max(xs, default=d) -/
theorem depthAll_ints : ∀ l : List Int, PyData.depthAll (l.map PyData.int) = 0
  | [] => rfl
  | _ :: l => by
    show max 0 (PyData.depthAll (l.map PyData.int)) = 0
    rw [depthAll_ints l]
    rfl
theorem alike_ints (l : List Int) : PySem.W.AlikeAll (l.map PyData.int) := ⟨fun x hx y hy => by
  obtain ⟨i, _, rfl⟩ := List.mem_map.mp hx
  obtain ⟨j, _, rfl⟩ := List.mem_map.mp hy
  rfl, fun x hx e => by
  obtain ⟨i, _, rfl⟩ := List.mem_map.mp hx
  cases e⟩
def rMaxDf (K : PySem.W.Frag) : List V → List V → Hp → VK → Prop := fun vs zs H Q => ∃ (p : Addr) (ns : List Int) (y : V), vs = [.ref p] ∧ zs = [y] ∧ SqL K H p (ns.map V.int) ∧ (ns = [] → Q y H) ∧ ∀ n ns', ns = n :: ns' → Q (.int (ns'.foldl max n)) H
theorem cr_maxDf {X : Cx} (hc : X.calm = true) (hu : X.A.units + 64 < cLine) : CallRK X (.builtin "max") [Str.ofString "default"] (rMaxDf X.K) := by
  intro pins s σ H vs zs us ws Q I r rz h
  obtain ⟨p, ns, y, rfl, rfl, hs, q0, q1⟩ := h
  obtain rfl := Vals.ref1 r
  obtain ⟨w1, rfl, e1⟩ := vals1 rz
  obtain ⟨its, rv, hl, hz⟩ := I.list hs
  obtain ⟨as, rs⟩ := Dp.readsAll I (ns.map .int) _ _ (dp_ints ns) rv
  show wpAny _ _ (call (.builtin "max") [.ref p] [(Str.ofString "default", w1)]) _ _ _
  refine PySem.W.max_list_default (vs := its.toArray) (I.ok.hd hc) hl.isList rs (alike_ints ns) (by rw [depthAll_ints]; omega) (fun e h' tk hk => ⟨y, H, I.kept (t' := tk) hk, e1, q0 (by cases ns with | nil => rfl | cons a l => cases e)⟩) fun z zs' i v h' tk bs e hv rd hk => ?_
  cases ns with
  | nil => cases e
  | cons n ns' =>
    cases e
    rw [PySem.W.maxD_ints] at rd
    cases rd
    exact ⟨.int (ns'.foldl max n), H, I.kept (t' := tk) hk, ⟨_, rfl⟩, q1 n ns' rfl⟩
theorem e_maxDf {X : Cx} {σ : L2.St} {H : Hp} {Q : VK} {mg : Str → Option Value} {e d : Expr} {pos p2 kpos : Pos} [cc : CxC X] [cm : CxM X mg] [g : Gn mg "max" none] (hu : X.A.units + 64 < cLine) (h : eW X e σ H fun x H1 => eW X d σ H1 fun y H2 => ∃ p ns, x = .ref p ∧ SqL X.K H2 p (ns.map V.int) ∧ (ns = [] → Q y H2) ∧ ∀ n ns', ns = n :: ns' → Q (.int (ns'.foldl max n)) H2) (hg : Gl X "max" := by rfl) (hs1 : starEach [e] X.env = (false, eval e X.env) :: starEach [] X.env := by rfl)
    (he : backTo pos (starEach [e] X.env) = (false, eval e X.env) :: backTo pos (starEach [] X.env) := by rfl) (hpl : (backTo pos (starEach [e] X.env)).any (·.1) = false := by rfl)
    (hall : (backToKw pos (keywordEach [⟨some (Str.ofString "default"), d, kpos⟩] X.env)).all (·.1.isSome) = true := by rfl) (hnone : (backToKw pos (keywordEach [⟨some (Str.ofString "default"), d, kpos⟩] X.env)).any (·.1.isNone) = false := by rfl) (hks : (backToKw pos (keywordEach [⟨some (Str.ofString "default"), d, kpos⟩] X.env)).filterMap (·.1) = [Str.ofString "default"] := by rfl) : eW X (.Call (.Name "max" p2) [e] [⟨some (Str.ofString "default"), d, kpos⟩] pos) σ H Q :=
  eI (pe_callBK (cr_maxDf cc.h hu) hg (by rw [cm.h]; exact g.h) (by decide +kernel) (pa_cons PEw pa_nil hs1) (pk_cons PEw pk_nil) (he := he) (hpl := hpl) (hall := hall) (hnone := hnone) (hks := hks)) (eMono h fun x H1 q => eMono q fun y H2 ⟨p, ns, e1, e2, e3, e4⟩ => ⟨p, ns, y, by rw [e1], rfl, e2, e3, e4⟩)
/-! ### a dict display of one pair, the key a tuple; list.pop(0) -/
section
open PySem PySem.Spec PyProof.Rows
theorem pe_dispT1 {X : Cx} {pos : Pos} {a b : Expr} {ta tb : TE} (hu : X.A.units + 1 < cLine) (ha : PE X a ta) (hb : PE X b tb) : PE X (.Dict [some a] [b] pos) (fun σ H Q => ∀ p, H p = none → tPairs [(ta, tb)] σ (upd H p (.dT [])) fun ps H2 => H2 p = some (.dT []) ∧ ∃ (k : List Key) (c : Addr) (y : V), ps = [(.ref c, y)] ∧ H2 c = some (.tup (k.map kV)) ∧ Q (.ref p) (upd H2 p (.dT (putK [] k y)))) := by
  refine ⟨fun pins s σ H Q I q => ?_⟩
  have hn := I.hok.fresh (Nat.le_refl s.heap.objs.size)
  have I1 := I.laid (a := s.heap.objs.size) (o := .dT []) (h' := s.heap.push { cls := .type "dict", data := .dict #[] }) (t' := s.toks) (fun _ _ q => Heap.get?_push_of_some _ q) (Nat.le_refl _) (dt_empty s.heap I.big)
  rw [arm_eval_Dict, zip_pairTrees [some a] [b] X.env pos rfl rfl, dictDisplay_pairs (pairTrees [some a] [b] X.env pos) (fun z => nomatch z) (by show 1 < 17; decide)]
  refine wpAny_bind (wpAny_standAt (wpAny_bind (wpAny_subDictH (knd := tupleKind (mixKind X.prog X.w)) (Q := fun d s' => wpAny (model X.prog X.w) X.A (pure (Value.ref d)) _ X.xe s') (by show X.A.units < cLine; omega) (by show 1 ≤ 15; decide) ?_)))
  refine thn ((pps_cons ha hb pps_nil).run pins _ σ _ (fun ps H2 => H2 s.heap.objs.size = some (.dT []) ∧ ∃ (k : List Key) (c : Addr) (y : V), ps = [(.ref c, y)] ∧ H2 c = some (.tup (k.map kV)) ∧ Q (.ref s.heap.objs.size) (upd H2 s.heap.objs.size (.dT (putK [] k y)))) I1 ?_) fun ws s2 ⟨ps, H2, I2, rel, e, k, c, y, ep, ec, q2⟩ => ?_
  · exact q _ hn
  subst ep
  obtain ⟨z, hd, xs, r0, dd⟩ := dt_of I2.hok e
  cases r0
  obtain ⟨u1, w1, rfl, r1, r2⟩ : ∃ u1 w1, ws = [(u1, w1)] ∧ RelV (.ref c) u1 ∧ RelV y w1 := by
    cases rel with
    | cons hq t => cases t; exact ⟨_, _, rfl, hq.1, hq.2⟩
  cases (show u1 = Value.ref c from r1)
  refine ⟨[(k, c, w1)], ⟨rfl, rfl, key_of I2.hok ec, trivial⟩, dd, fun h' tk dd' hs => wpAny_pure ?_⟩
  obtain ⟨q, es, ep, hq, h2, h3, h4, _, h5⟩ := dd'
  have hput : KT H2 (putK [] k y) (storedAllH [] [(k, c, w1)]) := KT.put (kvs := []) (xs := []) .nil k ec r2
  refine ⟨.ref s.heap.objs.size, _, d_write (ob := .dT (putK [] k y)) I2 (by rw [e]; exact True.intro) hs ⟨q, hq⟩ ⟨(by rw [sizeLine_eq]; show 1 ≤ _; decide), hd, _, hput.keeps fun c ys ec => ?_, q, es, ep, hq, h2, h3, h4, h5⟩, rfl, q2⟩
  rw [upd_ne (ne_of ec e (fun z => nomatch z))]
  exact ec
theorem e_dctT1 {X : Cx} {σ : L2.St} {H : Hp} {Q : VK} {pos : Pos} {a b : Expr} (hu : X.A.units + 1 < cLine) (h : ∀ p H', Same H H' → H p = none → H' p = some (.dT []) → (∀ b, b ≠ p → H' b = H b) → eW X a σ H' fun x H1 => eW X b σ H1 fun y H2 => H2 p = some (.dT []) ∧ ∃ (k : List Key) (c : Addr), x = .ref c ∧ H2 c = some (.tup (k.map kV)) ∧ ∀ H3, H3 p = some (.dT [(k, y)]) → (∀ b, b ≠ p → H3 b = H2 b) → Q (.ref p) H3) : eW X (.Dict [some a] [b] pos) σ H Q :=
  eI (pe_dispT1 hu PEw PEw) fun p hp => eMono (h p _ (sameU hp) hp upd_same fun _ hb => upd_ne hb) fun x H1 h1 => eMono h1 fun y H2 ⟨e, k, c, ek, ec, q⟩ => ⟨e, k, c, y, by rw [ek], ec, q _ upd_same fun _ hb => upd_ne hb⟩
theorem m_pop0 {X : Cx} {H : Hp} {Q : VK} {l : Addr} {x : V} {xs : List V} (h : H l = some (.lst (x :: xs))) (q : ∀ H2, H2 l = some (.lst xs) → (∀ b, b ≠ l → H2 b = H b) → Q x H2) : mW X "list.pop" (.ref l) [.int 0] H Q :=
  mI mt_popAt ⟨l, _, 0, 0, x, rfl, rfl, h, by decide, by decide, by unfold seqIndex?; simp, rfl, q _ (by rw [List.eraseIdx_cons_zero]; exact upd_same) fun b hb => upd_ne hb⟩
theorem e_popA {X : Cx} {σ : L2.St} {H : Hp} {Q : VK} {o e : Expr} {pos apos : Pos} (h : eW X o σ H fun x H1 => tyV X.K "list" x H1 ∧ aW X [e] σ H1 fun xs H2 => mW X "list.pop" x xs H2 Q) (hbase : attributeBase o "pop" X.env (eval o X.env) = eval o X.env := by rfl)
    (hfew : ((backTo pos (starEach [e] X.env)).all (fun x => !x.1) && (backToKw pos (keywordEach [] X.env)).all (fun x => x.1.isSome) && decide ([e].length + ([] : List Keyword).length + (if ([] : List Keyword).isEmpty then 0 else 1) < 30)) = true := by rfl)
    (hline : (apos.endLine == pos.line) = true := by rfl) (hs : starEach [e] X.env = (false, eval e X.env) :: starEach [] X.env := by rfl) : eW X (.Call (.Attribute o "pop" apos) [e] [] pos) σ H Q :=
  e_bm PySem.F.plainAttrs_list PySem.F.slot_list_pop PySem.F.type_list_pop h hbase hfew hline hs rfl
end
/-! int * tuple -/
theorem int_mul_tuple (a : Int) (t : Tok) (l : Addr) (items : Array Value) (n : Nat) (dd : Option Addr) (sl : Array (Option Value)) :
    Meets (Builtin.«int.__mul__» ⟨[.int a t, .ref l], []⟩) (fun _ R s => s.heap.get? l = some { cls := .type "tuple", dict := dd, data := .seq items n, slots := sl } ∧ R (.ok (.ret Value.notImplemented)) s) :=
  .of_wp fun prog w A R s h => by obtain ⟨hp, g, d, tk, os⟩ := s; obtain ⟨hl, h⟩ := h; wp_walk using wpAny_loadPart' hl; exact ⟨_, rfl, h⟩
theorem op_repTL {X : Cx} : OpR X (binaryOp .Mult) (fun x y H Q => rRepT X.K y x H Q) := by
  intro pins s σ H x y v u Q I rx ry h
  obtain ⟨l, k, xs, rfl, rfl, hT, hne, h1, h2, hz, q⟩ := h
  cases ry
  obtain ⟨t, rfl⟩ := rx
  obtain ⟨its, r, ⟨⟨cls, dd, data, sl⟩, ho, hc, n, hd⟩, hs⟩ := I.tuple hT
  simp only at hc hd
  subst hc hd
  have hle : its.length = xs.length := r.length.symm
  have hn : its ≠ [] := fun e => hne (by
    rw [e] at hle
    exact List.eq_nil_of_length_eq_zero hle.symm)
  have hi : its.toArray.isEmpty = false := by
    cases its with
    | nil => exact absurd rfl hn
    | cons a b => rfl
  have hsz0 : its.toArray.size = xs.length := by rw [List.size_toArray, hle]
  have hm : ((its.toArray.size : Nat) : Int) * k ≤ 1000000 := by
    rw [hsz0]
    have a1 : ((xs.length : Nat) : Int) * k ≤ 1000 * k := Int.mul_le_mul_of_nonneg_right (by omega) (by omega)
    omega
  have flen : (List.replicate k.toNat its).flatten.length ≤ sizeLine := by
    rw [PyProof.Rows.lm_len_rep_flat, hle, sizeLine_eq]
    have a1 : k.toNat * xs.length ≤ 1000 * 1000 := Nat.mul_le_mul (by omega) hz
    omega
  have c0 : (decide (k < -(2 ^ 63)) || decide (k ≥ 2 ^ 63)) = false := by
    rw [decide_eq_false (by omega), decide_eq_false (by omega)] <;> rfl
  have c1 : (its.toArray.isEmpty || k == 1) = false := by
    rw [hi, Bool.false_or]
    exact beq_eq_false_iff_ne.mpr (by omega)
  have c2 : (decide (k ≤ 0) || its.toArray.isEmpty) = false := by
    rw [hi, Bool.or_false]
    exact decide_eq_false (by omega)
  have c4 : Builtin.Tuple.tupleTooMany (((its.toArray.size : Nat) : Int) * k) = false := by
    unfold Builtin.Tuple.tupleTooMany
    rw [sizeLine_eq]
    exact decide_eq_false (by omega)
  refine lm_binaryOp_repeat_right (T := "tuple") (U := "int") (by decide) (fun s' => typeIs_int s' k t) ⟨_, ho, rfl⟩ F.fills_int_mul noFill_tuple_mul F.slot_int_mul lm_noRepeat_int repeat_tuple F.slot_int_index.lookup
    (call_meets F.slot_int_mul (typeIs_int s k t) F.entry_int_mul (F.args_int_mul_2 _ _) (int_mul_tuple k t l its.toArray n dd sl)
      ⟨ho, rfl, ⟨_, ho, rfl⟩, call_meets F.slot_tuple_mul ⟨_, ho, rfl⟩ F.entry_tuple_mul (F.args_tuple_mul_2 _ _) (tuple_mulW l its.toArray n dd sl k t c0 c1 c2 (by omega) c4 (by rw [size_rep, List.size_toArray]; exact flen)) ⟨ho, ?_⟩⟩)
  rw [size_rep]
  refine ⟨.ref s.heap.objs.size, _, I.laid (t' := s.toks) (o := .tup (List.replicate k.toNat xs).flatten) (fun b ob q => Heap.get?_push_of_some _ q) (Nat.le_refl _) ?_, rfl, q _ (I.hok.fresh (Nat.le_refl _))⟩
  exact ⟨by rw [PyProof.Rows.lm_len_rep_flat, sizeLine_eq]; have a1 : k.toNat * xs.length ≤ 1000 * 1000 := Nat.mul_le_mul (by omega) hz; omega, _, r.rep k.toNat, IsTup.new _ _⟩
theorem o_repTL {X : Cx} {H : Hp} {Q : VK} {p : Addr} {xs : List V} {k : Int} (h : H p = some (.tup xs)) (h0 : xs ≠ []) (h1 : 2 ≤ k) (h2 : k ≤ 1000) (hz : xs.length ≤ 1000) (q : ∀ t H2, Same H H2 → H t = none → H2 t = some (.tup (List.replicate k.toNat xs).flatten) → Q (.ref t) H2) : oW X (binaryOp .Mult) (.int k) (.ref p) H Q :=
  oI op_repTL ⟨p, k, xs, rfl, rfl, SqT.of h, h0, h1, h2, hz, fun t ht => q t _ (sameU ht) ht upd_same⟩
end G

namespace Lw
open PySem PySem.Spec PyProof.Rows L2 TL G
local macro_rules | `(tactic| kby_none) => `(tactic| first | exact Same.refl _ | assumption | exact Same.tr' (by assumption) (by kby_none))
local macro_rules | `(tactic| ki_room) => `(tactic| first | assumption | exact Same.at' (by assumption) (by ki_room))
local macro_rules | `(tactic| kt_chr) => `(tactic| first | assumption | exact Th.non | exact Th.int _ | exact Th.bl _ | exact Same.th' (by assumption) (by kt_chr) | exact Same.thA' (by assumption) (by kt_chr))
local macro_rules | `(tactic| kpc_check) => `(tactic| first | decide +kernel | (simp only [sizeLine_eq]; omega) | omega)
local macro_rules | `(tactic| kl_some) => `(tactic| first | assumption | exact SqL.of (by ki_room) | exact Same.seq' (by assumption) (by kl_some))
local macro_rules | `(tactic| k_units) => `(tactic| first | assumption | exact SqT.of (by ki_room) | exact Same.seqT' (by assumption) (by k_units))
local macro_rules | `(tactic| kl_room) => `(tactic| first | assumption | exact SqT.of (by ki_room) | exact SqL.of (by ki_room) | kl_some | k_units)
local macro_rules | `(tactic| units_room1) => `(tactic| first | assumption | grind [Same])
local macro_rules | `(tactic| wrow_post) => `(tactic| first | assumption | (intro b9 o9 h9; grind [Same]))
local macro_rules | `(tactic| tupd_mem) => `(tactic| first | assumption | (intro h9; grind [Same]))
local macro_rules | `(tactic| wp_step) => `(tactic| repeat first | ((with_reducible refine is_ite ?_); first | (with_reducible refine iteT ?_) | (with_reducible refine iteF ?_) | ((with_reducible refine is_iteD ?_); first | refine iteDT (by first | with_reducible rfl | decide +kernel) ?_ | refine iteDF (by first | exact ref_ne_non | exact int_ne_non | exact str_ne_non | exact bl_ne_non | decide +kernel) ?_) | ((with_reducible refine is_iteND ?_); first | refine iteNDF (by first | with_reducible rfl | decide +kernel) ?_ | refine iteNDT (by first | exact ref_ne_non | exact int_ne_non | exact str_ne_non | exact bl_ne_non | decide +kernel) ?_) | ((fail_if_success (with_reducible refine is_iteD ?_)); (fail_if_success (with_reducible refine is_iteND ?_)); first | refine iteT ?_ | refine iteF ?_)) | ((fail_if_success (with_reducible refine is_ite ?_)); first | (refine is_e ?_; first | refine e_var rfl ?_ | refine e_int ?_ | refine e_str ?_ | refine e_bl ?_ | refine e_non ?_ | refine e_bin ?_ | refine e_slice ?_ | refine e_ix ?_ | refine e_isN ?_ | refine e_notN ?_ | refine e_cmp ?_ | refine e_callB ?_ | refine e_listRev ?_ | refine e_callTy ?_ | refine e_globR ?_ | refine e_globI ?_ | refine e_globS ?_ | refine e_ty ?_ | refine e_neg ?_ | refine e_not ?_ | refine e_one ?_ | refine e_ifE ?_ | refine e_tupN ?_ | refine e_lstN ?_ | refine e_dct0 ?_) | (refine is_o ?_; first | (with_reducible refine o_add ?_) | (with_reducible refine o_sub ?_) | ((with_reducible refine is_bo (op := .Mod) ?_); refine o_mod (by decide) ?_) | ((with_reducible refine is_bo (op := .FloorDiv) ?_); refine o_div ⟨by decide, by decide⟩ ?_) | (with_reducible refine o_eqI ?_) | (with_reducible refine o_neI ?_) | (with_reducible refine o_eqS ?_) | (with_reducible refine o_neS ?_) | (with_reducible refine o_lt ?_) | (with_reducible refine o_le ?_) | (with_reducible refine o_gt ?_) | (with_reducible refine o_ge ?_) | (with_reducible refine o_p60 ?_) | (with_reducible refine o_p30 ?_) | ((with_reducible refine is_bo (op := .Pow) ?_); refine o_pow ⟨by decide, by decide, by decide⟩ ?_) | (with_reducible refine o_leS ?_) | (with_reducible refine o_ltS ?_) | (with_reducible refine o_inC ?_) | (with_reducible refine o_niC ?_) | (with_reducible refine o_eqB ?_) | (with_reducible refine o_neB ?_)) | (refine is_a ?_; first | refine a_cons ?_ | refine a_nil ?_) | (refine is_b ?_; first | refine b_cons ?_ | refine b_nil ?_) | (refine is_p ?_; first | refine p_none ?_ | refine p_some ?_) | (refine is_s ?_; first | refine s_set ?_ | refine s_if ?_ | refine s_ret ?_ | refine s_expr ?_ | refine s_retN ?_ | refine s_brk ?_ | refine s_cont ?_ | refine s_pass ?_ | refine s_augA rfl ?_) | (refine is_t ?_; first | refine t_isN ?_ | refine t_notN ?_ | refine t_cmp ?_ | refine t_chain ?_ | refine t_not ?_ | refine t_and ?_ | refine t_or ?_ | refine t_val ?_) | (refine is_c ?_; first | refine c_and1 ?_ | refine c_or1 ?_ | refine c_and ?_ | refine c_or ?_) | (refine is_g ?_; first | refine g_name ?_ | refine g_tup ⟨_, _, rfl, (by k_units), (by rfl), ?_⟩ | refine g_lst ⟨_, _, rfl, (by kl_some), (by rfl), ?_⟩) | (refine is_h ?_; first | refine h_cons ?_ | refine h_nil ?_) | (refine is_k ?_; first | refine k_min ?_ | refine k_max ?_ | refine k_ordC ?_) | (refine is_and ?_; refine ⟨rfl, ?_⟩) | (refine is_ex ?_; first | refine ⟨_, rfl, ?_⟩ | refine ⟨_, _, rfl, ?_⟩ | refine ⟨_, _, _, rfl, ?_⟩ | refine ⟨_, _, rfl, rfl, ?_⟩ | refine ⟨_, _, _, rfl, rfl, rfl, ?_⟩ | refine ⟨_, _, _, _, rfl, ?_⟩ | refine ⟨_, _, _, _, _, rfl, ?_⟩ | refine ⟨_, _, _, _, _, _, rfl, ?_⟩)))
local macro_rules | `(tactic| tm_side) => `(tactic| repeat first | ((with_reducible refine is_ite ?_); first | (with_reducible refine iteT ?_) | (with_reducible refine iteF ?_) | ((with_reducible refine is_iteD ?_); first | refine iteDT (by first | with_reducible rfl | decide +kernel) ?_ | refine iteDF (by first | exact ref_ne_non | exact int_ne_non | exact str_ne_non | exact bl_ne_non | decide +kernel) ?_) | ((with_reducible refine is_iteND ?_); first | refine iteNDF (by first | with_reducible rfl | decide +kernel) ?_ | refine iteNDT (by first | exact ref_ne_non | exact int_ne_non | exact str_ne_non | exact bl_ne_non | decide +kernel) ?_) | ((fail_if_success (with_reducible refine is_iteD ?_)); (fail_if_success (with_reducible refine is_iteND ?_)); first | refine iteT ?_ | refine iteF ?_)) | ((fail_if_success (with_reducible refine is_ite ?_)); first | (refine is_e ?_; first | refine e_var rfl ?_ | refine e_int ?_ | refine e_str ?_ | refine e_bl ?_ | refine e_non ?_ | refine e_bin ?_ | refine e_slice ?_ | refine e_ix ?_ | refine e_isN ?_ | refine e_notN ?_ | refine e_cmp ?_ | refine e_callB ?_ | refine e_listRev ?_ | refine e_callTy ?_ | refine e_globR ?_ | refine e_globI ?_ | refine e_globS ?_ | refine e_ty ?_ | refine e_neg ?_ | refine e_not ?_ | refine e_one ?_ | refine e_ifE ?_ | refine e_tupN ?_ | refine e_lstN ?_ | refine e_dct0 ?_ | (refine is_call ?_; top_name) | (refine is_meth ?_; kpc_turns) | refine e_append ?_ | refine e_and ?_ | refine e_or ?_ | (refine is_attr ?_; refine e_fldV rfl (by ki_room) rfl ?_)) | (refine is_o ?_; first | (with_reducible refine o_add ?_) | (with_reducible refine o_sub ?_) | ((with_reducible refine is_bo (op := .Mod) ?_); refine o_mod (by decide) ?_) | ((with_reducible refine is_bo (op := .FloorDiv) ?_); refine o_div ⟨by decide, by decide⟩ ?_) | (with_reducible refine o_eqI ?_) | (with_reducible refine o_neI ?_) | (with_reducible refine o_eqS ?_) | (with_reducible refine o_neS ?_) | (with_reducible refine o_lt ?_) | (with_reducible refine o_le ?_) | (with_reducible refine o_gt ?_) | (with_reducible refine o_ge ?_) | (with_reducible refine o_p60 ?_) | (with_reducible refine o_p30 ?_) | ((with_reducible refine is_bo (op := .Pow) ?_); refine o_pow ⟨by decide, by decide, by decide⟩ ?_) | (with_reducible refine o_leS ?_) | (with_reducible refine o_ltS ?_) | (with_reducible refine o_inC ?_) | (with_reducible refine o_niC ?_) | (with_reducible refine o_eqB ?_) | (with_reducible refine o_neB ?_)) | (refine is_a ?_; first | refine a_cons ?_ | refine a_nil ?_) | (refine is_b ?_; first | refine b_cons ?_ | refine b_nil ?_) | (refine is_p ?_; first | refine p_none ?_ | refine p_some ?_) | (refine is_s ?_; first | refine s_set ?_ | refine s_if ?_ | refine s_ret ?_ | refine s_expr ?_ | refine s_retN ?_ | refine s_brk ?_ | refine s_cont ?_ | refine s_pass ?_ | refine s_augA rfl ?_ | refine s_asgT ?_ | (refine is_raise ?_; top_raise)) | (refine is_t ?_; first | refine t_isN ?_ | refine t_notN ?_ | refine t_cmp ?_ | refine t_chain ?_ | refine t_not ?_ | refine t_and ?_ | refine t_or ?_ | refine t_val ?_) | (refine is_c ?_; first | refine c_and1 ?_ | refine c_or1 ?_ | refine c_and ?_ | refine c_or ?_) | (refine is_g ?_; first | refine g_name ?_ | refine g_tup ⟨_, _, rfl, (by k_units), (by rfl), ?_⟩ | refine g_lst ⟨_, _, rfl, (by kl_some), (by rfl), ?_⟩) | (refine is_h ?_; first | refine h_cons ?_ | refine h_nil ?_) | (refine is_k ?_; first | refine k_min ?_ | refine k_max ?_ | refine k_ordC ?_ | refine k_lenL (by kl_some) ?_ | refine k_lenT (by k_units) ?_ | refine k_lenS (by kpc_check) ?_) | (refine is_and ?_; refine ⟨rfl, ?_⟩) | (refine is_ex ?_; first | refine ⟨_, rfl, ?_⟩ | refine ⟨_, _, rfl, ?_⟩ | refine ⟨_, _, _, rfl, ?_⟩ | refine ⟨_, _, rfl, rfl, ?_⟩ | refine ⟨_, _, _, rfl, rfl, rfl, ?_⟩ | refine ⟨_, _, _, _, rfl, ?_⟩ | refine ⟨_, _, _, _, _, rfl, ?_⟩ | refine ⟨_, _, _, _, _, _, rfl, ?_⟩) | ((first | (with_reducible refine is_ixP ?_) | (with_reducible refine is_ixN ?_)); first | refine i_tup (by k_units) rfl ?_ | refine i_lst (by kl_some) rfl ?_ | refine i_tup (by k_units) (atI_nat (by decide) rfl) ?_ | refine i_lst (by kl_some) (atI_nat (by decide) rfl) ?_) | intro (_ : Addr) _ _ _ _ _))
local macro_rules | `(tactic| kxs_still) => `(tactic| repeat first | ((with_reducible refine is_ite ?_); first | (with_reducible refine iteT ?_) | (with_reducible refine iteF ?_) | ((with_reducible refine is_iteD ?_); first | refine iteDT (by first | with_reducible rfl | decide +kernel) ?_ | refine iteDF (by first | exact ref_ne_non | exact int_ne_non | exact str_ne_non | exact bl_ne_non | decide +kernel) ?_ | refine iteDT (by omega) ?_ | refine iteDF (by omega) ?_) | ((with_reducible refine is_iteND ?_); first | refine iteNDF (by first | with_reducible rfl | decide +kernel) ?_ | refine iteNDT (by first | exact ref_ne_non | exact int_ne_non | exact str_ne_non | exact bl_ne_non | decide +kernel) ?_ | refine iteNDF (by omega) ?_ | refine iteNDT (by omega) ?_) | ((fail_if_success (with_reducible refine is_iteD ?_)); (fail_if_success (with_reducible refine is_iteND ?_)); first | refine iteBT rfl ?_ | refine iteBF rfl ?_)) | ((fail_if_success (with_reducible refine is_ite ?_)); first | (refine is_e ?_; first | refine e_var rfl ?_ | refine e_int ?_ | refine e_str ?_ | refine e_bl ?_ | refine e_non ?_ | refine e_bin ?_ | refine e_slice ?_ | refine e_ix ?_ | refine e_isN ?_ | refine e_notN ?_ | refine e_cmp ?_ | refine e_callB ?_ | refine e_listRev ?_ | refine e_callTy ?_ | refine e_globR ?_ | refine e_globI ?_ | refine e_globS ?_ | refine e_ty ?_ | refine e_neg ?_ | refine e_not ?_ | refine e_one ?_ | refine e_ifE ?_ | refine e_tupN ?_ | refine e_lstN ?_ | refine e_dct0 ?_ | (refine is_call ?_; top_name) | (refine is_meth ?_; kpc_turns) | refine e_append ?_ | refine e_and ?_ | refine e_or ?_ | (refine is_attr ?_; refine e_fldV rfl (by ki_room) rfl ?_)) | (refine is_o ?_; first | (with_reducible refine o_add ?_) | (with_reducible refine o_sub ?_) | ((with_reducible refine is_bo (op := .Mod) ?_); refine o_mod (by decide) ?_) | ((with_reducible refine is_bo (op := .FloorDiv) ?_); refine o_div ⟨by decide, by decide⟩ ?_) | (with_reducible refine o_eqI ?_) | (with_reducible refine o_neI ?_) | (with_reducible refine o_eqS ?_) | (with_reducible refine o_neS ?_) | (with_reducible refine o_lt ?_) | (with_reducible refine o_le ?_) | (with_reducible refine o_gt ?_) | (with_reducible refine o_ge ?_) | (with_reducible refine o_p60 ?_) | (with_reducible refine o_p30 ?_) | ((with_reducible refine is_bo (op := .Pow) ?_); refine o_pow ⟨by decide, by decide, by decide⟩ ?_) | (with_reducible refine o_leS ?_) | (with_reducible refine o_ltS ?_) | (with_reducible refine o_inC ?_) | (with_reducible refine o_niC ?_) | (with_reducible refine o_eqB ?_) | (with_reducible refine o_neB ?_)) | (refine is_a ?_; first | refine a_cons ?_ | refine a_nil ?_) | (refine is_b ?_; first | refine b_cons ?_ | refine b_nil ?_) | (refine is_p ?_; first | refine p_none ?_ | refine p_some ?_) | (refine is_s ?_; first | refine s_set ?_ | refine s_if ?_ | refine s_ret ?_ | refine s_expr ?_ | refine s_retN ?_ | refine s_brk ?_ | refine s_cont ?_ | refine s_pass ?_ | refine s_augA rfl ?_ | refine s_asgT ?_ | (refine is_raise ?_; top_raise)) | (refine is_t ?_; first | refine t_sg ?_ | refine t_sgE ?_ | refine t_isN ?_ | refine t_notN ?_ | refine t_cmp ?_ | refine t_chain ?_ | refine t_not ?_ | refine t_and ?_ | refine t_or ?_ | refine t_val ?_) | (refine is_c ?_; first | refine c_and1 ?_ | refine c_or1 ?_ | refine c_and ?_ | refine c_or ?_) | (refine is_g ?_; first | refine g_name ?_ | refine g_tup ⟨_, _, rfl, (by k_units), (by rfl), ?_⟩ | refine g_lst ⟨_, _, rfl, (by kl_some), (by rfl), ?_⟩) | (refine is_h ?_; first | refine h_cons ?_ | refine h_nil ?_) | (refine is_k ?_; first | refine k_min ?_ | refine k_max ?_ | refine k_ordC ?_ | refine k_lenL (by kl_some) ?_ | refine k_lenT (by k_units) ?_ | refine k_lenS (by kpc_check) ?_) | ((first | (with_reducible refine xA ?_) | (with_reducible refine xB ?_) | (with_reducible refine xC ?_)); refine ⟨rfl, ?_⟩) | (refine xV1 ?_; refine ⟨_, rfl, ?_⟩) | (refine xL1 ?_; refine ⟨_, rfl, ?_⟩) | (refine xL2 ?_; refine ⟨_, _, rfl, ?_⟩) | (refine xL3 ?_; refine ⟨_, _, _, rfl, ?_⟩) | (refine xL4 ?_; refine ⟨_, _, _, _, rfl, ?_⟩) | (refine xL5 ?_; refine ⟨_, _, _, _, _, rfl, ?_⟩) | (refine xL6 ?_; refine ⟨_, _, _, _, _, _, rfl, ?_⟩) | (refine xL7 ?_; refine ⟨_, _, _, _, _, _, _, rfl, ?_⟩) | ((first | (with_reducible refine is_ixP ?_) | (with_reducible refine is_ixN ?_)); first | refine i_tup (by k_units) rfl ?_ | refine i_lst (by kl_some) rfl ?_ | refine i_tup (by k_units) (atI_nat (by decide) rfl) ?_ | refine i_lst (by kl_some) (atI_nat (by decide) rfl) ?_) | (refine is_i ?_; first | refine i_lst (by kl_some) (atI_nat (by decide) (by assumption)) ?_ | refine i_tup (by k_units) (atI_nat (by decide) (by assumption)) ?_ | refine i_lst (by kl_some) (by assumption) ?_ | refine i_tup (by k_units) (by assumption) ?_)))
local macro_rules | `(tactic| kt_eqs) => `(tactic| repeat first | ((with_reducible refine is_ite ?_); first | (with_reducible refine iteT ?_) | (with_reducible refine iteF ?_) | ((with_reducible refine is_iteD ?_); first | refine iteDT (by first | with_reducible rfl | decide +kernel) ?_ | refine iteDF (by first | exact ref_ne_non | exact int_ne_non | exact str_ne_non | exact bl_ne_non | decide +kernel) ?_ | refine iteDT (by omega) ?_ | refine iteDF (by omega) ?_) | ((with_reducible refine is_iteND ?_); first | refine iteNDF (by first | with_reducible rfl | decide +kernel) ?_ | refine iteNDT (by first | exact ref_ne_non | exact int_ne_non | exact str_ne_non | exact bl_ne_non | decide +kernel) ?_ | refine iteNDF (by omega) ?_ | refine iteNDT (by omega) ?_) | ((fail_if_success (with_reducible refine is_iteD ?_)); (fail_if_success (with_reducible refine is_iteND ?_)); first | refine iteBT rfl ?_ | refine iteBF rfl ?_)) | ((fail_if_success (with_reducible refine is_ite ?_)); first | (refine is_e ?_; first | refine e_var rfl ?_ | refine e_int ?_ | refine e_str ?_ | refine e_bl ?_ | refine e_non ?_ | refine e_bin ?_ | refine e_slice ?_ | refine e_ix ?_ | refine e_isN ?_ | refine e_notN ?_ | refine e_cmp ?_ | refine e_callB ?_ | refine e_listRev ?_ | refine e_callTy ?_ | refine e_globR ?_ | refine e_globI ?_ | refine e_globS ?_ | refine e_ty ?_ | refine e_neg ?_ | refine e_not ?_ | refine e_one ?_ | refine e_ifE ?_ | refine e_tupN ?_ | refine e_lstN ?_ | (refine is_call ?_; top_name) | (refine is_meth ?_; kpc_turns) | refine e_append ?_ | refine e_and ?_ | refine e_or ?_ | (refine is_attr ?_; refine e_fldV rfl (by ki_room) rfl ?_)) | (refine is_o ?_; first | (with_reducible refine o_add ?_) | (with_reducible refine o_sub ?_) | ((with_reducible refine is_bo (op := .Mod) ?_); refine o_mod (by decide) ?_) | ((with_reducible refine is_bo (op := .FloorDiv) ?_); refine o_div ⟨by decide, by decide⟩ ?_) | (with_reducible refine o_eqI ?_) | (with_reducible refine o_neI ?_) | (with_reducible refine o_eqS ?_) | (with_reducible refine o_neS ?_) | (with_reducible refine o_lt ?_) | (with_reducible refine o_le ?_) | (with_reducible refine o_gt ?_) | (with_reducible refine o_ge ?_) | (with_reducible refine o_p60 ?_) | (with_reducible refine o_p30 ?_) | ((with_reducible refine is_bo (op := .Pow) ?_); refine o_pow ⟨by decide, by decide, by decide⟩ ?_) | (with_reducible refine o_leS ?_) | (with_reducible refine o_ltS ?_) | (with_reducible refine o_inC ?_) | (with_reducible refine o_niC ?_) | (with_reducible refine o_eqB ?_) | (with_reducible refine o_neB ?_)) | (refine is_a ?_; first | refine a_cons ?_ | refine a_nil ?_) | (refine is_b ?_; first | refine b_cons ?_ | refine b_nil ?_) | (refine is_p ?_; first | refine p_none ?_ | refine p_some ?_) | (refine is_s ?_; first | refine s_set ?_ | refine s_if ?_ | refine s_ret ?_ | refine s_expr ?_ | refine s_retN ?_ | refine s_brk ?_ | refine s_cont ?_ | refine s_pass ?_ | refine s_augA rfl ?_ | refine s_asgT ?_ | (refine is_raise ?_; top_raise)) | (refine is_t ?_; first | refine t_sg ?_ | refine t_sgE ?_ | refine t_isN ?_ | refine t_notN ?_ | refine t_cmp ?_ | refine t_chain ?_ | refine t_not ?_ | refine t_and ?_ | refine t_or ?_ | refine t_val ?_) | (refine is_c ?_; first | refine c_and1 ?_ | refine c_or1 ?_ | refine c_and ?_ | refine c_or ?_) | (refine is_g ?_; first | refine g_name ?_ | refine g_tup ⟨_, _, rfl, (by k_units), (by rfl), ?_⟩ | refine g_lst ⟨_, _, rfl, (by kl_some), (by rfl), ?_⟩) | (refine is_h ?_; first | refine h_cons ?_ | refine h_nil ?_) | (refine is_k ?_; first | refine k_min ?_ | refine k_max ?_ | refine k_ordC ?_ | refine k_lenL (by kl_some) ?_ | refine k_lenT (by k_units) ?_ | refine k_lenS (by kpc_check) ?_) | ((first | (with_reducible refine xA ?_) | (with_reducible refine xB ?_) | (with_reducible refine xC ?_)); refine ⟨rfl, ?_⟩) | (refine xV1 ?_; refine ⟨_, rfl, ?_⟩) | (refine xL1 ?_; refine ⟨_, rfl, ?_⟩) | (refine xL2 ?_; refine ⟨_, _, rfl, ?_⟩) | (refine xL3 ?_; refine ⟨_, _, _, rfl, ?_⟩) | (refine xL4 ?_; refine ⟨_, _, _, _, rfl, ?_⟩) | (refine xL5 ?_; refine ⟨_, _, _, _, _, rfl, ?_⟩) | (refine xL6 ?_; refine ⟨_, _, _, _, _, _, rfl, ?_⟩) | (refine xL7 ?_; refine ⟨_, _, _, _, _, _, _, rfl, ?_⟩) | ((first | (with_reducible refine is_ixP ?_) | (with_reducible refine is_ixN ?_)); first | refine i_tup (by k_units) rfl ?_ | refine i_lst (by kl_some) rfl ?_ | refine i_tup (by k_units) (atI_nat (by decide) rfl) ?_ | refine i_lst (by kl_some) (atI_nat (by decide) rfl) ?_) | (refine is_i ?_; first | refine i_lst (by kl_some) (atI_nat (by decide) (by assumption)) ?_ | refine i_tup (by k_units) (atI_nat (by decide) (by assumption)) ?_ | refine i_lst (by kl_some) (by assumption) ?_ | refine i_tup (by k_units) (by assumption) ?_)))
local macro_rules | `(tactic| k_here) => `(tactic| repeat first | ((with_reducible refine is_ite ?_); first | (with_reducible refine iteT ?_) | (with_reducible refine iteF ?_) | ((with_reducible refine is_iteD ?_); first | refine iteDT (by first | with_reducible rfl | decide +kernel) ?_ | refine iteDF (by first | exact ref_ne_non | exact int_ne_non | exact str_ne_non | exact bl_ne_non | decide +kernel) ?_ | refine iteDT (by omega) ?_ | refine iteDF (by omega) ?_) | ((with_reducible refine is_iteND ?_); first | refine iteNDF (by first | with_reducible rfl | decide +kernel) ?_ | refine iteNDT (by first | exact ref_ne_non | exact int_ne_non | exact str_ne_non | exact bl_ne_non | decide +kernel) ?_ | refine iteNDF (by omega) ?_ | refine iteNDT (by omega) ?_) | ((fail_if_success (with_reducible refine is_iteD ?_)); (fail_if_success (with_reducible refine is_iteND ?_)); first | refine iteBT rfl ?_ | refine iteBF rfl ?_)) | ((fail_if_success (with_reducible refine is_ite ?_)); first | (refine is_e ?_; first | refine e_var rfl ?_ | refine e_int ?_ | refine e_str ?_ | refine e_bl ?_ | refine e_non ?_ | refine e_bin ?_ | refine e_slice ?_ | refine e_ix ?_ | refine e_isN ?_ | refine e_notN ?_ | refine e_cmp ?_ | refine e_callB ?_ | refine e_listRev ?_ | refine e_callTy ?_ | refine e_globR ?_ | refine e_globI ?_ | refine e_globS ?_ | refine e_ty ?_ | refine e_neg ?_ | refine e_not ?_ | refine e_one ?_ | refine e_ifE ?_ | refine e_tupN ?_ | refine e_lstN ?_ | refine e_dct0 ?_ | (refine is_call ?_; top_name) | (refine is_meth ?_; kpc_turns) | refine e_append ?_ | refine e_and ?_ | refine e_or ?_ | (refine is_attr ?_; refine e_fldV rfl (by ki_room) rfl ?_)) | (refine is_o ?_; first | (with_reducible refine o_add ?_) | (with_reducible refine o_sub ?_) | ((with_reducible refine is_bo (op := .Mod) ?_); refine o_mod (by decide) ?_) | ((with_reducible refine is_bo (op := .FloorDiv) ?_); refine o_div ⟨by decide, by decide⟩ ?_) | (with_reducible refine o_eqI ?_) | (with_reducible refine o_neI ?_) | (with_reducible refine o_eqS ?_) | (with_reducible refine o_neS ?_) | (with_reducible refine o_lt ?_) | (with_reducible refine o_le ?_) | (with_reducible refine o_gt ?_) | (with_reducible refine o_ge ?_) | (with_reducible refine o_p60 ?_) | (with_reducible refine o_p30 ?_) | ((with_reducible refine is_bo (op := .Pow) ?_); refine o_pow ⟨by decide, by decide, by decide⟩ ?_) | (with_reducible refine o_leS ?_) | (with_reducible refine o_ltS ?_) | (with_reducible refine o_inC ?_) | (with_reducible refine o_niC ?_) | (with_reducible refine o_eqB ?_) | (with_reducible refine o_neB ?_)) | (refine is_a ?_; first | refine a_cons ?_ | refine a_nil ?_) | (refine is_b ?_; first | refine b_cons ?_ | refine b_nil ?_) | (refine is_p ?_; first | refine p_none ?_ | refine p_some ?_) | (refine is_s ?_; first | refine s_set ?_ | refine s_if ?_ | refine s_ret ?_ | refine s_expr ?_ | refine s_retN ?_ | refine s_brk ?_ | refine s_cont ?_ | refine s_pass ?_ | refine s_augA rfl ?_ | refine s_asgT ?_ | (refine is_raise ?_; top_raise)) | (refine is_t ?_; first | refine t_sg ?_ | refine t_sgE ?_ | refine t_isN ?_ | refine t_notN ?_ | refine t_cmp ?_ | refine t_chain ?_ | refine t_not ?_ | ((fail_if_success refine t_and ?_); (fail_if_success refine t_or ?_); refine t_val ?_)) | (refine is_c ?_; first | refine c_and1 ?_ | refine c_or1 ?_ | refine c_and ?_ | refine c_or ?_) | (refine is_g ?_; first | refine g_name ?_ | refine g_tup ⟨_, _, rfl, (by k_units), (by rfl), ?_⟩ | refine g_lst ⟨_, _, rfl, (by kl_some), (by rfl), ?_⟩) | (refine is_h ?_; first | refine h_cons ?_ | refine h_nil ?_) | (refine is_k ?_; first | refine k_min ?_ | refine k_max ?_ | refine k_ordC ?_ | refine k_lenL (by kl_some) ?_ | refine k_lenT (by k_units) ?_ | refine k_lenS (by kpc_check) ?_) | ((first | (with_reducible refine xA ?_) | (with_reducible refine xB ?_) | (with_reducible refine xC ?_)); refine ⟨rfl, ?_⟩) | (refine xV1 ?_; refine ⟨_, rfl, ?_⟩) | (refine xL1 ?_; refine ⟨_, rfl, ?_⟩) | (refine xL2 ?_; refine ⟨_, _, rfl, ?_⟩) | (refine xL3 ?_; refine ⟨_, _, _, rfl, ?_⟩) | (refine xL4 ?_; refine ⟨_, _, _, _, rfl, ?_⟩) | (refine xL5 ?_; refine ⟨_, _, _, _, _, rfl, ?_⟩) | (refine xL6 ?_; refine ⟨_, _, _, _, _, _, rfl, ?_⟩) | (refine xL7 ?_; refine ⟨_, _, _, _, _, _, _, rfl, ?_⟩) | ((first | (with_reducible refine is_ixP ?_) | (with_reducible refine is_ixN ?_)); first | refine i_tup (by k_units) rfl ?_ | refine i_lst (by kl_some) rfl ?_ | refine i_tup (by k_units) (atI_nat (by decide) rfl) ?_ | refine i_lst (by kl_some) (atI_nat (by decide) rfl) ?_) | (refine is_i ?_; first | refine i_lst (by kl_some) (atI_nat (by decide) (by assumption)) ?_ | refine i_tup (by k_units) (atI_nat (by decide) (by assumption)) ?_ | refine i_lst (by kl_some) (by assumption) ?_ | refine i_tup (by k_units) (by assumption) ?_)))
local macro_rules | `(tactic| kt_ktab) => `(tactic| repeat first | ((with_reducible refine is_ite ?_); first | (with_reducible refine iteT ?_) | (with_reducible refine iteF ?_) | ((with_reducible refine is_iteD ?_); first | refine iteDT (by first | with_reducible rfl | decide +kernel) ?_ | refine iteDF (by first | exact ref_ne_non | exact int_ne_non | exact str_ne_non | exact bl_ne_non | decide +kernel) ?_ | refine iteDT (by omega) ?_ | refine iteDF (by omega) ?_) | ((with_reducible refine is_iteND ?_); first | refine iteNDF (by first | with_reducible rfl | decide +kernel) ?_ | refine iteNDT (by first | exact ref_ne_non | exact int_ne_non | exact str_ne_non | exact bl_ne_non | decide +kernel) ?_ | refine iteNDF (by omega) ?_ | refine iteNDT (by omega) ?_) | ((fail_if_success (with_reducible refine is_iteD ?_)); (fail_if_success (with_reducible refine is_iteND ?_)); first | refine iteBT rfl ?_ | refine iteBF rfl ?_)) | ((fail_if_success (with_reducible refine is_ite ?_)); first | (refine is_e ?_; first | refine e_var rfl ?_ | refine e_int ?_ | refine e_str ?_ | refine e_bl ?_ | refine e_non ?_ | refine e_bin ?_ | refine e_slice ?_ | refine e_ix ?_ | refine e_isN ?_ | refine e_notN ?_ | refine e_cmp ?_ | refine e_callB ?_ | refine e_listRev ?_ | refine e_callTy ?_ | refine e_globR ?_ | refine e_globI ?_ | refine e_globS ?_ | refine e_ty ?_ | refine e_neg ?_ | refine e_not ?_ | refine e_one ?_ | refine e_ifE ?_ | refine e_tupN ?_ | refine e_lstN ?_ | refine e_dct0 ?_ | (refine is_call ?_; top_name) | (refine is_meth ?_; kpc_turns) | refine e_append ?_ | refine e_and ?_ | refine e_or ?_ | (refine is_attr ?_; refine e_fldV rfl (by ki_room) rfl ?_)) | (refine is_o ?_; first | (with_reducible refine o_add ?_) | (with_reducible refine o_sub ?_) | ((with_reducible refine is_bo (op := .Mod) ?_); refine o_mod (by decide) ?_) | ((with_reducible refine is_bo (op := .FloorDiv) ?_); refine o_div ⟨by decide, by decide⟩ ?_) | (with_reducible refine o_eqI ?_) | (with_reducible refine o_neI ?_) | (with_reducible refine o_eqS ?_) | (with_reducible refine o_neS ?_) | (with_reducible refine o_lt ?_) | (with_reducible refine o_le ?_) | (with_reducible refine o_gt ?_) | (with_reducible refine o_ge ?_) | (with_reducible refine o_p60 ?_) | (with_reducible refine o_p30 ?_) | ((with_reducible refine is_bo (op := .Pow) ?_); refine o_pow ⟨by decide, by decide, by decide⟩ ?_) | (with_reducible refine o_leS ?_) | (with_reducible refine o_ltS ?_) | (with_reducible refine o_inC ?_) | (with_reducible refine o_niC ?_) | (with_reducible refine o_eqB ?_) | (with_reducible refine o_neB ?_)) | (refine is_a ?_; first | refine a_cons ?_ | refine a_nil ?_) | (refine is_b ?_; first | refine b_cons ?_ | refine b_nil ?_) | (refine is_p ?_; first | refine p_none ?_ | refine p_some ?_) | (refine is_s ?_; first | refine s_set ?_ | refine s_if ?_ | refine s_ret ?_ | refine s_expr ?_ | refine s_retN ?_ | refine s_brk ?_ | refine s_cont ?_ | refine s_pass ?_ | refine s_augA rfl ?_ | refine s_asgT ?_ | (refine is_raise ?_; top_raise)) | (refine is_t ?_; first | refine t_sg ?_ | refine t_sgE ?_ | refine t_isN ?_ | refine t_notN ?_ | refine t_cmp ?_ | refine t_chain ?_ | refine t_not ?_ | refine t_and ?_ | refine t_or ?_ | refine t_val ?_) | (refine is_c ?_; first | refine c_and1 ?_ | refine c_or1 ?_ | refine c_and ?_ | refine c_or ?_) | (refine is_g ?_; first | refine g_name ?_ | refine g_tup ⟨_, _, rfl, (by k_units), (by rfl), ?_⟩ | refine g_lst ⟨_, _, rfl, (by kl_some), (by rfl), ?_⟩) | (refine is_h ?_; first | refine h_cons ?_ | refine h_nil ?_) | (refine is_k ?_; first | refine k_min ?_ | refine k_max ?_ | refine k_ordC ?_ | refine k_lenL (by kl_some) ?_ | refine k_lenT (by k_units) ?_ | refine k_lenS (by kpc_check) ?_) | ((first | (with_reducible refine xA ?_) | (with_reducible refine xB ?_) | (with_reducible refine xC ?_)); refine ⟨rfl, ?_⟩) | (refine xV1 ?_; refine ⟨_, rfl, ?_⟩) | (refine xL1 ?_; refine ⟨_, rfl, ?_⟩) | (refine xL2 ?_; refine ⟨_, _, rfl, ?_⟩) | (refine xL3 ?_; refine ⟨_, _, _, rfl, ?_⟩) | (refine xL4 ?_; refine ⟨_, _, _, _, rfl, ?_⟩) | (refine xL5 ?_; refine ⟨_, _, _, _, _, rfl, ?_⟩) | (refine xL6 ?_; refine ⟨_, _, _, _, _, _, rfl, ?_⟩) | (refine xL7 ?_; refine ⟨_, _, _, _, _, _, _, rfl, ?_⟩) | ((first | (with_reducible refine is_ixP ?_) | (with_reducible refine is_ixN ?_)); first | refine i_tup (by k_units) rfl ?_ | refine i_lst (by kl_some) rfl ?_ | refine i_tup (by k_units) (atI_nat (by decide) rfl) ?_ | refine i_lst (by kl_some) (atI_nat (by decide) rfl) ?_) | (refine is_i ?_; first | refine i_lst (by kl_some) (atI_nat (by decide) (by assumption)) ?_ | refine i_tup (by k_units) (atI_nat (by decide) (by assumption)) ?_ | refine i_lst (by kl_some) (by assumption) ?_ | refine i_tup (by k_units) (by assumption) ?_) | intro (_ : Addr) _ _ _ _ _))
local macro_rules | `(tactic| tm_run) => `(tactic| repeat first | ((with_reducible refine is_ite ?_); first | (with_reducible refine iteT ?_) | (with_reducible refine iteF ?_) | ((with_reducible refine is_iteD ?_); first | refine iteDT (by first | with_reducible rfl | decide +kernel) ?_ | refine iteDF (by first | exact ref_ne_non | exact int_ne_non | exact str_ne_non | exact bl_ne_non | decide +kernel) ?_) | ((with_reducible refine is_iteND ?_); first | refine iteNDF (by first | with_reducible rfl | decide +kernel) ?_ | refine iteNDT (by first | exact ref_ne_non | exact int_ne_non | exact str_ne_non | exact bl_ne_non | decide +kernel) ?_) | ((fail_if_success (with_reducible refine is_iteD ?_)); (fail_if_success (with_reducible refine is_iteND ?_)); first | refine iteT ?_ | refine iteF ?_)) | ((fail_if_success (with_reducible refine is_ite ?_)); first | (refine is_e ?_; first | refine e_var rfl ?_ | refine e_int ?_ | refine e_str ?_ | refine e_bl ?_ | refine e_non ?_ | refine e_bin ?_ | refine e_slice ?_ | refine e_ix ?_ | refine e_isN ?_ | refine e_notN ?_ | refine e_cmp ?_ | refine e_callB ?_ | refine e_listRev ?_ | refine e_callTy ?_ | refine e_globR ?_ | refine e_globI ?_ | refine e_globS ?_ | refine e_ty ?_ | refine e_neg ?_ | refine e_not ?_ | refine e_one ?_ | refine e_ifE ?_ | refine e_tupN ?_ | refine e_lstN ?_ | refine e_dct0 ?_ | (refine is_call ?_; top_name) | (refine is_meth ?_; kpc_turns) | refine e_append ?_ | refine e_and ?_ | refine e_or ?_ | (refine is_attr ?_; refine e_fldV rfl (by ki_room) rfl ?_)) | (refine is_o ?_; first | (with_reducible refine o_add ?_) | (with_reducible refine o_sub ?_) | ((with_reducible refine is_bo (op := .Mod) ?_); refine o_mod (by decide) ?_) | ((with_reducible refine is_bo (op := .FloorDiv) ?_); refine o_div ⟨by decide, by decide⟩ ?_) | (with_reducible refine o_eqI ?_) | (with_reducible refine o_neI ?_) | (with_reducible refine o_eqS ?_) | (with_reducible refine o_neS ?_) | (with_reducible refine o_lt ?_) | (with_reducible refine o_le ?_) | (with_reducible refine o_gt ?_) | (with_reducible refine o_ge ?_) | (with_reducible refine o_p60 ?_) | (with_reducible refine o_p30 ?_) | ((with_reducible refine is_bo (op := .Pow) ?_); refine o_pow ⟨by decide, by decide, by decide⟩ ?_) | (with_reducible refine o_leS ?_) | (with_reducible refine o_ltS ?_) | (with_reducible refine o_inC ?_) | (with_reducible refine o_niC ?_) | (with_reducible refine o_eqB ?_) | (with_reducible refine o_neB ?_)) | (refine is_a ?_; first | refine a_cons ?_ | refine a_nil ?_) | (refine is_b ?_; first | refine b_cons ?_ | refine b_nil ?_) | (refine is_p ?_; first | refine p_none ?_ | refine p_some ?_) | (refine is_s ?_; first | refine s_set ?_ | refine s_if ?_ | refine s_ret ?_ | refine s_expr ?_ | refine s_retN ?_ | refine s_brk ?_ | refine s_cont ?_ | refine s_pass ?_ | refine s_augA rfl ?_ | refine s_asgT ?_ | (refine is_raise ?_; top_raise)) | (refine is_t ?_; first | refine t_isN ?_ | refine t_notN ?_ | refine t_cmp ?_ | refine t_chain ?_ | refine t_not ?_ | refine t_and ?_ | refine t_or ?_ | refine t_val ?_) | (refine is_c ?_; first | refine c_and1 ?_ | refine c_or1 ?_ | refine c_and ?_ | refine c_or ?_) | (refine is_g ?_; first | refine g_name ?_ | refine g_tup ⟨_, _, rfl, (by k_units), (by rfl), ?_⟩ | refine g_lst ⟨_, _, rfl, (by kl_some), (by rfl), ?_⟩) | (refine is_h ?_; first | refine h_cons ?_ | refine h_nil ?_) | (refine is_k ?_; first | refine k_min ?_ | refine k_max ?_ | refine k_ordC ?_ | refine k_lenL (by kl_some) ?_ | refine k_lenT (by k_units) ?_ | refine k_lenS (by kpc_check) ?_) | (refine is_and ?_; refine ⟨rfl, ?_⟩) | (refine is_ex ?_; first | refine ⟨_, rfl, ?_⟩ | refine ⟨_, _, rfl, ?_⟩ | refine ⟨_, _, _, rfl, ?_⟩ | refine ⟨_, _, rfl, rfl, ?_⟩ | refine ⟨_, _, _, rfl, rfl, rfl, ?_⟩ | refine ⟨_, _, _, _, rfl, ?_⟩ | refine ⟨_, _, _, _, _, rfl, ?_⟩ | refine ⟨_, _, _, _, _, _, rfl, ?_⟩) | ((first | (with_reducible refine is_ixP ?_) | (with_reducible refine is_ixN ?_)); first | refine i_tup (by k_units) rfl ?_ | refine i_lst (by kl_some) rfl ?_ | refine i_tup (by k_units) (atI_nat (by decide) rfl) ?_ | refine i_lst (by kl_some) (atI_nat (by decide) rfl) ?_)))
def top (i : Nat) : Stmt := PySem.Challenge.pw_forestread_k24_wood_refused.main.body.getD i (.Pass ⟨0, 0, 0, 0⟩)
abbrev s_wall : Stmt := top 0
theorem sc_wall : FnScope ["k"] ["k"] (defScope s_wall) := ⟨rfl, rfl, rfl, by decide +kernel, rfl, by decide +kernel, by decide +kernel⟩
instance : NdN ["k"] := ⟨sc_wall.nd⟩
abbrev X_wall (P : Program) (w : World) (K : PySem.W.Frag) (mg : Str → Option Value) (base : Heap) (f : Addr) (cdv : Value) (A : Around) (outer : List Env) (s : Shared) (H : Hp) (E : XK) : Cx := cxr P w K mg base ["k"] "_wall" s_wall f cdv A outer s H E
abbrev s_is_whole : Stmt := top 16
theorem sc_is_whole : FnScope ["thing"] ["thing"] (defScope s_is_whole) := ⟨rfl, rfl, rfl, by decide +kernel, rfl, by decide +kernel, by decide +kernel⟩
instance : NdN ["thing"] := ⟨sc_is_whole.nd⟩
abbrev X_is_whole (P : Program) (w : World) (K : PySem.W.Frag) (mg : Str → Option Value) (base : Heap) (f : Addr) (cdv : Value) (A : Around) (outer : List Env) (s : Shared) (H : Hp) (E : XK) : Cx := cxr P w K mg base ["thing"] "is_whole" s_is_whole f cdv A outer s H E
abbrev s_may_stand : Stmt := top 17
theorem sc_may_stand : FnScope ["sign"] ["sign"] (defScope s_may_stand) := ⟨rfl, rfl, rfl, by decide +kernel, rfl, by decide +kernel, by decide +kernel⟩
instance : NdN ["sign"] := ⟨sc_may_stand.nd⟩
abbrev X_may_stand (P : Program) (w : World) (K : PySem.W.Frag) (mg : Str → Option Value) (base : Heap) (f : Addr) (cdv : Value) (A : Around) (outer : List Env) (s : Shared) (H : Hp) (E : XK) : Cx := cxr P w K mg base ["sign"] "may_stand" s_may_stand f cdv A outer s H E
abbrev s_is_sign : Stmt := top 18
theorem sc_is_sign : FnScope ["thing"] ["thing"] (defScope s_is_sign) := ⟨rfl, rfl, rfl, by decide +kernel, rfl, by decide +kernel, by decide +kernel⟩
instance : NdN ["thing"] := ⟨sc_is_sign.nd⟩
abbrev X_is_sign (P : Program) (w : World) (K : PySem.W.Frag) (mg : Str → Option Value) (base : Heap) (f : Addr) (cdv : Value) (A : Around) (outer : List Env) (s : Shared) (H : Hp) (E : XK) : Cx := cxr P w K mg base ["thing"] "is_sign" s_is_sign f cdv A outer s H E
abbrev s_is_name : Stmt := top 19
theorem sc_is_name : FnScope ["thing", "sign"] ["thing"] (defScope s_is_name) := ⟨rfl, rfl, rfl, by decide +kernel, rfl, by decide +kernel, by decide +kernel⟩
instance : NdN ["thing", "sign"] := ⟨sc_is_name.nd⟩
abbrev X_is_name (P : Program) (w : World) (K : PySem.W.Frag) (mg : Str → Option Value) (base : Heap) (f : Addr) (cdv : Value) (A : Around) (outer : List Env) (s : Shared) (H : Hp) (E : XK) : Cx := cxr P w K mg base ["thing", "sign"] "is_name" s_is_name f cdv A outer s H E
abbrev s_checked_text : Stmt := top 20
theorem sc_checked_text : FnScope ["thing", "sign"] ["thing"] (defScope s_checked_text) := ⟨rfl, rfl, rfl, by decide +kernel, rfl, by decide +kernel, by decide +kernel⟩
instance : NdN ["thing", "sign"] := ⟨sc_checked_text.nd⟩
abbrev X_checked_text (P : Program) (w : World) (K : PySem.W.Frag) (mg : Str → Option Value) (base : Heap) (f : Addr) (cdv : Value) (A : Around) (outer : List Env) (s : Shared) (H : Hp) (E : XK) : Cx := cxr P w K mg base ["thing", "sign"] "checked_text" s_checked_text f cdv A outer s H E
abbrev s_are_parts : Stmt := top 25
theorem sc_are_parts : FnScope ["thing", "part"] ["thing"] (defScope s_are_parts) := ⟨rfl, rfl, rfl, by decide +kernel, rfl, by decide +kernel, by decide +kernel⟩
instance : NdN ["thing", "part"] := ⟨sc_are_parts.nd⟩
abbrev X_are_parts (P : Program) (w : World) (K : PySem.W.Frag) (mg : Str → Option Value) (base : Heap) (f : Addr) (cdv : Value) (A : Around) (outer : List Env) (s : Shared) (H : Hp) (E : XK) : Cx := cxr P w K mg base ["thing", "part"] "are_parts" s_are_parts f cdv A outer s H E
abbrev s_is_rule : Stmt := top 26
theorem sc_is_rule : FnScope ["thing"] ["thing"] (defScope s_is_rule) := ⟨rfl, rfl, rfl, by decide +kernel, rfl, by decide +kernel, by decide +kernel⟩
instance : NdN ["thing"] := ⟨sc_is_rule.nd⟩
abbrev X_is_rule (P : Program) (w : World) (K : PySem.W.Frag) (mg : Str → Option Value) (base : Heap) (f : Addr) (cdv : Value) (A : Around) (outer : List Env) (s : Shared) (H : Hp) (E : XK) : Cx := cxr P w K mg base ["thing"] "is_rule" s_is_rule f cdv A outer s H E
abbrev s_checked : Stmt := top 27
theorem sc_checked : FnScope ["thing", "rules", "rule"] ["thing"] (defScope s_checked) := ⟨rfl, rfl, rfl, by decide +kernel, rfl, by decide +kernel, by decide +kernel⟩
instance : NdN ["thing", "rules", "rule"] := ⟨sc_checked.nd⟩
abbrev X_checked (P : Program) (w : World) (K : PySem.W.Frag) (mg : Str → Option Value) (base : Heap) (f : Addr) (cdv : Value) (A : Around) (outer : List Env) (s : Shared) (H : Hp) (E : XK) : Cx := cxr P w K mg base ["thing", "rules", "rule"] "checked" s_checked f cdv A outer s H E
abbrev s_rules_by_head : Stmt := top 28
theorem sc_rules_by_head : FnScope ["rules", "by", "k", "rule"] ["rules"] (defScope s_rules_by_head) := ⟨rfl, rfl, rfl, by decide +kernel, rfl, by decide +kernel, by decide +kernel⟩
instance : NdN ["rules", "by", "k", "rule"] := ⟨sc_rules_by_head.nd⟩
abbrev X_rules_by_head (P : Program) (w : World) (K : PySem.W.Frag) (mg : Str → Option Value) (base : Heap) (f : Addr) (cdv : Value) (A : Around) (outer : List Env) (s : Shared) (H : Hp) (E : XK) : Cx := cxr P w K mg base ["rules", "by", "k", "rule"] "rules_by_head" s_rules_by_head f cdv A outer s H E
abbrev s_first_nodes : Stmt := top 30
theorem sc_first_nodes : FnScope ["rules", "signs", "nodes", "sign", "i", "r"] ["rules", "signs"] (defScope s_first_nodes) := ⟨rfl, rfl, rfl, by decide +kernel, rfl, by decide +kernel, by decide +kernel⟩
instance : NdN ["rules", "signs", "nodes", "sign", "i", "r"] := ⟨sc_first_nodes.nd⟩
abbrev X_first_nodes (P : Program) (w : World) (K : PySem.W.Frag) (mg : Str → Option Value) (base : Heap) (f : Addr) (cdv : Value) (A : Around) (outer : List Env) (s : Shared) (H : Hp) (E : XK) : Cx := cxr P w K mg base ["rules", "signs", "nodes", "sign", "i", "r"] "first_nodes" s_first_nodes f cdv A outer s H E
abbrev s_Chart_init : Stmt := inClass (top 31) 0
theorem sc_Chart_init : FnScope ["self", "rules"] ["self", "rules"] (defScope s_Chart_init) := ⟨rfl, rfl, rfl, by decide +kernel, rfl, by decide +kernel, by decide +kernel⟩
instance : NdN ["self", "rules"] := ⟨sc_Chart_init.nd⟩
abbrev X_Chart_init (P : Program) (w : World) (K : PySem.W.Frag) (mg : Str → Option Value) (base : Heap) (f : Addr) (cdv : Value) (A : Around) (outer : List Env) (s : Shared) (H : Hp) (E : XK) : Cx := cxr P w K mg base ["self", "rules"] "Chart.__init__" s_Chart_init f cdv A outer s H E
abbrev s_Chart_offer : Stmt := inClass (top 31) 1
theorem sc_Chart_offer : FnScope ["self", "node"] ["self", "node"] (defScope s_Chart_offer) := ⟨rfl, rfl, rfl, by decide +kernel, rfl, by decide +kernel, by decide +kernel⟩
instance : NdN ["self", "node"] := ⟨sc_Chart_offer.nd⟩
abbrev X_Chart_offer (P : Program) (w : World) (K : PySem.W.Frag) (mg : Str → Option Value) (base : Heap) (f : Addr) (cdv : Value) (A : Around) (outer : List Env) (s : Shared) (H : Hp) (E : XK) : Cx := cxr P w K mg base ["self", "node"] "Chart.offer" s_Chart_offer f cdv A outer s H E
abbrev s_Chart_take_part : Stmt := inClass (top 31) 2
theorem sc_Chart_take_part : FnScope ["self", "part", "i", "j", "r", "d", "begin"] ["self", "part", "i", "j"] (defScope s_Chart_take_part) := ⟨rfl, rfl, rfl, by decide +kernel, rfl, by decide +kernel, by decide +kernel⟩
instance : NdN ["self", "part", "i", "j", "r", "d", "begin"] := ⟨sc_Chart_take_part.nd⟩
abbrev X_Chart_take_part (P : Program) (w : World) (K : PySem.W.Frag) (mg : Str → Option Value) (base : Heap) (f : Addr) (cdv : Value) (A : Around) (outer : List Env) (s : Shared) (H : Hp) (E : XK) : Cx := cxr P w K mg base ["self", "part", "i", "j", "r", "d", "begin"] "Chart.take_part" s_Chart_take_part f cdv A outer s H E
abbrev s_Chart_take_parts : Stmt := inClass (top 31) 3
theorem sc_Chart_take_parts : FnScope ["self", "r", "d", "i", "j", "head", "parts", "worth", "end"] ["self", "r", "d", "i", "j"] (defScope s_Chart_take_parts) := ⟨rfl, rfl, rfl, by decide +kernel, rfl, by decide +kernel, by decide +kernel⟩
instance : NdN ["self", "r", "d", "i", "j", "head", "parts", "worth", "end"] := ⟨sc_Chart_take_parts.nd⟩
abbrev X_Chart_take_parts (P : Program) (w : World) (K : PySem.W.Frag) (mg : Str → Option Value) (base : Heap) (f : Addr) (cdv : Value) (A : Around) (outer : List Env) (s : Shared) (H : Hp) (E : XK) : Cx := cxr P w K mg base ["self", "r", "d", "i", "j", "head", "parts", "worth", "end"] "Chart.take_parts" s_Chart_take_parts f cdv A outer s H E
abbrev s_Chart_take_level : Stmt := inClass (top 31) 4
theorem sc_Chart_take_level : FnScope ["self", "node"] ["self"] (defScope s_Chart_take_level) := ⟨rfl, rfl, rfl, by decide +kernel, rfl, by decide +kernel, by decide +kernel⟩
instance : NdN ["self", "node"] := ⟨sc_Chart_take_level.nd⟩
abbrev X_Chart_take_level (P : Program) (w : World) (K : PySem.W.Frag) (mg : Str → Option Value) (base : Heap) (f : Addr) (cdv : Value) (A : Around) (outer : List Env) (s : Shared) (H : Hp) (E : XK) : Cx := cxr P w K mg base ["self", "node"] "Chart.take_level" s_Chart_take_level f cdv A outer s H E
abbrev s_Chart_rise : Stmt := inClass (top 31) 5
theorem sc_Chart_rise : FnScope ["self", "heads", "node"] ["self"] (defScope s_Chart_rise) := ⟨rfl, rfl, rfl, by decide +kernel, rfl, by decide +kernel, by decide +kernel⟩
instance : NdN ["self", "heads", "node"] := ⟨sc_Chart_rise.nd⟩
abbrev X_Chart_rise (P : Program) (w : World) (K : PySem.W.Frag) (mg : Str → Option Value) (base : Heap) (f : Addr) (cdv : Value) (A : Around) (outer : List Env) (s : Shared) (H : Hp) (E : XK) : Cx := cxr P w K mg base ["self", "heads", "node"] "Chart.rise" s_Chart_rise f cdv A outer s H E
abbrev s_heights_over : Stmt := top 32
theorem sc_heights_over : FnScope ["rules", "signs", "chart", "node"] ["rules", "signs"] (defScope s_heights_over) := ⟨rfl, rfl, rfl, by decide +kernel, rfl, by decide +kernel, by decide +kernel⟩
instance : NdN ["rules", "signs", "chart", "node"] := ⟨sc_heights_over.nd⟩
abbrev X_heights_over (P : Program) (w : World) (K : PySem.W.Frag) (mg : Str → Option Value) (base : Heap) (f : Addr) (cdv : Value) (A : Around) (outer : List Env) (s : Shared) (H : Hp) (E : XK) : Cx := cxr P w K mg base ["rules", "signs", "chart", "node"] "heights_over" s_heights_over f cdv A outer s H E
abbrev s_standing : Stmt := top 33
theorem sc_standing : FnScope ["grammar", "text", "rules"] ["grammar", "text"] (defScope s_standing) := ⟨rfl, rfl, rfl, by decide +kernel, rfl, by decide +kernel, by decide +kernel⟩
instance : NdN ["grammar", "text", "rules"] := ⟨sc_standing.nd⟩
abbrev X_standing (P : Program) (w : World) (K : PySem.W.Frag) (mg : Str → Option Value) (base : Heap) (f : Addr) (cdv : Value) (A : Around) (outer : List Env) (s : Shared) (H : Hp) (E : XK) : Cx := cxr P w K mg base ["grammar", "text", "rules"] "standing" s_standing f cdv A outer s H E
abbrev s_ways_of_parts : Stmt := top 35
theorem sc_ways_of_parts : FnScope ["rules", "heights", "node", "r", "d", "i", "j", "part", "ways", "k"] ["rules", "heights", "node"] (defScope s_ways_of_parts) := ⟨rfl, rfl, rfl, by decide +kernel, rfl, by decide +kernel, by decide +kernel⟩
instance : NdN ["rules", "heights", "node", "r", "d", "i", "j", "part", "ways", "k"] := ⟨sc_ways_of_parts.nd⟩
abbrev X_ways_of_parts (P : Program) (w : World) (K : PySem.W.Frag) (mg : Str → Option Value) (base : Heap) (f : Addr) (cdv : Value) (A : Around) (outer : List Env) (s : Shared) (H : Hp) (E : XK) : Cx := cxr P w K mg base ["rules", "heights", "node", "r", "d", "i", "j", "part", "ways", "k"] "ways_of_parts" s_ways_of_parts f cdv A outer s H E
abbrev s_ways_of_head : Stmt := top 36
theorem sc_ways_of_head : FnScope ["rules", "by", "heights", "node", "name", "i", "j", "ways", "r", "whole"] ["rules", "by", "heights", "node"] (defScope s_ways_of_head) := ⟨rfl, rfl, rfl, by decide +kernel, rfl, by decide +kernel, by decide +kernel⟩
instance : NdN ["rules", "by", "heights", "node", "name", "i", "j", "ways", "r", "whole"] := ⟨sc_ways_of_head.nd⟩
abbrev X_ways_of_head (P : Program) (w : World) (K : PySem.W.Frag) (mg : Str → Option Value) (base : Heap) (f : Addr) (cdv : Value) (A : Around) (outer : List Env) (s : Shared) (H : Hp) (E : XK) : Cx := cxr P w K mg base ["rules", "by", "heights", "node", "name", "i", "j", "ways", "r", "whole"] "ways_of_head" s_ways_of_head f cdv A outer s H E
abbrev s_ways_over : Stmt := top 37
theorem sc_ways_over : FnScope ["rules", "by", "heights", "node"] ["rules", "by", "heights", "node"] (defScope s_ways_over) := ⟨rfl, rfl, rfl, by decide +kernel, rfl, by decide +kernel, by decide +kernel⟩
instance : NdN ["rules", "by", "heights", "node"] := ⟨sc_ways_over.nd⟩
abbrev X_ways_over (P : Program) (w : World) (K : PySem.W.Frag) (mg : Str → Option Value) (base : Heap) (f : Addr) (cdv : Value) (A : Around) (outer : List Env) (s : Shared) (H : Hp) (E : XK) : Cx := cxr P w K mg base ["rules", "by", "heights", "node"] "ways_over" s_ways_over f cdv A outer s H E
abbrev s_Wood_init : Stmt := inClass (top 38) 0
theorem sc_Wood_init : FnScope ["self", "grammar", "text", "heights", "top"] ["self", "grammar", "text"] (defScope s_Wood_init) := ⟨rfl, rfl, rfl, by decide +kernel, rfl, by decide +kernel, by decide +kernel⟩
instance : NdN ["self", "grammar", "text", "heights", "top"] := ⟨sc_Wood_init.nd⟩
abbrev X_Wood_init (P : Program) (w : World) (K : PySem.W.Frag) (mg : Str → Option Value) (base : Heap) (f : Addr) (cdv : Value) (A : Around) (outer : List Env) (s : Shared) (H : Hp) (E : XK) : Cx := cxr P w K mg base ["self", "grammar", "text", "heights", "top"] "Wood.__init__" s_Wood_init f cdv A outer s H E
abbrev s_Wood_reach : Stmt := inClass (top 38) 1
theorem sc_Wood_reach : FnScope ["self", "heights", "by", "ahead", "node", "way"] ["self", "heights"] (defScope s_Wood_reach) := ⟨rfl, rfl, rfl, by decide +kernel, rfl, by decide +kernel, by decide +kernel⟩
instance : NdN ["self", "heights", "by", "ahead", "node", "way"] := ⟨sc_Wood_reach.nd⟩
abbrev X_Wood_reach (P : Program) (w : World) (K : PySem.W.Frag) (mg : Str → Option Value) (base : Heap) (f : Addr) (cdv : Value) (A : Around) (outer : List Env) (s : Shared) (H : Hp) (E : XK) : Cx := cxr P w K mg base ["self", "heights", "by", "ahead", "node", "way"] "Wood.reach" s_Wood_reach f cdv A outer s H E
abbrev s_Wood_told_grammar : Stmt := inClass (top 38) 2
theorem sc_Wood_told_grammar : FnScope ["self"] ["self"] (defScope s_Wood_told_grammar) := ⟨rfl, rfl, rfl, by decide +kernel, rfl, by decide +kernel, by decide +kernel⟩
instance : NdN ["self"] := ⟨sc_Wood_told_grammar.nd⟩
abbrev X_Wood_told_grammar (P : Program) (w : World) (K : PySem.W.Frag) (mg : Str → Option Value) (base : Heap) (f : Addr) (cdv : Value) (A : Around) (outer : List Env) (s : Shared) (H : Hp) (E : XK) : Cx := cxr P w K mg base ["self"] "Wood.told_grammar" s_Wood_told_grammar f cdv A outer s H E
abbrev s_Wood_told_text : Stmt := inClass (top 38) 3
theorem sc_Wood_told_text : FnScope ["self"] ["self"] (defScope s_Wood_told_text) := ⟨rfl, rfl, rfl, by decide +kernel, rfl, by decide +kernel, by decide +kernel⟩
instance : NdN ["self"] := ⟨sc_Wood_told_text.nd⟩
abbrev X_Wood_told_text (P : Program) (w : World) (K : PySem.W.Frag) (mg : Str → Option Value) (base : Heap) (f : Addr) (cdv : Value) (A : Around) (outer : List Env) (s : Shared) (H : Hp) (E : XK) : Cx := cxr P w K mg base ["self"] "Wood.told_text" s_Wood_told_text f cdv A outer s H E
abbrev s_Wood_top : Stmt := inClass (top 38) 4
theorem sc_Wood_top : FnScope ["self"] ["self"] (defScope s_Wood_top) := ⟨rfl, rfl, rfl, by decide +kernel, rfl, by decide +kernel, by decide +kernel⟩
instance : NdN ["self"] := ⟨sc_Wood_top.nd⟩
abbrev X_Wood_top (P : Program) (w : World) (K : PySem.W.Frag) (mg : Str → Option Value) (base : Heap) (f : Addr) (cdv : Value) (A : Around) (outer : List Env) (s : Shared) (H : Hp) (E : XK) : Cx := cxr P w K mg base ["self"] "Wood.top" s_Wood_top f cdv A outer s H E
abbrev s_Wood_nodes : Stmt := inClass (top 38) 5
theorem sc_Wood_nodes : FnScope ["self"] ["self"] (defScope s_Wood_nodes) := ⟨rfl, rfl, rfl, by decide +kernel, rfl, by decide +kernel, by decide +kernel⟩
instance : NdN ["self"] := ⟨sc_Wood_nodes.nd⟩
abbrev X_Wood_nodes (P : Program) (w : World) (K : PySem.W.Frag) (mg : Str → Option Value) (base : Heap) (f : Addr) (cdv : Value) (A : Around) (outer : List Env) (s : Shared) (H : Hp) (E : XK) : Cx := cxr P w K mg base ["self"] "Wood.nodes" s_Wood_nodes f cdv A outer s H E
abbrev s_Wood_ways : Stmt := inClass (top 38) 6
theorem sc_Wood_ways : FnScope ["self", "node"] ["self", "node"] (defScope s_Wood_ways) := ⟨rfl, rfl, rfl, by decide +kernel, rfl, by decide +kernel, by decide +kernel⟩
instance : NdN ["self", "node"] := ⟨sc_Wood_ways.nd⟩
abbrev X_Wood_ways (P : Program) (w : World) (K : PySem.W.Frag) (mg : Str → Option Value) (base : Heap) (f : Addr) (cdv : Value) (A : Around) (outer : List Env) (s : Shared) (H : Hp) (E : XK) : Cx := cxr P w K mg base ["self", "node"] "Wood.ways" s_Wood_ways f cdv A outer s H E
abbrev s_law_cell_at : Stmt := top 40
theorem sc_law_cell_at : FnScope ["_law_script", "_law_k"] ["_law_script", "_law_k"] (defScope s_law_cell_at) := ⟨rfl, rfl, rfl, by decide +kernel, rfl, by decide +kernel, by decide +kernel⟩
instance : NdN ["_law_script", "_law_k"] := ⟨sc_law_cell_at.nd⟩
abbrev X_law_cell_at (P : Program) (w : World) (K : PySem.W.Frag) (mg : Str → Option Value) (base : Heap) (f : Addr) (cdv : Value) (A : Around) (outer : List Env) (s : Shared) (H : Hp) (E : XK) : Cx := cxr P w K mg base ["_law_script", "_law_k"] "_law_cell_at" s_law_cell_at f cdv A outer s H E
abbrev s_law_mixed : Stmt := top 41
theorem sc_law_mixed : FnScope ["_law_script", "_law_k", "_law_cell"] ["_law_script", "_law_k"] (defScope s_law_mixed) := ⟨rfl, rfl, rfl, by decide +kernel, rfl, by decide +kernel, by decide +kernel⟩
instance : NdN ["_law_script", "_law_k", "_law_cell"] := ⟨sc_law_mixed.nd⟩
abbrev X_law_mixed (P : Program) (w : World) (K : PySem.W.Frag) (mg : Str → Option Value) (base : Heap) (f : Addr) (cdv : Value) (A : Around) (outer : List Env) (s : Shared) (H : Hp) (E : XK) : Cx := cxr P w K mg base ["_law_script", "_law_k", "_law_cell"] "_law_mixed" s_law_mixed f cdv A outer s H E
abbrev s_law_signs : Stmt := top 42
theorem sc_law_signs : FnScope ["_law_cell", "_law_some"] ["_law_cell"] (defScope s_law_signs) := ⟨rfl, rfl, rfl, by decide +kernel, rfl, by decide +kernel, by decide +kernel⟩
instance : NdN ["_law_cell", "_law_some"] := ⟨sc_law_signs.nd⟩
abbrev X_law_signs (P : Program) (w : World) (K : PySem.W.Frag) (mg : Str → Option Value) (base : Heap) (f : Addr) (cdv : Value) (A : Around) (outer : List Env) (s : Shared) (H : Hp) (E : XK) : Cx := cxr P w K mg base ["_law_cell", "_law_some"] "_law_signs" s_law_signs f cdv A outer s H E
abbrev s_law_names : Stmt := top 43
theorem sc_law_names : FnScope ["_law_cell", "_law_big", "_law_odd", "_law_k", "_law_base", "_law_at"] ["_law_cell"] (defScope s_law_names) := ⟨rfl, rfl, rfl, by decide +kernel, rfl, by decide +kernel, by decide +kernel⟩
instance : NdN ["_law_cell", "_law_big", "_law_odd", "_law_k", "_law_base", "_law_at"] := ⟨sc_law_names.nd⟩
abbrev X_law_names (P : Program) (w : World) (K : PySem.W.Frag) (mg : Str → Option Value) (base : Heap) (f : Addr) (cdv : Value) (A : Around) (outer : List Env) (s : Shared) (H : Hp) (E : XK) : Cx := cxr P w K mg base ["_law_cell", "_law_big", "_law_odd", "_law_k", "_law_base", "_law_at"] "_law_names" s_law_names f cdv A outer s H E
abbrev s_law_worth : Stmt := top 44
theorem sc_law_worth : FnScope ["_law_cell"] ["_law_cell"] (defScope s_law_worth) := ⟨rfl, rfl, rfl, by decide +kernel, rfl, by decide +kernel, by decide +kernel⟩
instance : NdN ["_law_cell"] := ⟨sc_law_worth.nd⟩
abbrev X_law_worth (P : Program) (w : World) (K : PySem.W.Frag) (mg : Str → Option Value) (base : Heap) (f : Addr) (cdv : Value) (A : Around) (outer : List Env) (s : Shared) (H : Hp) (E : XK) : Cx := cxr P w K mg base ["_law_cell"] "_law_worth" s_law_worth f cdv A outer s H E
abbrev s_law_parts : Stmt := top 45
theorem sc_law_parts : FnScope ["_law_cell", "_law_menu", "_law_most", "_law_size", "_law_parts_here", "_law_k"] ["_law_cell", "_law_menu", "_law_most"] (defScope s_law_parts) := ⟨rfl, rfl, rfl, by decide +kernel, rfl, by decide +kernel, by decide +kernel⟩
instance : NdN ["_law_cell", "_law_menu", "_law_most", "_law_size", "_law_parts_here", "_law_k"] := ⟨sc_law_parts.nd⟩
abbrev X_law_parts (P : Program) (w : World) (K : PySem.W.Frag) (mg : Str → Option Value) (base : Heap) (f : Addr) (cdv : Value) (A : Around) (outer : List Env) (s : Shared) (H : Hp) (E : XK) : Cx := cxr P w K mg base ["_law_cell", "_law_menu", "_law_most", "_law_size", "_law_parts_here", "_law_k"] "_law_parts" s_law_parts f cdv A outer s H E
abbrev s_law_grammar : Stmt := top 46
theorem sc_law_grammar : FnScope ["_law_script", "_law_names_here", "_law_signs_here", "_law_sign", "_law_way", "_law_heads", "_law_menu", "_law_rules", "_law_k", "_law_cell", "_law_parts_here"] ["_law_script"] (defScope s_law_grammar) := ⟨rfl, rfl, rfl, by decide +kernel, rfl, by decide +kernel, by decide +kernel⟩
instance : NdN ["_law_script", "_law_names_here", "_law_signs_here", "_law_sign", "_law_way", "_law_heads", "_law_menu", "_law_rules", "_law_k", "_law_cell", "_law_parts_here"] := ⟨sc_law_grammar.nd⟩
abbrev X_law_grammar (P : Program) (w : World) (K : PySem.W.Frag) (mg : Str → Option Value) (base : Heap) (f : Addr) (cdv : Value) (A : Around) (outer : List Env) (s : Shared) (H : Hp) (E : XK) : Cx := cxr P w K mg base ["_law_script", "_law_names_here", "_law_signs_here", "_law_sign", "_law_way", "_law_heads", "_law_menu", "_law_rules", "_law_k", "_law_cell", "_law_parts_here"] "_law_grammar" s_law_grammar f cdv A outer s H E
abbrev s_law_text : Stmt := top 47
theorem sc_law_text : FnScope ["_law_script", "_law_at", "_law_size", "_law_signs_here", "_law_text_here", "_law_k", "_law_cell"] ["_law_script", "_law_at", "_law_size"] (defScope s_law_text) := ⟨rfl, rfl, rfl, by decide +kernel, rfl, by decide +kernel, by decide +kernel⟩
instance : NdN ["_law_script", "_law_at", "_law_size", "_law_signs_here", "_law_text_here", "_law_k", "_law_cell"] := ⟨sc_law_text.nd⟩
abbrev X_law_text (P : Program) (w : World) (K : PySem.W.Frag) (mg : Str → Option Value) (base : Heap) (f : Addr) (cdv : Value) (A : Around) (outer : List Env) (s : Shared) (H : Hp) (E : XK) : Cx := cxr P w K mg base ["_law_script", "_law_at", "_law_size", "_law_signs_here", "_law_text_here", "_law_k", "_law_cell"] "_law_text" s_law_text f cdv A outer s H E
abbrev s_law_bad_rule : Stmt := top 48
theorem sc_law_bad_rule : FnScope ["_law_cell", "_law_rule", "_law_head", "_law_parts_here", "_law_worth_here", "_law_many", "_law_way", "_law_part", "_law_at"] ["_law_cell", "_law_rule"] (defScope s_law_bad_rule) := ⟨rfl, rfl, rfl, by decide +kernel, rfl, by decide +kernel, by decide +kernel⟩
instance : NdN ["_law_cell", "_law_rule", "_law_head", "_law_parts_here", "_law_worth_here", "_law_many", "_law_way", "_law_part", "_law_at"] := ⟨sc_law_bad_rule.nd⟩
abbrev X_law_bad_rule (P : Program) (w : World) (K : PySem.W.Frag) (mg : Str → Option Value) (base : Heap) (f : Addr) (cdv : Value) (A : Around) (outer : List Env) (s : Shared) (H : Hp) (E : XK) : Cx := cxr P w K mg base ["_law_cell", "_law_rule", "_law_head", "_law_parts_here", "_law_worth_here", "_law_many", "_law_way", "_law_part", "_law_at"] "_law_bad_rule" s_law_bad_rule f cdv A outer s H E
abbrev s_law_bad_grammar : Stmt := top 49
theorem sc_law_bad_grammar : FnScope ["_law_cell", "_law_rules", "_law_way", "_law_k", "_law_bad", "_law_at"] ["_law_cell", "_law_rules"] (defScope s_law_bad_grammar) := ⟨rfl, rfl, rfl, by decide +kernel, rfl, by decide +kernel, by decide +kernel⟩
instance : NdN ["_law_cell", "_law_rules", "_law_way", "_law_k", "_law_bad", "_law_at"] := ⟨sc_law_bad_grammar.nd⟩
abbrev X_law_bad_grammar (P : Program) (w : World) (K : PySem.W.Frag) (mg : Str → Option Value) (base : Heap) (f : Addr) (cdv : Value) (A : Around) (outer : List Env) (s : Shared) (H : Hp) (E : XK) : Cx := cxr P w K mg base ["_law_cell", "_law_rules", "_law_way", "_law_k", "_law_bad", "_law_at"] "_law_bad_grammar" s_law_bad_grammar f cdv A outer s H E
abbrev s_law_bad_text : Stmt := top 50
theorem sc_law_bad_text : FnScope ["_law_cell", "_law_text_here", "_law_way", "_law_at"] ["_law_cell", "_law_text_here"] (defScope s_law_bad_text) := ⟨rfl, rfl, rfl, by decide +kernel, rfl, by decide +kernel, by decide +kernel⟩
instance : NdN ["_law_cell", "_law_text_here", "_law_way", "_law_at"] := ⟨sc_law_bad_text.nd⟩
abbrev X_law_bad_text (P : Program) (w : World) (K : PySem.W.Frag) (mg : Str → Option Value) (base : Heap) (f : Addr) (cdv : Value) (A : Around) (outer : List Env) (s : Shared) (H : Hp) (E : XK) : Cx := cxr P w K mg base ["_law_cell", "_law_text_here", "_law_way", "_law_at"] "_law_bad_text" s_law_bad_text f cdv A outer s H E
abbrev s_law_refused : Stmt := top 51
theorem sc_law_refused : FnScope ["_law_one", "_law_grammar_here", "_law_text_here", "_law_kinds", "e"] ["_law_one", "_law_grammar_here", "_law_text_here"] (defScope s_law_refused) := ⟨rfl, rfl, rfl, by decide +kernel, rfl, by decide +kernel, by decide +kernel⟩
instance : NdN ["_law_one", "_law_grammar_here", "_law_text_here", "_law_kinds", "e"] := ⟨sc_law_refused.nd⟩
abbrev X_law_refused (P : Program) (w : World) (K : PySem.W.Frag) (mg : Str → Option Value) (base : Heap) (f : Addr) (cdv : Value) (A : Around) (outer : List Env) (s : Shared) (H : Hp) (E : XK) : Cx := cxr P w K mg base ["_law_one", "_law_grammar_here", "_law_text_here", "_law_kinds", "e"] "_law_refused" s_law_refused f cdv A outer s H E
abbrev s_law : Stmt := top 52
theorem sc_law : FnScope ["_law_script", "_law_rules", "_law_way", "_law_text_here", "_law_rule", "_law_part", "_law_k", "_law_grammar_here", "_law_handed", "_law_one", "_law_found", "_law_later"] ["_law_script"] (defScope s_law) := ⟨rfl, rfl, rfl, by decide +kernel, rfl, by decide +kernel, by decide +kernel⟩
instance : NdN ["_law_script", "_law_rules", "_law_way", "_law_text_here", "_law_rule", "_law_part", "_law_k", "_law_grammar_here", "_law_handed", "_law_one", "_law_found", "_law_later"] := ⟨sc_law.nd⟩
abbrev X_law (P : Program) (w : World) (K : PySem.W.Frag) (mg : Str → Option Value) (base : Heap) (f : Addr) (cdv : Value) (A : Around) (outer : List Env) (s : Shared) (H : Hp) (E : XK) : Cx := cxr P w K mg base ["_law_script", "_law_rules", "_law_way", "_law_text_here", "_law_rule", "_law_part", "_law_k", "_law_grammar_here", "_law_handed", "_law_one", "_law_found", "_law_later"] "law" s_law f cdv A outer s H E
structure Cs where
  z : Addr := 0
  ForestError : Addr
  NoGrammar : Addr
  NoText : Addr
  NoRow : Addr
  NoRule : Addr
  NoNumber : Addr
  NoCosts : Addr
  NoChange : Addr
  NoWords : Addr
  Endless : Addr
  TooGreat : Addr
  Barren : Addr
  Chart : Addr
  Wood : Addr
structure Txt (K : PySem.W.Frag) (mg : Str → Option Value) (cs : Cs) : Prop where
  b_ValueError : Gn mg "ValueError" none
  b_bool : Gn mg "bool" none
  b_enumerate : Gn mg "enumerate" none
  b_int : Gn mg "int" none
  b_isinstance : Gn mg "isinstance" none
  b_len : Gn mg "len" none
  b_list : Gn mg "list" none
  b_min : Gn mg "min" none
  b_ord : Gn mg "ord" none
  b_range : Gn mg "range" none
  b_str : Gn mg "str" none
  b_tuple : Gn mg "tuple" none
  k_MOST_SIGNS : ∃ t, mg "MOST_SIGNS" = some (.int (60) t)
  k_MOST_RULES : ∃ t, mg "MOST_RULES" = some (.int (60) t)
  k_MOST_PARTS : ∃ t, mg "MOST_PARTS" = some (.int (6) t)
  k_MOST_WORTH : ∃ t, mg "MOST_WORTH" = some (.int (1000000000000000000000000000000000000000000000000000000000000) t)
  c_Chart : ClsF K mg "Chart" cs.Chart
  n_Chart_rules : NoAttr K cs.Chart "rules"
  n_Chart_heights : NoAttr K cs.Chart "heights"
  n_Chart_level : NoAttr K cs.Chart "level"
  n_Chart_queue : NoAttr K cs.Chart "queue"
  n_Chart_higher : NoAttr K cs.Chart "higher"
  n_Chart_ends : NoAttr K cs.Chart "ends"
  n_Chart_behind : NoAttr K cs.Chart "behind"
  i_Chart : InitF K cs.Chart "Chart.__init__" s_Chart_init ["self", "rules"]
  m_Chart_offer : MAt K cs.Chart "offer" "Chart.offer" s_Chart_offer ["self", "node"]
  m_Chart_take_part : MAt K cs.Chart "take_part" "Chart.take_part" s_Chart_take_part ["self", "part", "i", "j"]
  m_Chart_take_parts : MAt K cs.Chart "take_parts" "Chart.take_parts" s_Chart_take_parts ["self", "r", "d", "i", "j"]
  m_Chart_take_level : MAt K cs.Chart "take_level" "Chart.take_level" s_Chart_take_level ["self"]
  m_Chart_rise : MAt K cs.Chart "rise" "Chart.rise" s_Chart_rise ["self"]
  c_Wood : ClsF K mg "Wood" cs.Wood
  n_Wood_rules : NoAttr K cs.Wood "rules"
  n_Wood_signs : NoAttr K cs.Wood "signs"
  n_Wood_peak : NoAttr K cs.Wood "peak"
  n_Wood_paths : NoAttr K cs.Wood "paths"
  i_Wood : InitF K cs.Wood "Wood.__init__" s_Wood_init ["self", "grammar", "text"]
  m_Wood_reach : MAt K cs.Wood "reach" "Wood.reach" s_Wood_reach ["self", "heights"]
  x_ForestError : ExcF K mg "ForestError" cs.ForestError
  x_NoGrammar : ExcF K mg "NoGrammar" cs.NoGrammar
  x_NoText : ExcF K mg "NoText" cs.NoText
  x_NoRow : ExcF K mg "NoRow" cs.NoRow
  x_NoRule : ExcF K mg "NoRule" cs.NoRule
  x_NoNumber : ExcF K mg "NoNumber" cs.NoNumber
  x_NoCosts : ExcF K mg "NoCosts" cs.NoCosts
  x_NoChange : ExcF K mg "NoChange" cs.NoChange
  x_NoWords : ExcF K mg "NoWords" cs.NoWords
  x_Endless : ExcF K mg "Endless" cs.Endless
  x_TooGreat : ExcF K mg "TooGreat" cs.TooGreat
  x_Barren : ExcF K mg "Barren" cs.Barren
  s_Chart_Chart : PySem.W.subIn K (.ref cs.Chart) (.ref cs.Chart) = some true
  s_Chart_Wood : PySem.W.subIn K (.ref cs.Chart) (.ref cs.Wood) = some false
  s_Wood_Chart : PySem.W.subIn K (.ref cs.Wood) (.ref cs.Chart) = some false
  s_Wood_Wood : PySem.W.subIn K (.ref cs.Wood) (.ref cs.Wood) = some true
  s_NoGrammar_ForestError : PySem.W.subIn K (.ref cs.NoGrammar) (.ref cs.ForestError) = some true
  s_NoGrammar_NoGrammar : PySem.W.subIn K (.ref cs.NoGrammar) (.ref cs.NoGrammar) = some true
  s_NoGrammar_NoText : PySem.W.subIn K (.ref cs.NoGrammar) (.ref cs.NoText) = some false
  s_NoGrammar_NoRow : PySem.W.subIn K (.ref cs.NoGrammar) (.ref cs.NoRow) = some false
  s_NoGrammar_NoRule : PySem.W.subIn K (.ref cs.NoGrammar) (.ref cs.NoRule) = some false
  s_NoGrammar_NoNumber : PySem.W.subIn K (.ref cs.NoGrammar) (.ref cs.NoNumber) = some false
  s_NoGrammar_NoCosts : PySem.W.subIn K (.ref cs.NoGrammar) (.ref cs.NoCosts) = some false
  s_NoGrammar_NoChange : PySem.W.subIn K (.ref cs.NoGrammar) (.ref cs.NoChange) = some false
  s_NoGrammar_NoWords : PySem.W.subIn K (.ref cs.NoGrammar) (.ref cs.NoWords) = some false
  s_NoGrammar_Endless : PySem.W.subIn K (.ref cs.NoGrammar) (.ref cs.Endless) = some false
  s_NoGrammar_TooGreat : PySem.W.subIn K (.ref cs.NoGrammar) (.ref cs.TooGreat) = some false
  s_NoGrammar_Barren : PySem.W.subIn K (.ref cs.NoGrammar) (.ref cs.Barren) = some false
  s_NoText_ForestError : PySem.W.subIn K (.ref cs.NoText) (.ref cs.ForestError) = some true
  s_NoText_NoGrammar : PySem.W.subIn K (.ref cs.NoText) (.ref cs.NoGrammar) = some false
  s_NoText_NoText : PySem.W.subIn K (.ref cs.NoText) (.ref cs.NoText) = some true
  s_NoText_NoRow : PySem.W.subIn K (.ref cs.NoText) (.ref cs.NoRow) = some false
  s_NoText_NoRule : PySem.W.subIn K (.ref cs.NoText) (.ref cs.NoRule) = some false
  s_NoText_NoNumber : PySem.W.subIn K (.ref cs.NoText) (.ref cs.NoNumber) = some false
  s_NoText_NoCosts : PySem.W.subIn K (.ref cs.NoText) (.ref cs.NoCosts) = some false
  s_NoText_NoChange : PySem.W.subIn K (.ref cs.NoText) (.ref cs.NoChange) = some false
  s_NoText_NoWords : PySem.W.subIn K (.ref cs.NoText) (.ref cs.NoWords) = some false
  s_NoText_Endless : PySem.W.subIn K (.ref cs.NoText) (.ref cs.Endless) = some false
  s_NoText_TooGreat : PySem.W.subIn K (.ref cs.NoText) (.ref cs.TooGreat) = some false
  s_NoText_Barren : PySem.W.subIn K (.ref cs.NoText) (.ref cs.Barren) = some false
  f_wall : At K mg "_wall" "_wall" s_wall ["k"]
  f_is_whole : At K mg "is_whole" "is_whole" s_is_whole ["thing"]
  f_may_stand : At K mg "may_stand" "may_stand" s_may_stand ["sign"]
  f_is_sign : At K mg "is_sign" "is_sign" s_is_sign ["thing"]
  f_is_name : At K mg "is_name" "is_name" s_is_name ["thing"]
  f_checked_text : At K mg "checked_text" "checked_text" s_checked_text ["thing"]
  f_are_parts : At K mg "are_parts" "are_parts" s_are_parts ["thing"]
  f_is_rule : At K mg "is_rule" "is_rule" s_is_rule ["thing"]
  f_checked : At K mg "checked" "checked" s_checked ["thing"]
  f_rules_by_head : At K mg "rules_by_head" "rules_by_head" s_rules_by_head ["rules"]
  f_first_nodes : At K mg "first_nodes" "first_nodes" s_first_nodes ["rules", "signs"]
  f_heights_over : At K mg "heights_over" "heights_over" s_heights_over ["rules", "signs"]
  f_standing : At K mg "standing" "standing" s_standing ["grammar", "text"]
  f_ways_of_parts : At K mg "ways_of_parts" "ways_of_parts" s_ways_of_parts ["rules", "heights", "node"]
  f_ways_of_head : At K mg "ways_of_head" "ways_of_head" s_ways_of_head ["rules", "by", "heights", "node"]
  f_ways_over : At K mg "ways_over" "ways_over" s_ways_over ["rules", "by", "heights", "node"]
  f_law_cell_at : At K mg "_law_cell_at" "_law_cell_at" s_law_cell_at ["_law_script", "_law_k"]
  f_law_mixed : At K mg "_law_mixed" "_law_mixed" s_law_mixed ["_law_script", "_law_k"]
  f_law_signs : At K mg "_law_signs" "_law_signs" s_law_signs ["_law_cell"]
  f_law_names : At K mg "_law_names" "_law_names" s_law_names ["_law_cell"]
  f_law_worth : At K mg "_law_worth" "_law_worth" s_law_worth ["_law_cell"]
  f_law_parts : At K mg "_law_parts" "_law_parts" s_law_parts ["_law_cell", "_law_menu", "_law_most"]
  f_law_grammar : At K mg "_law_grammar" "_law_grammar" s_law_grammar ["_law_script"]
  f_law_text : At K mg "_law_text" "_law_text" s_law_text ["_law_script", "_law_at", "_law_size"]
  f_law_bad_rule : At K mg "_law_bad_rule" "_law_bad_rule" s_law_bad_rule ["_law_cell", "_law_rule"]
  f_law_bad_grammar : At K mg "_law_bad_grammar" "_law_bad_grammar" s_law_bad_grammar ["_law_cell", "_law_rules"]
  f_law_bad_text : At K mg "_law_bad_text" "_law_bad_text" s_law_bad_text ["_law_cell", "_law_text_here"]
  f_law_refused : At K mg "_law_refused" "_law_refused" s_law_refused ["_law_one", "_law_grammar_here", "_law_text_here"]
section
variable {P : Program} {w : World} {K : PySem.W.Frag} {mg : Str → Option Value} {base : Heap} {cs : Cs}
def okc (c : Nat) : Bool := decide (32 ≤ c) && (decide (c ≤ 126) && !decide (c = 37))
def isNameS (z : Str) : Bool := (decide (1 ≤ z.length) && decide (z.length ≤ 8)) && (tl z).all fun c => decide (65 ≤ c) && decide (c ≤ 90)
def isSignL : List Nat → Bool
  | [a, c] => decide (a = 39) && okc c
  | _ => false
def isSignS (z : Str) : Bool := isSignL (tl z)
def isNameD : PyData → Bool
  | .str z => isNameS z
  | _ => false
def isSignD : PyData → Bool
  | .str z => isSignS z
  | _ => false
def isWholeD (d : PyData) : Bool := isK d "int" && !isK d "bool"
theorem no_str {d : PyData} : (∃ z, d = .str z) ∨ (isK d "str" = false ∧ isNameD d = false ∧ isSignD d = false) := by
  cases d <;> first | exact .inl ⟨_, rfl⟩ | exact .inr ⟨rfl, rfl, rfl⟩
theorem tl_str (l : List Nat) : tl (⟨l.toArray⟩ : Str) = l := rfl
theorem str_tl (z : Str) : z = ⟨(tl z).toArray⟩ := (mk_tl z).symm
theorem lo_sp (c : Nat) : (!decide (tl (⟨#[c]⟩ : Str) < tl (Str.ofString " "))) = decide (32 ≤ c) := by
  have e : tl (Str.ofString " ") = [32] := by decide +kernel
  rw [e]
  by_cases h : 32 ≤ c
  · rw [decide_eq_true h, decide_eq_false (show ¬ ([c] < [32]) from fun q => by have := (lt1 c 32).mp q; omega)]; rfl
  · rw [decide_eq_false h, decide_eq_true (show ([c] < [32]) from (lt1 c 32).mpr (by omega))]; rfl
theorem hi_ti (c : Nat) : (!decide (tl (Str.ofString "~") < tl (⟨#[c]⟩ : Str))) = decide (c ≤ 126) := by
  have e : tl (Str.ofString "~") = [126] := by decide +kernel
  rw [e]
  by_cases h : c ≤ 126
  · rw [decide_eq_true h, decide_eq_false (show ¬ ([126] < [c]) from fun q => by have := (lt1 126 c).mp q; omega)]; rfl
  · rw [decide_eq_false h, decide_eq_true (show ([126] < [c]) from (lt1 126 c).mpr (by omega))]; rfl
theorem lo_A (c : Nat) : (!decide (tl (⟨#[c]⟩ : Str) < tl (Str.ofString "A"))) = decide (65 ≤ c) := by
  have e : tl (Str.ofString "A") = [65] := by decide +kernel
  rw [e]
  by_cases h : 65 ≤ c
  · rw [decide_eq_true h, decide_eq_false (show ¬ ([c] < [65]) from fun q => by have := (lt1 c 65).mp q; omega)]; rfl
  · rw [decide_eq_false h, decide_eq_true (show ([c] < [65]) from (lt1 c 65).mpr (by omega))]; rfl
theorem hi_Z (c : Nat) : (!decide (tl (Str.ofString "Z") < tl (⟨#[c]⟩ : Str))) = decide (c ≤ 90) := by
  have e : tl (Str.ofString "Z") = [90] := by decide +kernel
  rw [e]
  by_cases h : c ≤ 90
  · rw [decide_eq_true h, decide_eq_false (show ¬ ([90] < [c]) from fun q => by have := (lt1 90 c).mp q; omega)]; rfl
  · rw [decide_eq_false h, decide_eq_true (show ([90] < [c]) from (lt1 90 c).mpr (by omega))]; rfl
theorem one_eq (a : Nat) (l : List Nat) (t : String) (h : tl (Str.ofString t) = l) : ((⟨#[a]⟩ : Str) = Str.ofString t) ↔ [a] = l := by
  constructor
  · intro e
    rw [← h, ← e]
  · intro e
    exact ext_tl (by rw [h, ← e])
theorem is_quote (a : Nat) : decide ((⟨#[a]⟩ : Str) = Str.ofString "'") = decide (a = 39) := decide_eq_decide.mpr (by rw [one_eq a [39] "'" (by decide +kernel)]; simp)
def R_is_whole (K : PySem.W.Frag) : V → Hp → VK → XK → Prop := fun x H Q _ => ∃ d, Th K H x d ∧ Q (.bl (isWholeD d)) H
section
theorem ok_is_whole {f : Addr} {fd : FuncData} (F : Fun K "is_whole" "is_whole" s_is_whole f fd) (T : Txt K mg cs) : FnOk P w K mg base (L2.CX P w) 1 f fd ["thing"] (sp1 (R_is_whole K)) := by
  refine F.okX sc_is_whole (fun vs H Q E h => sp1_len h) (fun cdv A outer s H vs Q E hr h => ⟨_, PBw (X := X_is_whole P w K mg base f cdv A outer s H E), ?_⟩)
  obtain ⟨a0, rfl, h⟩ := h
  have ib_isinstance := T.b_isinstance
  have ib_int := T.b_int
  have ib_bool := T.b_bool
  have hr' : Room 0 (X_is_whole P w K mg base f cdv A outer s H E).A := hr
  replace hr := hr'
  clear hr'
  obtain ⟨d, hd, h⟩ := h
  wp_step
  refine e_andJ (d := !isK d "bool") ?_
  wp_step
  refine k_isInt hd ⟨_, rfl, fun _ Q' q => ?_, h⟩
  wp_step
  refine k_isBool hd ?_
  wp_step
  exact q
end
theorem df_is_whole (T : Txt K mg cs) : Df P w K mg base "is_whole" 1 ["thing"] (sp1 (R_is_whole K)) := by
  obtain ⟨f, fd, hm, F, hb⟩ := T.f_is_whole.ex
  exact ⟨f, fd, hm, F.kp, hb, ok_is_whole F T⟩
def R_may_stand : V → Hp → VK → XK → Prop := fun x H Q _ => ∃ c, x = .str ⟨#[c]⟩ ∧ Q (.bl (okc c)) H
section
theorem ok_may_stand {f : Addr} {fd : FuncData} (F : Fun K "may_stand" "may_stand" s_may_stand f fd) (T : Txt K mg cs) : FnOk P w K mg base (L2.CX P w) 1 f fd ["sign"] (sp1 (R_may_stand)) := by
  refine F.okX sc_may_stand (fun vs H Q E h => sp1_len h) (fun cdv A outer s H vs Q E hr h => ⟨_, PBw (X := X_may_stand P w K mg base f cdv A outer s H E), ?_⟩)
  obtain ⟨a0, rfl, h⟩ := h
  have ib_ord := T.b_ord
  have hr' : Room 0 (X_may_stand P w K mg base f cdv A outer s H E).A := hr
  replace hr := hr'
  clear hr'
  obtain ⟨c, rfl, h⟩ := h
  wp_step
  refine e_and ?_
  refine e_chain ?_
  wp_step
  rw [lo_sp]
  refine iteD (fun c1 => ?_) fun c1 => ?_
  · wp_step
    rw [hi_ti]
    refine iteD (fun c2 => ?_) fun c2 => ?_
    · wp_step
      have e : okc c = !decide ((c : Int) = 37) := by
        simp only [okc, decide_eq_true c1, decide_eq_true c2, Bool.true_and]
        congr 1
        exact decide_eq_decide.mpr (by omega)
      rw [e] at h
      exact h
    · have e : okc c = false := by simp only [okc, decide_eq_false c2, Bool.false_and, Bool.and_false]
      rw [e] at h
      exact h
  · wp_step
    have e : okc c = false := by simp only [okc, decide_eq_false c1, Bool.false_and]
    rw [e] at h
    exact h
end
theorem df_may_stand (T : Txt K mg cs) : Df P w K mg base "may_stand" 1 ["sign"] (sp1 (R_may_stand)) := by
  obtain ⟨f, fd, hm, F, hb⟩ := T.f_may_stand.ex
  exact ⟨f, fd, hm, F.kp, hb, ok_may_stand F T⟩
def R_is_sign (K : PySem.W.Frag) : V → Hp → VK → XK → Prop := fun x H Q _ => ∃ d, Th K H x d ∧ Q (.bl (isSignD d)) H
section
set_option hygiene false in
local macro_rules | `(tactic| top_name) => `(tactic| first | refine e_call (df_may_stand T) (hr.mono (by decide)) ?_)
theorem ok_is_sign {f : Addr} {fd : FuncData} (F : Fun K "is_sign" "is_sign" s_is_sign f fd) (T : Txt K mg cs) : FnOk P w K mg base (L2.CX P w) 2 f fd ["thing"] (sp1 (R_is_sign K)) := by
  refine F.okX sc_is_sign (fun vs H Q E h => sp1_len h) (fun cdv A outer s H vs Q E hr h => ⟨_, PBw (X := X_is_sign P w K mg base f cdv A outer s H E), ?_⟩)
  obtain ⟨a0, rfl, h⟩ := h
  have ib_isinstance := T.b_isinstance
  have ib_str := T.b_str
  have ib_len := T.b_len
  have hr' : Room 1 (X_is_sign P w K mg base f cdv A outer s H E).A := hr
  replace hr := hr'
  clear hr'
  obtain ⟨d, hd, h⟩ := h
  wp_step
  refine e_and ?_
  wp_step
  refine k_isStr hd ⟨_, rfl, ?_⟩
  rcases no_str (d := d) with ⟨z, rfl⟩ | ⟨e1, _, e2⟩
  · cases hd with
    | str _ hz =>
    wp_step
    refine e_and ?_
    wp_step
    refine k_lenS (sz1m hz) ?_
    wp_step
    generalize hl : tl z = l at *
    have hlen : z.length = l.length := by rw [len_tl, hl]
    have hs : isSignD (.str z) = isSignL l := by show isSignL (tl z) = _; rw [hl]
    rw [hs] at h
    refine iteD (fun c => ?_) fun c => ?_
    · match l, hl, hlen, h, hs with
      | [a, c'], hl, hlen, h, _ =>
        refine e_and ?_
        wp_step
        refine i_str (sz1m hz) (c := a) ?_ ?_
        · rw [show z.cps.toList = [a, c'] from hl]
          rfl
        wp_step
        rw [is_quote]
        refine iteD (fun c2 => ?_) fun c2 => ?_
        · wp_step
          refine e_call (df_may_stand T) (hr.mono (by decide)) ?_
          wp_step
          refine i_str (sz1m hz) (c := c') ?_ ?_
          · rw [show z.cps.toList = [a, c'] from hl]
            rfl
          wp_step
          have e : isSignL [a, c'] = okc c' := by simp only [isSignL, decide_eq_true c2, Bool.true_and]
          rw [e] at h
          exact h
        · have e : isSignL [a, c'] = false := by simp only [isSignL, decide_eq_false c2, Bool.false_and]
          rw [e] at h
          exact h
      | [], _, hlen, _, _ => simp at hlen; omega
      | [_], _, hlen, _, _ => simp at hlen; omega
      | _ :: _ :: _ :: _, _, hlen, _, _ => simp at hlen; omega
    · have e : isSignL l = false := by
        match l, hlen with
        | [], _ => rfl
        | [_], _ => rfl
        | [_, _], hlen => simp at hlen; omega
        | _ :: _ :: _ :: _, _ => rfl
      rw [e] at h
      exact h
  · rw [e1]
    rw [e2] at h
    exact iteF h
end
theorem df_is_sign (T : Txt K mg cs) : Df P w K mg base "is_sign" 2 ["thing"] (sp1 (R_is_sign K)) := by
  obtain ⟨f, fd, hm, F, hb⟩ := T.f_is_sign.ex
  exact ⟨f, fd, hm, F.kp, hb, ok_is_sign F T⟩
def R_is_name (K : PySem.W.Frag) : V → Hp → VK → XK → Prop := fun x H Q _ => ∃ d, Th K H x d ∧ Q (.bl (isNameD d)) H
section
theorem ok_is_name {f : Addr} {fd : FuncData} (F : Fun K "is_name" "is_name" s_is_name f fd) (T : Txt K mg cs) : FnOk P w K mg base (L2.CX P w) 1 f fd ["thing"] (sp1 (R_is_name K)) := by
  refine F.okX sc_is_name (fun vs H Q E h => sp1_len h) (fun cdv A outer s H vs Q E hr h => ⟨_, PBw (X := X_is_name P w K mg base f cdv A outer s H E), ?_⟩)
  obtain ⟨a0, rfl, h⟩ := h
  have ib_isinstance := T.b_isinstance
  have ib_str := T.b_str
  have ib_len := T.b_len
  have hr' : Room 0 (X_is_name P w K mg base f cdv A outer s H E).A := hr
  replace hr := hr'
  clear hr'
  obtain ⟨d, hd, h⟩ := h
  wp_step
  refine k_isStr hd ⟨_, rfl, ?_⟩
  rcases no_str (d := d) with ⟨z, rfl⟩ | ⟨e1, e2, _⟩
  · cases hd with
    | str _ hz =>
    wp_step
    refine k_lenS (sz1m hz) ?_
    wp_step
    have hlen : (tl z).length = z.length := (len_tl z).symm
    have hbad : ¬ (1 ≤ z.length ∧ z.length ≤ 8) → isNameD (.str z) = false := fun c => by
      show ((decide (1 ≤ z.length) && decide (z.length ≤ 8)) && _) = false
      by_cases c1 : 1 ≤ z.length <;> by_cases c2 : z.length ≤ 8 <;> simp [c1, c2]
      exact absurd ⟨c1, c2⟩ c
    refine iteD (fun c1 => ?_) fun c1 => ?_
    · wp_step
      refine iteND (fun c2 => ?_) fun c2 => ?_
      · wp_step
        rw [hbad (by omega)] at h
        exact h
      · have hgood : isNameD (.str z) = (tl z).all fun c => decide (65 ≤ c) && decide (c ≤ 90) := by
          show ((decide (1 ≤ z.length) && decide (z.length ≤ 8)) && _) = _
          rw [decide_eq_true (show 1 ≤ z.length by omega), decide_eq_true (show z.length ≤ 8 by omega)]
          rfl
        rw [hgood] at h
        wp_step
        refine s_for (j_str ?_)
        wp_step
        refine ⟨_, _, _, walk_str, fun i σ' H' => (∃ v, σ' = [some (.str z), v]) ∧ H' = H ∧ ((tl z).take i).all (fun c => decide (65 ≤ c) && decide (c ≤ 90)) = true, ⟨⟨_, rfl⟩, rfl, rfl⟩, fun _ _ _ _ _ => trivial, ?_, ?_⟩
        · rintro i x σ' H' H2 hi ⟨⟨v, rfl⟩, rfl, hall⟩ ⟨rfl, c, hc, rfl⟩
          have hc' : (tl z)[i]? = some c := by simpa [tl] using hc
          wp_step
          rw [lo_A]
          refine iteD (fun d1 => ?_) fun d1 => ?_
          · wp_step
            rw [hi_Z]
            refine iteND (fun d2 => ?_) fun d2 => ?_
            · wp_step
              rw [all_cut hc' (by simp [d2])] at h
              exact h
            · wp_step
              exact ⟨⟨_, rfl⟩, rfl, by rw [all_snoc hc', hall]; simp [d1, d2]⟩
          · wp_step
            rw [all_cut hc' (by simp [d1])] at h
            exact h
        · rintro σ' H' ⟨⟨v, rfl⟩, rfl, hall⟩
          wp_step
          rw [show z.cps.size = (tl z).length by simp [tl], List.take_length] at hall
          rw [hall] at h
          exact h
    · wp_step
      rw [hbad (by omega)] at h
      exact h
  · rw [e1]
    rw [e2] at h
    wp_step
    exact h

end
theorem df_is_name (T : Txt K mg cs) : Df P w K mg base "is_name" 1 ["thing"] (sp1 (R_is_name K)) := by
  obtain ⟨f, fd, hm, F, hb⟩ := T.f_is_name.ex
  exact ⟨f, fd, hm, F.kp, hb, ok_is_name F T⟩
abbrev top60 : Int := 1000000000000000000000000000000000000000000000000000000000000
def isPartD (d : PyData) : Bool := isSignD d || isNameD d
def arePartsD : PyData → Bool
  | .tuple ds => decide (ds.length ≤ 6) && ds.all isPartD
  | _ => false
def isWorthD : PyData → Bool
  | .int i => decide (0 ≤ i) && decide (i ≤ top60)
  | _ => false
def isRuleL : List PyData → Bool
  | [h, p, w] => (isNameD h && arePartsD p) && isWorthD w
  | _ => false
def isRuleD : PyData → Bool
  | .tuple ds => isRuleL ds
  | _ => false
theorem no_tup {d : PyData} : (∃ ds, d = .tuple ds) ∨ (isK d "tuple" = false ∧ arePartsD d = false ∧ isRuleD d = false) := by
  cases d <;> first | exact .inl ⟨_, rfl⟩ | exact .inr ⟨rfl, rfl, rfl⟩
theorem len3 {α : Type} {l : List α} (h : l.length = 3) : ∃ a b c, l = [a, b, c] := by
  match l, h with
  | [a, b, c], _ => exact ⟨a, b, c, rfl⟩
theorem rule_len {ds : List PyData} (h : ¬ ds.length = 3) : isRuleL ds = false := by
  match ds, h with
  | [], _ => rfl
  | [_], _ => rfl
  | [_, _], _ => rfl
  | [_, _, _], h => exact absurd rfl h
  | _ :: _ :: _ :: _ :: _, _ => rfl
theorem th3 {K : PySem.W.Frag} {H : Hp} {vs : List V} {a b c : PyData} (h : ThAll K H vs [a, b, c]) : ∃ x y z, vs = [x, y, z] ∧ Th K H x a ∧ Th K H y b ∧ Th K H z c := by
  cases h with
  | cons h0 h => cases h with
    | cons h1 h => cases h with
      | cons h2 h => cases h; exact ⟨_, _, _, rfl, h0, h1, h2⟩
theorem th_whole {K : PySem.W.Frag} {H : Hp} {v : V} {d : PyData} (h : Th K H v d) : (∃ n, d = .int n ∧ v = .int n) ∨ (isWholeD d = false ∧ isWorthD d = false) := by
  cases h <;> first | exact .inl ⟨_, rfl, rfl⟩ | exact .inr ⟨rfl, rfl⟩
def R_are_parts (K : PySem.W.Frag) : V → Hp → VK → XK → Prop := fun x H Q _ => ∃ d, Th K H x d ∧ Q (.bl (arePartsD d)) H
section
set_option hygiene false in
local macro_rules | `(tactic| top_name) => `(tactic| first | refine e_call (df_is_sign T) (hr.mono (by decide)) ?_ | refine e_call (df_is_name T) (hr.mono (by decide)) ?_)
theorem ok_are_parts {f : Addr} {fd : FuncData} (F : Fun K "are_parts" "are_parts" s_are_parts f fd) (T : Txt K mg cs) : FnOk P w K mg base (L2.CX P w) 3 f fd ["thing"] (sp1 (R_are_parts K)) := by
  refine F.okX sc_are_parts (fun vs H Q E h => sp1_len h) (fun cdv A outer s H vs Q E hr h => ⟨_, PBw (X := X_are_parts P w K mg base f cdv A outer s H E), ?_⟩)
  obtain ⟨a0, rfl, h⟩ := h
  obtain ⟨t_MOST_PARTS, h_MOST_PARTS⟩ := T.k_MOST_PARTS
  have ib_MOST_PARTS : Gn mg "MOST_PARTS" (some _) := ⟨h_MOST_PARTS⟩
  have ib_isinstance := T.b_isinstance
  have ib_tuple := T.b_tuple
  have ib_len := T.b_len
  have hr' : Room 2 (X_are_parts P w K mg base f cdv A outer s H E).A := hr
  replace hr := hr'
  clear hr'
  obtain ⟨d, hd, h⟩ := h
  wp_step
  refine k_isTuple hd ⟨_, rfl, ?_⟩
  rcases no_tup (d := d) with ⟨ds, rfl⟩ | ⟨e1, e2, _⟩
  · cases hd with
    | tup hs ha =>
    rename_i a vs
    wp_step
    refine k_lenT hs ?_
    wp_step
    have hlen := ha.len
    refine iteD (fun c => ?_) fun c => ?_
    · wp_step
      have e : arePartsD (.tuple ds) = false := by
        show (decide (ds.length ≤ 6) && _) = false
        rw [decide_eq_false (by omega), Bool.false_and]
      rw [e] at h
      exact h
    · wp_step
      have e : arePartsD (.tuple ds) = ds.all isPartD := by
        show (decide (ds.length ≤ 6) && _) = _
        rw [decide_eq_true (by omega), Bool.true_and]
      rw [e] at h
      refine s_for (j_tup ?_)
      wp_step
      refine ⟨⟨_, hs⟩, _, _, _, walk_tup (xs := vs), fun i σ' H' => (∃ v, σ' = [some (.ref a), v]) ∧ H' = H ∧ (ds.take i).all isPartD = true, ⟨⟨_, rfl⟩, rfl, rfl⟩, fun _ _ _ _ ⟨_, e, _⟩ => by rw [e]; exact hs, ?_, ?_⟩
      · rintro i x σ' H' H2 hi ⟨⟨v, rfl⟩, rfl, hall⟩ ⟨rfl, hx⟩
        obtain ⟨d, hd1, hd2⟩ := ha.get hx
        wp_step
        refine e_call (df_is_sign T) (hr.mono (by decide)) ?_
        wp_step
        refine ⟨d, hd2, ?_⟩
        wp_step
        cases c1 : isSignD d with
        | true =>
          wp_step
          exact ⟨⟨_, rfl⟩, rfl, by rw [all_snoc hd1, hall]; simp [isPartD, c1]⟩
        | false =>
          wp_step
          refine e_call (df_is_name T) (hr.mono (by decide)) ?_
          wp_step
          refine ⟨d, hd2, ?_⟩
          wp_step
          cases c2 : isNameD d with
          | true =>
            wp_step
            exact ⟨⟨_, rfl⟩, rfl, by rw [all_snoc hd1, hall]; simp [isPartD, c2]⟩
          | false =>
            wp_step
            rw [all_cut hd1 (by simp [isPartD, c1, c2])] at h
            exact h
      · rintro σ' H' ⟨⟨v, rfl⟩, rfl, hall⟩
        wp_step
        rw [hlen, List.take_length] at hall
        rw [hall] at h
        exact h
  · rw [e1]
    rw [e2] at h
    wp_step
    exact h
end
theorem df_are_parts (T : Txt K mg cs) : Df P w K mg base "are_parts" 3 ["thing"] (sp1 (R_are_parts K)) := by
  obtain ⟨f, fd, hm, F, hb⟩ := T.f_are_parts.ex
  exact ⟨f, fd, hm, F.kp, hb, ok_are_parts F T⟩
def R_is_rule (K : PySem.W.Frag) : V → Hp → VK → XK → Prop := fun x H Q _ => ∃ d, Th K H x d ∧ Q (.bl (isRuleD d)) H
section
set_option hygiene false in
local macro_rules | `(tactic| top_name) => `(tactic| first | refine e_call (df_is_whole T) (hr.mono (by decide)) ?_ | refine e_call (df_is_name T) (hr.mono (by decide)) ?_ | refine e_call (df_are_parts T) (hr.mono (by decide)) ?_)
theorem ok_is_rule {f : Addr} {fd : FuncData} (F : Fun K "is_rule" "is_rule" s_is_rule f fd) (T : Txt K mg cs) : FnOk P w K mg base (L2.CX P w) 4 f fd ["thing"] (sp1 (R_is_rule K)) := by
  refine F.okX sc_is_rule (fun vs H Q E h => sp1_len h) (fun cdv A outer s H vs Q E hr h => ⟨_, PBw (X := X_is_rule P w K mg base f cdv A outer s H E), ?_⟩)
  obtain ⟨a0, rfl, h⟩ := h
  obtain ⟨t_MOST_WORTH, h_MOST_WORTH⟩ := T.k_MOST_WORTH
  have ib_MOST_WORTH : Gn mg "MOST_WORTH" (some _) := ⟨h_MOST_WORTH⟩
  have ib_isinstance := T.b_isinstance
  have ib_tuple := T.b_tuple
  have ib_len := T.b_len
  have hr' : Room 3 (X_is_rule P w K mg base f cdv A outer s H E).A := hr
  replace hr := hr'
  clear hr'
  obtain ⟨d, hd, h⟩ := h
  wp_step
  refine k_isTuple hd ⟨_, rfl, ?_⟩
  rcases no_tup (d := d) with ⟨ds, rfl⟩ | ⟨e1, _, e2⟩
  · cases hd with
    | tup hs ha =>
    rename_i a vs
    wp_step
    refine k_lenT hs ?_
    wp_step
    have hlen := ha.len
    refine iteND (fun c => ?_) fun c => ?_
    · wp_step
      have e : isRuleD (.tuple ds) = false := rule_len (by omega)
      rw [e] at h
      exact h
    · obtain ⟨d0, d1, d2, rfl⟩ := len3 (l := ds) (by omega)
      obtain ⟨v0, v1, v2, rfl, h0, h1, h2⟩ := th3 ha
      wp_step
      refine e_call (df_is_name T) (hr.mono (by decide)) ?_
      wp_step
      refine i_tup hs (v := v0) rfl ?_
      wp_step
      refine ⟨d0, h0, ?_⟩
      wp_step
      cases c0 : isNameD d0 with
      | false =>
        wp_step
        have e : isRuleD (.tuple [d0, d1, d2]) = false := by simp [isRuleD, isRuleL, c0]
        rw [e] at h
        exact h
      | true =>
        wp_step
        refine e_call (df_are_parts T) (hr.mono (by decide)) ?_
        wp_step
        refine i_tup hs (v := v1) rfl ?_
        wp_step
        refine ⟨d1, h1, ?_⟩
        wp_step
        cases c1 : arePartsD d1 with
        | false =>
          wp_step
          have e : isRuleD (.tuple [d0, d1, d2]) = false := by simp [isRuleD, isRuleL, c1]
          rw [e] at h
          exact h
        | true =>
          wp_step
          have e : isRuleD (.tuple [d0, d1, d2]) = isWorthD d2 := by simp [isRuleD, isRuleL, c0, c1]
          rw [e] at h
          refine e_and ?_
          refine e_call (df_is_whole T) (hr.mono (by decide)) ?_
          wp_step
          refine i_tup hs (v := v2) rfl ?_
          wp_step
          refine ⟨d2, h2, ?_⟩
          wp_step
          rcases th_whole h2 with ⟨n, rfl, rfl⟩ | ⟨f1, f2⟩
          · wp_step
            refine e_chain ?_
            wp_step
            refine i_tup hs (v := .int n) rfl ?_
            wp_step
            refine iteD (fun c3 => ?_) fun c3 => ?_
            · wp_step
              have e : isWorthD (.int n) = decide (n ≤ top60) := by
                show (decide (0 ≤ n) && _) = _
                rw [decide_eq_true c3, Bool.true_and]
              rw [e] at h
              exact h
            · have e : isWorthD (.int n) = false := by
                show (decide (0 ≤ n) && _) = _
                rw [decide_eq_false c3, Bool.false_and]
              rw [e] at h
              exact h
          · rw [f1]
            rw [f2] at h
            exact iteF h
  · rw [e1]
    rw [e2] at h
    wp_step
    exact h

end
theorem df_is_rule (T : Txt K mg cs) : Df P w K mg base "is_rule" 4 ["thing"] (sp1 (R_is_rule K)) := by
  obtain ⟨f, fd, hm, F, hb⟩ := T.f_is_rule.ex
  exact ⟨f, fd, hm, F.kp, hb, ok_is_rule F T⟩
/-! ### rules as data; rules as texts -/
structure Rl where
  head : Str
  parts : List Str
  worth : Int
def isPartS (p : Str) : Bool := isSignS p || isNameS p
def goodR (r : Rl) : Bool := (isNameS r.head && (decide (r.parts.length ≤ 6) && r.parts.all isPartS)) && (decide (0 ≤ r.worth) && decide (r.worth ≤ top60))
def ruleD (r : Rl) : PyData := .tuple [.str r.head, .tuple (r.parts.map .str), .int r.worth]
theorem goodR_D (r : Rl) : isRuleD (ruleD r) = goodR r := by
  show ((isNameS r.head && (decide ((r.parts.map PyData.str).length ≤ 6) && (r.parts.map PyData.str).all isPartD)) && _) = _
  rw [List.length_map, List.all_map]
  rfl
/-- a rule stands at v -/
def RuleAt (H : Hp) (v : V) (r : Rl) : Prop := ∃ a b, v = .ref a ∧ H a = some (.tup [.str r.head, .ref b, .int r.worth]) ∧ H b = some (.tup (r.parts.map V.str))
theorem RuleAt.more {H H' : Hp} {v : V} {r : Rl} (s : Same H H') (h : RuleAt H v r) : RuleAt H' v r := by
  obtain ⟨a, b, e, h1, h2⟩ := h
  exact ⟨a, b, e, s _ _ h1, s _ _ h2⟩
theorem th_strs {K : PySem.W.Frag} {H : Hp} : ∀ {l : List Str}, (∀ z ∈ l, z.length ≤ 1000000) → ThAll K H (l.map V.str) (l.map PyData.str)
  | [], _ => .nil
  | z :: l, h => .cons (.str z (h z (List.mem_cons_self ..))) (th_strs fun y hy => h y (List.mem_cons_of_mem _ hy))
theorem RuleAt.th {K : PySem.W.Frag} {H : Hp} {v : V} {r : Rl} (h : RuleAt H v r) (h1 : r.head.length ≤ 1000000) (h2 : ∀ z ∈ r.parts, z.length ≤ 1000000) : Th K H v (ruleD r) := by
  obtain ⟨a, b, rfl, e1, e2⟩ := h
  exact .tup (SqT.of e1) (.cons (.str _ h1) (.cons (.tup (SqT.of e2) (th_strs h2)) (.cons (.int _) .nil)))
theorem name_len {z : Str} (h : isNameS z = true) : z.length ≤ 8 := by
  unfold isNameS at h
  simp only [Bool.and_eq_true, decide_eq_true_eq] at h
  exact h.1.2
theorem sign_len {z : Str} (h : isSignS z = true) : z.length = 2 := by
  unfold isSignS at h
  rw [len_tl]
  match tl z, h with
  | [_, _], _ => rfl
theorem part_len {z : Str} (h : isPartS z = true) : z.length ≤ 8 := by
  unfold isPartS at h
  rcases Bool.or_eq_true_iff.mp h with h | h
  · have := sign_len h
    omega
  · exact name_len h
structure GoodR (r : Rl) : Prop where
  head : isNameS r.head = true
  few : r.parts.length ≤ 6
  parts : ∀ p ∈ r.parts, isPartS p = true
  lo : 0 ≤ r.worth
  hi : r.worth ≤ top60
theorem goodR_iff {r : Rl} : goodR r = true ↔ GoodR r := by
  unfold goodR
  simp only [Bool.and_eq_true, decide_eq_true_eq, List.all_eq_true]
  exact ⟨fun ⟨⟨a, b, c⟩, d, e⟩ => ⟨a, b, c, d, e⟩, fun h => ⟨⟨h.head, h.few, h.parts⟩, h.lo, h.hi⟩⟩
theorem GoodR.th {K : PySem.W.Frag} {H : Hp} {v : V} {r : Rl} (g : GoodR r) (h : RuleAt H v r) : Th K H v (ruleD r) :=
  h.th (Nat.le_trans (name_len g.head) (by decide)) fun z hz => Nat.le_trans (part_len (g.parts z hz)) (by decide)
theorem name_free {z : Str} (h : isNameS z = true) {s : Nat} (hs : s < 65) : s ∉ tl z := fun hm => by
  unfold isNameS at h
  simp only [Bool.and_eq_true, List.all_eq_true, decide_eq_true_eq] at h
  have := h.2 s hm
  omega
theorem sign_is {z : Str} (h : isSignS z = true) : ∃ c, tl z = [39, c] ∧ okc c = true := by
  unfold isSignS at h
  match e : tl z, h with
  | [a, c], h =>
    simp only [isSignL, Bool.and_eq_true, decide_eq_true_eq] at h
    exact ⟨c, by rw [h.1], h.2⟩
theorem tl_qs : tl (Str.ofString "' ") = [39, 32] := by decide +kernel
theorem tl_q : tl (Str.ofString "'") = [39] := by decide +kernel
theorem RuleAt.dp {K : PySem.W.Frag} {H : Hp} {v : V} {r : Rl} (h : RuleAt H v r) : Dp K H v (ruleD r) := by
  obtain ⟨a, b, rfl, e1, e2⟩ := h
  exact .tup (SqT.of e1) (.cons (.str _) (.cons (.tup (SqT.of e2) (dp_strs r.parts)) (.cons (.int _) .nil)))
theorem name_codes {z : Str} (h : isNameS z = true) : ∀ c ∈ tl z, c < 1114112 := fun c hc => by
  unfold isNameS at h
  simp only [Bool.and_eq_true, List.all_eq_true, decide_eq_true_eq] at h
  have := h.2 c hc
  omega
theorem part_codes {z : Str} (h : isPartS z = true) : ∀ c ∈ tl z, c < 1114112 := by
  rcases Bool.or_eq_true_iff.mp h with h | h
  · obtain ⟨c, e, hc⟩ := sign_is h
    rw [e]
    intro d hd
    simp only [okc, Bool.and_eq_true, decide_eq_true_eq] at hc
    simp only [List.mem_cons, List.not_mem_nil, or_false] at hd
    omega
  · exact name_codes h
theorem GoodR.sh {r : Rl} (g : GoodR r) : Sh 2 (ruleD r) := .tup fun d hd => by
  simp only [List.mem_cons, List.not_mem_nil, or_false] at hd
  rcases hd with rfl | rfl | rfl
  · exact .str (name_codes g.head)
  · refine .tup fun d hd => ?_
    obtain ⟨p, hp, rfl⟩ := List.mem_map.mp hd
    exact .str (part_codes (g.parts p hp))
  · exact .int _

/-! ### grammars as data -/
structure RulesAt (H : Hp) (vs : List V) (rs : List Rl) : Prop where
  len : vs.length = rs.length
  get : ∀ (i : Nat) (v : V), vs[i]? = some v → ∃ r, rs[i]? = some r ∧ RuleAt H v r
structure GoodG (rs : List Rl) : Prop where
  few : rs.length ≤ 60
  good : ∀ r ∈ rs, GoodR r
def isGramD : PyData → Bool
  | .list ds => decide (ds.length ≤ 60) && ds.all isRuleD
  | _ => false
theorem RuleAt.ts {H H' : Hp} {v : V} {r : Rl} (s : TS H H') (h : RuleAt H v r) : RuleAt H' v r := by
  obtain ⟨a, b, e, h1, h2⟩ := h
  exact ⟨a, b, e, s _ _ h1, s _ _ h2⟩
theorem RulesAt.ts {H H' : Hp} {vs : List V} {rs : List Rl} (s : TS H H') (h : RulesAt H vs rs) : RulesAt H' vs rs := ⟨h.len, fun i v e => by
  obtain ⟨r, h1, h2⟩ := h.get i v e
  exact ⟨r, h1, h2.ts s⟩⟩
theorem RulesAt.nil {H : Hp} : RulesAt H [] [] := ⟨rfl, fun i v e => by simp at e⟩
theorem RulesAt.cons {H : Hp} {v : V} {r : Rl} {vs : List V} {rs : List Rl} (h : RuleAt H v r) (t : RulesAt H vs rs) : RulesAt H (v :: vs) (r :: rs) := ⟨by simp [t.len], fun i w e => by
  cases i with
  | zero => simp at e; subst e; exact ⟨r, rfl, h⟩
  | succ i => exact t.get i w (by simpa using e)⟩
theorem RulesAt.tail {H : Hp} {v : V} {r : Rl} {vs : List V} {rs : List Rl} (h : RulesAt H (v :: vs) (r :: rs)) : RuleAt H v r ∧ RulesAt H vs rs := by
  obtain ⟨q, h1, h2⟩ := h.get 0 v rfl
  refine ⟨?_, ⟨by have := h.len; simpa using this, fun i w e => h.get (i + 1) w (by simpa using e)⟩⟩
  have : r = q := by simpa using h1
  rw [this]
  exact h2
theorem RulesAt.app {H : Hp} : ∀ {vs ws : List V} {rs qs : List Rl}, RulesAt H vs rs → RulesAt H ws qs → RulesAt H (vs ++ ws) (rs ++ qs)
  | [], ws, rs, qs, h, t => by
    have : rs = [] := List.eq_nil_of_length_eq_zero h.len.symm
    rw [this]
    exact t
  | v :: vs, ws, [], qs, h, t => by have := h.len; simp at this
  | v :: vs, ws, r :: rs, qs, h, t => .cons h.tail.1 (RulesAt.app h.tail.2 t)
theorem RulesAt.take {H : Hp} {vs : List V} {rs : List Rl} (h : RulesAt H vs rs) (n : Nat) : RulesAt H (vs.take n) (rs.take n) := ⟨by simp [h.len], fun i v e => by
  have hi : i < n := by
    have := (List.getElem?_eq_some_iff.mp e).1
    simp at this
    omega
  rw [List.getElem?_take_of_lt hi] at e
  rw [List.getElem?_take_of_lt hi]
  exact h.get i v e⟩
theorem RulesAt.drop {H : Hp} {vs : List V} {rs : List Rl} (h : RulesAt H vs rs) (n : Nat) : RulesAt H (vs.drop n) (rs.drop n) := ⟨by simp [h.len], fun i v e => by
  rw [List.getElem?_drop] at e
  rw [List.getElem?_drop]
  exact h.get _ v e⟩
theorem RulesAt.rev {H : Hp} : ∀ {vs : List V} {rs : List Rl}, RulesAt H vs rs → RulesAt H vs.reverse rs.reverse
  | [], rs, h => by
    have : rs = [] := List.eq_nil_of_length_eq_zero h.len.symm
    rw [this]
    exact .nil
  | v :: vs, [], h => by have := h.len; simp at this
  | v :: vs, r :: rs, h => by
    rw [List.reverse_cons, List.reverse_cons]
    exact (RulesAt.rev h.tail.2).app (.cons h.tail.1 .nil)
theorem RulesAt.th {K : PySem.W.Frag} {H : Hp} : ∀ {vs : List V} {rs : List Rl}, RulesAt H vs rs → (∀ r ∈ rs, GoodR r) → ThAll K H vs (rs.map ruleD)
  | [], rs, h, _ => by
    have : rs = [] := List.eq_nil_of_length_eq_zero h.len.symm
    rw [this]
    exact .nil
  | v :: vs, [], h, _ => by have := h.len; simp at this
  | v :: vs, r :: rs, h, g => .cons ((g r (List.mem_cons_self ..)).th h.tail.1) (RulesAt.th h.tail.2 fun q hq => g q (List.mem_cons_of_mem _ hq))
theorem RulesAt.dp {K : PySem.W.Frag} {H : Hp} : ∀ {vs : List V} {rs : List Rl}, RulesAt H vs rs → DpAll K H vs (rs.map ruleD)
  | [], rs, h => by
    have : rs = [] := List.eq_nil_of_length_eq_zero h.len.symm
    rw [this]
    exact .nil
  | v :: vs, [], h => by have := h.len; simp at this
  | v :: vs, r :: rs, h => .cons h.tail.1.dp (RulesAt.dp h.tail.2)
theorem RulesAt.at' {H : Hp} {vs : List V} {rs : List Rl} {k : Nat} {r : Rl} (h : RulesAt H vs rs) (hk : rs[k]? = some r) : ∃ ra rb, vs[k]? = some (.ref ra) ∧ atI vs (k : Int) = some (.ref ra) ∧ H ra = some (.tup [.str r.head, .ref rb, .int r.worth]) ∧ H rb = some (.tup (r.parts.map V.str)) := by
  obtain ⟨v, hv⟩ : ∃ v, vs[k]? = some v := ⟨_, List.getElem?_eq_getElem (by have := (List.getElem?_eq_some_iff.mp hk).1; have := h.len; omega)⟩
  obtain ⟨r', q1, q2⟩ := h.get k v hv
  obtain rfl : r' = r := Option.some.inj (q1.symm.trans hk)
  obtain ⟨ra, rb, rfl, e1, e2⟩ := q2
  exact ⟨ra, rb, hv, atI_nat (by omega) (by rw [show ((k : Nat) : Int).toNat = k by omega]; exact hv), e1, e2⟩
def gramD (rs : List Rl) : PyData := .list (rs.map ruleD)
theorem gram_good {rs : List Rl} (g : GoodG rs) : isGramD (gramD rs) = true := by
  show (decide ((rs.map ruleD).length ≤ 60) && (rs.map ruleD).all isRuleD) = true
  rw [decide_eq_true (by rw [List.length_map]; exact g.few), Bool.true_and, List.all_map, List.all_eq_true]
  intro r hr
  show isRuleD (ruleD r) = true
  rw [goodR_D]
  exact goodR_iff.mpr (g.good r hr)
theorem gram_sh {rs : List Rl} (g : ∀ r ∈ rs, GoodR r) : Sh 3 (gramD rs) := .lst fun d hd => by
  obtain ⟨r, hr, rfl⟩ := List.mem_map.mp hd
  exact (g r hr).sh
/-- a grammar at v -/
structure GramAt (K : PySem.W.Frag) (H : Hp) (v : V) (a : Addr) (vs : List V) (rs : List Rl) : Prop where
  ref : v = .ref a
  sq : SqL K H a vs
  at_ : RulesAt H vs rs
  ok : GoodG rs
theorem GramAt.more {K : PySem.W.Frag} {H H' : Hp} {v : V} {a : Addr} {vs : List V} {rs : List Rl} (s : Same H H') (h : GramAt K H v a vs rs) : GramAt K H' v a vs rs := ⟨h.ref, s.seq h.sq, h.at_.ts (Same.ts s), h.ok⟩
theorem GramAt.dp {K : PySem.W.Frag} {H : Hp} {v : V} {a : Addr} {vs : List V} {rs : List Rl} (h : GramAt K H v a vs rs) : Dp K H v (gramD rs) := by
  rw [h.ref]
  exact .lst h.sq h.at_.dp
theorem GramAt.th {K : PySem.W.Frag} {H : Hp} {v : V} {a : Addr} {vs : List V} {rs : List Rl} (h : GramAt K H v a vs rs) : Th K H v (gramD rs) := by
  rw [h.ref]
  exact .lst h.sq (h.at_.th h.ok.good)
theorem gram_no {d : PyData} (h : isK d "list" = false) : isGramD d = false := by
  cases d <;> first | rfl | (exact Bool.noConfusion h)
theorem no_lst {K : PySem.W.Frag} {H : Hp} {v : V} {d : PyData} (h : Th K H v d) : (∃ a vs ds, v = .ref a ∧ d = .list ds ∧ SqL K H a vs ∧ ThAll K H vs ds) ∨ isK d "list" = false := by
  cases h <;> first | exact .inl ⟨_, _, _, rfl, rfl, ‹_›, ‹_›⟩ | exact .inr rfl
def R_checked (K : PySem.W.Frag) (cs : Cs) : V → Hp → VK → XK → Prop := fun x H Q E =>
  (∃ a vs rs, GramAt K H x a vs rs ∧ ∀ l H', Same H H' → H l = none → H' l = some (.lst vs) → Q (.ref l) H') ∨ (∃ d, Th K H x d ∧ isGramD d = false ∧ ∀ H', Same H H' → E (.ref cs.NoGrammar) none H')
section
set_option hygiene false in
local macro_rules | `(tactic| top_name) => `(tactic| first | refine e_call (df_is_rule T) (hr.mono (by decide)) ?_)
set_option hygiene false in
local macro_rules | `(tactic| top_raise) => `(tactic| first | refine s_raise T.x_NoGrammar ?_)
theorem ok_checked {f : Addr} {fd : FuncData} (F : Fun K "checked" "checked" s_checked f fd) (T : Txt K mg cs) : FnOk P w K mg base (L2.CX P w) 5 f fd ["thing"] (sp1 (R_checked K cs)) := by
  refine F.okX sc_checked (fun vs H Q E h => sp1_len h) (fun cdv A outer s H vs Q E hr h => ⟨_, PBw (X := X_checked P w K mg base f cdv A outer s H E), ?_⟩)
  obtain ⟨a0, rfl, h⟩ := h
  obtain ⟨t_MOST_RULES, h_MOST_RULES⟩ := T.k_MOST_RULES
  have ib_MOST_RULES : Gn mg "MOST_RULES" (some _) := ⟨h_MOST_RULES⟩
  have ib_NoGrammar : Gn mg "NoGrammar" (some _) := ⟨T.x_NoGrammar.mg⟩
  have ib_isinstance := T.b_isinstance
  have ib_list := T.b_list
  have ib_len := T.b_len
  have hr' : Room 4 (X_checked P w K mg base f cdv A outer s H E).A := hr
  replace hr := hr'
  clear hr'
  have key : (∃ a vs ds, a0 = .ref a ∧ SqL K H a vs ∧ ThAll K H vs ds ∧ (isGramD (.list ds) = true → ∀ l H', Same H H' → H l = none → H' l = some (.lst vs) → Q (.ref l) H') ∧ (isGramD (.list ds) = false → ∀ H', Same H H' → E (.ref cs.NoGrammar) none H')) ∨
      (∃ d, Th K H a0 d ∧ isK d "list" = false ∧ ∀ H', Same H H' → E (.ref cs.NoGrammar) none H') := by
    rcases h with ⟨a, vs, rs, g, q⟩ | ⟨d, hd, hb, q⟩
    · refine .inl ⟨a, vs, rs.map ruleD, g.ref, g.sq, g.at_.th g.ok.good, fun _ => q, fun z => ?_⟩
      exact absurd ((gram_good g.ok).symm.trans z) (by simp)
    · rcases no_lst hd with ⟨a, vs, ds, e1, e2, h1, h2⟩ | e
      · exact .inl ⟨a, vs, ds, e1, h1, h2, fun z => absurd (z.symm.trans (e2 ▸ hb)) (by simp), fun _ => q⟩
      · exact .inr ⟨d, hd, e, q⟩
  clear h
  wp_step
  rcases key with ⟨a, vs, ds, rfl, hs, ha, h1, h2⟩ | ⟨d, hd, hb, q⟩
  · refine k_isList (Th.lst hs ha) ⟨_, rfl, ?_⟩
    wp_step
    refine k_lenL hs ?_
    wp_step
    have hlen := ha.len
    refine iteD (fun c => ?_) fun c => ?_
    · wp_step
      refine s_raise T.x_NoGrammar ?_
      refine h2 ?_ _ (Same.refl _)
      show (decide (ds.length ≤ 60) && _) = false
      rw [decide_eq_false (by omega), Bool.false_and]
    · wp_step
      have hgood : isGramD (.list ds) = ds.all isRuleD := by
        show (decide (ds.length ≤ 60) && _) = _
        rw [decide_eq_true (by omega), Bool.true_and]
      rw [hgood] at h1 h2
      intro l H1 s1 n1 k1 e1
      wp_step
      have sam : ∀ {H' : Hp}, (∀ b, b ≠ l → H' b = H1 b) → Same H H' := fun k b o e => by
        rw [k b (ne_of_none e n1)]
        exact s1 _ _ e
      refine s_for (j_list ?_)
      wp_step
      refine ⟨⟨_, s1.seq hs⟩, _, _, _, walk_list (xs := vs), fun i σ' H' => (∃ v, σ' = [some (.ref a), some (.ref l), v]) ∧ H' l = some (.lst (vs.take i)) ∧ (∀ b, b ≠ l → H' b = H1 b) ∧ (ds.take i).all isRuleD = true, ⟨⟨_, rfl⟩, k1, fun _ _ => rfl, rfl⟩, fun _ _ _ _ ⟨_, _, e, _⟩ => (sam e).seq hs, ?_, ?_⟩
      · rintro i x σ' H' H2 hi ⟨⟨v, rfl⟩, k2, e2, hall⟩ ⟨rfl, hx⟩
        obtain ⟨d, hd1, hd2⟩ := ha.get hx
        wp_step
        refine e_call (df_is_rule T) (hr.mono (by decide)) ?_
        wp_step
        refine ⟨d, hd2.more (sam e2), ?_⟩
        wp_step
        cases c1 : isRuleD d with
        | true =>
          wp_step
          refine e_append ?_
          wp_step
          refine ⟨ty_l k2, ?_⟩
          wp_step
          refine m_append k2 (by rw [List.length_take]; omega) fun H3 k3 e3 => ?_
          wp_step
          refine ⟨⟨_, rfl⟩, ?_, fun b hb => (e3 b hb).trans (e2 b hb), by rw [all_snoc hd1, hall, c1]; rfl⟩
          rw [k3, List.take_add_one, hx]
          rfl
        | false =>
          wp_step
          refine s_raise T.x_NoGrammar ?_
          exact h2 (all_cut hd1 c1) _ (sam e2)
      · rintro σ' H' ⟨⟨v, rfl⟩, k2, e2, hall⟩
        wp_step
        rw [List.take_length] at k2
        rw [hlen, List.take_length] at hall
        exact h1 hall l _ (sam e2) n1 k2
  · refine k_isList hd ⟨_, rfl, ?_⟩
    rw [hb]
    wp_step
    refine s_raise T.x_NoGrammar ?_
    exact q _ (Same.refl _)

end
theorem df_checked (T : Txt K mg cs) : Df P w K mg base "checked" 5 ["thing"] (sp1 (R_checked K cs)) := by
  obtain ⟨f, fd, hm, F, hb⟩ := T.f_checked.ex
  exact ⟨f, fd, hm, F.kp, hb, ok_checked F T⟩
def startV : List Rl → V
  | [] => .non
  | r :: _ => .str r.head
theorem gram_nil : ∀ rs : List Rl, PyData.eqv (gramD rs) (.list []) = decide (rs = [])
  | [] => rfl
  | _ :: _ => rfl
/-- what a def of a grammar promises: the good way, or the refusal -/
def RG (K : PySem.W.Frag) (cs : Cs) (x : V) (H : Hp) (E : XK) (good : Addr → List V → List Rl → Prop) : Prop :=
  (∃ a vs rs, GramAt K H x a vs rs ∧ good a vs rs) ∨ (∃ d, Th K H x d ∧ isGramD d = false ∧ ∀ H', Same H H' → E (.ref cs.NoGrammar) none H')
def addHead (hs : List Str) (h : Str) : List Str := if h ∈ hs then hs else hs ++ [h]
def headsTo (rs : List Rl) (i : Nat) : List Str := (rs.take i).foldl (fun hs r => addHead hs r.head) []
def heads (rs : List Rl) : List Str := headsTo rs rs.length
theorem heads_step {rs : List Rl} {i : Nat} {r : Rl} (h : rs[i]? = some r) : headsTo rs (i + 1) = addHead (headsTo rs i) r.head := by
  unfold headsTo
  rw [List.take_add_one, h, Option.toList_some, List.foldl_append]
  rfl
theorem heads_le (rs : List Rl) : ∀ i, (headsTo rs i).length ≤ i
  | 0 => by simp [headsTo]
  | i + 1 => by
    cases h : rs[i]? with
    | none =>
      have e : headsTo rs (i + 1) = headsTo rs i := by
        unfold headsTo
        rw [List.take_add_one, h, Option.toList_none, List.append_nil]
      rw [e]
      exact Nat.le_succ_of_le (heads_le rs i)
    | some r =>
      rw [heads_step h]
      unfold addHead
      have := heads_le rs i
      split
      · omega
      · simp; omega
def flags (hs : List Str) : List (Key × V) := hs.map fun h => (.inr h, .bl true)
theorem flags_put (hs : List Str) (h : Str) : putK (flags hs) (.inr h) (.bl true) = flags (addHead hs h) := by
  have e : ((flags hs).any fun kv => decide (kv.1 = .inr h)) = decide (h ∈ hs) := by
    unfold flags
    rw [List.any_map, Bool.eq_iff_iff, List.any_eq_true, decide_eq_true_eq]
    constructor
    · rintro ⟨x, hx, q⟩
      have q2 : (Sum.inr x : Key) = .inr h := of_decide_eq_true q
      cases q2
      exact hx
    · intro hm
      exact ⟨h, hm, decide_eq_true rfl⟩
  unfold putK addHead
  rw [e]
  by_cases hm : h ∈ hs
  · rw [decide_eq_true hm, if_pos rfl, if_pos hm]
    unfold flags
    rw [List.map_map]
    apply List.map_congr_left
    intro x hx
    show (if (Sum.inr x : Key) = .inr h then ((Sum.inr x : Key), V.bl true) else ((Sum.inr x : Key), V.bl true)) = _
    rw [ite_self]
  · rw [decide_eq_false hm, if_neg Bool.false_ne_true, if_neg hm]
    unfold flags
    rw [List.map_append]
    rfl
theorem flags_keys (hs : List Str) : (flags hs).map (fun kv => kV kv.1) = hs.map V.str := by
  unfold flags
  rw [List.map_map]
  rfl
theorem flags_len (hs : List Str) : (flags hs).length = hs.length := List.length_map ..
/-- the numbers of a head's rules, below i -/
def numsTo (rs : List Rl) (h : Str) (i : Nat) : List Nat := (List.range i).filter fun k => decide (rs[k]?.map Rl.head = some h)
def nums (rs : List Rl) (h : Str) : List Nat := numsTo rs h rs.length
def numV (l : List Nat) : List V := l.map fun k => V.int (k : Nat)
theorem nums_step (rs : List Rl) (h : Str) (i : Nat) : numsTo rs h (i + 1) = numsTo rs h i ++ (if rs[i]?.map Rl.head = some h then [i] else []) := by
  unfold numsTo
  rw [List.range_succ, List.filter_append]
  congr 1
  by_cases q : rs[i]?.map Rl.head = some h
  · rw [if_pos q, List.filter_cons_of_pos (by rw [q]; simp), List.filter_nil]
  · rw [if_neg q, List.filter_cons_of_neg (by simpa using q), List.filter_nil]
theorem nums_le (rs : List Rl) (h : Str) (i : Nat) : (numsTo rs h i).length ≤ i := by
  have := List.length_filter_le (fun k => decide (rs[k]?.map Rl.head = some h)) (List.range i)
  rwa [List.length_range] at this
/-! ### least sizes: the plain law -/
abbrev Szs : Type := List (Str × Nat)
def szK (S : Szs) : List (Key × V) := S.map fun p => (.inr p.1, .int (p.2 : Nat))
def look : Szs → Str → Option Nat
  | [], _ => none
  | p :: S, h => if p.1 = h then some p.2 else look S h
def putS : Szs → Str → Nat → Szs
  | [], h, n => [(h, n)]
  | p :: S, h, n => if p.1 = h then (p.1, n) :: S.map (fun q => if q.1 = h then (q.1, n) else q) else p :: putS S h n
theorem valV_sz : ∀ (S : Szs) (h : Str), valV (szK S) (.inr h) = (look S h).map fun n => V.int (n : Nat)
  | [], _ => rfl
  | p :: S, h => by
    show valV ((Sum.inr p.1, V.int (p.2 : Nat)) :: szK S) (.inr h) = _
    unfold look
    by_cases e : p.1 = h
    · rw [if_pos e, valV_pos (by show (Sum.inr p.1 : Key) = .inr h; rw [e])]
      rfl
    · rw [if_neg e, valV_neg (fun q => e (Sum.inr.inj q)), valV_sz S h]
theorem any_sz (S : Szs) (h : Str) : ((szK S).any fun kv => decide (kv.1 = .inr h)) = (look S h).isSome := by
  rw [valV_any, valV_sz]
  cases look S h <;> rfl
theorem map_sz (S : Szs) (h : Str) (n : Nat) : (szK S).map (fun kv => if kv.1 = .inr h then (kv.1, V.int (n : Nat)) else kv) = szK (S.map fun q => if q.1 = h then (q.1, n) else q) := by
  unfold szK
  rw [List.map_map, List.map_map]
  apply List.map_congr_left
  intro p _
  show (if (Sum.inr p.1 : Key) = .inr h then ((Sum.inr p.1 : Key), V.int (n : Nat)) else ((Sum.inr p.1 : Key), V.int (p.2 : Nat))) = ((Sum.inr (if p.1 = h then (p.1, n) else p).1 : Key), V.int ((if p.1 = h then (p.1, n) else p).2 : Nat))
  by_cases e : p.1 = h
  · rw [if_pos e, if_pos (by rw [e])]
  · rw [if_neg e, if_neg (fun q => e (Sum.inr.inj q))]
theorem putS_some : ∀ {S : Szs} {h : Str} {n : Nat}, (look S h).isSome = true → putS S h n = S.map fun q => if q.1 = h then (q.1, n) else q
  | [], _, _, q => by cases q
  | p :: S, h, n, q => by
    unfold look at q
    unfold putS
    by_cases e : p.1 = h
    · rw [if_pos e, List.map_cons, if_pos e]
    · rw [if_neg e] at q
      rw [if_neg e, List.map_cons, if_neg e, putS_some q]
theorem putS_none : ∀ {S : Szs} {h : Str} {n : Nat}, look S h = none → putS S h n = S ++ [(h, n)]
  | [], _, _, _ => rfl
  | p :: S, h, n, q => by
    unfold look at q
    unfold putS
    by_cases e : p.1 = h
    · rw [if_pos e] at q; cases q
    · rw [if_neg e] at q
      rw [if_neg e, putS_none q]
      rfl
theorem putK_sz (S : Szs) (h : Str) (n : Nat) : putK (szK S) (.inr h) (.int (n : Nat)) = szK (putS S h n) := by
  unfold putK
  rw [any_sz]
  cases e : look S h with
  | none =>
    rw [putS_none e, if_neg (by simp)]
    unfold szK
    rw [List.map_append]
    rfl
  | some m => rw [putS_some (by rw [e]; rfl), if_pos (by simp), map_sz]
theorem look_map : ∀ (S : Szs) (h : Str) (n : Nat) (k : Str), look (S.map fun q => if q.1 = h then (q.1, n) else q) k = if k = h then (look S k).map (fun _ => n) else look S k
  | [], h, n, k => by simp [look]
  | p :: S, h, n, k => by
    rw [List.map_cons]
    by_cases e : p.1 = h
    · rw [if_pos e]
      unfold look
      by_cases e2 : p.1 = k
      · rw [if_pos e2, if_pos e2, if_pos (by rw [← e2, e])]; rfl
      · rw [if_neg e2, if_neg e2, look_map S h n k]
    · rw [if_neg e]
      unfold look
      by_cases e2 : p.1 = k
      · rw [if_pos e2, if_pos e2, if_neg (by rw [← e2]; exact e)]
      · rw [if_neg e2, if_neg e2, look_map S h n k]
theorem look_app : ∀ (S : Szs) (h : Str) (n : Nat) (k : Str), look S h = none → look (S ++ [(h, n)]) k = if k = h then some n else look S k
  | [], h, n, k, _ => by
    show (if h = k then some n else none) = _
    by_cases e : h = k
    · rw [if_pos e, if_pos e.symm]
    · rw [if_neg e, if_neg fun q => e q.symm]; rfl
  | p :: S, h, n, k, q => by
    unfold look at q
    by_cases e : p.1 = h
    · rw [if_pos e] at q; cases q
    · rw [if_neg e] at q
      rw [List.cons_append]
      unfold look
      by_cases e2 : p.1 = k
      · rw [if_pos e2, if_pos e2, if_neg (by rw [← e2]; exact e)]
      · rw [if_neg e2, if_neg e2, look_app S h n k q]
theorem look_put (S : Szs) (h : Str) (n : Nat) (k : Str) : look (putS S h n) k = if k = h then some n else look S k := by
  cases e : look S h with
  | none => rw [putS_none e, look_app S h n k e]
  | some m =>
    rw [putS_some (by rw [e]; rfl), look_map]
    by_cases e2 : k = h
    · rw [if_pos e2, if_pos e2, e2, e]; rfl
    · rw [if_neg e2, if_neg e2]
theorem look_mem : ∀ {S : Szs} {h : Str} {n : Nat}, look S h = some n → (h, n) ∈ S
  | [], _, _, q => by cases q
  | p :: S, h, n, q => by
    unfold look at q
    by_cases e : p.1 = h
    · rw [if_pos e] at q
      cases q
      rw [← e]
      exact List.mem_cons_self ..
    · rw [if_neg e] at q
      exact List.mem_cons_of_mem _ (look_mem q)
/-- the size beneath parts -/
def sizeP (S : Szs) : List Str → Option Nat
  | [] => some 0
  | p :: r => if isSg p = true then sizeP S r else (look S p).bind fun n => (sizeP S r).map (n + ·)
theorem sizeP_app (S : Szs) : ∀ (a b : List Str), sizeP S (a ++ b) = (sizeP S a).bind fun n => (sizeP S b).map (n + ·)
  | [], b => by
    show sizeP S b = _
    cases sizeP S b <;> simp [sizeP]
  | p :: a, b => by
    show (if isSg p = true then sizeP S (a ++ b) else (look S p).bind fun n => (sizeP S (a ++ b)).map (n + ·)) = (if isSg p = true then sizeP S a else (look S p).bind fun n => (sizeP S a).map (n + ·)).bind _
    rw [sizeP_app S a b]
    by_cases e : isSg p = true
    · rw [if_pos e, if_pos e]
    · rw [if_neg e, if_neg e]
      cases look S p <;> simp
      cases sizeP S a <;> simp
      cases sizeP S b <;> simp
      omega
theorem sizeP_bad {S : Szs} {ps : List Str} {p : Str} (hm : p ∈ ps) (hs : isSg p = false) (hl : look S p = none) : sizeP S ps = none := by
  obtain ⟨a, b, rfl⟩ := List.append_of_mem hm
  rw [sizeP_app]
  cases sizeP S a with
  | none => rfl
  | some n =>
    show (sizeP S (p :: b)).map _ = none
    have : sizeP S (p :: b) = none := by
      show (if isSg p = true then _ else (look S p).bind _) = none
      rw [hs, hl]
      rfl
    rw [this]
    rfl
/-- S is no worse than S' -/
def Le (S' S : Szs) : Prop := ∀ h n, look S h = some n → ∃ m, look S' h = some m ∧ m ≤ n
theorem Le.refl (S : Szs) : Le S S := fun _ n e => ⟨n, e, Nat.le_refl _⟩
theorem sizeP_le {S S' : Szs} (l : Le S' S) : ∀ {ps : List Str} {n : Nat}, sizeP S ps = some n → ∃ m, sizeP S' ps = some m ∧ m ≤ n
  | [], n, e => ⟨0, rfl, Nat.zero_le _⟩
  | p :: r, n, e => by
    have e : (if isSg p = true then sizeP S r else (look S p).bind fun n => (sizeP S r).map (n + ·)) = some n := e
    show ∃ m, (if isSg p = true then sizeP S' r else (look S' p).bind fun n => (sizeP S' r).map (n + ·)) = some m ∧ m ≤ n
    by_cases c : isSg p = true
    · rw [if_pos c] at e ⊢
      exact sizeP_le l e
    · rw [if_neg c] at e ⊢
      cases h1 : look S p with
      | none => rw [h1] at e; cases e
      | some a =>
        cases h2 : sizeP S r with
        | none => rw [h1, h2] at e; cases e
        | some b =>
          rw [h1, h2] at e
          have e : a + b = n := Option.some.inj e
          obtain ⟨a', q1, q2⟩ := l p a h1
          obtain ⟨b', q3, q4⟩ := sizeP_le l h2
          exact ⟨a' + b', by rw [q1, q3]; rfl, by omega⟩
/-- whether a rule betters a size -/
def betters (S : Szs) (r : Rl) : Option Nat :=
  match sizeP S r.parts with
  | none => none
  | some m => match look S r.head with
    | none => some (m + 1)
    | some n => if m + 1 < n then some (m + 1) else none
def stepS (S : Szs) (r : Rl) : Szs := match betters S r with
  | none => S
  | some n => putS S r.head n
def passS (rs : List Rl) (S : Szs) : Szs := rs.foldl stepS S
def iterS (rs : List Rl) : Nat → Szs
  | 0 => []
  | k + 1 => passS rs (iterS rs k)
theorem stepS_le (S : Szs) (r : Rl) : Le (stepS S r) S := by
  unfold stepS betters
  cases sizeP S r.parts with
  | none => exact Le.refl _
  | some m =>
    cases hl : look S r.head with
    | none =>
      intro h n e
      refine ⟨n, ?_, Nat.le_refl _⟩
      rw [look_put, if_neg (fun q => by rw [q, hl] at e; cases e)]
      exact e
    | some k =>
      show Le (match if m + 1 < k then some (m + 1) else none with | none => S | some n => putS S r.head n) S
      by_cases c : m + 1 < k
      · rw [if_pos c]
        intro h n e
        show ∃ x, look (putS S r.head (m + 1)) h = some x ∧ x ≤ n
        rw [look_put]
        by_cases q : h = r.head
        · rw [if_pos q]
          rw [q, hl] at e
          cases e
          exact ⟨_, rfl, by omega⟩
        · rw [if_neg q]
          exact ⟨n, e, Nat.le_refl _⟩
      · rw [if_neg c]
        exact Le.refl _
/-- what holds all along -/
structure Grow (rs : List Rl) (S : Szs) : Prop where
  nd : (S.map (·.1)).Nodup
  why : ∀ h n, look S h = some n → ∃ r ∈ rs, r.head = h ∧ ∃ m, sizeP S r.parts = some m ∧ m + 1 ≤ n
  cap : ∀ h n, look S h = some n → n ≤ 7 ^ S.length
theorem Grow.nil (rs : List Rl) : Grow rs [] := ⟨List.nodup_nil, (by intro h n e; cases e), (by intro h n e; cases e)⟩
theorem keys_put (S : Szs) (h : Str) (n : Nat) : (putS S h n).map (·.1) = if (look S h).isSome = true then S.map (·.1) else S.map (·.1) ++ [h] := by
  cases e : look S h with
  | none => rw [putS_none e, List.map_append, if_neg (by simp)]; rfl
  | some m =>
    rw [putS_some (by rw [e]; rfl), if_pos (by simp), List.map_map]
    apply List.map_congr_left
    intro p _
    show (if p.1 = h then (p.1, n) else p).1 = p.1
    split <;> rfl
theorem look_none {S : Szs} {h : Str} (e : look S h = none) : h ∉ S.map (·.1) := by
  induction S with
  | nil => simp
  | cons p S ih =>
    unfold look at e
    by_cases c : p.1 = h
    · rw [if_pos c] at e; cases e
    · rw [if_neg c] at e
      rw [List.map_cons, List.mem_cons]
      rintro (q | q)
      · exact c q.symm
      · exact ih e q
theorem mem_look {S : Szs} {h : Str} (e : h ∈ S.map (·.1)) : ∃ n, look S h = some n := by
  cases q : look S h with
  | none => exact absurd e (look_none q)
  | some n => exact ⟨n, rfl⟩
theorem sizeP_cap {S : Szs} {B : Nat} (c : ∀ h n, look S h = some n → n ≤ B) : ∀ {ps : List Str} {m : Nat}, sizeP S ps = some m → m ≤ ps.length * B
  | [], m, e => by cases e; exact Nat.zero_le _
  | p :: r, m, e => by
    have e : (if isSg p = true then sizeP S r else (look S p).bind fun n => (sizeP S r).map (n + ·)) = some m := e
    rw [List.length_cons, Nat.succ_mul]
    by_cases q : isSg p = true
    · rw [if_pos q] at e
      have := sizeP_cap c e
      omega
    · rw [if_neg q] at e
      cases h1 : look S p with
      | none => rw [h1] at e; cases e
      | some a =>
        cases h2 : sizeP S r with
        | none => rw [h1, h2] at e; cases e
        | some b =>
          rw [h1, h2] at e
          have e : a + b = m := Option.some.inj e
          have := sizeP_cap c h2
          have := c p a h1
          omega
theorem Grow.step {rs : List Rl} {S : Szs} {r : Rl} (g : Grow rs S) (hr : r ∈ rs) (h6 : r.parts.length ≤ 6) : Grow rs (stepS S r) := by
  have le := stepS_le S r
  cases hb : betters S r with
  | none =>
    have e : stepS S r = S := by unfold stepS; rw [hb]
    rw [e]
    exact g
  | some k =>
    have e : stepS S r = putS S r.head k := by unfold stepS; rw [hb]
    rw [e] at le ⊢
    obtain ⟨m, hm, hk, hlow⟩ : ∃ m, sizeP S r.parts = some m ∧ k = m + 1 ∧ ∀ n, look S r.head = some n → m + 1 < n := by
      unfold betters at hb
      cases hm : sizeP S r.parts with
      | none => rw [hm] at hb; cases hb
      | some m =>
        rw [hm] at hb
        cases hl : look S r.head with
        | none =>
          rw [hl] at hb
          cases hb
          exact ⟨m, rfl, rfl, fun n q => by cases q⟩
        | some n =>
          rw [hl] at hb
          have hb : (if m + 1 < n then some (m + 1) else none) = some k := hb
          by_cases c : m + 1 < n
          · rw [if_pos c] at hb
            cases hb
            exact ⟨m, rfl, rfl, fun n' q => by cases q; exact c⟩
          · rw [if_neg c] at hb; cases hb
    have hk7 : k ≤ 7 ^ (S.length + 1) ∧ (∀ n, look S r.head = some n → k ≤ 7 ^ S.length) := by
      refine ⟨?_, fun n q => ?_⟩
      · have h1 := sizeP_cap g.cap hm
        have h2 : r.parts.length * 7 ^ S.length ≤ 6 * 7 ^ S.length := Nat.mul_le_mul_right _ h6
        have h3 : 0 < 7 ^ S.length := Nat.pow_pos (by decide)
        rw [Nat.pow_succ]
        omega
      · have := g.cap _ _ q
        have := hlow n q
        omega
    have hlen : S.length ≤ (putS S r.head k).length ∧ (look S r.head = none → (putS S r.head k).length = S.length + 1) ∧ ((look S r.head).isSome = true → (putS S r.head k).length = S.length) := by
      have e := keys_put S r.head k
      have l1 : (putS S r.head k).length = ((putS S r.head k).map (·.1)).length := (List.length_map ..).symm
      rw [l1, e]
      cases look S r.head with
      | none => simp
      | some n => simp
    refine ⟨?_, fun h n q => ?_, fun h n q => ?_⟩
    · rw [keys_put]
      cases hl : look S r.head with
      | some n => rw [if_pos (by simp)]; exact g.nd
      | none =>
        rw [if_neg (by simp)]
        exact List.nodup_append.mpr ⟨g.nd, by simp, fun a ha b hb => by
          rw [List.mem_singleton.mp hb]
          exact fun z => look_none hl (by rw [← z]; exact ha)⟩
    · rw [look_put] at q
      by_cases c : h = r.head
      · rw [if_pos c] at q
        cases q
        obtain ⟨m', q1, q2⟩ := sizeP_le le hm
        exact ⟨r, hr, c.symm, m', q1, by omega⟩
      · rw [if_neg c] at q
        obtain ⟨r', h1, h2, m', h3, h4⟩ := g.why h n q
        obtain ⟨m'', q1, q2⟩ := sizeP_le le h3
        exact ⟨r', h1, h2, m'', q1, by omega⟩
    · rw [look_put] at q
      by_cases c : h = r.head
      · rw [if_pos c] at q
        cases q
        cases hl : look S r.head with
        | none => rw [hlen.2.1 hl]; exact hk7.1
        | some n' => rw [hlen.2.2 (by rw [hl]; rfl)]; exact hk7.2 n' hl
      · rw [if_neg c] at q
        exact Nat.le_trans (g.cap h n q) (Nat.pow_le_pow_right (by decide) hlen.1)
theorem nodup_len {α : Type} [DecidableEq α] : ∀ {l m : List α}, l.Nodup → (∀ x ∈ l, x ∈ m) → l.length ≤ m.length
  | [], _, _, _ => Nat.zero_le _
  | a :: l, m, nd, h => by
    have ha := h a (List.mem_cons_self ..)
    have nd' := List.nodup_cons.mp nd
    have := nodup_len (l := l) (m := m.erase a) nd'.2 fun x hx => (List.mem_erase_of_ne (fun z => nd'.1 (by rw [← z]; exact hx))).mpr (h x (List.mem_cons_of_mem _ hx))
    rw [List.length_erase_of_mem ha] at this
    have : 0 < m.length := List.length_pos_of_mem ha
    rw [List.length_cons]
    omega
theorem Grow.few {rs : List Rl} {S : Szs} (g : Grow rs S) : S.length ≤ rs.length := by
  have := nodup_len (m := rs.map Rl.head) g.nd fun x hx => by
    obtain ⟨n, hn⟩ := mem_look hx
    obtain ⟨r, h1, h2, _⟩ := g.why x n hn
    exact List.mem_map.mpr ⟨r, h1, h2⟩
  simpa using this
/-- what is left to better -/
def left (S : Szs) : Nat := (60 - S.length) * (7 ^ 60 + 1) + (S.map (·.2)).sum
theorem sum_put : ∀ {S : Szs} {h : Str} {n k : Nat}, (S.map (·.1)).Nodup → look S h = some n → k < n → ((putS S h k).map (·.2)).sum < (S.map (·.2)).sum
  | [], _, _, _, _, e, _ => by cases e
  | p :: S, h, n, k, nd, e, lt => by
    have nd' := List.nodup_cons.mp nd
    unfold look at e
    unfold putS
    by_cases c : p.1 = h
    · rw [if_pos c] at e ⊢
      cases e
      have same : (S.map fun q => if q.1 = h then (q.1, k) else q) = S := by
        have e2 : ∀ q ∈ S, (if q.1 = h then (q.1, k) else q) = id q := fun q hq => if_neg fun z => nd'.1 (by show p.1 ∈ _; rw [c, ← z]; exact List.mem_map.mpr ⟨q, hq, rfl⟩)
        rw [List.map_congr_left e2, List.map_id]
      rw [same]
      simp only [List.map_cons, List.sum_cons]
      omega
    · rw [if_neg c] at e ⊢
      have := sum_put nd'.2 e lt
      simp only [List.map_cons, List.sum_cons]
      omega
theorem left_step {rs : List Rl} {S : Szs} {r : Rl} {k : Nat} (g : Grow rs S) (hr : r ∈ rs) (h6 : r.parts.length ≤ 6) (h60 : rs.length ≤ 60) (hb : betters S r = some k) : left (stepS S r) < left S := by
  have g2 := g.step hr h6
  have e : stepS S r = putS S r.head k := by unfold stepS; rw [hb]
  have f2 := g2.few
  rw [e] at f2 g2 ⊢
  cases hl : look S r.head with
  | none =>
    have hp := putS_none (n := k) hl
    rw [hp] at f2 g2 ⊢
    have hk : k ≤ 7 ^ 60 := by
      have := g2.cap r.head k (by rw [← hp, look_put, if_pos rfl])
      exact Nat.le_trans this (Nat.pow_le_pow_right (by decide) (by omega))
    unfold left
    rw [List.map_append, List.sum_append, List.length_append]
    rw [List.length_append] at f2
    simp only [List.length_cons, List.length_nil, List.map_cons, List.map_nil, List.sum_cons, List.sum_nil] at f2 ⊢
    have : 60 - S.length = (60 - (S.length + 1)) + 1 := by omega
    rw [this, Nat.succ_mul]
    omega
  | some n =>
    have lt : k < n := by
      unfold betters at hb
      cases hm : sizeP S r.parts with
      | none => rw [hm] at hb; cases hb
      | some m =>
        rw [hm, hl] at hb
        have hb : (if m + 1 < n then some (m + 1) else none) = some k := hb
        by_cases c : m + 1 < n
        · rw [if_pos c] at hb; cases hb; exact c
        · rw [if_neg c] at hb; cases hb
    have s := sum_put g.nd hl lt
    have l1 : (putS S r.head k).length = S.length := by
      have e := keys_put S r.head k
      rw [hl, if_pos (by rfl)] at e
      have := congrArg List.length e
      simpa using this
    unfold left
    rw [l1]
    omega
/-- where no rule betters any more -/
structure Done (rs : List Rl) (S : Szs) : Prop where
  g : Grow rs S
  it : ∃ k, S = iterS rs k
  no : ∀ r ∈ rs, betters S r = none
theorem Done.low {rs : List Rl} {S : Szs} (d : Done rs S) {r : Rl} {m : Nat} (hr : r ∈ rs) (hm : sizeP S r.parts = some m) : ∃ n, look S r.head = some n ∧ n ≤ m + 1 := by
  have := d.no r hr
  unfold betters at this
  rw [hm] at this
  cases hl : look S r.head with
  | none => rw [hl] at this; cases this
  | some n =>
    rw [hl] at this
    have this : (if m + 1 < n then some (m + 1) else none) = none := this
    by_cases c : m + 1 < n
    · rw [if_pos c] at this; cases this
    · exact ⟨n, rfl, by omega⟩
theorem Done.pass {rs : List Rl} {S : Szs} (d : Done rs S) : passS rs S = S := by
  have : ∀ l : List Rl, (∀ r ∈ l, r ∈ rs) → l.foldl stepS S = S := by
    intro l
    induction l with
    | nil => intro _; rfl
    | cons r l ih =>
      intro h
      have e : stepS S r = S := by unfold stepS; rw [d.no r (h r (List.mem_cons_self ..))]
      rw [List.foldl_cons, e]
      exact ih fun x hx => h x (List.mem_cons_of_mem _ hx)
  exact this rs fun _ h => h
theorem Done.one {rs : List Rl} {S S' : Szs} (d : Done rs S) (d' : Done rs S') : S = S' := by
  obtain ⟨k, hk⟩ := d.it
  obtain ⟨k', hk'⟩ := d'.it
  have stay : ∀ {k : Nat} {S : Szs}, S = iterS rs k → passS rs S = S → ∀ j, iterS rs (k + j) = S := by
    intro k S e p j
    induction j with
    | zero => exact e.symm
    | succ j ih =>
      show passS rs (iterS rs (k + j)) = S
      rw [ih, p]
  have a := stay hk d.pass k'
  have b := stay hk' d'.pass k
  rw [Nat.add_comm] at b
  exact a.symm.trans b
/-- a size is the least one over the rules -/
theorem Done.why {rs : List Rl} {S : Szs} (d : Done rs S) {h : Str} {n : Nat} (e : look S h = some n) : ∃ r ∈ rs, r.head = h ∧ sizeP S r.parts = some (n - 1) ∧ 1 ≤ n := by
  obtain ⟨r, h1, h2, m, h3, h4⟩ := d.g.why h n e
  obtain ⟨n', q1, q2⟩ := d.low h1 h3
  rw [h2, e] at q1
  cases q1
  exact ⟨r, h1, h2, by rw [h3]; congr 1; omega, by omega⟩
def natV : Option Nat → V
  | none => .non
  | some n => .int (n : Nat)
theorem dget_sz {H : Hp} {d : Addr} {S : Szs} {h : Str} (e : H d = some (.dK (szK S))) : DGet H d (.str h) ((look S h).map fun n => V.int (n : Nat)) := by
  have := DGet.k (k := .inr h) e
  rw [valV_sz] at this
  exact this
theorem part_first {q : Str} (h : isPartS q = true) : ∃ c l, tl q = c :: l ∧ isSg q = decide (c = 39) := by
  rcases Bool.or_eq_true_iff.mp h with h | h
  · obtain ⟨c, e, _⟩ := sign_is h
    exact ⟨39, [c], e, by unfold isSg; rw [e]; rfl⟩
  · have hf := name_free h (s := 39) (by decide)
    cases e : tl q with
    | nil =>
      unfold isNameS at h
      simp only [Bool.and_eq_true, decide_eq_true_eq] at h
      have := h.1.1
      rw [len_tl, e] at this
      simp at this
    | cons c l =>
      refine ⟨c, l, rfl, ?_⟩
      unfold isSg
      rw [e]
      rw [e] at hf
      have : c ≠ 39 := fun z => hf (by rw [z]; exact List.mem_cons_self ..)
      rw [decide_eq_false this]
      simp [this]
theorem part_sg {p : Str} (h : isPartS p = true) : (∃ c l, tl p = c :: l) ∧ p.length ≤ 1000000 := by
  obtain ⟨c, l, e, _⟩ := part_first h
  exact ⟨⟨c, l, e⟩, Nat.le_trans (part_len h) (by decide)⟩
theorem take_snoc {α : Type} {l : List α} {i : Nat} {x : α} (h : l[i]? = some x) : l.take (i + 1) = l.take i ++ [x] := by
  have hl := (List.getElem?_eq_some_iff.mp h).1
  rw [← List.take_append_getElem hl, (List.getElem?_eq_some_iff.mp h).2]
theorem map_get {α : Type} {f : α → V} {l : List α} {i : Nat} {x : V} (h : (l.map f)[i]? = some x) : ∃ y, l[i]? = some y ∧ x = f y := by
  rw [List.getElem?_map] at h
  cases e : l[i]? with
  | none => rw [e] at h; cases h
  | some y => rw [e] at h; exact ⟨y, rfl, (Option.some.inj h).symm⟩
def abcL : List Nat := [65, 66, 67, 68, 69, 70, 71, 72, 73, 74, 75, 76, 77, 78, 79, 80, 81, 82, 83, 84, 85, 86, 87, 88, 89, 90]
theorem abc_at {i : Int} (h0 : 0 ≤ i) (h1 : i < 26) {L : List Nat} (hL : L = abcL) : ∃ c, atI L i = some c ∧ 65 ≤ c ∧ c ≤ 90 := by
  subst hL
  exact atI_all (P := fun c => 65 ≤ c ∧ c ≤ 90) h0 (by simpa [abcL] using h1) (by decide)
theorem abc_tl : tl (Str.ofString "ABCDEFGHIJKLMNOPQRSTUVWXYZ") = abcL := by decide +kernel
/-- n letters -/
structure Letters (n : Nat) (z : Str) : Prop where
  len : z.length = n
  all : ∀ c ∈ tl z, 65 ≤ c ∧ c ≤ 90
theorem Letters.name {n : Nat} {z : Str} (h : Letters n z) (h1 : 1 ≤ n) (h2 : n ≤ 8) : isNameS z = true := by
  unfold isNameS
  rw [h.len, decide_eq_true h1, decide_eq_true h2]
  simp only [Bool.and_self, Bool.true_and, List.all_eq_true, Bool.and_eq_true, decide_eq_true_eq]
  exact h.all
theorem Letters.snoc {n : Nat} {z : Str} {c : Nat} (h : Letters n z) (h1 : 65 ≤ c) (h2 : c ≤ 90) : Letters (n + 1) (z ++ ⟨#[c]⟩) := by
  refine ⟨?_, fun d hd => ?_⟩
  · rw [len_tl, tl_append, List.length_append, ← len_tl, h.len]
    rfl
  · rw [tl_append] at hd
    rcases List.mem_append.mp hd with q | q
    · exact h.all d q
    · have : d = c := by simpa [tl] using q
      rw [this]
      exact ⟨h1, h2⟩
theorem lenA (x y : Str) : (x ++ y).length = x.length + y.length := by rw [len_tl, tl_append, List.length_append, ← len_tl, ← len_tl]
theorem Letters.zero : Letters 0 (Str.ofString "") := ⟨by decide +kernel, by
  have e : tl (Str.ofString "") = [] := by decide +kernel
  rw [e]
  simp⟩
theorem Letters.one {c : Nat} (h1 : 65 ≤ c) (h2 : c ≤ 90) : Letters 1 ⟨#[c]⟩ := ⟨rfl, fun d hd => by
  have : d = c := by simpa [tl] using hd
  rw [this]
  exact ⟨h1, h2⟩⟩
theorem Letters.app {n m : Nat} {a b : Str} (h : Letters n a) (k : Letters m b) : Letters (n + m) (a ++ b) := ⟨by rw [lenA, h.len, k.len], fun c hc => by
  rw [tl_append] at hc
  rcases List.mem_append.mp hc with q | q
  · exact h.all c q
  · exact k.all c q⟩
theorem Letters.to {n : Nat} {z : Str} {i : Int} (h : Letters n z) (h0 : 0 ≤ i) (h1 : i ≤ n) : Letters i.toNat (cutS z none (some i)) := ⟨by
  rw [len_tl, cutS_to z h0, List.length_take, ← len_tl, h.len]
  omega, fun c hc => by
  rw [cutS_to z h0] at hc
  exact h.all c (List.mem_of_mem_take hc)⟩
theorem Letters.from {n : Nat} {z : Str} {i : Int} (h : Letters n z) (h0 : 0 ≤ i) (h1 : i ≤ n) : Letters (n - i.toNat) (cutS z (some i) none) := ⟨by
  rw [len_tl, cutS_from z h0, List.length_drop, ← len_tl, h.len], fun c hc => by
  rw [cutS_from z h0] at hc
  exact h.all c (List.mem_of_mem_drop hc)⟩
theorem Letters.rep {n k : Nat} {z y : Str} (h : Letters n z) (e : tl y = (List.replicate k (tl z)).flatten) : Letters (k * n) y := ⟨by
  rw [len_tl, e, List.length_flatten, List.map_replicate, List.sum_replicate_nat, ← len_tl, h.len], fun c hc => by
  rw [e] at hc
  obtain ⟨l, hl, hc2⟩ := List.mem_flatten.mp hc
  rw [List.eq_of_mem_replicate hl] at hc2
  exact h.all c hc2⟩
theorem strs_of {ys : List V} {P : Str → Prop} (h : ∀ y ∈ ys, ∃ p, y = .str p ∧ P p) : ∃ ps : List Str, ys = ps.map V.str ∧ ∀ p ∈ ps, P p := by
  induction ys with
  | nil => exact ⟨[], rfl, by simp⟩
  | cons y ys ih =>
    obtain ⟨p, rfl, hp⟩ := h y (List.mem_cons_self ..)
    obtain ⟨ps, rfl, hps⟩ := ih fun z hz => h z (List.mem_cons_of_mem _ hz)
    exact ⟨p :: ps, rfl, fun q hq => by
      rcases List.mem_cons.mp hq with rfl | hq
      · exact hp
      · exact hps q hq⟩
theorem ix_any {H : Hp} {p : Addr} {xs : List V} {i : Int} (k : H p = some (.lst xs)) (P : V → Prop) (hP : ∀ x ∈ xs, P x) (h0 : 0 ≤ i) (h1 : i < xs.length) : ∃ v, atI xs i = some v ∧ P v := atI_all (P := P) h0 h1 hP

def cellAt (ns : List Int) (i : Int) : Int := ns.getD i.toNat 0
theorem get_ints {ns : List Int} {i : Int} (h0 : 0 ≤ i) (h1 : i < ns.length) : atI (ns.map V.int) i = some (.int (cellAt ns i)) := by
  refine atI_nat h0 ?_
  rw [List.getElem?_map, List.getElem?_eq_getElem (by omega)]
  show some (V.int _) = _
  rw [show cellAt ns i = ns[i.toNat] from by unfold cellAt; rw [List.getD_eq_getElem?_getD, List.getElem?_eq_getElem (by omega)]; rfl]
def R_law_cell_at (K : PySem.W.Frag) : V → V → Hp → VK → XK → Prop := fun x y H Q _ => ∃ (a : Addr) (ns : List Int) (i : Int), x = .ref a ∧ SqL K H a (ns.map V.int) ∧ y = .int i ∧ 0 ≤ i ∧ Q (.int (cellAt ns i)) H
section
theorem ok_law_cell_at {f : Addr} {fd : FuncData} (F : Fun K "_law_cell_at" "_law_cell_at" s_law_cell_at f fd) (T : Txt K mg cs) : FnOk P w K mg base (L2.CX P w) 1 f fd ["_law_script", "_law_k"] (sp2 (R_law_cell_at K)) := by
  refine F.okX sc_law_cell_at (fun vs H Q E h => sp2_len h) (fun cdv A outer s H vs Q E hr h => ⟨_, PBw (X := X_law_cell_at P w K mg base f cdv A outer s H E), ?_⟩)
  obtain ⟨a0, a1, rfl, h⟩ := h
  have ib_len := T.b_len
  have hr' : Room 0 (X_law_cell_at P w K mg base f cdv A outer s H E).A := hr
  replace hr := hr'
  clear hr'
  obtain ⟨a, ns, i, rfl, hS, rfl, h0, h⟩ := h
  wp_step
  refine k_lenL hS ?_
  wp_step
  rw [List.length_map]
  refine iteD (fun c => ?_) fun c => ?_
  · wp_step
    refine i_lst hS (get_ints h0 c) ?_
    exact h
  · wp_step
    have e : cellAt ns i = 0 := by
      unfold cellAt
      rw [List.getD_eq_getElem?_getD, List.getElem?_eq_none (by omega)]
      rfl
    rw [e] at h
    exact h
end
theorem df_law_cell_at (T : Txt K mg cs) : Df P w K mg base "_law_cell_at" 1 ["_law_script", "_law_k"] (sp2 (R_law_cell_at K)) := by
  obtain ⟨f, fd, hm, F, hb⟩ := T.f_law_cell_at.ex
  exact ⟨f, fd, hm, F.kp, hb, ok_law_cell_at F T⟩
def someS : Str := (Str.ofString " !\"#$&'()*+,-./0123456789:;<=>?@ABCDEFGHIJKLMNOPQRSTUVWXYZ[\\]^_`") ++ (Str.ofString "abcdefghijklmnopqrstuvwxyz{|}~")
theorem some_len : someS.length = 94 := by decide +kernel
theorem some_ok : (tl someS).all okc = true := by decide +kernel
theorem some_at {i : Int} (h0 : 0 ≤ i) (h1 : i < 94) : ∃ c, atI (tl someS) i = some c ∧ okc c = true :=
  atI_all (P := fun c => okc c = true) h0 (by rw [← len_tl, some_len]; exact h1) fun c hc => List.all_eq_true.mp some_ok c hc
theorem mem_some (c : Nat) : decide (c ∈ tl someS) = okc c := by
  by_cases h : c < 127
  · exact (by decide +kernel : ∀ m : Fin 127, decide ((m : Nat) ∈ tl someS) = okc m) ⟨c, h⟩
  · have e1 : okc c = false := by
      show (decide (32 ≤ c) && (decide (c ≤ 126) && _)) = false
      rw [decide_eq_false (show ¬ c ≤ 126 by omega), Bool.false_and, Bool.and_false]
    rw [e1]
    exact decide_eq_false fun q => h ((by decide +kernel : ∀ x ∈ tl someS, x < 127) c q)
theorem one_len (c : Nat) : (⟨#[c]⟩ : Str).length = 1 := rfl
theorem cutS_to_len (z : Str) {i : Int} (h : 0 ≤ i) : (cutS z none (some i)).length ≤ z.length := by
  rw [len_tl, cutS_to z h, len_tl]
  exact List.length_take_le' ..
theorem cutS_from_len (z : Str) {i : Int} (h : 0 ≤ i) : (cutS z (some i) none).length ≤ z.length := by
  rw [len_tl, cutS_from z h, len_tl, List.length_drop]
  omega
def R_law_mixed (K : PySem.W.Frag) : V → V → Hp → VK → XK → Prop := fun x y H Q _ => ∃ (a : Addr) (ns : List Int) (i : Int), x = .ref a ∧ SqL K H a (ns.map V.int) ∧ y = .int i ∧ 0 ≤ i ∧ i ≤ 1000 ∧ ∀ j, 0 ≤ j → j < 2147483647 → Q (.int j) H
section
set_option hygiene false in
local macro_rules | `(tactic| top_name) => `(tactic| first | refine e_call (df_law_cell_at T) (hr.mono (by decide)) ?_)
theorem ok_law_mixed {f : Addr} {fd : FuncData} (F : Fun K "_law_mixed" "_law_mixed" s_law_mixed f fd) (T : Txt K mg cs) : FnOk P w K mg base (L2.CX P w) 2 f fd ["_law_script", "_law_k"] (sp2 (R_law_mixed K)) := by
  refine F.okX sc_law_mixed (fun vs H Q E h => sp2_len h) (fun cdv A outer s H vs Q E hr h => ⟨_, PBw (X := X_law_mixed P w K mg base f cdv A outer s H E), ?_⟩)
  obtain ⟨a0, a1, rfl, h⟩ := h
  have hr' : Room 1 (X_law_mixed P w K mg base f cdv A outer s H E).A := hr
  replace hr := hr'
  clear hr'
  obtain ⟨a, ns, i, rfl, hS, rfl, h0, h1, h⟩ := h
  tm_run
  refine ⟨_, _, _, rfl, hS, rfl, h0, ?_⟩
  generalize hj : cellAt ns i = j
  have m0 : 0 ≤ j % 2147483629 := Int.emod_nonneg _ (by decide)
  have m1 : j % 2147483629 < 2147483629 := Int.emod_lt_of_pos _ (by decide)
  tm_run
  refine o_mulS (.inl ⟨by omega, by omega⟩) ?_
  tm_run
  refine o_mulS (.inl ⟨by omega, by omega⟩) ?_
  tm_run
  refine o_mulS (.inl ⟨by omega, by omega⟩) ?_
  tm_run
  refine o_mulS (.inr ⟨by omega, by omega⟩) ?_
  tm_run
  exact h _ (Int.emod_nonneg _ (by decide)) (Int.emod_lt_of_pos _ (by decide))
end
theorem df_law_mixed (T : Txt K mg cs) : Df P w K mg base "_law_mixed" 2 ["_law_script", "_law_k"] (sp2 (R_law_mixed K)) := by
  obtain ⟨f, fd, hm, F, hb⟩ := T.f_law_mixed.ex
  exact ⟨f, fd, hm, F.kp, hb, ok_law_mixed F T⟩
theorem len_to (z : Str) {i : Int} (h : 0 ≤ i) : (cutS z none (some i)).length = min i.toNat z.length := by rw [len_tl, cutS_to z h, List.length_take, ← len_tl]
theorem len_from (z : Str) {i : Int} (h : 0 ≤ i) : (cutS z (some i) none).length = z.length - i.toNat := by rw [len_tl, cutS_from z h, List.length_drop, ← len_tl]

def R_law_names (K : PySem.W.Frag) : V → Hp → VK → XK → Prop := fun x H Q _ => ∃ i, x = .int i ∧ 0 ≤ i ∧ i < 2147483647 ∧ ∀ (l : Addr) (H' : Hp) (ns : List Str), Same H H' → H' l = some (.lst (ns.map V.str)) → ns.length = 4 → (∀ z ∈ ns, isNameS z = true) → Q (.ref l) H'
section
theorem ok_law_names {f : Addr} {fd : FuncData} (F : Fun K "_law_names" "_law_names" s_law_names f fd) (T : Txt K mg cs) : FnOk P w K mg base (L2.CX P w) 1 f fd ["_law_cell"] (sp1 (R_law_names K)) := by
  refine F.okX sc_law_names (fun vs H Q E h => sp1_len h) (fun cdv A outer s H vs Q E hr h => ⟨_, PBw (X := X_law_names P w K mg base f cdv A outer s H E), ?_⟩)
  obtain ⟨a0, rfl, h⟩ := h
  have ib_range := T.b_range
  have ib_len := T.b_len
  have hr' : Room 0 (X_law_names P w K mg base f cdv A outer s H E).A := hr
  replace hr := hr'
  clear hr'
  obtain ⟨i, rfl, h0, h1, h⟩ := h
  have fin : ∀ (l : Addr) (H' : Hp) (ys : List V), Same H H' → H l = none → H' l = some (.lst ys) → ys.length = 4 → (∀ (i : Nat) (y : V), ys[i]? = some y → ∃ z, y = .str z ∧ isNameS z = true) → Q (.ref l) H' := fun l H' ys s n k e hy => by
    obtain ⟨ps, rfl, hps⟩ := strs_of (P := fun z => isNameS z = true) fun y hm => by
      obtain ⟨j, hj⟩ := List.mem_iff_getElem?.mp hm
      exact hy j y hj
    rw [List.length_map] at e
    exact h l H' ps s k e hps
  wp_step
  refine iteD (fun c => ?_) fun c => ?_
  · wp_step
    refine e_lcP (blkOk_by (sc := defScope s_law_names) (own := [("_law_k", 3)]) (by decide +kernel)) (fun _ y => ∃ z, y = .str z ∧ isNameS z = true) (j_rng1 ?_)
    wp_step
    refine ⟨by decide, by decide, _, _, _, walk_range, by decide, fun _ _ => trivial, ?_, fin⟩
    rintro n x H' H2 hn s' ⟨rfl, rfl⟩
    have hn4 : n < 4 := hn
    refine ⟨Same.refl _, fun _ _ _ _ _ => ?_⟩
    wp_step
    refine ⟨Same.refl _, fun _ _ _ _ _ => ?_⟩
    wp_step
    obtain ⟨ch, e1, e2, e3⟩ := abc_at (i := i % 23) (by omega) (by omega) abc_tl
    refine i_str (by decide +kernel) e1 ?_
    wp_step
    refine o_mulS (.inl ⟨by decide, by decide⟩) ?_
    wp_step
    refine o_repS (by omega) (by omega) (by show 1 ≤ 100; decide) fun y hy => ?_
    have L := (Letters.one e2 e3).rep hy
    rw [Nat.mul_one] at L
    exact ⟨⟨y, rfl, L.name (by omega) (by omega)⟩, Same.refl _⟩
  · wp_step
    refine s_for (j_rng1 ?_)
    wp_step
    refine ⟨by omega, by omega, _, _, _, walk_range, fun n σ' H' => ∃ (z : Str) (v : Option V), σ' = [some (.int (i / 23)), some (.str "ABCDEFGHIJKLMNOPQRSTUVWXYZ"), some (.int (i % 23)), v, some (.str z), none] ∧ H' = H ∧ Letters n z, ⟨_, _, rfl, rfl, Letters.zero⟩, fun _ _ _ _ _ => trivial, ?_, ?_⟩
    · rintro n x σ' H' H2 hn ⟨z, v, rfl, rfl, hz⟩ ⟨rfl, rfl⟩
      wp_step
      refine o_mulS (.inl ⟨by omega, by omega⟩) ?_
      wp_step
      obtain ⟨ch, e1, e2, e3⟩ := abc_at (i := i / 23 * (0 + (n : Int) + 3) / 7 % 26) (by omega) (by omega) abc_tl
      refine i_str (by decide +kernel) e1 ?_
      refine o_cat (by
        have : (⟨#[ch]⟩ : Str).length = 1 := rfl
        rw [hz.len, this, sizeLine_eq]
        omega) ?_
      wp_step
      first | exact hz.snoc e2 e3 | exact ⟨_, _, rfl, rfl, hz.snoc e2 e3⟩
    · rintro σ' H' ⟨z, v, rfl, rfl, hz⟩
      have hzl := hz.len
      wp_step
      refine k_lenS (by rw [sizeLine_eq]; omega) ?_
      wp_step
      refine o_mod (by omega) ?_
      have a0 : 0 ≤ i / 23 / 32 % ((z.length : Int) + 1) := Int.emod_nonneg _ (by omega)
      have a1 : i / 23 / 32 % ((z.length : Int) + 1) < (z.length : Int) + 1 := Int.emod_lt_of_pos _ (by omega)
      generalize i / 23 / 32 % ((z.length : Int) + 1) = at' at *
      wp_step
      refine e_lcP (blkOk_by (sc := defScope s_law_names) (own := [("_law_k", 3)]) (by decide +kernel)) (fun _ y => ∃ z, y = .str z ∧ isNameS z = true) (j_rng1 ?_)
      wp_step
      refine ⟨by decide, by decide, _, _, _, walk_range, by decide, fun _ _ => trivial, ?_, fin⟩
      rintro n x H' H2 hn s' ⟨rfl, rfl⟩
      have hn4 : n < 4 := hn
      refine ⟨Same.refl _, fun _ _ _ _ _ => ?_⟩
      wp_step
      refine ⟨Same.refl _, fun _ _ _ _ _ => ?_⟩
      wp_step
      refine n_str (by rw [sizeLine_eq]; omega) ?_
      wp_step
      obtain ⟨ch, e1, e2, e3⟩ := abc_at (i := i % 23 + (0 + (n : Int))) (by omega) (by omega) abc_tl
      refine i_str (by decide +kernel) e1 ?_
      have L1 := hz.to a0 (by omega)
      have L2 := L1.app (Letters.one e2 e3)
      have L3 := L2.app (hz.from a0 (by omega))
      refine o_cat (by
        have : (⟨#[ch]⟩ : Str).length = 1 := rfl
        rw [L1.len, this, sizeLine_eq]
        omega) ?_
      wp_step
      refine n_str (by rw [sizeLine_eq]; omega) ?_
      refine o_cat (by rw [L2.len, (hz.from a0 (by omega)).len, sizeLine_eq]; omega) ?_
      exact ⟨⟨_, rfl, L3.name (by omega) (by omega)⟩, Same.refl _⟩

end
theorem df_law_names (T : Txt K mg cs) : Df P w K mg base "_law_names" 1 ["_law_cell"] (sp1 (R_law_names K)) := by
  obtain ⟨f, fd, hm, F, hb⟩ := T.f_law_names.ex
  exact ⟨f, fd, hm, F.kp, hb, ok_law_names F T⟩
theorem inV_str (h : Str) : ∀ hs : List Str, inV (.str h) (hs.map V.str) = decide (h ∈ hs)
  | [] => rfl
  | a :: hs => by
    have ih := inV_str h hs
    unfold inV at ih ⊢
    rw [List.map_cons, List.any_cons, ih]
    have e : eqV (.str a) (.str h) = decide (a = h) := by
      by_cases q : a = h
      · subst q
        rw [decide_eq_true rfl]
        simp [eqV]
      · rw [decide_eq_false q]
        simp [eqV, q]
    rw [e]
    by_cases q : a = h
    · subst q; simp
    · have q2 : ¬ h = a := fun z => q z.symm
      simp [q, q2]
theorem o_niL {X : Cx} {H : Hp} {Q : VK} {p : Addr} {h : Str} {hs : List Str} (k : SqL X.K H p (hs.map V.str)) (q : Q (.bl (!decide (h ∈ hs))) H) : oW X (compareOp .NotIn) (.str h) (.ref p) H Q :=
  oI op_notIn_seq ⟨p, _, rfl, .inl k, rfl, by
    rw [List.all_map]
    exact List.all_eq_true.mpr fun _ _ => rfl, by
    rw [if_pos rfl, inV_str]
    exact q⟩

def R_law_signs (K : PySem.W.Frag) : V → Hp → VK → XK → Prop := fun x H Q _ => ∃ i, x = .int i ∧ 0 ≤ i ∧ ∀ (l : Addr) (H' : Hp) (cs : List Nat), Same H H' → H l = none → H' l = some (.lst (cs.map fun c => V.str ⟨#[c]⟩)) → cs.length = 3 → (∀ c ∈ cs, okc c = true) → Q (.ref l) H'
section
theorem ok_law_signs {f : Addr} {fd : FuncData} (F : Fun K "_law_signs" "_law_signs" s_law_signs f fd) (T : Txt K mg cs) : FnOk P w K mg base (L2.CX P w) 1 f fd ["_law_cell"] (sp1 (R_law_signs K)) := by
  refine F.okX sc_law_signs (fun vs H Q E h => sp1_len h) (fun cdv A outer s H vs Q E hr h => ⟨_, PBw (X := X_law_signs P w K mg base f cdv A outer s H E), ?_⟩)
  obtain ⟨a0, rfl, h⟩ := h
  have hr' : Room 0 (X_law_signs P w K mg base f cdv A outer s H E).A := hr
  replace hr := hr'
  clear hr'
  obtain ⟨i, rfl, h0, h⟩ := h
  tm_run
  refine o_cat (by decide +kernel) ?_
  tm_run
  obtain ⟨c1, e1, q1⟩ := some_at (i := i % 94) (Int.emod_nonneg _ (by decide)) (Int.emod_lt_of_pos _ (by decide))
  refine i_str (z := someS) (by decide +kernel) e1 ?_
  tm_run
  obtain ⟨c2, e2, q2⟩ := some_at (i := (i + 1 + i / 94 % 46) % 94) (Int.emod_nonneg _ (by decide)) (Int.emod_lt_of_pos _ (by decide))
  refine i_str (z := someS) (by decide +kernel) e2 ?_
  tm_run
  obtain ⟨c3, e3, q3⟩ := some_at (i := (i + 47 + i / 4324 % 46) % 94) (Int.emod_nonneg _ (by decide)) (Int.emod_lt_of_pos _ (by decide))
  refine i_str (z := someS) (by decide +kernel) e3 ?_
  tm_run
  intro l H1 s1 n1 k1 _
  exact h l H1 [c1, c2, c3] s1 n1 k1 rfl (by simp [q1, q2, q3])
end
theorem df_law_signs (T : Txt K mg cs) : Df P w K mg base "_law_signs" 1 ["_law_cell"] (sp1 (R_law_signs K)) := by
  obtain ⟨f, fd, hm, F, hb⟩ := T.f_law_signs.ex
  exact ⟨f, fd, hm, F.kp, hb, ok_law_signs F T⟩
def R_law_worth : V → Hp → VK → XK → Prop := fun x H Q _ => ∃ i, x = .int i ∧ ∀ n, 0 ≤ n → n ≤ top60 → Q (.int n) H
section
theorem ok_law_worth {f : Addr} {fd : FuncData} (F : Fun K "_law_worth" "_law_worth" s_law_worth f fd) (T : Txt K mg cs) : FnOk P w K mg base (L2.CX P w) 1 f fd ["_law_cell"] (sp1 (R_law_worth)) := by
  refine F.okX sc_law_worth (fun vs H Q E h => sp1_len h) (fun cdv A outer s H vs Q E hr h => ⟨_, PBw (X := X_law_worth P w K mg base f cdv A outer s H E), ?_⟩)
  obtain ⟨a0, rfl, h⟩ := h
  have hr' : Room 0 (X_law_worth P w K mg base f cdv A outer s H E).A := hr
  replace hr := hr'
  clear hr'
  obtain ⟨i, rfl, h⟩ := h
  have z : ∀ n, 0 ≤ n → n ≤ (1000000000000000000000000000000000000000000000000000000000000 : Int) → Q (.int n) H := h
  tm_run
  refine iteD (fun c => ?_) fun c => ?_
  · tm_run
    exact z _ (by omega) (by omega)
  · tm_run
    exact z _ (by omega) (by omega)
end
theorem df_law_worth (T : Txt K mg cs) : Df P w K mg base "_law_worth" 1 ["_law_cell"] (sp1 (R_law_worth)) := by
  obtain ⟨f, fd, hm, F, hb⟩ := T.f_law_worth.ex
  exact ⟨f, fd, hm, F.kp, hb, ok_law_worth F T⟩
def R_law_parts (K : PySem.W.Frag) : V → V → V → Hp → VK → XK → Prop := fun x y z H Q _ => ∃ (i m : Int) (l : Addr) (ps : List Str), x = .int i ∧ y = .ref l ∧ H l = some (.lst (ps.map V.str)) ∧ z = .int m ∧ 0 ≤ m ∧ m ≤ 6 ∧ 0 ≤ i ∧ 0 < ps.length ∧ ps.length ≤ 1000 ∧ ∀ (t : Addr) (H' : Hp) (qs : List Str), Same H H' → H' t = some (.tup (qs.map V.str)) → qs.length ≤ 6 → (qs.length : Int) ≤ m → (∀ q ∈ qs, q ∈ ps) → Q (.ref t) H'
section
theorem ok_law_parts {f : Addr} {fd : FuncData} (F : Fun K "_law_parts" "_law_parts" s_law_parts f fd) (T : Txt K mg cs) : FnOk P w K mg base (L2.CX P w) 1 f fd ["_law_cell", "_law_menu", "_law_most"] (sp3 (R_law_parts K)) := by
  refine F.okX sc_law_parts (fun vs H Q E h => sp3_len h) (fun cdv A outer s H vs Q E hr h => ⟨_, PBw (X := X_law_parts P w K mg base f cdv A outer s H E), ?_⟩)
  obtain ⟨a0, a1, a2, rfl, h⟩ := h
  have ib_range := T.b_range
  have ib_tuple := T.b_tuple
  have ib_len := T.b_len
  have hr' : Room 0 (X_law_parts P w K mg base f cdv A outer s H E).A := hr
  replace hr := hr'
  clear hr'
  obtain ⟨i, m, l, ps, rfl, rfl, hl, rfl, m0, m6, i0, hp, hp2, h⟩ := h
  tm_run
  refine o_mod (by omega) ?_
  tm_run
  have a0 : 0 ≤ i % (m + 1) := Int.emod_nonneg _ (by omega)
  have a1 : i % (m + 1) < m + 1 := Int.emod_lt_of_pos _ (by omega)
  generalize i % (m + 1) = sz at *
  refine o_div ⟨by omega, by omega⟩ ?_
  tm_run
  intro l1 H1 s1 n1 k1 e1
  tm_run
  refine s_for (j_rng1 ?_)
  tm_run
  have d0 : 0 ≤ i / (m + 1) := Int.ediv_nonneg i0 (by omega)
  generalize i / (m + 1) = j0 at *
  refine ⟨by omega, by omega, _, _, _, walk_range, fun n σ' H' => ∃ (j : Int) (qs : List Str) (v : Option V), σ' = [some (.int j), some (.ref l), some (.int m), some (.int sz), some (.ref l1), v] ∧ 0 ≤ j ∧ Same H H' ∧ H' l1 = some (.lst (qs.map V.str)) ∧ qs.length = n ∧ (∀ q ∈ qs, q ∈ ps), ⟨j0, [], none, rfl, d0, s1, k1, rfl, by simp⟩, fun _ _ _ _ _ => trivial, ?_, ?_⟩
  · rintro n x σ' H' H2 hn ⟨j, qs, v, rfl, hj, s2, k2, hq, hqs⟩ ⟨rfl, rfl⟩
    tm_run
    refine ⟨ty_l k2, ?_⟩
    tm_run
    refine o_mod (by simp only [List.length_map]; omega) ?_
    simp only [List.length_map]
    have b0 : 0 ≤ j % (ps.length : Int) := Int.emod_nonneg _ (by omega)
    have b1 : j % (ps.length : Int) < ps.length := Int.emod_lt_of_pos _ (by omega)
    obtain ⟨v, hv, q, rfl, hqm⟩ := ix_any (i := j % (ps.length : Int)) (s2 _ _ hl) (fun v => ∃ q, v = .str q ∧ q ∈ ps) (fun x hx => by
      obtain ⟨q, h1, h2⟩ := List.mem_map.mp hx
      exact ⟨q, h2.symm, h1⟩) b0 (by rw [List.length_map]; exact b1)
    refine i_lst (SqL.of (s2 _ _ hl)) hv ?_
    tm_run
    refine m_append k2 (by rw [List.length_map]; omega) fun H3 k3 e3 => ?_
    tm_run
    have s3 : Same H H3 := fun b o e => by
      rw [e3 b (ne_of_none e n1)]
      exact s2 _ _ e
    refine k_lenL (SqL.of (s3 _ _ hl)) ?_
    refine o_div ⟨by simp only [List.length_map]; omega, by simp only [List.length_map]; omega⟩ ?_
    tm_run
    rw [List.length_map]
    exact ⟨_, qs ++ [q], _, rfl, Int.ediv_nonneg hj (by omega), s3, by rw [k3, List.map_append]; rfl, by rw [List.length_append, hq]; rfl, fun y hy => by
      rcases List.mem_append.mp hy with z | z
      · exact hqs y z
      · rw [List.mem_singleton.mp z]; exact hqm⟩
  · rintro σ' H' ⟨j, qs, v, rfl, hj, s2, k2, hq, hqs⟩
    tm_run
    refine k_tupL (SqL.of k2) fun t H3 s3 n3 k3 _ => ?_
    exact h t H3 qs (s2.trans s3) k3 (by omega) (by omega) hqs

end
theorem df_law_parts (T : Txt K mg cs) : Df P w K mg base "_law_parts" 1 ["_law_cell", "_law_menu", "_law_most"] (sp3 (R_law_parts K)) := by
  obtain ⟨f, fd, hm, F, hb⟩ := T.f_law_parts.ex
  exact ⟨f, fd, hm, F.kp, hb, ok_law_parts F T⟩
theorem rule_part {c : Nat} (h : okc c = true) : isPartS (Str.ofString "'" ++ ⟨#[c]⟩) = true := by
  have e : tl (Str.ofString "'" ++ ⟨#[c]⟩) = [39, c] := by rw [tl_append, tl_q]; rfl
  show (isSignL (tl _) || _) = true
  rw [e]
  simp [isSignL, h]
theorem q1len : (Str.ofString "'").length = 1 := by decide +kernel
def barren (S : Szs) (ps : List Str) : List Str := ps.filter fun p => !isSg p && (look S p).isNone
theorem barren_iff (S : Szs) : ∀ ps : List Str, barren S ps = [] ↔ (sizeP S ps).isSome = true
  | [] => by simp [barren, sizeP]
  | p :: r => by
    have ih := barren_iff S r
    unfold barren at ih ⊢
    show _ ↔ (if isSg p = true then sizeP S r else (look S p).bind fun n => (sizeP S r).map (n + ·)).isSome = true
    rw [List.filter_cons]
    by_cases c : isSg p = true
    · rw [if_pos c, c]
      simpa using ih
    · have c' : isSg p = false := by simpa using c
      rw [if_neg c, c']
      cases hl : look S p with
      | none => simp
      | some n =>
        simp only [Bool.not_false, Option.isNone_some, Bool.and_false, Bool.false_eq_true, if_false, Option.bind_some]
        rw [ih]
        cases sizeP S r <;> simp
theorem strs_nil : ∀ l : List Str, PyData.eqv (.list (l.map .str)) (.list []) = decide (l = [])
  | [] => rfl
  | _ :: _ => rfl
theorem strs_sh {l : List Str} (h : ∀ p ∈ l, ∀ c ∈ tl p, c < 1114112) : Sh 1 (.list (l.map .str)) := .lst fun d hd => by
  obtain ⟨p, hp, rfl⟩ := List.mem_map.mp hd
  exact .str (h p hp)
theorem size_sum {S : Szs} : ∀ {ps : List Str} {m : Nat}, sizeP S ps = some m → ((ps.filter fun p => !isSg p).map fun p => (((look S p).getD 0 : Nat) : Int)).sum = (m : Int)
  | [], m, e => by cases e; rfl
  | p :: r, m, e => by
    have e : (if isSg p = true then sizeP S r else (look S p).bind fun n => (sizeP S r).map (n + ·)) = some m := e
    by_cases c : isSg p = true
    · rw [if_pos c] at e
      rw [List.filter_cons_of_neg (by rw [c]; simp)]
      exact size_sum e
    · rw [if_neg c] at e
      have c' : isSg p = false := by simpa using c
      rw [List.filter_cons_of_pos (by rw [c']; rfl), List.map_cons, List.sum_cons]
      cases hl : look S p with
      | none => rw [hl] at e; cases e
      | some n =>
        cases hr : sizeP S r with
        | none => rw [hl, hr] at e; cases e
        | some k =>
          rw [hl, hr] at e
          have e : n + k = m := Option.some.inj e
          rw [size_sum hr]
          simp only [Option.getD_some]
          omega
theorem look_of : ∀ {S : Szs} {h : Str} {n : Nat}, (S.map (·.1)).Nodup → (h, n) ∈ S → look S h = some n
  | [], _, _, _, q => by cases q
  | p :: S, h, n, nd, q => by
    have nd' := List.nodup_cons.mp nd
    unfold look
    rcases List.mem_cons.mp q with q | q
    · rw [← q, if_pos rfl]
    · rw [if_neg fun z => nd'.1 (by show p.1 ∈ _; rw [z]; exact List.mem_map.mpr ⟨_, q, rfl⟩)]
      exact look_of nd'.2 q

/-! ### rows and the texts that they give: the plain side -/
theorem atI_last {α : Type} {xs : List α} {y : α} : atI (xs ++ [y]) (-1) = some y := by
  unfold atI ixN
  rw [if_neg (by decide), List.length_append]
  have e : (-1 + ((xs.length + [y].length : Nat) : Int)).toNat = xs.length := by simp only [List.length_cons, List.length_nil]; omega
  rw [if_pos (by simp only [List.length_cons, List.length_nil]; omega)]
  simp only [e]
  show (xs ++ [y])[xs.length]? = some y
  rw [List.getElem?_append_right (Nat.le_refl _), Nat.sub_self]
  rfl
theorem takeWhile_ok {α : Type} {p : α → Bool} : ∀ {l : List α} {x : α}, x ∈ l.takeWhile p → p x = true
  | a :: l, x, h => by
    by_cases c : p a = true
    · rw [List.takeWhile_cons_of_pos c] at h
      rcases List.mem_cons.mp h with h | h
      · rw [h]; exact c
      · exact takeWhile_ok h
    · rw [List.takeWhile_cons_of_neg c] at h
      cases h
  | [], x, h => by cases h
def codeOf (p : Str) : Nat := (tl p).getD 1 0
def sgV (c : Nat) : V := .str ⟨#[c]⟩
theorem sign_tl {p : Str} (h : isPartS p = true) (hs : isSg p = true) : tl p = [39, codeOf p] ∧ okc (codeOf p) = true := by
  rcases Bool.or_eq_true_iff.mp h with h | h
  · obtain ⟨c, e, hc⟩ := sign_is h
    unfold codeOf
    rw [e]
    exact ⟨rfl, hc⟩
  · have := name_free h (s := 39) (by decide)
    unfold isSg at hs
    cases q : tl p with
    | nil => rw [q] at hs; cases hs
    | cons x t =>
      rw [q] at hs this
      have hs : (some x == some 39) = true := hs
      have : x ≠ 39 := fun z => this (by rw [z]; exact List.mem_cons_self ..)
      simp [this] at hs
/-- a number takes the place of the name that waits first -/
def stp (rs : List Rl) (d : PyData) (ps : List Str) : Option (List Str) := match d, ps with
  | .int i, p :: ps => if 0 ≤ i then (rs[i.toNat]?).bind fun r => if r.head = p then some (r.parts ++ ps) else none else none
  | _, _ => none
structure Rst where
  ps : List Str
  cs : List Nat
  bg : List Nat
def rowStep (rs : List Rl) (s : Rst) (d : PyData) : Option Rst := (stp rs d s.ps).map fun q => ⟨q.dropWhile isSg, s.cs ++ (q.takeWhile isSg).map codeOf, s.bg ++ [s.cs.length]⟩
def rowGo (rs : List Rl) : List PyData → Rst → Option Rst
  | [], s => some s
  | d :: ds, s => (rowStep rs s d).bind (rowGo rs ds)
def rowEnd : Option Rst → Option (List Nat × List Nat)
  | some ⟨[], cs, bg⟩ => some (cs, bg)
  | _ => none
def rowRead (rs : List Rl) (ds : List PyData) : Option (List Nat × List Nat) := match rs[0]? with
  | none => none
  | some r => rowEnd (rowGo rs ds ⟨[r.head], [], []⟩)
theorem rowGo_app (rs : List Rl) : ∀ (a b : List PyData) (s : Rst), rowGo rs (a ++ b) s = (rowGo rs a s).bind (rowGo rs b)
  | [], b, s => rfl
  | d :: a, b, s => by
    show (rowStep rs s d).bind (rowGo rs (a ++ b)) = ((rowStep rs s d).bind (rowGo rs a)).bind (rowGo rs b)
    cases rowStep rs s d with
    | none => rfl
    | some s' => exact rowGo_app rs a b s'
/-- what holds of a state -/
structure RstOk (rs : List Rl) (n : Nat) (s : Rst) : Prop where
  parts : ∀ p ∈ s.ps, isPartS p = true
  room : s.ps.length + s.cs.length ≤ 1 + 6 * n
  bl : s.bg.length = n
  oks : ∀ c ∈ s.cs, okc c = true
theorem stp_parts {rs : List Rl} (g : GoodG rs) {d : PyData} {ps q : List Str} (h : stp rs d ps = some q) (hp : ∀ p ∈ ps, isPartS p = true) : (∀ p ∈ q, isPartS p = true) ∧ q.length + 1 ≤ ps.length + 6 := by
  unfold stp at h
  split at h
  · rename_i i p ps'
    by_cases c : 0 ≤ i
    · rw [if_pos c] at h
      cases e : rs[i.toNat]? with
      | none => rw [e] at h; cases h
      | some r =>
        rw [e] at h
        have h : (if r.head = p then some (r.parts ++ ps') else none) = some q := h
        by_cases c2 : r.head = p
        · rw [if_pos c2] at h
          cases h
          have hg := g.good r (List.mem_of_getElem? e)
          have := hg.few
          refine ⟨fun x hx => ?_, by rw [List.length_append, List.length_cons]; omega⟩
          rcases List.mem_append.mp hx with hx | hx
          · exact hg.parts x hx
          · exact hp x (List.mem_cons_of_mem _ hx)
        · rw [if_neg c2] at h; cases h
    · rw [if_neg c] at h; cases h
  · cases h
theorem RstOk.step {rs : List Rl} (g : GoodG rs) {n : Nat} {s s' : Rst} {d : PyData} (h : RstOk rs n s) (e : rowStep rs s d = some s') : RstOk rs (n + 1) s' := by
  unfold rowStep at e
  cases q : stp rs d s.ps with
  | none => rw [q] at e; cases e
  | some ps =>
    rw [q] at e
    have e : (⟨ps.dropWhile isSg, s.cs ++ (ps.takeWhile isSg).map codeOf, s.bg ++ [s.cs.length]⟩ : Rst) = s' := Option.some.inj e
    subst e
    obtain ⟨h1, h2⟩ := stp_parts g q h.parts
    have h3 : (ps.takeWhile isSg).length + (ps.dropWhile isSg).length = ps.length := by rw [← List.length_append, List.takeWhile_append_dropWhile]
    have := h.room
    refine ⟨fun p hp => h1 p ((List.dropWhile_suffix isSg).subset hp), ?_, by simp [h.bl], fun c hc => ?_⟩
    · show (ps.dropWhile isSg).length + (s.cs ++ (ps.takeWhile isSg).map codeOf).length ≤ _
      rw [List.length_append, List.length_map]
      omega
    · rcases List.mem_append.mp hc with hc | hc
      · exact h.oks c hc
      · obtain ⟨p, hp, rfl⟩ := List.mem_map.mp hc
        exact (sign_tl (h1 p ((List.takeWhile_prefix isSg).subset hp)) (takeWhile_ok hp)).2
def namesOf (r : Rl) : List Str := r.parts.filter fun p => !isSg p
theorem barren_names {S : Szs} {r : Rl} : barren S r.parts = [] ↔ ∀ p ∈ namesOf r, (look S p).isSome = true := by
  unfold barren namesOf
  rw [List.filter_eq_nil_iff]
  constructor
  · intro h p hp
    obtain ⟨h1, h2⟩ := List.mem_filter.mp hp
    have := h p h1
    cases e : look S p with
    | some n => rfl
    | none => exact absurd (by rw [e, h2]; rfl) this
  · intro h p hp q
    simp only [Bool.and_eq_true] at q
    have := h p (List.mem_filter.mpr ⟨hp, q.1⟩)
    cases e : look S p with
    | none => rw [e] at this; cases this
    | some n => rw [e] at q; cases q.2

/-! ### maps as lists; dicts whose values stand for data -/
section
variable {κ α : Type} [DecidableEq κ]
def lk : List (κ × α) → κ → Option α
  | [], _ => none
  | p :: F, k => if p.1 = k then some p.2 else lk F k
def pt (F : List (κ × α)) (k : κ) (a : α) : List (κ × α) := if (lk F k).isSome = true then F.map (fun q => if q.1 = k then (q.1, a) else q) else F ++ [(k, a)]
theorem lk_map : ∀ (F : List (κ × α)) (h : κ) (a : α) (k : κ), lk (F.map fun q => if q.1 = h then (q.1, a) else q) k = if k = h then (lk F k).map (fun _ => a) else lk F k
  | [], h, a, k => by simp [lk]
  | p :: F, h, a, k => by
    rw [List.map_cons]
    by_cases e : p.1 = h
    · rw [if_pos e]
      unfold lk
      by_cases e2 : p.1 = k
      · rw [if_pos e2, if_pos e2, if_pos (by rw [← e2, e])]; rfl
      · rw [if_neg e2, if_neg e2, lk_map F h a k]
    · rw [if_neg e]
      unfold lk
      by_cases e2 : p.1 = k
      · rw [if_pos e2, if_pos e2, if_neg (by rw [← e2]; exact e)]
      · rw [if_neg e2, if_neg e2, lk_map F h a k]
theorem lk_app : ∀ (F : List (κ × α)) (h : κ) (a : α) (k : κ), lk F h = none → lk (F ++ [(h, a)]) k = if k = h then some a else lk F k
  | [], h, a, k, _ => by
    show (if h = k then some a else none) = _
    by_cases e : h = k
    · rw [if_pos e, if_pos e.symm]
    · rw [if_neg e, if_neg fun q => e q.symm]; rfl
  | p :: F, h, a, k, q => by
    unfold lk at q
    by_cases e : p.1 = h
    · rw [if_pos e] at q; cases q
    · rw [if_neg e] at q
      rw [List.cons_append]
      unfold lk
      by_cases e2 : p.1 = k
      · rw [if_pos e2, if_pos e2, if_neg (by rw [← e2]; exact e)]
      · rw [if_neg e2, if_neg e2, lk_app F h a k q]
theorem lk_pt (F : List (κ × α)) (h : κ) (a : α) (k : κ) : lk (pt F h a) k = if k = h then some a else lk F k := by
  unfold pt
  cases e : lk F h with
  | none => rw [if_neg (by simp), lk_app F h a k e]
  | some m =>
    rw [if_pos (by rfl), lk_map]
    by_cases e2 : k = h
    · rw [if_pos e2, if_pos e2, e2, e]; rfl
    · rw [if_neg e2, if_neg e2]
theorem lk_mem : ∀ {F : List (κ × α)} {k : κ} {a : α}, lk F k = some a → (k, a) ∈ F
  | [], _, _, q => by cases q
  | p :: F, k, a, q => by
    unfold lk at q
    by_cases e : p.1 = k
    · rw [if_pos e] at q
      cases q
      rw [← e]
      exact List.mem_cons_self ..
    · rw [if_neg e] at q
      exact List.mem_cons_of_mem _ (lk_mem q)
theorem lk_none : ∀ {F : List (κ × α)} {k : κ}, lk F k = none ↔ k ∉ F.map (·.1)
  | [], k => by simp [lk]
  | p :: F, k => by
    unfold lk
    rw [List.map_cons, List.mem_cons]
    by_cases e : p.1 = k
    · rw [if_pos e]
      simp [e.symm]
    · rw [if_neg e, lk_none (F := F)]
      constructor
      · rintro h (q | q)
        · exact e q.symm
        · exact h q
      · intro h q
        exact h (.inr q)
theorem lk_some {F : List (κ × α)} {k : κ} (h : k ∈ F.map (·.1)) : ∃ a, lk F k = some a := by
  cases q : lk F k with
  | none => exact absurd h (lk_none.mp q)
  | some a => exact ⟨a, rfl⟩
theorem lk_isSome {F : List (κ × α)} {k : κ} : (lk F k).isSome = true ↔ k ∈ F.map (·.1) := by
  cases q : lk F k with
  | none => simp [lk_none.mp q]
  | some a => simp only [Option.isSome_some, true_iff]; exact List.mem_map.mpr ⟨_, lk_mem q, rfl⟩
theorem lk_of : ∀ {F : List (κ × α)} {p : κ × α}, (F.map (·.1)).Nodup → p ∈ F → lk F p.1 = some p.2
  | [], _, _, h => by cases h
  | q :: F, p, nd, h => by
    have nd' := List.nodup_cons.mp nd
    unfold lk
    rcases List.mem_cons.mp h with h | h
    · rw [← h, if_pos rfl]
    · rw [if_neg fun e => nd'.1 (by show q.1 ∈ _; rw [e]; exact List.mem_map.mpr ⟨p, h, rfl⟩)]
      exact lk_of nd'.2 h
theorem pt_keys (F : List (κ × α)) (k : κ) (a : α) : (pt F k a).map (·.1) = if (lk F k).isSome = true then F.map (·.1) else F.map (·.1) ++ [k] := by
  unfold pt
  cases e : lk F k with
  | none => rw [if_neg (by simp), if_neg (by simp), List.map_append]; rfl
  | some m =>
    rw [if_pos (by rfl), if_pos (by rfl), List.map_map]
    apply List.map_congr_left
    intro p _
    show (if p.1 = k then (p.1, a) else p).1 = p.1
    split <;> rfl
theorem pt_nd {F : List (κ × α)} {k : κ} {a : α} (nd : (F.map (·.1)).Nodup) : ((pt F k a).map (·.1)).Nodup := by
  rw [pt_keys]
  cases e : lk F k with
  | some m => rw [if_pos (by rfl)]; exact nd
  | none =>
    rw [if_neg (by simp)]
    exact List.nodup_append.mpr ⟨nd, by simp, fun x hx b hb => by
      rw [List.mem_singleton.mp hb]
      exact fun z => lk_none.mp e (by rw [← z]; exact hx)⟩
theorem pt_len (F : List (κ × α)) (k : κ) (a : α) : (pt F k a).length = if (lk F k).isSome = true then F.length else F.length + 1 := by
  have e := congrArg List.length (pt_keys F k a)
  rw [List.length_map] at e
  rw [e]
  split <;> simp
theorem pt_sum {f : α → Nat} {k : κ} {a b : α} : ∀ {F : List (κ × α)}, (F.map (·.1)).Nodup → lk F k = some b → f a < f b → ((F.map fun q => if q.1 = k then (q.1, a) else q).map fun q => f q.2).sum < (F.map fun q => f q.2).sum
  | [], _, e, _ => by cases e
  | p :: F, nd, e, lt => by
    have nd' := List.nodup_cons.mp nd
    unfold lk at e
    rw [List.map_cons]
    by_cases c : p.1 = k
    · rw [if_pos c] at e ⊢
      cases e
      have same : (F.map fun q => if q.1 = k then (q.1, a) else q) = F := by
        have e2 : ∀ q ∈ F, (if q.1 = k then (q.1, a) else q) = id q := fun q hq => if_neg fun z => nd'.1 (by show p.1 ∈ _; rw [c, ← z]; exact List.mem_map.mpr ⟨q, hq, rfl⟩)
        rw [List.map_congr_left e2, List.map_id]
      rw [same]
      simp only [List.map_cons, List.sum_cons]
      omega
    · rw [if_neg c] at e ⊢
      have := pt_sum nd'.2 e lt
      simp only [List.map_cons, List.sum_cons]
      omega
/-- a dict's rows stand for a map -/
def DAt (R : V → α → Prop) (kvs : List (κ × V)) (F : List (κ × α)) : Prop := All2 (fun kv f => kv.1 = f.1 ∧ R kv.2 f.2) kvs F
theorem DAt.mono {R R' : V → α → Prop} (i : ∀ v a, R v a → R' v a) {kvs : List (κ × V)} {F : List (κ × α)} (h : DAt R kvs F) : DAt R' kvs F := All2.mono (fun _ _ q => ⟨q.1, i _ _ q.2⟩) h
theorem DAt.val {R : V → α → Prop} : ∀ {kvs : List (κ × V)} {F : List (κ × α)} (k : κ), DAt R kvs F → (lk F k = none → valV kvs k = none) ∧ ∀ a, lk F k = some a → ∃ v, valV kvs k = some v ∧ R v a
  | _, _, k, .nil => ⟨fun _ => rfl, fun _ e => nomatch e⟩
  | kv :: kvs, f :: F, k, .cons h t => by
    have ih := DAt.val (R := R) k t
    unfold lk
    by_cases e : f.1 = k
    · rw [if_pos e, valV_pos (by rw [h.1]; exact e)]
      exact ⟨fun q => (nomatch q), fun a q => ⟨_, rfl, by cases q; exact h.2⟩⟩
    · rw [if_neg e, valV_neg (by rw [h.1]; exact e)]
      exact ih
theorem DAt.any {R : V → α → Prop} {kvs : List (κ × V)} {F : List (κ × α)} (k : κ) (h : DAt R kvs F) : (kvs.any fun kv => decide (kv.1 = k)) = (lk F k).isSome := by
  rw [valV_any]
  obtain ⟨h1, h2⟩ := h.val k
  cases e : lk F k with
  | none => rw [h1 e]; rfl
  | some a => obtain ⟨v, q, _⟩ := h2 a e; rw [q]; rfl
theorem DAt.put {R : V → α → Prop} {kvs : List (κ × V)} {F : List (κ × α)} {k : κ} {v : V} {a : α} (h : DAt R kvs F) (hv : R v a) : DAt R (putK kvs k v) (pt F k a) := by
  unfold putK pt
  rw [h.any k]
  split
  · have go : ∀ {kvs : List (κ × V)} {F : List (κ × α)}, DAt R kvs F → DAt R (kvs.map fun kv => if kv.1 = k then (kv.1, v) else kv) (F.map fun q => if q.1 = k then (q.1, a) else q) := by
      intro kvs F h
      induction h with
      | nil => exact .nil
      | @cons kv f kvs F q t ih =>
        rw [List.map_cons, List.map_cons]
        refine .cons ?_ ih
        by_cases e : f.1 = k
        · rw [if_pos e, if_pos (by rw [q.1]; exact e)]; exact ⟨q.1, hv⟩
        · rw [if_neg e, if_neg (by rw [q.1]; exact e)]; exact q
    exact go h
  · exact All2.snoc h ⟨rfl, hv⟩
theorem DAt.len {R : V → α → Prop} {kvs : List (κ × V)} {F : List (κ × α)} (h : DAt R kvs F) : kvs.length = F.length := All2.len h
end
theorem DAt.dget {α : Type} {R : V → α → Prop} {kvs : List (Key × V)} {F : List (Key × α)} {H : Hp} {d : Addr} (k : Key) (h : DAt R kvs F) (e : H d = some (.dK kvs)) : (lk F k = none → DGet H d (kV k) none) ∧ ∀ a, lk F k = some a → ∃ v, DGet H d (kV k) (some v) ∧ R v a := by
  have g := DGet.k (k := k) e
  obtain ⟨h1, h2⟩ := h.val k
  refine ⟨fun q => by rw [h1 q] at g; exact g, fun a q => ?_⟩
  obtain ⟨v, e1, e2⟩ := h2 a q
  rw [e1] at g
  exact ⟨v, g, e2⟩

def isTextD : PyData → Bool
  | .str z => decide (z.length ≤ 60) && (tl z).all okc
  | _ => false
theorem textD_no {d : PyData} (h : isK d "str" = false) : isTextD d = false := by
  cases d <;> first | rfl | (exact Bool.noConfusion h)
def R_checked_text (K : PySem.W.Frag) (cs : Cs) : V → Hp → VK → XK → Prop := fun x H Q E => ∃ d, Th K H x d ∧ (isTextD d = true → Q x H) ∧ (isTextD d = false → E (.ref cs.NoText) none H)
section
set_option hygiene false in
local macro_rules | `(tactic| top_name) => `(tactic| first | refine e_call (df_may_stand T) (hr.mono (by decide)) ?_)
set_option hygiene false in
local macro_rules | `(tactic| top_raise) => `(tactic| first | refine s_raise T.x_NoText ?_)
theorem ok_checked_text {f : Addr} {fd : FuncData} (F : Fun K "checked_text" "checked_text" s_checked_text f fd) (T : Txt K mg cs) : FnOk P w K mg base (L2.CX P w) 2 f fd ["thing"] (sp1 (R_checked_text K cs)) := by
  refine F.okX sc_checked_text (fun vs H Q E h => sp1_len h) (fun cdv A outer s H vs Q E hr h => ⟨_, PBw (X := X_checked_text P w K mg base f cdv A outer s H E), ?_⟩)
  obtain ⟨a0, rfl, h⟩ := h
  obtain ⟨t_MOST_SIGNS, h_MOST_SIGNS⟩ := T.k_MOST_SIGNS
  have ib_MOST_SIGNS : Gn mg "MOST_SIGNS" (some _) := ⟨h_MOST_SIGNS⟩
  have ib_NoText : Gn mg "NoText" (some _) := ⟨T.x_NoText.mg⟩
  have ib_isinstance := T.b_isinstance
  have ib_str := T.b_str
  have ib_len := T.b_len
  have hr' : Room 1 (X_checked_text P w K mg base f cdv A outer s H E).A := hr
  replace hr := hr'
  clear hr'
  obtain ⟨d, hd, h1, h2⟩ := h
  wp_step
  refine k_isStr hd ⟨_, rfl, ?_⟩
  rcases no_str (d := d) with ⟨z, rfl⟩ | ⟨e1, _, _⟩
  · cases hd with
    | str _ hz =>
    wp_step
    refine k_lenS (sz1m hz) ?_
    wp_step
    refine iteD (fun c => ?_) fun c => ?_
    · wp_step
      refine s_raise T.x_NoText ?_
      refine h2 ?_
      show (decide (z.length ≤ 60) && _) = false
      rw [decide_eq_false (by omega), Bool.false_and]
    · wp_step
      have hgood : isTextD (.str z) = (tl z).all okc := by
        show (decide (z.length ≤ 60) && _) = _
        rw [decide_eq_true (by omega), Bool.true_and]
      rw [hgood] at h1 h2
      refine s_for (j_str ?_)
      wp_step
      refine ⟨_, _, _, walk_str, fun i σ' H' => (∃ v, σ' = [some (.str z), v]) ∧ H' = H ∧ ((tl z).take i).all okc = true, ⟨⟨_, rfl⟩, rfl, rfl⟩, fun _ _ _ _ _ => trivial, ?_, ?_⟩
      · rintro i x σ' H' H2 hi ⟨⟨v, rfl⟩, rfl, hall⟩ ⟨rfl, c, hc, rfl⟩
        have hc' : (tl z)[i]? = some c := by simpa [tl] using hc
        wp_step
        refine e_call (df_may_stand T) (hr.mono (by decide)) ?_
        wp_step
        cases ho : okc c with
        | true =>
          wp_step
          exact ⟨⟨_, rfl⟩, rfl, by rw [all_snoc hc', hall, ho]; rfl⟩
        | false =>
          wp_step
          refine s_raise T.x_NoText ?_
          exact h2 (all_cut hc' ho)
      · rintro σ' H' ⟨⟨v, rfl⟩, rfl, hall⟩
        wp_step
        rw [show z.cps.size = (tl z).length by simp [tl], List.take_length] at hall
        exact h1 hall
  · rw [e1]
    wp_step
    refine s_raise T.x_NoText ?_
    exact h2 (textD_no e1)

end
theorem df_checked_text (T : Txt K mg cs) : Df P w K mg base "checked_text" 2 ["thing"] (sp1 (R_checked_text K cs)) := by
  obtain ⟨f, fd, hm, F, hb⟩ := T.f_checked_text.ex
  exact ⟨f, fd, hm, F.kp, hb, ok_checked_text F T⟩
/-! ### nodes, and what stands -/
inductive Nd where
  | pt (p : Str) (i j : Nat)
  | ru (r d i j : Nat)
deriving DecidableEq
def ndK : Nd → List Key
  | .pt p i j => [.inr p, .inl (i : Nat), .inl (j : Nat)]
  | .ru r d i j => [.inl (r : Nat), .inl (d : Nat), .inl (i : Nat), .inl (j : Nat)]
theorem inlN {a b : Nat} (h : (Sum.inl ((a : Nat) : Int) : Key) = .inl ((b : Nat) : Int)) : a = b := by
  have := Sum.inl.inj h
  omega
theorem ndK_inj : ∀ {a b : Nd}, ndK a = ndK b → a = b
  | .pt p i j, .pt p' i' j', h => by
    obtain ⟨h1, h⟩ := List.cons.inj h
    obtain ⟨h2, h⟩ := List.cons.inj h
    obtain ⟨h3, _⟩ := List.cons.inj h
    rw [Sum.inr.inj h1, inlN h2, inlN h3]
  | .ru r d i j, .ru r' d' i' j', h => by
    obtain ⟨h1, h⟩ := List.cons.inj h
    obtain ⟨h2, h⟩ := List.cons.inj h
    obtain ⟨h3, h⟩ := List.cons.inj h
    obtain ⟨h4, _⟩ := List.cons.inj h
    rw [inlN h1, inlN h2, inlN h3, inlN h4]
  | .pt p i j, .ru r d i' j', h => by cases (List.cons.inj h).1
  | .ru r d i' j', .pt p i j, h => by cases (List.cons.inj h).1
section
variable {κ μ α : Type} [DecidableEq κ] [DecidableEq μ] {f : κ → μ} {g : α → V}
theorem valV_inj (fi : ∀ a b, f a = f b → a = b) : ∀ (F : List (κ × α)) (k : κ), valV (F.map fun q => (f q.1, g q.2)) (f k) = (lk F k).map g
  | [], _ => rfl
  | p :: F, k => by
    rw [List.map_cons]
    show _ = (if p.1 = k then some p.2 else lk F k).map g
    by_cases e : p.1 = k
    · rw [if_pos e, valV_pos (by rw [e])]
      rfl
    · rw [if_neg e, valV_neg (fun q => e (fi _ _ q)), valV_inj fi F k]
theorem putK_new (fi : ∀ a b, f a = f b → a = b) {F : List (κ × α)} {k : κ} {v : α} (h : lk F k = none) : putK (F.map fun q => (f q.1, g q.2)) (f k) (g v) = (F ++ [(k, v)]).map fun q => (f q.1, g q.2) := by
  unfold putK
  rw [valV_any, valV_inj fi, h, List.map_append]
  rfl
end
/-- a node's tuple -/
def NdAt (H : Hp) (v : V) (n : Nd) : Prop := ∃ a, v = .ref a ∧ H a = some (.tup ((ndK n).map kV))
theorem NdAt.ts {H H' : Hp} (s : TS H H') {v : V} {n : Nd} (h : NdAt H v n) : NdAt H' v n := by
  obtain ⟨a, e, q⟩ := h
  exact ⟨a, e, s _ _ q⟩
theorem NdAt.one {H : Hp} {v : V} {n m : Nd} (h : NdAt H v n) (k : NdAt H v m) : n = m := by
  obtain ⟨a, rfl, e⟩ := h
  obtain ⟨b, e2, k⟩ := k
  cases e2
  rw [e] at k
  have := HO.tup.inj (Option.some.inj k)
  refine ndK_inj ?_
  have inj : ∀ (x y : List Key), x.map kV = y.map kV → x = y := by
    intro x
    induction x with
    | nil => intro y h; cases y with
      | nil => rfl
      | cons _ _ => cases h
    | cons a x ih =>
      intro y h
      cases y with
      | nil => cases h
      | cons b y =>
        obtain ⟨h1, h2⟩ := List.cons.inj h
        rw [ih y h2]
        congr 1
        cases a <;> cases b <;> first | (cases h1; rfl) | cases h1
  exact inj _ _ this
/-- the text of a sign as rules write it -/
def sgn (c : Nat) : Str := Str.ofString "'" ++ ⟨#[c]⟩
theorem tl_sgn (c : Nat) : tl (sgn c) = [39, c] := by
  unfold sgn
  rw [tl_append, tl_q]
  rfl
theorem sgn_inj {c d : Nat} (h : sgn c = sgn d) : c = d := by
  have := congrArg tl h
  rw [tl_sgn, tl_sgn] at this
  exact (List.cons.inj (List.cons.inj this).2).1
theorem isSg_sgn (c : Nat) : isSg (sgn c) = true := by
  unfold isSg
  rw [tl_sgn]
  rfl
/-- a derivation of a node, by its height -/
inductive Sd (rs : List Rl) (t : List Nat) : Nat → Nd → Prop
  | sign {i c : Nat} : t[i]? = some c → Sd rs t 0 (.pt (sgn c) i (i + 1))
  | zero {r i : Nat} : r < rs.length → i ≤ t.length → Sd rs t 0 (.ru r 0 i i)
  | step {h1 h2 r d i k j : Nat} {X : Str} {rl : Rl} : rs[r]? = some rl → rl.parts[d]? = some X → Sd rs t h1 (.ru r d i k) → Sd rs t h2 (.pt X k j) → Sd rs t (max h1 h2) (.ru r (d + 1) i j)
  | head {h r i j : Nat} {rl : Rl} : rs[r]? = some rl → Sd rs t h (.ru r rl.parts.length i j) → Sd rs t (h + 1) (.pt rl.head i j)
/-- the height of a node that stands -/
def Ht (rs : List Rl) (t : List Nat) (n : Nd) (h : Nat) : Prop := Sd rs t h n ∧ ∀ h', Sd rs t h' n → h ≤ h'
theorem Ht.one {rs : List Rl} {t : List Nat} {n : Nd} {h k : Nat} (a : Ht rs t n h) (b : Ht rs t n k) : h = k := by
  have := a.2 _ b.1
  have := b.2 _ a.1
  omega
theorem Sd.ex {rs : List Rl} {t : List Nat} {n : Nd} : ∀ (h : Nat), Sd rs t h n → ∃ k, Ht rs t n k := by
  intro h
  induction h using Nat.strongRecOn with
  | _ h ih =>
    intro d
    by_cases q : ∃ k, k < h ∧ Sd rs t k n
    · obtain ⟨k, hk, dk⟩ := q
      exact ih k hk dk
    · exact ⟨h, d, fun k dk => by
        by_cases c : k < h
        · exact absurd ⟨k, c, dk⟩ q
        · omega⟩
abbrev Hts : Type := List (Nd × Nat)
/-- all that stands, each with its height -/
structure Std (rs : List Rl) (t : List Nat) (F : Hts) : Prop where
  nd : (F.map (·.1)).Nodup
  ht : ∀ n h, lk F n = some h ↔ Ht rs t n h
theorem Std.same {rs : List Rl} {t : List Nat} {F F' : Hts} (a : Std rs t F) (b : Std rs t F') (n : Nd) : lk F n = lk F' n := by
  cases e : lk F n with
  | some h => exact ((b.ht n h).mpr ((a.ht n h).mp e)).symm
  | none =>
    cases e' : lk F' n with
    | none => rfl
    | some h => rw [(a.ht n h).mpr ((b.ht n h).mp e')] at e; cases e
def hK (F : Hts) : List (List Key × V) := F.map fun q => (ndK q.1, V.int ((q.2 : Nat) : Int))
theorem valV_hK (F : Hts) (n : Nd) : valV (hK F) (ndK n) = (lk F n).map fun h => V.int ((h : Nat) : Int) := valV_inj (g := fun h : Nat => V.int ((h : Nat) : Int)) (fun _ _ => ndK_inj) F n
theorem putK_hK {F : Hts} {n : Nd} {h : Nat} (e : lk F n = none) : putK (hK F) (ndK n) (.int (h : Nat)) = hK (F ++ [(n, h)]) := putK_new (g := fun h : Nat => V.int ((h : Nat) : Int)) (fun _ _ => ndK_inj) e
/-- the bounds of a node that stands -/
structure Wi (rs : List Rl) (t : List Nat) (n : Nd) : Prop where
  pt : ∀ p i j, n = .pt p i j → i ≤ j ∧ j ≤ t.length ∧ p ∈ rs.map Rl.head ++ t.map sgn
  ru : ∀ r d i j, n = .ru r d i j → i ≤ j ∧ j ≤ t.length ∧ ∃ rl, rs[r]? = some rl ∧ d ≤ rl.parts.length
theorem Sd.wi {rs : List Rl} {t : List Nat} {n : Nd} {h : Nat} (d : Sd rs t h n) : Wi rs t n := by
  induction d with
  | @sign i c e =>
    have := (List.getElem?_eq_some_iff.mp e).1
    refine ⟨fun p i' j q => ?_, fun _ _ _ _ q => ?_⟩
    · cases q
      exact ⟨by omega, by omega, List.mem_append_right _ (List.mem_map.mpr ⟨c, List.mem_of_getElem? e, rfl⟩)⟩
    · cases q
  | @zero r i h1 h2 =>
    refine ⟨fun _ _ _ q => ?_, fun r' d i' j q => ?_⟩
    · cases q
    · cases q
      exact ⟨Nat.le_refl _, h2, _, List.getElem?_eq_getElem h1, Nat.zero_le _⟩
  | @step h1 h2 r d i k j X rl e1 e2 _ _ ih1 ih2 =>
    refine ⟨fun _ _ _ q => (nomatch q), fun r' d' i' j' q => ?_⟩
    cases q
    obtain ⟨a1, a2, _⟩ := ih1.ru _ _ _ _ rfl
    obtain ⟨b1, b2, _⟩ := ih2.pt _ _ _ rfl
    have := (List.getElem?_eq_some_iff.mp e2).1
    exact ⟨by omega, by omega, rl, e1, by omega⟩
  | @head h r i j rl e1 _ ih =>
    refine ⟨fun p i' j' q => ?_, fun _ _ _ _ q => (nomatch q)⟩
    cases q
    obtain ⟨a1, a2, _⟩ := ih.ru _ _ _ _ rfl
    exact ⟨a1, a2, List.mem_append_left _ (List.mem_map.mpr ⟨rl, List.mem_of_getElem? e1, rfl⟩)⟩
def univ (rs : List Rl) (t : List Nat) : List Nd :=
  ((rs.map Rl.head ++ t.map sgn).flatMap fun p => (List.range (t.length + 1)).flatMap fun i => (List.range (t.length + 1)).map fun j => Nd.pt p i j) ++
  ((List.range rs.length).flatMap fun r => (List.range 7).flatMap fun d => (List.range (t.length + 1)).flatMap fun i => (List.range (t.length + 1)).map fun j => Nd.ru r d i j)
theorem flat_len {α β : Type} {f : α → List β} {c : Nat} : ∀ {l : List α}, (∀ x ∈ l, (f x).length = c) → (l.flatMap f).length = l.length * c
  | [], _ => by simp
  | a :: l, h => by
    rw [List.flatMap_cons, List.length_append, h a (List.mem_cons_self ..), flat_len fun x hx => h x (List.mem_cons_of_mem _ hx), List.length_cons, Nat.succ_mul]
    omega
theorem univ_len {rs : List Rl} {t : List Nat} (h1 : rs.length ≤ 60) (h2 : t.length ≤ 60) : (univ rs t).length ≤ 2009340 := by
  unfold univ
  rw [List.length_append]
  have a : ((rs.map Rl.head ++ t.map sgn).flatMap fun p => (List.range (t.length + 1)).flatMap fun i => (List.range (t.length + 1)).map fun j => Nd.pt p i j).length = (rs.length + t.length) * ((t.length + 1) * (t.length + 1)) := by
    rw [flat_len (c := (t.length + 1) * (t.length + 1))]
    · rw [List.length_append, List.length_map, List.length_map]
    · intro p _
      rw [flat_len (c := t.length + 1)]
      · rw [List.length_range]
      · intro i _; rw [List.length_map, List.length_range]
  have b : ((List.range rs.length).flatMap fun r => (List.range 7).flatMap fun d => (List.range (t.length + 1)).flatMap fun i => (List.range (t.length + 1)).map fun j => Nd.ru r d i j).length = rs.length * (7 * ((t.length + 1) * (t.length + 1))) := by
    rw [flat_len (c := 7 * ((t.length + 1) * (t.length + 1)))]
    · rw [List.length_range]
    · intro r _
      rw [flat_len (c := (t.length + 1) * (t.length + 1))]
      · rw [List.length_range]
      · intro d _
        rw [flat_len (c := t.length + 1)]
        · rw [List.length_range]
        · intro i _; rw [List.length_map, List.length_range]
  rw [a, b]
  have h3 : (t.length + 1) * (t.length + 1) ≤ 61 * 61 := Nat.mul_le_mul (by omega) (by omega)
  have h4 : (rs.length + t.length) * ((t.length + 1) * (t.length + 1)) ≤ 120 * (61 * 61) := Nat.mul_le_mul (by omega) h3
  have h5 : rs.length * (7 * ((t.length + 1) * (t.length + 1))) ≤ 60 * (7 * (61 * 61)) := Nat.mul_le_mul h1 (Nat.mul_le_mul (Nat.le_refl _) h3)
  omega
theorem Wi.univ {rs : List Rl} {t : List Nat} {n : Nd} (h6 : ∀ r ∈ rs, r.parts.length ≤ 6) (w : Wi rs t n) : n ∈ univ rs t := by
  unfold Lw.univ
  cases n with
  | pt p i j =>
    obtain ⟨a, b, c⟩ := w.pt _ _ _ rfl
    refine List.mem_append_left _ (List.mem_flatMap.mpr ⟨p, c, List.mem_flatMap.mpr ⟨i, List.mem_range.mpr (by omega), List.mem_map.mpr ⟨j, List.mem_range.mpr (by omega), rfl⟩⟩⟩)
  | ru r d i j =>
    obtain ⟨a, b, rl, c, e⟩ := w.ru _ _ _ _ rfl
    have := h6 rl (List.mem_of_getElem? c)
    refine List.mem_append_right _ (List.mem_flatMap.mpr ⟨r, List.mem_range.mpr (List.getElem?_eq_some_iff.mp c).1, List.mem_flatMap.mpr ⟨d, List.mem_range.mpr (by omega), List.mem_flatMap.mpr ⟨i, List.mem_range.mpr (by omega), List.mem_map.mpr ⟨j, List.mem_range.mpr (by omega), rfl⟩⟩⟩⟩)
theorem hts_len {rs : List Rl} {t : List Nat} {F : Hts} (h6 : ∀ r ∈ rs, r.parts.length ≤ 6) (h1 : rs.length ≤ 60) (h2 : t.length ≤ 60) (nd : (F.map (·.1)).Nodup) (w : ∀ n ∈ F.map (·.1), Wi rs t n) : F.length ≤ 2009340 := by
  have := nodup_len nd fun n hn => (w n hn).univ h6
  rw [List.length_map] at this
  exact Nat.le_trans this (univ_len h1 h2)

/-! ### the chart: a dict of lists by part and place -/
def pK (q : Str × Nat) : List Key := [.inr q.1, .inl ((q.2 : Nat) : Int)]
theorem pK_inj : ∀ a b : Str × Nat, pK a = pK b → a = b := fun a b h => by
  obtain ⟨h1, h⟩ := List.cons.inj h
  obtain ⟨h2, _⟩ := List.cons.inj h
  exact Prod.ext (Sum.inr.inj h1) (inlN h2)
abbrev Kys : Type := List ((Str × Nat) × Addr)
def kysK (ks : Kys) : List (List Key × V) := ks.map fun q => (pK q.1, V.ref q.2)
structure DLs (H : Hp) (d : Addr) (ks : Kys) (C : Str → Nat → List V) : Prop where
  at_ : H d = some (.dT (kysK ks))
  nd : (ks.map (·.1)).Nodup
  nd2 : (ks.map (·.2)).Nodup
  el : ∀ p i l, lk ks (p, i) = some l → H l = some (.lst (C p i))
  no : ∀ p i, lk ks (p, i) = none → C p i = []
theorem valV_kys (ks : Kys) (q : Str × Nat) : valV (kysK ks) (pK q) = (lk ks q).map V.ref := valV_inj (g := V.ref) pK_inj ks q
theorem putK_kys {ks : Kys} {q : Str × Nat} {l : Addr} (e : lk ks q = none) : putK (kysK ks) (pK q) (.ref l) = kysK (ks ++ [(q, l)]) := putK_new (g := V.ref) pK_inj e
/-- the value put behind -/
def addC {α : Type} (C : Str → Nat → List α) (p : Str) (i : Nat) (x : α) : Str → Nat → List α := fun p' i' => if p' = p ∧ i' = i then C p' i' ++ [x] else C p' i'
theorem lk_snd {κ α : Type} [DecidableEq κ] {ks : List (κ × α)} {q q' : κ} {l : α} (nd : (ks.map (·.2)).Nodup) (h : lk ks q = some l) (h' : lk ks q' = some l) : q = q' := by
  have a := lk_mem h
  have b := lk_mem h'
  induction ks with
  | nil => cases a
  | cons p ks ih =>
    rw [List.map_cons, List.nodup_cons] at nd
    rcases List.mem_cons.mp a with a | a <;> rcases List.mem_cons.mp b with b | b
    · rw [← a] at b; exact (Prod.mk.inj b).1.symm
    · exact absurd (List.mem_map.mpr ⟨_, b, by rw [← a]⟩) nd.1
    · exact absurd (List.mem_map.mpr ⟨_, a, by rw [← b]⟩) nd.1
    · have l1 : lk ks q = some l := by
        unfold lk at h
        by_cases c : p.1 = q
        · rw [if_pos c] at h
          exact absurd (List.mem_map.mpr ⟨_, a, (Option.some.inj h).symm⟩) nd.1
        · rw [if_neg c] at h; exact h
      have l2 : lk ks q' = some l := by
        unfold lk at h'
        by_cases c : p.1 = q'
        · rw [if_pos c] at h'
          exact absurd (List.mem_map.mpr ⟨_, b, (Option.some.inj h').symm⟩) nd.1
        · rw [if_neg c] at h'; exact h'
      exact ih nd.2 l1 l2 a b
theorem lk_app_ne {κ α : Type} [DecidableEq κ] {ks : List (κ × α)} {q : κ} {l : α} (e : lk ks q = none) (q' : κ) : lk (ks ++ [(q, l)]) q' = if q' = q then some l else lk ks q' := lk_app ks q l q' e
theorem DLs.put_old {H H' : Hp} {d : Addr} {ks : Kys} {C : Str → Nat → List V} {p : Str} {i : Nat} {l : Addr} {x : V} (h : DLs H d ks C) (e : lk ks (p, i) = some l) (hl : H' l = some (.lst (C p i ++ [x]))) (k : ∀ b, b ≠ l → H' b = H b) : DLs H' d ks (addC C p i x) := by
  have dl : d ≠ l := fun z => by have := h.at_; rw [z, h.el p i l e] at this; cases this
  refine ⟨(k d dl).trans h.at_, h.nd, h.nd2, fun p' i' l' e' => ?_, fun p' i' e' => ?_⟩
  · unfold addC
    by_cases c : p' = p ∧ i' = i
    · obtain ⟨rfl, rfl⟩ := c
      rw [if_pos ⟨rfl, rfl⟩]
      rw [e] at e'
      cases e'
      exact hl
    · rw [if_neg c, k l' fun z => c (by have := lk_snd h.nd2 e' (z ▸ e); exact ⟨(Prod.mk.inj this).1, (Prod.mk.inj this).2⟩)]
      exact h.el p' i' l' e'
  · unfold addC
    rw [if_neg fun c => by rw [c.1, c.2, e] at e'; cases e']
    exact h.no p' i' e'
theorem DLs.put_new {H H' : Hp} {d : Addr} {ks : Kys} {C : Str → Nat → List V} {p : Str} {i : Nat} {l : Addr} {x : V} (h : DLs H d ks C) (e : lk ks (p, i) = none) (nl : H l = none) (hd : H' d = some (.dT (kysK (ks ++ [((p, i), l)])))) (hl : H' l = some (.lst [x])) (k : ∀ b o, H b = some o → b ≠ l → b ≠ d → H' b = some o) : DLs H' d (ks ++ [((p, i), l)]) (addC C p i x) := by
  have nin : l ∉ ks.map (·.2) := fun m => by
    obtain ⟨q, hq, rfl⟩ := List.mem_map.mp m
    have := h.el q.1.1 q.1.2 q.2 (lk_of h.nd hq)
    rw [nl] at this; cases this
  refine ⟨hd, ?_, ?_, fun p' i' l' e' => ?_, fun p' i' e' => ?_⟩
  · rw [List.map_append]
    exact List.nodup_append.mpr ⟨h.nd, by simp, fun a ha b hb => by
      rw [List.mem_singleton.mp hb]
      intro z
      rw [z] at ha
      exact lk_none.mp e ha⟩
  · rw [List.map_append]
    exact List.nodup_append.mpr ⟨h.nd2, by simp, fun a ha b hb => by
      rw [List.mem_singleton.mp hb]
      intro z
      rw [z] at ha
      exact nin ha⟩
  · rw [lk_app_ne e] at e'
    unfold addC
    by_cases c : p' = p ∧ i' = i
    · obtain ⟨rfl, rfl⟩ := c
      rw [if_pos rfl] at e'
      cases e'
      rw [if_pos ⟨rfl, rfl⟩, h.no p' i' e]
      exact hl
    · rw [if_neg fun z => c ⟨(Prod.mk.inj z).1, (Prod.mk.inj z).2⟩] at e'
      have q := h.el p' i' l' e'
      rw [if_neg c]
      exact k l' _ q (fun z => by rw [z, nl] at q; cases q) fun z => by rw [z, h.at_] at q; cases q
  · rw [lk_app_ne e] at e'
    unfold addC
    by_cases c : p' = p ∧ i' = i
    · rw [if_pos (by rw [c.1, c.2])] at e'; cases e'
    · rw [if_neg fun z => c ⟨(Prod.mk.inj z).1, (Prod.mk.inj z).2⟩] at e'
      rw [if_neg c]
      exact h.no p' i' e'
theorem DLs.keep {H H' : Hp} {d : Addr} {ks : Kys} {C : Str → Nat → List V} (h : DLs H d ks C) (hd : H' d = H d) (k : ∀ l ∈ ks.map (·.2), H' l = H l) : DLs H' d ks C :=
  ⟨hd.trans h.at_, h.nd, h.nd2, fun p i l e => (k l (List.mem_map.mpr ⟨_, lk_mem e, rfl⟩)).trans (h.el p i l e), h.no⟩
/-- a row of parts that waits: rule, how many, from where -/
def TrAt (H : Hp) (v : V) (q : Nat × Nat × Nat) : Prop := ∃ t, v = .ref t ∧ H t = some (.tup [.int (q.1 : Nat), .int (q.2.1 : Nat), .int (q.2.2 : Nat)])
theorem TrAt.ts {H H' : Hp} (s : TS H H') {v : V} {q : Nat × Nat × Nat} (h : TrAt H v q) : TrAt H' v q := by
  obtain ⟨t, e, k⟩ := h
  exact ⟨t, e, s _ _ k⟩
structure ChS where
  dx : Addr
  a : Addr
  dh : Addr
  q : Addr
  g : Addr
  de : Addr
  db : Addr
  L : Nat
  F : Hts
  Q : List Nd
  G : List Nd
  ke : Kys
  kb : Kys
  E : Str → Nat → List Nat
  B : Str → Nat → List (Nat × Nat × Nat)
def chF (s : ChS) : List (Str × V) := [(Str.ofString "rules", .ref s.a), (Str.ofString "heights", .ref s.dh), (Str.ofString "level", .int (s.L : Nat)), (Str.ofString "queue", .ref s.q), (Str.ofString "higher", .ref s.g), (Str.ofString "ends", .ref s.de), (Str.ofString "behind", .ref s.db)]
def intsV (l : List Nat) : List V := l.map fun k => V.int ((k : Nat) : Int)
structure Ch (H0 : Hp) (C : Addr) (rs : List Rl) (vs : List V) (H : Hp) (c : Addr) (s : ChS) : Prop where
  sm : Same H0 H
  rl : H0 s.a = some (.lst vs)
  ra : RulesAt H0 vs rs
  ins : H c = some (.ins C s.dx (chF s))
  own : H s.dx = some (.own c)
  hF : H s.dh = some (.dT (hK s.F))
  hQ : ∃ qv, H s.q = some (.lst qv) ∧ All2 (NdAt H) qv s.Q
  hG : ∃ gv, H s.g = some (.lst gv) ∧ All2 (NdAt H) gv s.G
  hE : DLs H s.de s.ke (fun p i => intsV (s.E p i))
  hB : ∃ bv, DLs H s.db s.kb bv ∧ ∀ p i, All2 (TrAt H) (bv p i) (s.B p i)
  qg : s.q ≠ s.g
  ql : s.q ∉ s.ke.map (·.2) ∧ s.q ∉ s.kb.map (·.2) ∧ s.g ∉ s.ke.map (·.2) ∧ s.g ∉ s.kb.map (·.2)
  eb : ∀ l ∈ s.ke.map (·.2), l ∉ s.kb.map (·.2)
  dd : s.dh ≠ s.de ∧ s.dh ≠ s.db ∧ s.de ≠ s.db
  nw : H0 c = none ∧ H0 s.dx = none ∧ H0 s.dh = none ∧ H0 s.q = none ∧ H0 s.g = none ∧ H0 s.de = none ∧ H0 s.db = none ∧ (∀ l ∈ s.ke.map (·.2), H0 l = none) ∧ ∀ l ∈ s.kb.map (·.2), H0 l = none
/-- a node is offered -/
def offS (s : ChS) (n : Nd) : ChS := if (lk s.F n).isSome = true then s else { s with F := s.F ++ [(n, s.L)], Q := s.Q ++ [n] }
theorem DLs.con {H : Hp} {d : Addr} {ks : Kys} {C : Str → Nat → List V} (h : DLs H d ks C) {l : Addr} (m : l ∈ ks.map (·.2)) : ∃ xs, H l = some (.lst xs) := by
  obtain ⟨q, hq, rfl⟩ := List.mem_map.mp m
  exact ⟨_, h.el q.1.1 q.1.2 q.2 (lk_of h.nd hq)⟩
def Own (s : ChS) (c b : Addr) : Prop := b = c ∨ b = s.dx ∨ b = s.dh ∨ b = s.q ∨ b = s.g ∨ b = s.de ∨ b = s.db ∨ b ∈ s.ke.map (·.2) ∨ b ∈ s.kb.map (·.2)
section
variable {H0 : Hp} {C : Addr} {rs : List Rl} {vs : List V} {H H' : Hp} {c : Addr} {s : ChS}
theorem Ch.not_tup (h : Ch H0 C rs vs H c s) {b : Addr} {xs : List V} (e : H b = some (.tup xs)) : ¬ Own s c b := by
  rintro (rfl | rfl | rfl | rfl | rfl | rfl | rfl | m | m)
  · rw [h.ins] at e; cases e
  · rw [h.own] at e; cases e
  · rw [h.hF] at e; cases e
  · obtain ⟨_, q, _⟩ := h.hQ; rw [q] at e; cases e
  · obtain ⟨_, q, _⟩ := h.hG; rw [q] at e; cases e
  · rw [h.hE.at_] at e; cases e
  · obtain ⟨_, q, _⟩ := h.hB; rw [q.at_] at e; cases e
  · obtain ⟨_, q⟩ := h.hE.con m; rw [q] at e; cases e
  · obtain ⟨_, q, _⟩ := h.hB
    obtain ⟨_, q⟩ := q.con m; rw [q] at e; cases e
theorem Ch.not_old (h : Ch H0 C rs vs H c s) {b : Addr} {o : HO} (e : H0 b = some o) : ¬ Own s c b := by
  obtain ⟨n1, n2, n3, n4, n5, n6, n7, n8, n9⟩ := h.nw
  rintro (rfl | rfl | rfl | rfl | rfl | rfl | rfl | m | m)
  · rw [n1] at e; cases e
  · rw [n2] at e; cases e
  · rw [n3] at e; cases e
  · rw [n4] at e; cases e
  · rw [n5] at e; cases e
  · rw [n6] at e; cases e
  · rw [n7] at e; cases e
  · rw [n8 _ m] at e; cases e
  · rw [n9 _ m] at e; cases e
theorem Ch.frame (h : Ch H0 C rs vs H c s) (k : ∀ b o, H b = some o → ¬ Own s c b → H' b = some o) : TS H H' ∧ Same H0 H' :=
  ⟨fun b xs e => k b _ e (h.not_tup e), fun b o e => k b o (h.sm b o e) (h.not_old e)⟩
theorem _root_.Lw.DLs.more {H H' : Hp} {d : Addr} {ks : Kys} {C : Str → Nat → List V} (s : Same H H') (h : DLs H d ks C) : DLs H' d ks C := ⟨s _ _ h.at_, h.nd, h.nd2, fun p i l e => s _ _ (h.el p i l e), h.no⟩
theorem Ch.more (x : Same H H') (h : Ch H0 C rs vs H c s) : Ch H0 C rs vs H' c s := by
  obtain ⟨qv0, q0, aq0⟩ := h.hQ
  obtain ⟨gv0, g0, ag0⟩ := h.hG
  obtain ⟨bv, hB, aB⟩ := h.hB
  exact ⟨h.sm.trans x, h.rl, h.ra, x _ _ h.ins, x _ _ h.own, x _ _ h.hF, ⟨qv0, x _ _ q0, aq0.mono fun _ _ q => q.ts (Same.ts x)⟩, ⟨gv0, x _ _ g0, ag0.mono fun _ _ q => q.ts (Same.ts x)⟩, h.hE.more x, ⟨bv, hB.more x, fun p i => (aB p i).mono fun _ _ q => q.ts (Same.ts x)⟩, h.qg, h.ql, h.eb, h.dd, h.nw⟩
/-- heights and queue change -/
theorem Ch.chgQ (h : Ch H0 C rs vs H c s) {F' : Hts} {Q' : List Nd} (hF : H' s.dh = some (.dT (hK F'))) (hQ : ∃ qv, H' s.q = some (.lst qv) ∧ All2 (NdAt H) qv Q') (k : ∀ b, b ≠ s.dh → b ≠ s.q → H' b = H b) : Ch H0 C rs vs H' c { s with F := F', Q := Q' } := by
  obtain ⟨qv0, q0, _⟩ := h.hQ
  obtain ⟨gv0, g0, ag0⟩ := h.hG
  obtain ⟨bv, hB, aB⟩ := h.hB
  obtain ⟨ts, sm⟩ := h.frame (H' := H') fun b o e n => (k b (fun z => n (.inr (.inr (.inl z)))) fun z => n (.inr (.inr (.inr (.inl z))))).trans e
  have kc : ∀ b xs, H b = some (.lst xs) → b ≠ s.q → H' b = H b := fun b xs e n => k b (fun z => by rw [z, h.hF] at e; cases e) n
  obtain ⟨qv, q1, q2⟩ := hQ
  refine ⟨sm, h.rl, h.ra, ?_, ?_, hF, ⟨qv, q1, q2.mono fun _ _ x => x.ts ts⟩, ⟨gv0, ?_, ag0.mono fun _ _ x => x.ts ts⟩, h.hE.keep ?_ ?_, ⟨bv, hB.keep ?_ ?_, fun p i => (aB p i).mono fun _ _ x => x.ts ts⟩, h.qg, h.ql, h.eb, h.dd, h.nw⟩
  · rw [k c (fun z => by have := h.ins; rw [z, h.hF] at this; cases this) fun z => by have := h.ins; rw [z, q0] at this; cases this]; exact h.ins
  · show H' s.dx = _
    rw [k s.dx (fun z => by have := h.own; rw [z, h.hF] at this; cases this) fun z => by have := h.own; rw [z, q0] at this; cases this]; exact h.own
  · exact (kc _ _ g0 h.qg.symm).trans g0
  · exact k _ h.dd.1.symm fun z => by have := h.hE.at_; rw [z, q0] at this; cases this
  · intro l m
    obtain ⟨xs, e⟩ := h.hE.con m
    exact kc l xs e fun z => h.ql.1 (z ▸ m)
  · exact k _ h.dd.2.1.symm fun z => by have := hB.at_; rw [z, q0] at this; cases this
  · intro l m
    obtain ⟨xs, e⟩ := hB.con m
    exact kc l xs e fun z => h.ql.2.1 (z ▸ m)
/-- the list of heads of the next level changes -/
theorem Ch.chgG (h : Ch H0 C rs vs H c s) {G' : List Nd} (hG : ∃ gv, H' s.g = some (.lst gv) ∧ All2 (NdAt H) gv G') (k : ∀ b, b ≠ s.g → H' b = H b) : Ch H0 C rs vs H' c { s with G := G' } := by
  obtain ⟨qv0, q0, aq0⟩ := h.hQ
  obtain ⟨gv0, g0, ag0⟩ := h.hG
  obtain ⟨bv, hB, aB⟩ := h.hB
  obtain ⟨ts, sm⟩ := h.frame (H' := H') fun b o e n => (k b fun z => n (.inr (.inr (.inr (.inr (.inl z)))))).trans e
  obtain ⟨gv, q1, q2⟩ := hG
  have kd : ∀ b o, H b = some o → (∀ xs, o ≠ .lst xs) → H' b = H b := fun b o e n => k b fun z => by rw [z, g0] at e; cases e; exact n _ rfl
  refine ⟨sm, h.rl, h.ra, (kd _ _ h.ins fun _ z => nomatch z).trans h.ins, (kd _ _ h.own fun _ z => nomatch z).trans h.own, (kd _ _ h.hF fun _ z => nomatch z).trans h.hF, ⟨qv0, (k _ h.qg).trans q0, aq0.mono fun _ _ x => x.ts ts⟩, ⟨gv, q1, q2.mono fun _ _ x => x.ts ts⟩, h.hE.keep (kd _ _ h.hE.at_ fun _ z => nomatch z) ?_, ⟨bv, hB.keep (kd _ _ hB.at_ fun _ z => nomatch z) ?_, fun p i => (aB p i).mono fun _ _ x => x.ts ts⟩, h.qg, h.ql, h.eb, h.dd, h.nw⟩
  · intro l m
    exact k l fun z => h.ql.2.2.1 (z ▸ m)
  · intro l m
    exact k l fun z => h.ql.2.2.2 (z ▸ m)
/-- the ends of parts change: at the dict, at a list that may be new -/
theorem Ch.chgE (h : Ch H0 C rs vs H c s) {ke' : Kys} {E' : Str → Nat → List Nat} {l : Addr} (hE : DLs H' s.de ke' (fun p i => intsV (E' p i))) (hk : ∀ x ∈ ke'.map (·.2), x ∈ s.ke.map (·.2) ∨ (x = l ∧ H l = none)) (hl : l ∈ s.ke.map (·.2) ∨ H l = none) (k : ∀ b, b ≠ s.de → b ≠ l → H' b = H b) : Ch H0 C rs vs H' c { s with ke := ke', E := E' } := by
  obtain ⟨qv0, q0, aq0⟩ := h.hQ
  obtain ⟨gv0, g0, ag0⟩ := h.hG
  obtain ⟨bv, hB, aB⟩ := h.hB
  have kd : ∀ b o, H b = some o → b ≠ s.de → b ∉ s.ke.map (·.2) → H' b = some o := fun b o e n1 n2 => (k b n1 fun z => by
    rcases hl with hl | hl
    · exact n2 (z ▸ hl)
    · rw [z, hl] at e; cases e).trans e
  obtain ⟨ts, sm⟩ := h.frame (H' := H') fun b o e n => kd b o e (fun z => n (.inr (.inr (.inr (.inr (.inr (.inl z))))))) fun z => n (.inr (.inr (.inr (.inr (.inr (.inr (.inr (.inl z))))))))
  have nl : ∀ b o, H b = some o → (∀ xs, o ≠ .lst xs) → b ∉ s.ke.map (·.2) := fun b o e n m => by
    obtain ⟨xs, q⟩ := h.hE.con m
    rw [q] at e
    cases e
    exact n _ rfl
  have dE := h.hE.at_
  have nd : ∀ b o, H b = some o → (∀ xs, o ≠ .dT xs) → b ≠ s.de := fun b o e n z => by rw [z, dE] at e; cases e; exact n _ rfl
  have nk : ∀ x ∈ ke'.map (·.2), ∀ o, H x = some o → x ∈ s.ke.map (·.2) := fun x m o e => by
    rcases hk x m with q | ⟨rfl, q⟩
    · exact q
    · rw [q] at e; cases e
  refine ⟨sm, h.rl, h.ra, kd _ _ h.ins (nd _ _ h.ins fun _ z => nomatch z) (nl _ _ h.ins fun _ z => nomatch z), kd _ _ h.own (nd _ _ h.own fun _ z => nomatch z) (nl _ _ h.own fun _ z => nomatch z), kd _ _ h.hF h.dd.1 (nl _ _ h.hF fun _ z => nomatch z), ⟨qv0, kd _ _ q0 (nd _ _ q0 fun _ z => nomatch z) h.ql.1, aq0.mono fun _ _ x => x.ts ts⟩, ⟨gv0, kd _ _ g0 (nd _ _ g0 fun _ z => nomatch z) h.ql.2.2.1, ag0.mono fun _ _ x => x.ts ts⟩, hE, ⟨bv, hB.keep ((kd _ _ hB.at_ h.dd.2.2.symm (nl _ _ hB.at_ fun _ z => nomatch z)).trans hB.at_.symm) fun x m => ?_, fun p i => (aB p i).mono fun _ _ x => x.ts ts⟩, h.qg, ⟨fun m => h.ql.1 (nk _ m _ q0), h.ql.2.1, fun m => h.ql.2.2.1 (nk _ m _ g0), h.ql.2.2.2⟩, fun x m m2 => ?_, h.dd, ?_⟩
  · obtain ⟨xs, e⟩ := hB.con m
    exact (kd x _ e (nd _ _ e fun _ z => nomatch z) fun q => h.eb x q m).trans e.symm
  · obtain ⟨xs, e⟩ := hB.con m2
    exact h.eb x (nk x m _ e) m2
  · obtain ⟨n1, n2, n3, n4, n5, n6, n7, n8, n9⟩ := h.nw
    refine ⟨n1, n2, n3, n4, n5, n6, n7, fun x m => ?_, n9⟩
    rcases hk x m with q | ⟨rfl, q⟩
    · exact n8 x q
    · exact h.sm.none q
/-- the rows of parts that wait change -/
theorem Ch.chgB (h : Ch H0 C rs vs H c s) {kb' : Kys} {B' : Str → Nat → List (Nat × Nat × Nat)} {bv' : Str → Nat → List V} {l : Addr} (hB' : DLs H' s.db kb' bv') (aB' : ∀ p i, All2 (TrAt H') (bv' p i) (B' p i)) (hk : ∀ x ∈ kb'.map (·.2), x ∈ s.kb.map (·.2) ∨ (x = l ∧ H l = none)) (hl : l ∈ s.kb.map (·.2) ∨ H l = none) (k : ∀ b o, H b = some o → b ≠ s.db → b ≠ l → H' b = some o) : Ch H0 C rs vs H' c { s with kb := kb', B := B' } := by
  obtain ⟨qv0, q0, aq0⟩ := h.hQ
  obtain ⟨gv0, g0, ag0⟩ := h.hG
  obtain ⟨bv, hB, aB⟩ := h.hB
  have kd : ∀ b o, H b = some o → b ≠ s.db → b ∉ s.kb.map (·.2) → H' b = some o := fun b o e n1 n2 => k b o e n1 fun z => by
    rcases hl with hl | hl
    · exact n2 (z ▸ hl)
    · rw [z, hl] at e; cases e
  obtain ⟨ts, sm⟩ := h.frame (H' := H') fun b o e n => kd b o e (fun z => n (.inr (.inr (.inr (.inr (.inr (.inr (.inl z)))))))) fun z => n (.inr (.inr (.inr (.inr (.inr (.inr (.inr (.inr z))))))))
  have nl : ∀ b o, H b = some o → (∀ xs, o ≠ .lst xs) → b ∉ s.kb.map (·.2) := fun b o e n m => by
    obtain ⟨xs, q⟩ := hB.con m
    rw [q] at e
    cases e
    exact n _ rfl
  have dE := hB.at_
  have nd : ∀ b o, H b = some o → (∀ xs, o ≠ .dT xs) → b ≠ s.db := fun b o e n z => by rw [z, dE] at e; cases e; exact n _ rfl
  have nk : ∀ x ∈ kb'.map (·.2), ∀ o, H x = some o → x ∈ s.kb.map (·.2) := fun x m o e => by
    rcases hk x m with q | ⟨rfl, q⟩
    · exact q
    · rw [q] at e; cases e
  refine ⟨sm, h.rl, h.ra, kd _ _ h.ins (nd _ _ h.ins fun _ z => nomatch z) (nl _ _ h.ins fun _ z => nomatch z), kd _ _ h.own (nd _ _ h.own fun _ z => nomatch z) (nl _ _ h.own fun _ z => nomatch z), kd _ _ h.hF h.dd.2.1 (nl _ _ h.hF fun _ z => nomatch z), ⟨qv0, kd _ _ q0 (nd _ _ q0 fun _ z => nomatch z) h.ql.2.1, aq0.mono fun _ _ x => x.ts ts⟩, ⟨gv0, kd _ _ g0 (nd _ _ g0 fun _ z => nomatch z) h.ql.2.2.2, ag0.mono fun _ _ x => x.ts ts⟩, h.hE.keep ((kd _ _ h.hE.at_ h.dd.2.2 (nl _ _ h.hE.at_ fun _ z => nomatch z)).trans h.hE.at_.symm) (fun x m => ?_), ⟨bv', hB', aB'⟩, h.qg, ⟨h.ql.1, fun m => h.ql.2.1 (nk _ m _ q0), h.ql.2.2.1, fun m => h.ql.2.2.2 (nk _ m _ g0)⟩, fun x m m2 => ?_, h.dd, ?_⟩
  · obtain ⟨xs, e⟩ := h.hE.con m
    exact (kd x _ e (nd _ _ e fun _ z => nomatch z) fun q => h.eb x m q).trans e.symm
  · obtain ⟨xs, e⟩ := h.hE.con m
    exact h.eb x m (nk x m2 _ e)
  · obtain ⟨n1, n2, n3, n4, n5, n6, n7, n8, n9⟩ := h.nw
    refine ⟨n1, n2, n3, n4, n5, n6, n7, n8, fun x m => ?_⟩
    rcases hk x m with q | ⟨rfl, q⟩
    · exact n9 x q
    · exact h.sm.none q
end
def R_Chart_offer (K : PySem.W.Frag) (cs : Cs) : V → V → Hp → VK → XK → Prop := fun x y H Q _ => ∃ (H0 : Hp) (c : Addr) (rs : List Rl) (vs : List V) (s : ChS) (n : Nd), x = .ref c ∧ Ch H0 cs.Chart rs vs H c s ∧ NdAt H y n ∧ s.F.length ≤ 9000000 ∧ s.Q.length ≤ 9000000 ∧ ∀ H', Ch H0 cs.Chart rs vs H' c (offS s n) → (∀ b, b ≠ s.dh → b ≠ s.q → H' b = H b) → Q .non H'
section
theorem ok_Chart_offer {f : Addr} {fd : FuncData} (F : Fun K "offer" "Chart.offer" s_Chart_offer f fd) (T : Txt K mg cs) : FnOk P w K mg base (L2.CX P w) 1 f fd ["self", "node"] (sp2 (R_Chart_offer K cs)) := by
  refine F.okX sc_Chart_offer (fun vs H Q E h => sp2_len h) (fun cdv A outer s H vs Q E hr h => ⟨_, PBw (X := X_Chart_offer P w K mg base f cdv A outer s H E), ?_⟩)
  obtain ⟨a0, a1, rfl, h⟩ := h
  have icl_Chart : ClsI K cs.Chart := ⟨T.c_Chart.cl⟩
  have ifl_Chart_heights : NoA K cs.Chart "heights" := ⟨T.n_Chart_heights⟩
  have ifl_Chart_level : NoA K cs.Chart "level" := ⟨T.n_Chart_level⟩
  have ifl_Chart_queue : NoA K cs.Chart "queue" := ⟨T.n_Chart_queue⟩
  have hr' : Room 0 (X_Chart_offer P w K mg base f cdv A outer s H E).A := hr
  replace hr := hr'
  clear hr'
  obtain ⟨H0, c, rs, vs, s, n, rfl, hc, ⟨b, rfl, hb⟩, h1, h2, h⟩ := h
  have kI := hc.ins
  have kF := hc.hF
  obtain ⟨qv, kQ, aQ⟩ := hc.hQ
  have gk := DGet.t kF hb
  rw [valV_hK] at gk
  kxs_still
  refine o_dni (rm1 hr) gk ?_
  kxs_still
  cases e : lk s.F n with
  | some hh =>
    kxs_still
    have e2 : offS s n = s := by unfold offS; rw [e]; rfl
    rw [e2] at h
    exact h H hc fun _ _ _ => rfl
  | none =>
    have e2 : offS s n = { s with F := s.F ++ [(n, s.L)], Q := s.Q ++ [n] } := by unfold offS; rw [e]; rfl
    rw [e2] at h
    refine b_cons (s_asg ?_)
    kxs_still
    refine g_setT (rm1 hr) ?_
    kxs_still
    refine ⟨_, _, _, _, rfl, kF, rfl, hb, by unfold hK; rw [List.length_map]; omega, fun H1 k1 f1 => ?_⟩
    rw [putK_hK e] at k1
    have n1 : c ≠ s.dh := fun z => by rw [z, kF] at kI; cases kI
    have n2 : s.q ≠ s.dh := fun z => by rw [z, kF] at kQ; cases kQ
    have n3 : c ≠ s.q := fun z => by rw [z, kQ] at kI; cases kI
    have kI1 := (f1 c n1).trans kI
    have kQ1 := (f1 _ n2).trans kQ
    kxs_still
    refine ⟨ty_l kQ1, ?_⟩
    kxs_still
    refine m_append kQ1 (by have := aQ.len; omega) fun H2 k2 f2 => ?_
    kxs_still
    have fr : ∀ b, b ≠ s.dh → b ≠ s.q → H2 b = H b := fun b p q => (f2 b q).trans (f1 b p)
    exact h H2 (hc.chgQ ((f2 _ n2.symm).trans k1) ⟨_, k2, aQ.snoc ⟨_, rfl, hb⟩⟩ fr) fr
end
theorem md_Chart_offer (T : Txt K mg cs) : Md P w K mg base cs.Chart "offer" 1 ["self", "node"] (sp2 (R_Chart_offer K cs)) := by
  obtain ⟨f, fd, hm, F, hb⟩ := T.m_Chart_offer.ex
  exact ⟨f, fd, hm, hb, ok_Chart_offer F T⟩
def offs (s : ChS) (ns : List Nd) : ChS := ns.foldl offS s
theorem offs_snoc (s : ChS) (ns : List Nd) (n : Nd) : offs s (ns ++ [n]) = offS (offs s ns) n := by unfold offs; rw [List.foldl_append]; rfl
theorem offS_keep (s : ChS) (n : Nd) : (offS s n).dx = s.dx ∧ (offS s n).a = s.a ∧ (offS s n).dh = s.dh ∧ (offS s n).q = s.q ∧ (offS s n).g = s.g ∧ (offS s n).de = s.de ∧ (offS s n).db = s.db ∧ (offS s n).L = s.L ∧ (offS s n).G = s.G ∧ (offS s n).ke = s.ke ∧ (offS s n).kb = s.kb ∧ (offS s n).E = s.E ∧ (offS s n).B = s.B ∧ (offS s n).F.length ≤ s.F.length + 1 ∧ (offS s n).Q.length ≤ s.Q.length + 1 := by
  unfold offS
  by_cases c : (lk s.F n).isSome = true
  · rw [if_pos c]; exact ⟨rfl, rfl, rfl, rfl, rfl, rfl, rfl, rfl, rfl, rfl, rfl, rfl, rfl, by omega, by omega⟩
  · rw [if_neg c]; exact ⟨rfl, rfl, rfl, rfl, rfl, rfl, rfl, rfl, rfl, rfl, rfl, rfl, rfl, by simp, by simp⟩
theorem offs_keep (s : ChS) (ns : List Nd) : (offs s ns).dx = s.dx ∧ (offs s ns).a = s.a ∧ (offs s ns).dh = s.dh ∧ (offs s ns).q = s.q ∧ (offs s ns).g = s.g ∧ (offs s ns).de = s.de ∧ (offs s ns).db = s.db ∧ (offs s ns).L = s.L ∧ (offs s ns).G = s.G ∧ (offs s ns).ke = s.ke ∧ (offs s ns).kb = s.kb ∧ (offs s ns).E = s.E ∧ (offs s ns).B = s.B ∧ (offs s ns).F.length ≤ s.F.length + ns.length ∧ (offs s ns).Q.length ≤ s.Q.length + ns.length := by
  induction ns generalizing s with
  | nil => exact ⟨rfl, rfl, rfl, rfl, rfl, rfl, rfl, rfl, rfl, rfl, rfl, rfl, rfl, Nat.le_refl _, Nat.le_refl _⟩
  | cons n ns ih =>
    obtain ⟨a1, a2, a3, a4, a5, a6, a7, a8, a9, a10, a11, a12, a13, a14, a15⟩ := ih (offS s n)
    obtain ⟨b1, b2, b3, b4, b5, b6, b7, b8, b9, b10, b11, b12, b13, b14, b15⟩ := offS_keep s n
    have e : offs s (n :: ns) = offs (offS s n) ns := rfl
    rw [e]
    exact ⟨a1.trans b1, a2.trans b2, a3.trans b3, a4.trans b4, a5.trans b5, a6.trans b6, a7.trans b7, a8.trans b8, a9.trans b9, a10.trans b10, a11.trans b11, a12.trans b12, a13.trans b13, by simp only [List.length_cons]; omega, by simp only [List.length_cons]; omega⟩
theorem offS_E (s : ChS) (ke : Kys) (E : Str → Nat → List Nat) (n : Nd) : offS { s with ke := ke, E := E } n = { offS s n with ke := ke, E := E } := by
  unfold offS
  by_cases c : (lk s.F n).isSome = true
  · rw [if_pos c, if_pos c]
  · rw [if_neg c, if_neg c]
theorem offs_E (ke : Kys) (E : Str → Nat → List Nat) : ∀ (ns : List Nd) (s : ChS), offs { s with ke := ke, E := E } ns = { offs s ns with ke := ke, E := E }
  | [], _ => rfl
  | n :: ns, s => by
    show offs (offS { s with ke := ke, E := E } n) ns = _
    rw [offS_E, offs_E ke E ns]
    rfl
theorem offS_B (s : ChS) (kb : Kys) (B : Str → Nat → List (Nat × Nat × Nat)) (n : Nd) : offS { s with kb := kb, B := B } n = { offS s n with kb := kb, B := B } := by
  unfold offS
  by_cases c : (lk s.F n).isSome = true
  · rw [if_pos c, if_pos c]
  · rw [if_neg c, if_neg c]
theorem offs_B (kb : Kys) (B : Str → Nat → List (Nat × Nat × Nat)) : ∀ (ns : List Nd) (s : ChS), offs { s with kb := kb, B := B } ns = { offs s ns with kb := kb, B := B }
  | [], _ => rfl
  | n :: ns, s => by
    show offs (offS { s with kb := kb, B := B } n) ns = _
    rw [offS_B, offs_B kb B ns]
    rfl
theorem offs_hB {H : Hp} {s : ChS} {ns : List Nd} {bv : Str → Nat → List V} (h : DLs H (offs s ns).db (offs s ns).kb bv) : DLs H s.db s.kb bv := by
  obtain ⟨b1, b2, b3, b4, b5, b6, b7, b8, b9, b10, b11, b12, b13, b14, b15⟩ := offs_keep s ns
  rw [b7, b11] at h
  exact h
theorem intsV_add (E : Str → Nat → List Nat) (p : Str) (i j : Nat) : (fun p' i' => intsV (addC E p i j p' i')) = addC (fun p i => intsV (E p i)) p i (.int ((j : Nat) : Int)) := by
  funext p' i'
  unfold addC
  by_cases c : p' = p ∧ i' = i
  · rw [if_pos c, if_pos c]; unfold intsV; rw [List.map_append]; rfl
  · rw [if_neg c, if_neg c]
/-- the rows of parts that a part can follow, one part further -/
def nxtB (l : List (Nat × Nat × Nat)) (j : Nat) : List Nd := l.map fun q => .ru q.1 (q.2.1 + 1) q.2.2 j
def nxtE (l : List Nat) (r d i : Nat) : List Nd := l.map fun e => .ru r (d + 1) i e
def R_Chart_take_part (K : PySem.W.Frag) (cs : Cs) : V → V → V → V → Hp → VK → XK → Prop := fun x y z u H Q _ => ∃ (H0 : Hp) (c : Addr) (rs : List Rl) (vs : List V) (s : ChS) (p : Str) (i j : Nat), x = .ref c ∧ y = .str p ∧ z = .int (i : Nat) ∧ u = .int (j : Nat) ∧ Ch H0 cs.Chart rs vs H c s ∧ s.F.length ≤ 3000000 ∧ s.Q.length ≤ 3000000 ∧ s.ke.length ≤ 3000000 ∧ (s.E p i).length ≤ 3000000 ∧ (s.B p i).length ≤ 3000000 ∧
  ∀ ke' H', ke'.length ≤ s.ke.length + 1 → Ch H0 cs.Chart rs vs H' c { offs s (nxtB (s.B p i) j) with ke := ke', E := addC s.E p i j } → Q .non H'
section
set_option hygiene false in
local macro_rules | `(tactic| kpc_turns) => `(tactic| first | refine e_methV T.c_Chart.cl (md_Chart_offer T) (hr.mono (by decide)) rfl (by ki_room) rfl ?_)
theorem ok_Chart_take_part {f : Addr} {fd : FuncData} (F : Fun K "take_part" "Chart.take_part" s_Chart_take_part f fd) (T : Txt K mg cs) : FnOk P w K mg base (L2.CX P w) 2 f fd ["self", "part", "i", "j"] (sp4 (R_Chart_take_part K cs)) := by
  refine F.okX sc_Chart_take_part (fun vs H Q E h => sp4_len h) (fun cdv A outer s H vs Q E hr h => ⟨_, PBw (X := X_Chart_take_part P w K mg base f cdv A outer s H E), ?_⟩)
  obtain ⟨a0, a1, a2, a3, rfl, h⟩ := h
  have icl_Chart : ClsI K cs.Chart := ⟨T.c_Chart.cl⟩
  have ifl_Chart_behind : NoA K cs.Chart "behind" := ⟨T.n_Chart_behind⟩
  have ifl_Chart_ends : NoA K cs.Chart "ends" := ⟨T.n_Chart_ends⟩
  have hr' : Room 1 (X_Chart_take_part P w K mg base f cdv A outer s H E).A := hr
  replace hr := hr'
  clear hr'
  obtain ⟨H0, c, rs, vs, s, p, i, j, rfl, rfl, rfl, rfl, hc, h1, h2, h3, h4, h5, h⟩ := h
  have kI := hc.ins
  have kE := hc.hE.at_
  refine b_cons (sMono (fun σ' H' => ∃ ke', σ' = [some (.ref c), some (.str p), some (.int (i : Nat)), some (.int (j : Nat)), none, none, none] ∧ ke'.length ≤ s.ke.length + 1 ∧ Ch H0 cs.Chart rs vs H' c { s with ke := ke', E := addC s.E p i j }) (s_expr (e_append ?_)) ?_)
  · refine e_dsetdT (rm1 hr) ?_
    kxs_still
    refine ⟨.inr ⟨_, .inl kE⟩, ?_⟩
    kxs_still
    intro t1 H1 s1 n1 k1 f1
    kxs_still
    intro l2 H2 s2 n2 k2 f2
    have s12 := s1.trans s2
    have hc2 := hc.more s12
    refine ⟨kysK s.ke, pK (p, i), t1, s12 _ _ kE, rfl, s2 _ _ k1, by unfold kysK; rw [List.length_map]; omega, fun v hv => ?_, fun hn H4 k4 f4 => ?_⟩
    · rw [valV_kys] at hv
      obtain ⟨l, hl, rfl⟩ := Option.map_eq_some_iff.mp hv
      have kl := hc2.hE.el p i l hl
      refine ⟨ty_l kl, ?_⟩
      kxs_still
      refine m_append kl (by unfold intsV; rw [List.length_map]; omega) fun H3 k3 f3 => ?_
      have lm : l ∈ s.ke.map (·.2) := List.mem_map.mpr ⟨_, lk_mem hl, rfl⟩
      exact ⟨s.ke, rfl, Nat.le_succ _, hc2.chgE (l := l) (by rw [intsV_add]; exact hc2.hE.put_old hl k3 f3) (fun x m => .inl m) (.inl lm) fun b _ q => f3 b q⟩
    · rw [valV_kys] at hn
      have hn : lk s.ke (p, i) = none := by cases e : lk s.ke (p, i) with
        | none => rfl
        | some l => rw [e] at hn; cases hn
      rw [putK_kys hn] at k4
      have nd : l2 ≠ s.de := fun z => by have := hc2.hE.at_; rw [← z, k2] at this; cases this
      have kl := (f4 l2 nd).trans k2
      refine ⟨ty_l kl, ?_⟩
      kxs_still
      refine m_append kl (by decide) fun H3 k3 f3 => ?_
      have nl2 : H l2 = none := s1.none n2
      have hc1 := hc.more s1
      refine ⟨s.ke ++ [((p, i), l2)], rfl, by rw [List.length_append]; exact Nat.le_refl _, hc1.chgE (l := l2) (by rw [intsV_add]; exact hc1.hE.put_new hn n2 ((f3 _ nd.symm).trans k4) k3 fun b o e q1 q2 => ((f3 b q1).trans ((f4 b q2).trans (f2 b q1))).trans e) (fun x m => ?_) (.inr n2) fun b q1 q2 => (f3 b q2).trans ((f4 b q1).trans (f2 b q2))⟩
      rw [List.map_append] at m
      rcases List.mem_append.mp m with m | m
      · exact .inl m
      · exact .inr ⟨List.mem_singleton.mp m, n2⟩
  rintro σ' H1 ⟨ke', rfl, hke, hc1⟩
  have kI1 := hc1.ins
  obtain ⟨bv, hB, aB⟩ := hc1.hB
  have kB := hB.at_
  refine b_cons (s_for (j_list ?_))
  refine e_dget2 (rm1 hr) ?_
  kxs_still
  refine ⟨.inr ⟨_, .inl kB⟩, ?_⟩
  kxs_still
  intro t2 H2 s2 n2 k2 f2
  kxs_still
  intro l3 H3 s3 n3 k3 f3
  have s13 := s2.trans s3
  rw [show ([V.str p, V.int ((i : Nat) : Int)] : List V) = (pK (p, i)).map kV from rfl] at k2
  have gk := DGet.t (k := pK (p, i)) (s13 _ _ kB) (s3 _ _ k2)
  rw [valV_kys] at gk
  refine ⟨_, gk, ?_⟩
  have hc3 := hc1.more s13
  obtain ⟨lb, elb, klb⟩ : ∃ lb, ((lk s.kb (p, i)).map V.ref).getD (.ref l3) = .ref lb ∧ H3 lb = some (.lst (bv p i)) := by
    cases e : lk s.kb (p, i) with
    | none => exact ⟨l3, rfl, by rw [hB.no p i e]; exact k3⟩
    | some l => exact ⟨l, rfl, s13 _ _ (hB.el p i l e)⟩
  rw [elb]
  have aB3 : All2 (TrAt H3) (bv p i) (s.B p i) := (aB p i).mono fun _ _ q => q.ts (Same.ts s13)
  have hbl := aB3.len
  kxs_still
  refine ⟨⟨_, SqL.of klb⟩, _, _, _, walk_list (xs := bv p i), fun m σ' H' => ∃ v4 v5 v6, σ' = [some (.ref c), some (.str p), some (.int (i : Nat)), some (.int (j : Nat)), v4, v5, v6] ∧ Ch H0 cs.Chart rs vs H' c { offs s (nxtB ((s.B p i).take m) j) with ke := ke', E := addC s.E p i j } ∧ H' lb = some (.lst (bv p i)) ∧ TS H3 H', ⟨none, none, none, rfl, hc3, klb, TS.refl _⟩, fun m σ' H' _ ⟨_, _, _, _, _, k, _⟩ => SqL.of k, ?_, ?_⟩
  · rintro m x σ' H' H4 hm ⟨v4, v5, v6, rfl, hc4, kl4, ts4⟩ ⟨rfl, hx⟩
    obtain ⟨⟨r, d, b⟩, hb, ⟨tt, rfl, kt⟩⟩ := aB3.get hx
    have kt4 := ts4 _ _ kt
    have kI4 := hc4.ins
    kxs_still
    intro t5 H5 s5 n5 k5 f5
    have ho := offs_keep s (nxtB ((s.B p i).take m) j)
    have hl5 : (nxtB ((s.B p i).take m) j).length ≤ 3000000 := by unfold nxtB; rw [List.length_map, List.length_take]; omega
    have hc5 := hc4.more s5
    kxs_still
    refine ⟨H0, c, rs, vs, _, .ru r (d + 1) b j, rfl, hc5, ⟨t5, rfl, k5⟩, by show (offs s _).F.length ≤ _; omega, by show (offs s _).Q.length ≤ _; omega, fun H6 hc6 f6 => ?_⟩
    rw [offS_E, ← offs_snoc] at hc6
    have e6 : nxtB ((s.B p i).take m) j ++ [Nd.ru r (d + 1) b j] = nxtB ((s.B p i).take (m + 1)) j := by
      unfold nxtB
      rw [take_snoc hb, List.map_append]
      rfl
    rw [e6] at hc6
    have ts6 : TS H5 H6 := fun x xs e => (f6 x (fun z => hc5.not_tup e (.inr (.inr (.inl z)))) fun z => hc5.not_tup e (.inr (.inr (.inr (.inl z))))).trans e
    kxs_still
    refine ⟨_, _, _, rfl, hc6, ?_, ts4.trans ((Same.ts s5).trans ts6)⟩
    have hFq := hc5.hF
    obtain ⟨qv, hQq, _⟩ := hc5.hQ
    rw [f6 lb (fun z => by rw [← z, s5 _ _ kl4] at hFq; cases hFq) fun z => ?_]
    · exact s5 _ _ kl4
    · have z : lb = s.q := z.trans ho.2.2.2.1
      cases e : lk s.kb (p, i) with
      | none =>
        rw [e] at elb
        have : lb = l3 := (V.ref.inj elb).symm
        have nq : H1 s.q = none := s2.none (by rw [← z, this]; exact n3)
        obtain ⟨_, q1, _⟩ := hc1.hQ
        have q1 : H1 s.q = _ := q1
        rw [nq] at q1
        cases q1
      | some l =>
        rw [e] at elb
        have : lb = l := (V.ref.inj elb).symm
        exact hc.ql.2.1 (by rw [← z, this]; exact List.mem_map.mpr ⟨_, lk_mem e, rfl⟩)
  rintro σ' H4 ⟨v4, v5, v6, rfl, hc4, _, _⟩
  rw [List.take_of_length_le (by omega)] at hc4
  kxs_still
  exact h ke' H4 hke hc4
end
theorem md_Chart_take_part (T : Txt K mg cs) : Md P w K mg base cs.Chart "take_part" 2 ["self", "part", "i", "j"] (sp4 (R_Chart_take_part K cs)) := by
  obtain ⟨f, fd, hm, F, hb⟩ := T.m_Chart_take_part.ex
  exact ⟨f, fd, hm, hb, ok_Chart_take_part F T⟩
def R_Chart_take_parts (K : PySem.W.Frag) (cs : Cs) : V → V → V → V → V → Hp → VK → XK → Prop := fun x y z u v H Q _ => ∃ (H0 : Hp) (c : Addr) (rs : List Rl) (vs : List V) (s : ChS) (r d i j : Nat) (rl : Rl), x = .ref c ∧ y = .int (r : Nat) ∧ z = .int (d : Nat) ∧ u = .int (i : Nat) ∧ v = .int (j : Nat) ∧ Ch H0 cs.Chart rs vs H c s ∧ s.F.length ≤ 3000000 ∧ s.Q.length ≤ 3000000 ∧ s.kb.length ≤ 3000000 ∧ s.G.length ≤ 3000000 ∧ rs[r]? = some rl ∧ d ≤ rl.parts.length ∧ rl.parts.length ≤ 6 ∧
  (d = rl.parts.length → ∀ H', Ch H0 cs.Chart rs vs H' c { s with G := s.G ++ [.pt rl.head i j] } → Q .non H') ∧
  ∀ X, rl.parts[d]? = some X → (s.E X j).length ≤ 3000000 ∧ (s.B X j).length ≤ 3000000 ∧ ∀ kb' H', kb'.length ≤ s.kb.length + 1 → Ch H0 cs.Chart rs vs H' c { offs s (nxtE (s.E X j) r d i) with kb := kb', B := addC s.B X j (r, d, i) } → Q .non H'
section
set_option hygiene false in
local macro_rules | `(tactic| kpc_turns) => `(tactic| first | refine e_methV T.c_Chart.cl (md_Chart_offer T) (hr.mono (by decide)) rfl (by ki_room) rfl ?_)
theorem ok_Chart_take_parts {f : Addr} {fd : FuncData} (F : Fun K "take_parts" "Chart.take_parts" s_Chart_take_parts f fd) (T : Txt K mg cs) : FnOk P w K mg base (L2.CX P w) 2 f fd ["self", "r", "d", "i", "j"] (sp5 (R_Chart_take_parts K cs)) := by
  refine F.okX sc_Chart_take_parts (fun vs H Q E h => sp5_len h) (fun cdv A outer s H vs Q E hr h => ⟨_, PBw (X := X_Chart_take_parts P w K mg base f cdv A outer s H E), ?_⟩)
  obtain ⟨a0, a1, a2, a3, a4, rfl, h⟩ := h
  have ib_len := T.b_len
  have icl_Chart : ClsI K cs.Chart := ⟨T.c_Chart.cl⟩
  have icl_Wood : ClsI K cs.Wood := ⟨T.c_Wood.cl⟩
  have ifl_Chart_behind : NoA K cs.Chart "behind" := ⟨T.n_Chart_behind⟩
  have ifl_Chart_ends : NoA K cs.Chart "ends" := ⟨T.n_Chart_ends⟩
  have ifl_Chart_higher : NoA K cs.Chart "higher" := ⟨T.n_Chart_higher⟩
  have ifl_Chart_rules : NoA K cs.Chart "rules" := ⟨T.n_Chart_rules⟩
  have ifl_Wood_rules : NoA K cs.Wood "rules" := ⟨T.n_Wood_rules⟩
  have hr' : Room 1 (X_Chart_take_parts P w K mg base f cdv A outer s H E).A := hr
  replace hr := hr'
  clear hr'
  obtain ⟨H0, c, rs, vs, s, r, d, i, j, rl, rfl, rfl, rfl, rfl, rfl, hc, h1, h2, h3, h4, hr1, hd, h6, hA, hB0⟩ := h
  have kI := hc.ins
  obtain ⟨ra, rb, hv, hvk, e1, e2⟩ := hc.ra.at' hr1
  have kr := hc.sm _ _ hc.rl
  have e1 := hc.sm _ _ e1
  have e2 := hc.sm _ _ e2
  kxs_still
  refine iteD (fun hdl => ?_) fun hdl => ?_
  · have hdl : d = rl.parts.length := by rw [List.length_map] at hdl; omega
    obtain ⟨gv, kG, aG⟩ := hc.hG
    kxs_still
    refine ⟨ty_l kG, ?_⟩
    kxs_still
    intro t1 H1 s1 n1 k1 f1
    kxs_still
    have hc1 := hc.more s1
    refine m_append (s1 _ _ kG) (by have := aG.len; omega) fun H2 k2 f2 => ?_
    kxs_still
    exact hA hdl H2 (hc1.chgG ⟨_, k2, (aG.mono fun _ _ q => q.ts (Same.ts s1)).snoc ⟨t1, rfl, k1⟩⟩ fun b q => f2 b q)
  have hdl : d < rl.parts.length := by rw [List.length_map] at hdl; omega
  obtain ⟨X, hX⟩ : ∃ X, rl.parts[d]? = some X := ⟨_, List.getElem?_eq_getElem hdl⟩
  obtain ⟨hE1, hB1, h⟩ := hB0 X hX
  have hXk : atI (rl.parts.map V.str) (d : Int) = some (.str X) := atI_nat (Int.natCast_nonneg d) (by rw [Int.toNat_natCast, List.getElem?_map, hX]; rfl)
  obtain ⟨bv, hBd, aB⟩ := hc.hB
  have kB := hBd.at_
  refine b_nil ?_
  refine b_cons (sMono (fun σ' H' => ∃ kb', σ' = [some (.ref c), some (.int (r : Nat)), some (.int (d : Nat)), some (.int (i : Nat)), some (.int (j : Nat)), some (.str rl.head), some (.ref rb), some (.int rl.worth), none] ∧ kb'.length ≤ s.kb.length + 1 ∧ Ch H0 cs.Chart rs vs H' c { s with kb := kb', B := addC s.B X j (r, d, i) }) (s_expr (e_append ?_)) ?_)
  · refine e_dsetdT (rm1 hr) ?_
    kxs_still
    refine ⟨.inr ⟨_, .inl kB⟩, ?_⟩
    kxs_still
    intro t1 H1 s1 n1 k1 f1
    kxs_still
    intro l2 H2 s2 n2 k2 f2
    have s12 := s1.trans s2
    have hc2 := hc.more s12
    have hB2 := hBd.more s12
    have aB2 : ∀ p i, All2 (TrAt H2) (bv p i) (s.B p i) := fun p i => (aB p i).mono fun _ _ q => q.ts (Same.ts s12)
    have kI2 := hc2.ins
    refine ⟨kysK s.kb, pK (X, j), t1, s12 _ _ kB, rfl, s2 _ _ k1, by unfold kysK; rw [List.length_map]; omega, fun v hv => ?_, fun hn H4 k4 f4 => ?_⟩
    · rw [valV_kys] at hv
      obtain ⟨l, hl, rfl⟩ := Option.map_eq_some_iff.mp hv
      have kl := hB2.el X j l hl
      refine ⟨ty_l kl, ?_⟩
      kxs_still
      intro t3 H3 s3 n3 k3 f3
      kxs_still
      have hc3 := hc2.more s3
      have hB3 := hB2.more s3
      have kl3 := s3 _ _ kl
      refine m_append kl3 (by have := (aB2 X j).len; omega) fun H5 k5 f5 => ?_
      have lm : l ∈ s.kb.map (·.2) := List.mem_map.mpr ⟨_, lk_mem hl, rfl⟩
      have ts5 : TS H3 H5 := TS.butL kl3 f5
      refine ⟨s.kb, rfl, Nat.le_succ _, hc3.chgB (l := l) (hB3.put_old hl k5 f5) (fun p' i' => ?_) (fun x m => .inl m) (.inl lm) fun b o e _ q => (f5 b q).trans e⟩
      unfold addC
      have a5 : All2 (TrAt H5) (bv p' i') (s.B p' i') := (aB2 p' i').mono fun _ _ q => q.ts ((Same.ts s3).trans ts5)
      by_cases c' : p' = X ∧ i' = j
      · rw [if_pos c', if_pos c']
        exact a5.snoc ⟨t3, rfl, ts5 _ _ k3⟩
      · rw [if_neg c', if_neg c']
        exact a5
    · rw [valV_kys] at hn
      have hn : lk s.kb (X, j) = none := by cases e : lk s.kb (X, j) with
        | none => rfl
        | some l => rw [e] at hn; cases hn
      rw [putK_kys hn] at k4
      have nd : l2 ≠ s.db := fun z => by have := hB2.at_; rw [← z, k2] at this; cases this
      have kl := (f4 l2 nd).trans k2
      have hc1 := hc.more s1
      have hB1' := hBd.more s1
      have nI : c ≠ s.db := fun z => by have := hc2.ins; rw [z, hB2.at_] at this; cases this
      have kI4 := (f4 c nI).trans kI2
      refine ⟨ty_l kl, ?_⟩
      kxs_still
      intro t3 H3 s3 n3 k3 f3
      kxs_still
      have kl3 := s3 _ _ kl
      refine m_append kl3 (by decide) fun H5 k5 f5 => ?_
      have ts4 : TS H2 H4 := TS.but hB2.at_ (fun _ z => nomatch z) f4
      have ts5 : TS H3 H5 := TS.butL kl3 f5
      have ts15 : TS H1 H5 := (Same.ts s2).trans (ts4.trans ((Same.ts s3).trans ts5))
      have n4d : s.db ≠ l2 := nd.symm
      have k5d : H5 s.db = some (.dT (kysK (s.kb ++ [((X, j), l2)]))) := (f5 _ n4d).trans (s3 _ _ k4)
      have fr : ∀ b o, H1 b = some o → b ≠ l2 → b ≠ s.db → H5 b = some o := fun b o e q1 q2 => (f5 b q1).trans (s3 _ _ ((f4 b q2).trans ((f2 b q1).trans e)))
      refine ⟨s.kb ++ [((X, j), l2)], rfl, by rw [List.length_append]; exact Nat.le_refl _, hc1.chgB (l := l2) (hB1'.put_new hn n2 k5d k5 fr) (fun p' i' => ?_) (fun x m => ?_) (.inr n2) fun b o e q1 q2 => fr b o e q2 q1⟩
      · unfold addC
        have a5 : All2 (TrAt H5) (bv p' i') (s.B p' i') := (aB p' i').mono fun _ _ q => q.ts ((Same.ts s1).trans ts15)
        by_cases c' : p' = X ∧ i' = j
        · rw [if_pos c', if_pos c']
          exact a5.snoc ⟨t3, rfl, ts5 _ _ k3⟩
        · rw [if_neg c', if_neg c']
          exact a5
      · rw [List.map_append] at m
        rcases List.mem_append.mp m with m | m
        · exact .inl m
        · exact .inr ⟨List.mem_singleton.mp m, n2⟩
  rintro σ' H1 ⟨kb', rfl, hke, hc1⟩
  have kI1 := hc1.ins
  have kE := hc1.hE.at_
  have kr1 := hc1.sm _ _ hc1.rl
  obtain ⟨ra', rb', hv', hvk', e1', e2'⟩ := hc1.ra.at' hr1
  have hb : rb' = rb := by
    rw [hv] at hv'
    obtain rfl := V.ref.inj (Option.some.inj hv')
    have e1' := hc.sm _ _ e1'
    rw [e1] at e1'
    have := HO.tup.inj (Option.some.inj e1')
    have := (List.cons.inj (List.cons.inj this).2).1
    exact (V.ref.inj this).symm
  subst hb
  have e2 := hc1.sm _ _ e2'
  refine b_cons (s_for (j_list ?_))
  refine e_dget2 (rm1 hr) ?_
  kxs_still
  refine ⟨.inr ⟨_, .inl kE⟩, ?_⟩
  kxs_still
  intro t2 H2 s2 n2 k2 f2
  kxs_still
  intro l3 H3 s3 n3 k3 f3
  have s13 := s2.trans s3
  rw [show ([V.str X, V.int ((j : Nat) : Int)] : List V) = (pK (X, j)).map kV from rfl] at k2
  have gk := DGet.t (k := pK (X, j)) (s13 _ _ kE) (s3 _ _ k2)
  rw [valV_kys] at gk
  refine ⟨_, gk, ?_⟩
  have hc3 := hc1.more s13
  obtain ⟨le, ele, kle⟩ : ∃ le, ((lk s.ke (X, j)).map V.ref).getD (.ref l3) = .ref le ∧ H3 le = some (.lst (intsV (s.E X j))) := by
    cases e : lk s.ke (X, j) with
    | none => exact ⟨l3, rfl, by have := hc1.hE.no X j e; rw [show intsV (s.E X j) = [] from this]; exact k3⟩
    | some l => exact ⟨l, rfl, s13 _ _ (hc1.hE.el X j l e)⟩
  rw [ele]
  kxs_still
  refine ⟨⟨_, SqL.of kle⟩, _, _, _, walk_list (xs := intsV (s.E X j)), fun m σ' H' => ∃ v8, σ' = [some (.ref c), some (.int (r : Nat)), some (.int (d : Nat)), some (.int (i : Nat)), some (.int (j : Nat)), some (.str rl.head), some (.ref rb'), some (.int rl.worth), v8] ∧ Ch H0 cs.Chart rs vs H' c { offs s (nxtE ((s.E X j).take m) r d i) with kb := kb', B := addC s.B X j (r, d, i) } ∧ H' le = some (.lst (intsV (s.E X j))), ⟨none, rfl, hc3, kle⟩, fun m σ' H' _ ⟨_, _, _, k⟩ => SqL.of k, ?_, ?_⟩
  · rintro m x σ' H' H4 hm ⟨v8, rfl, hc4, kl4⟩ ⟨rfl, hx⟩
    obtain ⟨e, he, rfl⟩ := map_get hx
    have kI4 := hc4.ins
    kxs_still
    intro t5 H5 s5 n5 k5 f5
    have ho := offs_keep s (nxtE ((s.E X j).take m) r d i)
    have hl5 : (nxtE ((s.E X j).take m) r d i).length ≤ 3000000 := by unfold nxtE; rw [List.length_map, List.length_take]; omega
    have hc5 := hc4.more s5
    kxs_still
    refine ⟨H0, c, rs, vs, _, .ru r (d + 1) i e, rfl, hc5, ⟨t5, rfl, k5⟩, by show (offs s _).F.length ≤ _; omega, by show (offs s _).Q.length ≤ _; omega, fun H6 hc6 f6 => ?_⟩
    rw [offS_B, ← offs_snoc] at hc6
    have e6 : nxtE ((s.E X j).take m) r d i ++ [Nd.ru r (d + 1) i e] = nxtE ((s.E X j).take (m + 1)) r d i := by
      unfold nxtE
      rw [take_snoc he, List.map_append]
      rfl
    rw [e6] at hc6
    kxs_still
    refine ⟨_, rfl, hc6, ?_⟩
    have hFq := hc5.hF
    obtain ⟨qv, hQq, _⟩ := hc5.hQ
    rw [f6 le (fun z => by rw [← z, s5 _ _ kl4] at hFq; cases hFq) fun z => ?_]
    · exact s5 _ _ kl4
    · have z : le = s.q := z.trans ho.2.2.2.1
      cases e : lk s.ke (X, j) with
      | none =>
        rw [e] at ele
        have : le = l3 := (V.ref.inj ele).symm
        have nq : H1 s.q = none := s2.none (by rw [← z, this]; exact n3)
        obtain ⟨_, q1, _⟩ := hc1.hQ
        have q1 : H1 s.q = _ := q1
        rw [nq] at q1
        cases q1
      | some l =>
        rw [e] at ele
        have : le = l := (V.ref.inj ele).symm
        exact hc.ql.1 (by rw [← z, this]; exact List.mem_map.mpr ⟨_, lk_mem e, rfl⟩)
  rintro σ' H4 ⟨v8, rfl, hc4, _⟩
  rw [List.take_of_length_le (by unfold intsV; rw [List.length_map]; exact Nat.le_refl _)] at hc4
  kxs_still
  exact h kb' H4 hke hc4
end
theorem md_Chart_take_parts (T : Txt K mg cs) : Md P w K mg base cs.Chart "take_parts" 2 ["self", "r", "d", "i", "j"] (sp5 (R_Chart_take_parts K cs)) := by
  obtain ⟨f, fd, hm, F, hb⟩ := T.m_Chart_take_parts.ex
  exact ⟨f, fd, hm, hb, ok_Chart_take_parts F T⟩
theorem chF_G (s : ChS) (g' : Addr) : putF (Str.ofString "higher") (.ref g') (chF s) = chF { s with g := g' } := rfl
theorem chF_L (s : ChS) : putF (Str.ofString "level") (.int (((s.L : Nat) : Int) + 1)) (chF s) = chF { s with L := s.L + 1 } := by
  show [_, _, (Str.ofString "level", V.int (((s.L : Nat) : Int) + 1)), _, _, _, _] = [_, _, (Str.ofString "level", V.int ((s.L + 1 : Nat) : Int)), _, _, _, _]
  rw [Int.natCast_succ]
section
variable {H0 : Hp} {C : Addr} {rs : List Rl} {vs : List V} {Hp1 H H' : Hp} {c : Addr} {s : ChS}
theorem Ch.setI (h : Ch H0 C rs vs H c s) {s' : ChS} (hi : H' c = some (.ins C s'.dx (chF s'))) (k : ∀ b, b ≠ c → H' b = H b) (e : s' = { s with L := s'.L }) : Ch H0 C rs vs H' c s' := by
  obtain ⟨qv0, q0, aq0⟩ := h.hQ
  obtain ⟨gv0, g0, ag0⟩ := h.hG
  obtain ⟨bv, hB, aB⟩ := h.hB
  obtain ⟨ts, sm⟩ := h.frame (H' := H') fun b o e n => (k b fun z => n (.inl z)).trans e
  have kd : ∀ b o, H b = some o → (∀ C dx fs, o ≠ .ins C dx fs) → H' b = some o := fun b o e n => (k b fun z => by have := h.ins; rw [← z, e] at this; exact n _ _ _ (Option.some.inj this)).trans e
  have kl : ∀ b xs, H b = some (.lst xs) → H' b = H b := fun b xs e => (kd b _ e (fun _ _ _ z => nomatch z)).trans e.symm
  rw [e] at hi ⊢
  refine ⟨sm, h.rl, h.ra, hi, kd _ _ h.own (fun _ _ _ z => nomatch z), kd _ _ h.hF (fun _ _ _ z => nomatch z), ⟨qv0, kd _ _ q0 (fun _ _ _ z => nomatch z), aq0.mono fun _ _ x => x.ts ts⟩, ⟨gv0, kd _ _ g0 (fun _ _ _ z => nomatch z), ag0.mono fun _ _ x => x.ts ts⟩, h.hE.keep ((kd _ _ h.hE.at_ (fun _ _ _ z => nomatch z)).trans h.hE.at_.symm) (fun l m => ?_), ⟨bv, hB.keep ((kd _ _ hB.at_ (fun _ _ _ z => nomatch z)).trans hB.at_.symm) fun l m => ?_, fun p i => (aB p i).mono fun _ _ x => x.ts ts⟩, h.qg, h.ql, h.eb, h.dd, h.nw⟩
  · obtain ⟨xs, e⟩ := h.hE.con m; exact kl l xs e
  · obtain ⟨xs, e⟩ := hB.con m; exact kl l xs e
theorem Ch.setG (h : Ch H0 C rs vs Hp1 c s) {g' : Addr} (x : Same Hp1 H) (n : Hp1 g' = none) (hg : H g' = some (.lst [])) (hi : H' c = some (.ins C s.dx (chF { s with g := g' }))) (k : ∀ b, b ≠ c → H' b = H b) : Ch H0 C rs vs H' c { s with g := g', G := [] } := by
  obtain ⟨qv0, q0, aq0⟩ := h.hQ
  obtain ⟨bv, hB, aB⟩ := h.hB
  have h2 := h.more x
  obtain ⟨ts, sm⟩ := h2.frame (H' := H') fun b o e n => (k b fun z => n (.inl z)).trans e
  have kd : ∀ b o, Hp1 b = some o → (∀ C dx fs, o ≠ .ins C dx fs) → H' b = some o := fun b o e n => (k b fun z => by have := h.ins; rw [← z, e] at this; exact n _ _ _ (Option.some.inj this)).trans (x _ _ e)
  have gn : ∀ b o, Hp1 b = some o → g' ≠ b := fun b o e z => by rw [z, e] at n; cases n
  have hEm : g' ∉ s.ke.map (·.2) := fun m => by obtain ⟨xs, e⟩ := h.hE.con m; rw [n] at e; cases e
  have hBm : g' ∉ s.kb.map (·.2) := fun m => by obtain ⟨xs, e⟩ := hB.con m; rw [n] at e; cases e
  obtain ⟨n1, n2, n3, n4, n5, n6, n7, n8, n9⟩ := h.nw
  refine ⟨sm, h.rl, h.ra, hi, kd _ _ h.own (fun _ _ _ z => nomatch z), kd _ _ h.hF (fun _ _ _ z => nomatch z), ⟨qv0, kd _ _ q0 (fun _ _ _ z => nomatch z), aq0.mono fun _ _ y => y.ts ((Same.ts x).trans ts)⟩, ⟨[], (k g' fun z => gn _ _ h.ins z).trans hg, .nil⟩, (h2.hE).keep ((kd _ _ h.hE.at_ (fun _ _ _ z => nomatch z)).trans h2.hE.at_.symm) (fun l m => ?_), ⟨bv, (hB.more x).keep ((kd _ _ hB.at_ (fun _ _ _ z => nomatch z)).trans (hB.more x).at_.symm) fun l m => ?_, fun p i => (aB p i).mono fun _ _ y => y.ts ((Same.ts x).trans ts)⟩, (gn _ _ q0).symm, ⟨h.ql.1, h.ql.2.1, hEm, hBm⟩, h.eb, h.dd, ⟨n1, n2, n3, n4, h.sm.none n, n6, n7, n8, n9⟩⟩
  · obtain ⟨xs, e⟩ := h.hE.con m; exact (kd l _ e (fun _ _ _ z => nomatch z)).trans (x _ _ e).symm
  · obtain ⟨xs, e⟩ := hB.con m; exact (kd l _ e (fun _ _ _ z => nomatch z)).trans (x _ _ e).symm
end
def R_Chart_rise (K : PySem.W.Frag) (cs : Cs) : V → Hp → VK → XK → Prop := fun x H Q _ => ∃ (H0 : Hp) (c : Addr) (rs : List Rl) (vs : List V) (s : ChS), x = .ref c ∧ Ch H0 cs.Chart rs vs H c s ∧ s.F.length ≤ 3000000 ∧ s.Q.length ≤ 3000000 ∧ s.G.length ≤ 3000000 ∧ ∀ g' H', Ch H0 cs.Chart rs vs H' c (offs { s with L := s.L + 1, g := g', G := [] } s.G) → Q .non H'
section
set_option hygiene false in
local macro_rules | `(tactic| kpc_turns) => `(tactic| first | refine e_methV T.c_Chart.cl (md_Chart_offer T) (hr.mono (by decide)) rfl (by ki_room) rfl ?_)
theorem ok_Chart_rise {f : Addr} {fd : FuncData} (F : Fun K "rise" "Chart.rise" s_Chart_rise f fd) (T : Txt K mg cs) : FnOk P w K mg base (L2.CX P w) 2 f fd ["self"] (sp1 (R_Chart_rise K cs)) := by
  refine F.okX sc_Chart_rise (fun vs H Q E h => sp1_len h) (fun cdv A outer s H vs Q E hr h => ⟨_, PBw (X := X_Chart_rise P w K mg base f cdv A outer s H E), ?_⟩)
  obtain ⟨a0, rfl, h⟩ := h
  have icl_Chart : ClsI K cs.Chart := ⟨T.c_Chart.cl⟩
  have ifl_Chart_higher : NoA K cs.Chart "higher" := ⟨T.n_Chart_higher⟩
  have ifl_Chart_level : NoA K cs.Chart "level" := ⟨T.n_Chart_level⟩
  have hr' : Room 1 (X_Chart_rise P w K mg base f cdv A outer s H E).A := hr
  replace hr := hr'
  clear hr'
  obtain ⟨H0, c, rs, vs, s, rfl, hc, h1, h2, h3, h⟩ := h
  have kI := hc.ins
  obtain ⟨gv, kG, aG⟩ := hc.hG
  have hgl := aG.len
  kxs_still
  refine s_fldV ?_
  kxs_still
  intro l1 H1 s1 n1 k1 f1
  have kI1 := s1 _ _ kI
  refine ⟨c, cs.Chart, s.dx, chF s, rfl, kI1, inferInstance, inferInstance, (show 7 < 1000 by decide), fun H2 k2 f2 => ?_⟩
  rw [chF_G] at k2
  have hc2 := hc.setG s1 n1 k1 k2 f2
  have ng : c ≠ s.g := fun z => by rw [z, kG] at kI; cases kI
  have kG2 := (f2 _ ng.symm).trans (s1 _ _ kG)
  kxs_still
  refine s_fldaug ?_
  kxs_still
  refine ⟨c, cs.Chart, s.dx, _, _, rfl, k2, T.c_Chart.cl, T.n_Chart_level, rfl, ?_⟩
  kxs_still
  refine ⟨_, _, _, rfl, k2, (show 7 < 1000 by decide), fun H3 k3 f3 => ?_⟩
  rw [chF_L] at k3
  have hc3 := hc2.setI (s' := { s with L := s.L + 1, g := l1, G := [] }) k3 f3 rfl
  have kG3 := (f3 _ ng.symm).trans kG2
  have ts3 : TS H H3 := (Same.ts s1).trans ((TS.but kI1 (fun _ z => nomatch z) f2).trans (TS.but k2 (fun _ z => nomatch z) f3))
  have aG3 : All2 (NdAt H3) gv s.G := aG.mono fun _ _ q => q.ts ts3
  have n1g : l1 ≠ s.g := fun z => by rw [z, kG] at n1; cases n1
  refine b_cons (s_for (j_list ?_))
  kxs_still
  refine ⟨⟨_, SqL.of kG3⟩, _, _, _, walk_list (xs := gv), fun m σ' H' => ∃ v2, σ' = [some (.ref c), some (.ref s.g), v2] ∧ Ch H0 cs.Chart rs vs H' c (offs { s with L := s.L + 1, g := l1, G := [] } (s.G.take m)) ∧ H' s.g = some (.lst gv) ∧ TS H3 H', ⟨none, rfl, hc3, kG3, TS.refl _⟩, fun m σ' H' _ ⟨_, _, _, k, _⟩ => SqL.of k, ?_, ?_⟩
  · rintro m x σ' H' H4 hm ⟨v2, rfl, hc4, kl4, ts4⟩ ⟨rfl, hx⟩
    obtain ⟨n, hn, hnd⟩ := aG3.get hx
    have kI4 := hc4.ins
    have ho := offs_keep { s with L := s.L + 1, g := l1, G := [] } (s.G.take m)
    have hl4 : (s.G.take m).length ≤ 3000000 := by rw [List.length_take]; omega
    kxs_still
    refine ⟨H0, c, rs, vs, _, n, rfl, hc4, hnd.ts ts4, by have := ho.2.2.2.2.2.2.2.2.2.2.2.2.2.1; simp only at this ⊢; omega, by have := ho.2.2.2.2.2.2.2.2.2.2.2.2.2.2; simp only at this ⊢; omega, fun H6 hc6 f6 => ?_⟩
    rw [← offs_snoc, ← take_snoc hn] at hc6
    have hFq := hc4.hF
    have ts6 : TS H4 H6 := fun x xs e => (f6 x (fun z => hc4.not_tup e (.inr (.inr (.inl z)))) fun z => hc4.not_tup e (.inr (.inr (.inr (.inl z))))).trans e
    kxs_still
    refine ⟨_, rfl, hc6, ?_, ts4.trans ts6⟩
    rw [f6 s.g (fun z => by rw [← z, kl4] at hFq; cases hFq) fun z => hc.qg (z.trans ho.2.2.2.1).symm]
    exact kl4
  rintro σ' H4 ⟨v2, rfl, hc4, _, _⟩
  rw [List.take_of_length_le (by omega)] at hc4
  kxs_still
  exact h l1 H4 hc4

end
theorem md_Chart_rise (T : Txt K mg cs) : Md P w K mg base cs.Chart "rise" 2 ["self"] (sp1 (R_Chart_rise K cs)) := by
  obtain ⟨f, fd, hm, F, hb⟩ := T.m_Chart_rise.ex
  exact ⟨f, fd, hm, hb, ok_Chart_rise F T⟩
/-! ### the plain law of the levels -/
def bigN : Nat := 2009340
structure LC (rs : List Rl) (t : List Nat) (B0 : Prop) (s : ChS) (T : Nd → Prop) (P : List Nd) : Prop where
  nd : (s.F.map (·.1)).Nodup
  ht : ∀ n h, lk s.F n = some h → Ht rs t n h ∧ h ≤ s.L
  tq : ∀ n, (lk s.F n).isSome = true ↔ T n ∨ n ∈ s.Q ∨ n ∈ P
  qT : ∀ n, n ∈ s.Q ∨ n ∈ P → ¬ T n ∧ lk s.F n = some s.L
  qn : (s.Q ++ P).Nodup
  en : ∀ p i j, j ∈ s.E p i ↔ T (.pt p i j)
  be : ∀ p j r d i, (r, d, i) ∈ s.B p j ↔ T (.ru r d i j) ∧ ∃ rl, rs[r]? = some rl ∧ rl.parts[d]? = some p
  clo : ∀ r d i k j X rl, rs[r]? = some rl → rl.parts[d]? = some X → T (.ru r d i k) → T (.pt X k j) → (lk s.F (.ru r (d + 1) i j)).isSome = true
  low : ∀ n h, Sd rs t h n → h < s.L → (lk s.F n).isSome = true
  b1 : B0 → ∀ i c, t[i]? = some c → (lk s.F (.pt (sgn c) i (i + 1))).isSome = true
  b2 : B0 → ∀ r i, r < rs.length → i ≤ t.length → (lk s.F (.ru r 0 i i)).isSome = true
  sG : s.G.length + s.Q.length + P.length ≤ s.F.length
  sE : ∀ p i, (s.E p i).length + s.Q.length + P.length ≤ s.F.length
  sB : ∀ p i, (s.B p i).length + s.Q.length + P.length ≤ s.F.length
  sk : s.ke.length + s.Q.length + P.length ≤ s.F.length ∧ s.kb.length + s.Q.length + P.length ≤ s.F.length
def muS (s : ChS) : Nat := 2 * (bigN - s.F.length) + s.Q.length
section
variable {rs : List Rl} {t : List Nat} {s : ChS} {T : Nd → Prop} {P : List Nd} {B0 : Prop}
theorem LC.len (h6 : ∀ r ∈ rs, r.parts.length ≤ 6) (h1 : rs.length ≤ 60) (h2 : t.length ≤ 60) (l : LC rs t B0 s T P) : s.F.length ≤ bigN := hts_len h6 h1 h2 l.nd fun n hn => by
  obtain ⟨h, e⟩ := lk_some hn
  exact (l.ht n h e).1.1.wi
theorem LC.off (h6 : ∀ r ∈ rs, r.parts.length ≤ 6) (h1 : rs.length ≤ 60) (h2 : t.length ≤ 60) (l : LC rs t B0 s T P) {n : Nd} {h : Nat} (d : Sd rs t h n) (hL : h ≤ s.L) : LC rs t B0 (offS s n) T P ∧ muS (offS s n) ≤ muS s ∧ (lk (offS s n).F n).isSome = true ∧ ∀ m, (lk s.F m).isSome = true → lk (offS s n).F m = lk s.F m := by
  cases e : lk s.F n with
  | some k =>
    have : offS s n = s := by unfold offS; rw [e]; rfl
    rw [this]
    exact ⟨l, Nat.le_refl _, by rw [e]; rfl, fun _ _ => rfl⟩
  | none =>
    have eS : offS s n = { s with F := s.F ++ [(n, s.L)], Q := s.Q ++ [n] } := by unfold offS; rw [e]; rfl
    have hlow : ∀ h', Sd rs t h' n → s.L ≤ h' := fun h' d' => by
      by_cases c : h' < s.L
      · have := l.low n h' d' c; rw [e] at this; cases this
      · omega
    have hh : h = s.L := by have := hlow h d; omega
    subst hh
    have lkn : ∀ m, lk (s.F ++ [(n, s.L)]) m = if m = n then some s.L else lk s.F m := fun m => lk_app s.F n s.L m e
    have mono : ∀ m, (lk s.F m).isSome = true → lk (s.F ++ [(n, s.L)]) m = lk s.F m := fun m hm => by
      rw [lkn, if_neg fun z => by rw [z, e] at hm; cases hm]
    have monoS : ∀ m, (lk s.F m).isSome = true → (lk (s.F ++ [(n, s.L)]) m).isSome = true := fun m hm => by rw [mono m hm]; exact hm
    have nT : ¬ T n := fun z => by have := (l.tq n).mpr (.inl z); rw [e] at this; cases this
    have nQ : n ∉ s.Q ∧ n ∉ P := ⟨fun z => by { have := (l.tq n).mpr (.inr (.inl z)); rw [e] at this; cases this }, fun z => by { have := (l.tq n).mpr (.inr (.inr z)); rw [e] at this; cases this }⟩
    rw [eS]
    have nd' : ((s.F ++ [(n, s.L)]).map (·.1)).Nodup := by
      rw [List.map_append]
      exact List.nodup_append.mpr ⟨l.nd, by simp, fun a ha b hb => by
        rw [List.mem_singleton.mp hb]
        intro z
        rw [z] at ha
        exact lk_none.mp e ha⟩
    have ht' : ∀ m k, lk (s.F ++ [(n, s.L)]) m = some k → Ht rs t m k ∧ k ≤ s.L := fun m k q => by
      rw [lkn] at q
      by_cases c : m = n
      · rw [if_pos c] at q
        cases q
        rw [c]
        exact ⟨⟨d, hlow⟩, Nat.le_refl _⟩
      · rw [if_neg c] at q
        exact l.ht m k q
    have l' : LC rs t B0 { s with F := s.F ++ [(n, s.L)], Q := s.Q ++ [n] } T P := by
      refine ⟨nd', ht', fun m => ?_, fun m hm => ?_, ?_, l.en, l.be, fun r d i k j X rl q1 q2 q3 q4 => monoS _ (l.clo r d i k j X rl q1 q2 q3 q4), fun m k q1 q2 => monoS _ (l.low m k q1 q2), fun z i c q => monoS _ (l.b1 z i c q), fun z r i q1 q2 => monoS _ (l.b2 z r i q1 q2), ?_, fun p i => ?_, fun p i => ?_, ?_⟩
      · show (lk (s.F ++ [(n, s.L)]) m).isSome = true ↔ T m ∨ m ∈ s.Q ++ [n] ∨ m ∈ P
        rw [lkn]
        by_cases c : m = n
        · rw [if_pos c, c]
          exact ⟨fun _ => .inr (.inl (List.mem_append_right _ (List.mem_singleton_self _))), fun _ => rfl⟩
        · rw [if_neg c, l.tq]
          simp only [List.mem_append, List.mem_singleton]
          constructor
          · rintro (q | q | q)
            · exact .inl q
            · exact .inr (.inl (.inl q))
            · exact .inr (.inr q)
          · rintro (q | (q | q) | q)
            · exact .inl q
            · exact .inr (.inl q)
            · exact absurd q c
            · exact .inr (.inr q)
      · have hm : m ∈ s.Q ++ [n] ∨ m ∈ P := hm
        show ¬ T m ∧ lk (s.F ++ [(n, s.L)]) m = some s.L
        by_cases c : m = n
        · rw [c, lkn, if_pos rfl]
          exact ⟨nT, rfl⟩
        · have := l.qT m (by
            rcases hm with hm | hm
            · rcases List.mem_append.mp hm with hm | hm
              · exact .inl hm
              · exact absurd (List.mem_singleton.mp hm) c
            · exact .inr hm)
          rw [lkn, if_neg c]
          exact this
      · show ((s.Q ++ [n]) ++ P).Nodup
        have q := l.qn
        rw [List.nodup_append] at q
        rw [List.append_assoc, List.nodup_append]
        refine ⟨q.1, List.nodup_cons.mpr ⟨nQ.2, q.2.1⟩, fun a ha b hb => ?_⟩
        rcases List.mem_cons.mp hb with hb | hb
        · rw [hb]; exact fun z => nQ.1 (z ▸ ha)
        · exact q.2.2 a ha b hb
      · have := l.sG
        show s.G.length + (s.Q ++ [n]).length + P.length ≤ (s.F ++ [(n, s.L)]).length
        simp only [List.length_append, List.length_cons, List.length_nil]
        omega
      · have := l.sE p i
        show (s.E p i).length + (s.Q ++ [n]).length + P.length ≤ (s.F ++ [(n, s.L)]).length
        simp only [List.length_append, List.length_cons, List.length_nil]
        omega
      · have := l.sB p i
        show (s.B p i).length + (s.Q ++ [n]).length + P.length ≤ (s.F ++ [(n, s.L)]).length
        simp only [List.length_append, List.length_cons, List.length_nil]
        omega
      · have := l.sk
        show s.ke.length + (s.Q ++ [n]).length + P.length ≤ (s.F ++ [(n, s.L)]).length ∧ s.kb.length + (s.Q ++ [n]).length + P.length ≤ (s.F ++ [(n, s.L)]).length
        simp only [List.length_append, List.length_cons, List.length_nil]
        omega
    refine ⟨l', ?_, ?_, mono⟩
    · have := l'.len h6 h1 h2
      unfold muS
      show 2 * (bigN - (s.F ++ [(n, s.L)]).length) + (s.Q ++ [n]).length ≤ _
      have this : (s.F ++ [(n, s.L)]).length ≤ bigN := this
      rw [List.length_append, List.length_append] at *
      simp only [List.length_cons, List.length_nil] at *
      omega
    · show (lk (s.F ++ [(n, s.L)]) n).isSome = true
      rw [lkn, if_pos rfl]
      rfl
theorem LC.offs (h6 : ∀ r ∈ rs, r.parts.length ≤ 6) (h1 : rs.length ≤ 60) (h2 : t.length ≤ 60) : ∀ (ns : List Nd) {s : ChS}, LC rs t B0 s T P → (∀ n ∈ ns, ∃ h, Sd rs t h n ∧ h ≤ s.L) → LC rs t B0 (offs s ns) T P ∧ muS (offs s ns) ≤ muS s ∧ (∀ n ∈ ns, (lk (offs s ns).F n).isSome = true) ∧ ∀ m, (lk s.F m).isSome = true → lk (offs s ns).F m = lk s.F m
  | [], s, l, _ => ⟨l, Nat.le_refl _, fun _ h => (nomatch h), fun _ _ => rfl⟩
  | n :: ns, s, l, hn => by
    obtain ⟨h, d, hL⟩ := hn n (List.mem_cons_self ..)
    obtain ⟨l1, m1, e1, k1⟩ := l.off h6 h1 h2 d hL
    have eL : (offS s n).L = s.L := (offS_keep s n).2.2.2.2.2.2.2.1
    obtain ⟨l2, m2, e2, k2⟩ := LC.offs h6 h1 h2 ns l1 fun m hm => by
      obtain ⟨h, d, hL⟩ := hn m (List.mem_cons_of_mem _ hm)
      exact ⟨h, d, by rw [eL]; exact hL⟩
    refine ⟨l2, Nat.le_trans m2 m1, fun m hm => ?_, fun m hm => ?_⟩
    · show (lk (Lw.offs (offS s n) ns).F m).isSome = true
      rcases List.mem_cons.mp hm with rfl | hm
      · rw [k2 _ e1]; exact e1
      · exact e2 m hm
    · show lk (Lw.offs (offS s n) ns).F m = _
      rw [k2 m (by rw [k1 m hm]; exact hm), k1 m hm]
/-- .. with what is due of the rules that are filled -/
structure LI (rs : List Rl) (t : List Nat) (s : ChS) (T : Nd → Prop) (P : List Nd) : Prop where
  c : LC rs t True s T P
  fin : ∀ r i j rl, rs[r]? = some rl → T (.ru r rl.parts.length i j) → (lk s.F (.pt rl.head i j)).isSome = true ∨ Nd.pt rl.head i j ∈ s.G
  gs : ∀ n ∈ s.G, ∃ r i j rl, n = .pt rl.head i j ∧ rs[r]? = some rl ∧ T (.ru r rl.parts.length i j)
  fl : ∀ r i j rl h, rs[r]? = some rl → lk s.F (.ru r rl.parts.length i j) = some h → h < s.L → (lk s.F (.pt rl.head i j)).isSome = true
theorem LI.pop {Q' : List Nd} {n : Nd} (l : LI rs t s T []) (e : s.Q = Q' ++ [n]) : LI rs t { s with Q := Q' } T [n] ∧ muS { s with Q := Q' } < muS s := by
  have hm : ∀ m, m ∈ Q' ∨ m ∈ [n] ↔ m ∈ s.Q := fun m => by rw [e, List.mem_append]
  have hl : s.Q.length = Q'.length + 1 := by rw [e, List.length_append]; rfl
  have a := l.c.sG
  have b := l.c.sk
  simp only [List.length_nil] at a b
  refine ⟨⟨⟨l.c.nd, l.c.ht, fun m => ?_, fun m h => l.c.qT m (.inl ((hm m).mp h)), ?_, l.c.en, l.c.be, l.c.clo, l.c.low, l.c.b1, l.c.b2, ?_, fun p i => ?_, fun p i => ?_, ?_⟩, l.fin, l.gs, l.fl⟩, ?_⟩
  · rw [l.c.tq, ← hm]
    simp
  · have := l.c.qn
    rw [List.append_nil, e] at this
    exact this
  · show s.G.length + Q'.length + 1 ≤ s.F.length
    omega
  · have := l.c.sE p i
    simp only [List.length_nil] at this
    show (s.E p i).length + Q'.length + 1 ≤ s.F.length
    omega
  · have := l.c.sB p i
    simp only [List.length_nil] at this
    show (s.B p i).length + Q'.length + 1 ≤ s.F.length
    omega
  · show s.ke.length + Q'.length + 1 ≤ s.F.length ∧ s.kb.length + Q'.length + 1 ≤ s.F.length
    omega
  · unfold muS
    show 2 * (bigN - s.F.length) + Q'.length < 2 * (bigN - s.F.length) + s.Q.length
    omega
theorem addC_mem {α : Type} {C : Str → Nat → List α} {p : Str} {i : Nat} {x y : α} {p' : Str} {i' : Nat} : y ∈ addC C p i x p' i' ↔ y ∈ C p' i' ∨ (p' = p ∧ i' = i ∧ y = x) := by
  unfold addC
  by_cases c : p' = p ∧ i' = i
  · rw [if_pos c, List.mem_append, List.mem_singleton]
    exact ⟨fun h => h.imp id fun q => ⟨c.1, c.2, q⟩, fun h => h.imp id fun q => q.2.2⟩
  · rw [if_neg c]
    exact ⟨.inl, fun h => h.elim id fun q => absurd ⟨q.1, q.2.1⟩ c⟩
theorem addC_len {α : Type} (C : Str → Nat → List α) (p : Str) (i : Nat) (x : α) (p' : Str) (i' : Nat) : (addC C p i x p' i').length ≤ (C p' i').length + 1 := by
  unfold addC
  by_cases c : p' = p ∧ i' = i
  · rw [if_pos c, List.length_append]; exact Nat.le_refl _
  · rw [if_neg c]; exact Nat.le_succ _
/-- a node is put among the taken ones -/
theorem LC.take {n : Nd} (l : LC rs t B0 s T [n]) : (∀ m, (lk s.F m).isSome = true ↔ (T m ∨ m = n) ∨ m ∈ s.Q ∨ m ∈ ([] : List Nd)) ∧ (∀ m, m ∈ s.Q ∨ m ∈ ([] : List Nd) → ¬ (T m ∨ m = n) ∧ lk s.F m = some s.L) ∧ (s.Q ++ []).Nodup := by
  have q := l.qn
  rw [List.nodup_append] at q
  refine ⟨fun m => ?_, fun m hm => ?_, by rw [List.append_nil]; exact q.1⟩
  · rw [l.tq]
    simp only [List.mem_singleton, List.not_mem_nil, or_false]
    constructor
    · rintro (h | h | h)
      · exact .inl (.inl h)
      · exact .inr h
      · exact .inl (.inr h)
    · rintro ((h | h) | h)
      · exact .inl h
      · exact .inr (.inr h)
      · exact .inr (.inl h)
  · simp only [List.not_mem_nil, or_false] at hm
    obtain ⟨a, b⟩ := l.qT m (.inl hm)
    exact ⟨fun h => h.elim a fun z => q.2.2 m hm n (List.mem_singleton_self _) z, b⟩
theorem LI.part (h6 : ∀ r ∈ rs, r.parts.length ≤ 6) (h1 : rs.length ≤ 60) (h2 : t.length ≤ 60) {p : Str} {i j : Nat} {ke' : Kys} (l : LI rs t s T [.pt p i j]) (hk : ke'.length ≤ s.ke.length + 1) :
    LI rs t { offs s (nxtB (s.B p i) j) with ke := ke', E := addC s.E p i j } (fun n => T n ∨ n = .pt p i j) [] ∧ muS { offs s (nxtB (s.B p i) j) with ke := ke', E := addC s.E p i j } ≤ muS s := by
  have hpL := (l.c.qT _ (.inr (List.mem_singleton_self _))).2
  have dp := (l.c.ht _ _ hpL).1.1
  obtain ⟨l1, m1, e1, k1⟩ := LC.offs h6 h1 h2 (nxtB (s.B p i) j) l.c fun n hn => by
    obtain ⟨⟨r, d, b⟩, hq, rfl⟩ := List.mem_map.mp hn
    obtain ⟨q1, rl, q2, q3⟩ := (l.c.be p i r d b).mp hq
    obtain ⟨k, hk⟩ := Option.isSome_iff_exists.mp ((l.c.tq _).mpr (.inl q1))
    obtain ⟨w1, w2⟩ := l.c.ht _ _ hk
    exact ⟨_, Sd.step q2 q3 w1.1 dp, Nat.max_le.mpr ⟨w2, Nat.le_refl _⟩⟩
  obtain ⟨b1, b2, b3, b4, b5, b6, b7, b8, b9, b10, b11, b12, b13, b14, b15⟩ := offs_keep s (nxtB (s.B p i) j)
  obtain ⟨t1, t2, t3⟩ := l1.take
  have monoS : ∀ m, (lk s.F m).isSome = true → (lk (offs s (nxtB (s.B p i) j)).F m).isSome = true := fun m hm => by rw [k1 m hm]; exact hm
  refine ⟨⟨⟨l1.nd, l1.ht, t1, t2, t3, fun p' i' j' => ?_, fun p' j' r d i' => ?_, fun r d i' k j' X rl q1 q2 q3 q4 => ?_, l1.low, l1.b1, l1.b2, ?_, fun p' i' => ?_, fun p' i' => ?_, ?_⟩, fun r i' j' rl q1 q2 => ?_, fun n hn => ?_, fun r i' j' rl h q1 q2 q3 => ?_⟩, m1⟩
  · show j' ∈ addC s.E p i j p' i' ↔ _
    rw [addC_mem, l.c.en]
    constructor
    · rintro (h | ⟨rfl, rfl, rfl⟩)
      · exact .inl h
      · exact .inr rfl
    · rintro (h | h)
      · exact .inl h
      · cases h; exact .inr ⟨rfl, rfl, rfl⟩
  · have := l1.be p' j' r d i'
    show (r, d, i') ∈ (offs s (nxtB (s.B p i) j)).B p' j' ↔ _
    rw [this]
    constructor
    · rintro ⟨a, b⟩; exact ⟨.inl a, b⟩
    · rintro ⟨a, b⟩
      refine ⟨?_, b⟩
      rcases a with a | a
      · exact a
      · cases a
  · have q3 : T (.ru r d i' k) := by
      rcases q3 with a | a
      · exact a
      · cases a
    rcases q4 with a | a
    · exact l1.clo r d i' k j' X rl q1 q2 q3 a
    · cases a
      have := (l.c.be p i r d i').mpr ⟨q3, rl, q1, q2⟩
      exact e1 _ (List.mem_map.mpr ⟨_, this, rfl⟩)
  · have := l1.sG
    simp only [List.length_cons, List.length_nil] at this ⊢
    omega
  · have a := l1.sE p' i'
    have b := addC_len s.E p i j p' i'
    rw [b12] at a
    simp only [List.length_cons, List.length_nil] at a ⊢
    show (addC s.E p i j p' i').length + _ + 0 ≤ _
    omega
  · have a := l1.sB p' i'
    simp only [List.length_cons, List.length_nil] at a ⊢
    omega
  · have a := l1.sk
    rw [b10] at a
    simp only [List.length_cons, List.length_nil] at a ⊢
    omega
  · rcases q2 with a | a
    · rcases l.fin r i' j' rl q1 a with q | q
      · exact .inl (monoS _ q)
      · exact .inr (by show _ ∈ (offs s (nxtB (s.B p i) j)).G; rw [b9]; exact q)
    · cases a
  · have hn : n ∈ (offs s (nxtB (s.B p i) j)).G := hn
    rw [b9] at hn
    obtain ⟨r, i', j', rl, q1, q2, q3⟩ := l.gs n hn
    exact ⟨r, i', j', rl, q1, q2, .inl q3⟩
  · have q3 : h < (offs s (nxtB (s.B p i) j)).L := q3
    rw [b8] at q3
    have q2 : lk (offs s (nxtB (s.B p i) j)).F (.ru r rl.parts.length i' j') = some h := q2
    have : (lk s.F (.ru r rl.parts.length i' j')).isSome = true := l.c.low _ h (l1.ht _ _ q2).1.1 q3
    rw [k1 _ this] at q2
    exact monoS _ (l.fl r i' j' rl h q1 q2 q3)
theorem LI.partsA {r d i j : Nat} {rl : Rl} (l : LI rs t s T [.ru r d i j]) (hr : rs[r]? = some rl) (hd : d = rl.parts.length) :
    LI rs t { s with G := s.G ++ [.pt rl.head i j] } (fun n => T n ∨ n = .ru r d i j) [] ∧ muS { s with G := s.G ++ [.pt rl.head i j] } ≤ muS s := by
  obtain ⟨t1, t2, t3⟩ := l.c.take
  refine ⟨⟨⟨l.c.nd, l.c.ht, t1, t2, t3, fun p' i' j' => ?_, fun p' j' r' d' i' => ?_, fun r' d' i' k j' X rl' q1 q2 q3 q4 => ?_, l.c.low, l.c.b1, l.c.b2, ?_, fun p' i' => ?_, fun p' i' => ?_, ?_⟩, fun r' i' j' rl' q1 q2 => ?_, fun n hn => ?_, l.fl⟩, Nat.le_refl _⟩
  · rw [l.c.en]
    exact ⟨.inl, fun h => h.elim id fun z => by cases z⟩
  · rw [l.c.be]
    refine ⟨fun h => ⟨.inl h.1, h.2⟩, fun h => ⟨h.1.elim id fun z => ?_, h.2⟩⟩
    cases z
    obtain ⟨rl2, w1, w2⟩ := h.2
    rw [hr] at w1
    cases w1
    rw [hd] at w2
    simp at w2
  · have q4 : T (.pt X k j') := q4.elim id fun z => by cases z
    rcases q3 with q3 | q3
    · exact l.c.clo r' d' i' k j' X rl' q1 q2 q3 q4
    · cases q3
      rw [hr] at q1
      cases q1
      rw [hd] at q2
      simp at q2
  · have := l.c.sG
    simp only [List.length_cons, List.length_nil, List.length_append] at this ⊢
    omega
  · have := l.c.sE p' i'
    simp only [List.length_cons, List.length_nil] at this ⊢
    omega
  · have := l.c.sB p' i'
    simp only [List.length_cons, List.length_nil] at this ⊢
    omega
  · have := l.c.sk
    simp only [List.length_cons, List.length_nil] at this ⊢
    omega
  · rcases q2 with q2 | q2
    · rcases l.fin r' i' j' rl' q1 q2 with q | q
      · exact .inl q
      · exact .inr (List.mem_append_left _ q)
    · cases q2
      rw [hr] at q1
      cases q1
      exact .inr (List.mem_append_right _ (List.mem_singleton_self _))
  · have hn : n ∈ s.G ++ [.pt rl.head i j] := hn
    rcases List.mem_append.mp hn with hn | hn
    · obtain ⟨r', i', j', rl', q1, q2, q3⟩ := l.gs n hn
      exact ⟨r', i', j', rl', q1, q2, .inl q3⟩
    · exact ⟨r, i, j, rl, List.mem_singleton.mp hn, hr, .inr (by rw [hd])⟩
theorem LI.partsB (h6 : ∀ r ∈ rs, r.parts.length ≤ 6) (h1 : rs.length ≤ 60) (h2 : t.length ≤ 60) {r d i j : Nat} {rl : Rl} {X : Str} {kb' : Kys} (l : LI rs t s T [.ru r d i j]) (hr : rs[r]? = some rl) (hX : rl.parts[d]? = some X) (hk : kb'.length ≤ s.kb.length + 1) :
    LI rs t { offs s (nxtE (s.E X j) r d i) with kb := kb', B := addC s.B X j (r, d, i) } (fun n => T n ∨ n = .ru r d i j) [] ∧ muS { offs s (nxtE (s.E X j) r d i) with kb := kb', B := addC s.B X j (r, d, i) } ≤ muS s := by
  have hpL := (l.c.qT _ (.inr (List.mem_singleton_self _))).2
  have dp := (l.c.ht _ _ hpL).1.1
  have hdl := (List.getElem?_eq_some_iff.mp hX).1
  obtain ⟨l1, m1, e1, k1⟩ := LC.offs h6 h1 h2 (nxtE (s.E X j) r d i) l.c fun n hn => by
    obtain ⟨e, hq, rfl⟩ := List.mem_map.mp hn
    have q1 := (l.c.en X j e).mp hq
    obtain ⟨k, hk⟩ := Option.isSome_iff_exists.mp ((l.c.tq _).mpr (.inl q1))
    obtain ⟨w1, w2⟩ := l.c.ht _ _ hk
    exact ⟨_, Sd.step hr hX dp w1.1, Nat.max_le.mpr ⟨Nat.le_refl _, w2⟩⟩
  obtain ⟨b1, b2, b3, b4, b5, b6, b7, b8, b9, b10, b11, b12, b13, b14, b15⟩ := offs_keep s (nxtE (s.E X j) r d i)
  obtain ⟨t1, t2, t3⟩ := l1.take
  have monoS : ∀ m, (lk s.F m).isSome = true → (lk (offs s (nxtE (s.E X j) r d i)).F m).isSome = true := fun m hm => by rw [k1 m hm]; exact hm
  refine ⟨⟨⟨l1.nd, l1.ht, t1, t2, t3, fun p' i' j' => ?_, fun p' j' r' d' i' => ?_, fun r' d' i' k j' X' rl' q1 q2 q3 q4 => ?_, l1.low, l1.b1, l1.b2, ?_, fun p' i' => ?_, fun p' i' => ?_, ?_⟩, fun r' i' j' rl' q1 q2 => ?_, fun n hn => ?_, fun r' i' j' rl' h q1 q2 q3 => ?_⟩, m1⟩
  · rw [l1.en]
    exact ⟨.inl, fun h => h.elim id fun z => by cases z⟩
  · show (r', d', i') ∈ addC s.B X j (r, d, i) p' j' ↔ _
    rw [addC_mem, l.c.be]
    constructor
    · rintro (h | ⟨rfl, rfl, h⟩)
      · exact ⟨.inl h.1, h.2⟩
      · cases h; exact ⟨.inr rfl, rl, hr, hX⟩
    · rintro ⟨h | h, b⟩
      · exact .inl ⟨h, b⟩
      · cases h
        obtain ⟨rl2, w1, w2⟩ := b
        rw [hr] at w1
        cases w1
        rw [hX] at w2
        cases w2
        exact .inr ⟨rfl, rfl, rfl⟩
  · have q4 : T (.pt X' k j') := q4.elim id fun z => by cases z
    rcases q3 with q3 | q3
    · exact l1.clo r' d' i' k j' X' rl' q1 q2 q3 q4
    · cases q3
      rw [hr] at q1
      cases q1
      rw [hX] at q2
      cases q2
      exact e1 _ (List.mem_map.mpr ⟨j', (l.c.en X j j').mpr q4, rfl⟩)
  · have := l1.sG
    simp only [List.length_cons, List.length_nil] at this ⊢
    omega
  · have a := l1.sE p' i'
    simp only [List.length_cons, List.length_nil] at a ⊢
    omega
  · have a := l1.sB p' i'
    have b := addC_len s.B X j (r, d, i) p' i'
    rw [b13] at a
    simp only [List.length_cons, List.length_nil] at a ⊢
    show (addC s.B X j (r, d, i) p' i').length + _ + 0 ≤ _
    omega
  · have a := l1.sk
    rw [b11] at a
    simp only [List.length_cons, List.length_nil] at a ⊢
    omega
  · rcases q2 with a | a
    · rcases l.fin r' i' j' rl' q1 a with q | q
      · exact .inl (monoS _ q)
      · exact .inr (by show _ ∈ (offs s (nxtE (s.E X j) r d i)).G; rw [b9]; exact q)
    · have : d = rl'.parts.length := by cases a; rfl
      have : r' = r := by cases a; rfl
      subst this
      rw [hr] at q1
      cases q1
      omega
  · have hn : n ∈ (offs s (nxtE (s.E X j) r d i)).G := hn
    rw [b9] at hn
    obtain ⟨r', i', j', rl', q1, q2, q3⟩ := l.gs n hn
    exact ⟨r', i', j', rl', q1, q2, .inl q3⟩
  · have q3 : h < (offs s (nxtE (s.E X j) r d i)).L := q3
    rw [b8] at q3
    have q2 : lk (offs s (nxtE (s.E X j) r d i)).F (.ru r' rl'.parts.length i' j') = some h := q2
    have : (lk s.F (.ru r' rl'.parts.length i' j')).isSome = true := l.c.low _ h (l1.ht _ _ q2).1.1 q3
    rw [k1 _ this] at q2
    exact monoS _ (l.fl r' i' j' rl' h q1 q2 q3)
/-- a level is done: all up to its height stands -/
theorem LI.up (l : LI rs t s T []) (e : s.Q = []) : ∀ n h, Sd rs t h n → h < s.L + 1 → (lk s.F n).isSome = true := by
  have tT : ∀ n, (lk s.F n).isSome = true → T n := fun n q => by
    rcases (l.c.tq n).mp q with q | q | q
    · exact q
    · rw [e] at q; cases q
    · cases q
  intro n h d
  induction d with
  | sign q => intro _; exact l.c.b1 trivial _ _ q
  | zero q1 q2 => intro _; exact l.c.b2 trivial _ _ q1 q2
  | @step h1 h2 r d i k j X rl q1 q2 _ _ ih1 ih2 =>
    intro hl
    exact l.c.clo r d i k j X rl q1 q2 (tT _ (ih1 (by omega))) (tT _ (ih2 (by omega)))
  | @head h r i j rl q1 d ih =>
    intro hl
    obtain ⟨h0, hh⟩ := Option.isSome_iff_exists.mp (ih (by omega))
    have := (l.c.ht _ _ hh).1.2 _ d
    exact l.fl r i j rl h0 q1 hh (by omega)
theorem LI.rise (h6 : ∀ r ∈ rs, r.parts.length ≤ 6) (h1 : rs.length ≤ 60) (h2 : t.length ≤ 60) (l : LI rs t s T []) (e : s.Q = []) (g' : Addr) :
    LI rs t (offs { s with L := s.L + 1, g := g', G := [] } s.G) T [] ∧ (offs { s with L := s.L + 1, g := g', G := [] } s.G).G = [] ∧ muS (offs { s with L := s.L + 1, g := g', G := [] } s.G) ≤ muS s := by
  have hu := l.up e
  have tT : ∀ n, (lk s.F n).isSome = true → T n := fun n q => by
    rcases (l.c.tq n).mp q with q | q | q
    · exact q
    · rw [e] at q; cases q
    · cases q
  have c0 : LC rs t True { s with L := s.L + 1, g := g', G := [] } T [] := by
    refine ⟨l.c.nd, fun n h q => ⟨(l.c.ht n h q).1, Nat.le_succ_of_le (l.c.ht n h q).2⟩, l.c.tq, fun n hn => ?_, l.c.qn, l.c.en, l.c.be, l.c.clo, hu, l.c.b1, l.c.b2, ?_, l.c.sE, l.c.sB, l.c.sk⟩
    · rcases hn with hn | hn
      · have hn : n ∈ s.Q := hn
        rw [e] at hn; cases hn
      · cases hn
    · have := l.c.sG
      simp only [List.length_nil] at this ⊢
      omega
  obtain ⟨l1, m1, e1, k1⟩ := LC.offs h6 h1 h2 s.G c0 fun n hn => by
    obtain ⟨r, i, j, rl, rfl, q2, q3⟩ := l.gs n hn
    obtain ⟨k, hk⟩ := Option.isSome_iff_exists.mp ((l.c.tq _).mpr (.inl q3))
    obtain ⟨w1, w2⟩ := l.c.ht _ _ hk
    exact ⟨_, Sd.head q2 w1.1, Nat.succ_le_succ w2⟩
  obtain ⟨b1, b2, b3, b4, b5, b6, b7, b8, b9, b10, b11, b12, b13, b14, b15⟩ := offs_keep { s with L := s.L + 1, g := g', G := [] } s.G
  have monoS : ∀ m, (lk s.F m).isSome = true → (lk (offs { s with L := s.L + 1, g := g', G := [] } s.G).F m).isSome = true := fun m hm => by rw [k1 m hm]; exact hm
  have full : ∀ r i j rl, rs[r]? = some rl → T (.ru r rl.parts.length i j) → (lk (offs { s with L := s.L + 1, g := g', G := [] } s.G).F (.pt rl.head i j)).isSome = true := fun r i j rl q1 q2 => by
    rcases l.fin r i j rl q1 q2 with q | q
    · exact monoS _ q
    · exact e1 _ q
  refine ⟨⟨l1, fun r i j rl q1 q2 => .inl (full r i j rl q1 q2), fun n hn => ?_, fun r i j rl h q1 q2 q3 => ?_⟩, b9, m1⟩
  · rw [b9] at hn; cases hn
  · rw [b8] at q3
    have q3 : h < s.L + 1 := q3
    have := hu _ h (l1.ht _ _ q2).1.1 q3
    exact full r i j rl q1 (tT _ this)
/-- nothing rose: all stands -/
theorem LI.std (l : LI rs t s T []) (e : s.Q = []) (eG : s.G = []) : Std rs t s.F := by
  have tT : ∀ n, (lk s.F n).isSome = true → T n := fun n q => by
    rcases (l.c.tq n).mp q with q | q | q
    · exact q
    · rw [e] at q; cases q
    · cases q
  have all : ∀ n h, Sd rs t h n → (lk s.F n).isSome = true := by
    intro n h d
    induction d with
    | sign q => exact l.c.b1 trivial _ _ q
    | zero q1 q2 => exact l.c.b2 trivial _ _ q1 q2
    | @step h1 h2 r d i k j X rl q1 q2 _ _ ih1 ih2 => exact l.c.clo r d i k j X rl q1 q2 (tT _ ih1) (tT _ ih2)
    | @head h r i j rl q1 d ih =>
      rcases l.fin r i j rl q1 (tT _ ih) with q | q
      · exact q
      · rw [eG] at q; cases q
  refine ⟨l.c.nd, fun n h => ⟨fun q => (l.c.ht n h q).1, fun q => ?_⟩⟩
  obtain ⟨k, hk⟩ := Option.isSome_iff_exists.mp (all n h q.1)
  rw [hk, (l.c.ht n k hk).1.one q]
def firstN (n : Nat) (t : List Nat) : List Nd := (List.range t.length).map (fun i => .pt (sgn (t.getD i 0)) i (i + 1)) ++ (List.range n).flatMap fun r => (List.range (t.length + 1)).map fun i => .ru r 0 i i
theorem LI.first (h6 : ∀ r ∈ rs, r.parts.length ≤ 6) (h1 : rs.length ≤ 60) (h2 : t.length ≤ 60) (e : s.F = [] ∧ s.Q = [] ∧ s.G = [] ∧ s.ke = [] ∧ s.kb = [] ∧ s.L = 0 ∧ (∀ p i, s.E p i = []) ∧ ∀ p i, s.B p i = []) :
    LI rs t (offs s (firstN rs.length t)) (fun _ => False) [] ∧ (offs s (firstN rs.length t)).G = [] := by
  obtain ⟨e1, e2, e3, e4, e5, e6, e7, e8⟩ := e
  have c0 : LC rs t False s (fun _ => False) [] := by
    refine ⟨by rw [e1]; exact List.nodup_nil, fun n h q => ?_, fun n => ?_, fun n hn => ?_, by rw [e2]; exact List.nodup_nil, fun p i j => by rw [e7]; simp, fun p j r d i => by rw [e8]; simp, fun _ _ _ _ _ _ _ _ _ q => q.elim, fun n h _ q => by omega, fun z => z.elim, fun z => z.elim, by rw [e2, e3]; simp, fun p i => by rw [e7, e2]; simp, fun p i => by rw [e8, e2]; simp, by rw [e4, e5, e2]; simp⟩
    · rw [e1] at q; cases q
    · rw [e1, e2]
      simp [lk]
    · rw [e2] at hn
      rcases hn with hn | hn <;> cases hn
  obtain ⟨l1, m1, q1, k1⟩ := LC.offs h6 h1 h2 (firstN rs.length t) c0 fun n hn => by
    unfold firstN at hn
    rcases List.mem_append.mp hn with hn | hn
    · obtain ⟨i, hi, rfl⟩ := List.mem_map.mp hn
      have hi := List.mem_range.mp hi
      exact ⟨0, Sd.sign (by rw [List.getD_eq_getElem?_getD, List.getElem?_eq_getElem hi]; rfl), Nat.zero_le _⟩
    · obtain ⟨r, hr, hn⟩ := List.mem_flatMap.mp hn
      obtain ⟨i, hi, rfl⟩ := List.mem_map.mp hn
      have hi := List.mem_range.mp hi
      exact ⟨0, Sd.zero (List.mem_range.mp hr) (by omega), Nat.zero_le _⟩
  obtain ⟨b1, b2, b3, b4, b5, b6, b7, b8, b9, b10, b11, b12, b13, b14, b15⟩ := offs_keep s (firstN rs.length t)
  have hG : (offs s (firstN rs.length t)).G = [] := b9.trans e3
  have hL : (offs s (firstN rs.length t)).L = 0 := b8.trans e6
  refine ⟨⟨⟨l1.nd, l1.ht, l1.tq, l1.qT, l1.qn, l1.en, l1.be, l1.clo, l1.low, fun _ i c hc => q1 _ ?_, fun _ r i hr hi => q1 _ ?_, l1.sG, l1.sE, l1.sB, l1.sk⟩, fun _ _ _ _ _ q => q.elim, fun n hn => ?_, fun _ _ _ _ h _ _ q => ?_⟩, hG⟩
  · have hi := (List.getElem?_eq_some_iff.mp hc).1
    exact List.mem_append_left _ (List.mem_map.mpr ⟨i, List.mem_range.mpr hi, by rw [List.getD_eq_getElem?_getD, hc]; rfl⟩)
  · exact List.mem_append_right _ (List.mem_flatMap.mpr ⟨r, List.mem_range.mpr hr, List.mem_map.mpr ⟨i, List.mem_range.mpr (by omega), rfl⟩⟩)
  · rw [hG] at hn; cases hn
  · rw [hL] at q; omega
end

theorem all2_last {α β : Type} {R : α → β → Prop} {b : List β} {y : β} : ∀ {a : List α}, All2 R a (b ++ [y]) → ∃ a' x, a = a' ++ [x] ∧ All2 R a' b ∧ R x y := by
  induction b with
  | nil =>
    intro a h
    cases h with
    | cons r t => cases t; exact ⟨[], _, rfl, .nil, r⟩
  | cons z b ih =>
    intro a h
    cases h with
    | cons r t =>
      obtain ⟨a', x, rfl, h1, h2⟩ := ih t
      exact ⟨_ :: a', x, rfl, .cons r h1, h2⟩
theorem list_last {α : Type} {l : List α} (h : l ≠ []) : ∃ l' x, l = l' ++ [x] := by
  rcases List.eq_nil_or_concat l with q | ⟨l', x, q⟩
  · exact absurd q h
  · exact ⟨l', x, by rw [q, List.concat_eq_append]⟩
/-- a grammar and a text within their bounds -/
structure GB (rs : List Rl) (t : List Nat) : Prop where
  h6 : ∀ r ∈ rs, r.parts.length ≤ 6
  h1 : rs.length ≤ 60
  h2 : t.length ≤ 60
def R_Chart_take_level (K : PySem.W.Frag) (cs : Cs) : V → Hp → VK → XK → Prop := fun x H Q _ => ∃ (H0 : Hp) (c : Addr) (rs : List Rl) (t : List Nat) (vs : List V) (s : ChS) (T : Nd → Prop), x = .ref c ∧ Ch H0 cs.Chart rs vs H c s ∧ GB rs t ∧ LI rs t s T [] ∧ ∀ s' T' H', Ch H0 cs.Chart rs vs H' c s' → LI rs t s' T' [] → s'.Q = [] → (s.Q ≠ [] → muS s' < muS s) → Q .non H'
section
set_option hygiene false in
local macro_rules | `(tactic| kpc_turns) => `(tactic| first | refine e_methV T.c_Chart.cl (md_Chart_take_part T) (hr.mono (by decide)) rfl (by ki_room) rfl ?_ | refine e_methV T.c_Chart.cl (md_Chart_take_parts T) (hr.mono (by decide)) rfl (by ki_room) rfl ?_)
theorem ok_Chart_take_level {f : Addr} {fd : FuncData} (F : Fun K "take_level" "Chart.take_level" s_Chart_take_level f fd) (T : Txt K mg cs) : FnOk P w K mg base (L2.CX P w) 3 f fd ["self"] (sp1 (R_Chart_take_level K cs)) := by
  refine F.okX sc_Chart_take_level (fun vs H Q E h => sp1_len h) (fun cdv A outer s H vs Q E hr h => ⟨_, PBw (X := X_Chart_take_level P w K mg base f cdv A outer s H E), ?_⟩)
  obtain ⟨a0, rfl, h⟩ := h
  have ib_len := T.b_len
  have icl_Chart : ClsI K cs.Chart := ⟨T.c_Chart.cl⟩
  have ifl_Chart_queue : NoA K cs.Chart "queue" := ⟨T.n_Chart_queue⟩
  have hr' : Room 2 (X_Chart_take_level P w K mg base f cdv A outer s H E).A := hr
  replace hr := hr'
  clear hr'
  obtain ⟨H0, c, rs, t, vs, s, T0, rfl, hc, hb, hl, h⟩ := h
  refine b_cons (s_while (fun m σ' H' => ∃ v1 s' T', σ' = [some (.ref c), v1] ∧ Ch H0 cs.Chart rs vs H' c s' ∧ LI rs t s' T' [] ∧ m = muS s' ∧ (s' = s ∨ muS s' < muS s)) _ ⟨none, s, T0, rfl, hc, hl, rfl, .inl rfl⟩ ?_)
  rintro m σ' H1 ⟨v1, s1, T1, rfl, hc1, hl1, rfl, hm⟩
  have kI := hc1.ins
  obtain ⟨qv, kQ, aQ⟩ := hc1.hQ
  have hlen := hl1.c.len hb.h6 hb.h1 hb.h2
  kxs_still
  intro l2 H2 s2 n2 k2 f2
  have kQ2 := s2 _ _ kQ
  have hc2 := hc1.more s2
  refine o_neNil hr.units kQ2 k2 ?_
  kxs_still
  refine iteND (fun cn => ?_) fun cn => ?_
  · have hqn : s1.Q ≠ [] := fun z => by rw [z] at aQ; cases aQ; exact cn rfl
    obtain ⟨Q', n, eQ⟩ := list_last hqn
    rw [eQ] at aQ
    obtain ⟨qv', x, rfl, aQ', ⟨b, rfl, hbn⟩⟩ := all2_last aQ
    obtain ⟨hlp, hmu⟩ := hl1.pop eQ
    have kI2 := hc2.ins
    have hmus : muS { s1 with Q := Q' } < muS s := by
      rcases hm with rfl | hm
      · exact hmu
      · omega
    have hsz := hlp.c
    have hQl : Q'.length ≤ 2009340 := by have := hsz.sG; have : s1.F.length ≤ bigN := hlen; unfold bigN at this; simp only at *; omega
    kxs_still
    refine e_pop ?_
    kxs_still
    refine ⟨ty_l kQ2, ?_⟩
    refine m_pop kQ2 fun H3 k3 f3 => ?_
    have hF2 := hc2.hF
    have hc3 := hc2.chgQ (H' := H3) (F' := s1.F) (Q' := Q') ((f3 _ fun z => by rw [z, kQ2] at hF2; cases hF2).trans hF2) ⟨_, k3, aQ'.mono fun _ _ q => q.ts (Same.ts s2)⟩ fun b _ q => f3 b q
    have kI3 := hc3.ins
    have hb3 : H3 b = some (.tup ((ndK n).map kV)) := (f3 b fun z => by have := s2 _ _ hbn; rw [z, kQ2] at this; cases this).trans (s2 _ _ hbn)
    have hs3 : s1.F.length ≤ 3000000 := by unfold bigN at hlen; omega
    have hk3 := hsz.sk
    have hG3 := hsz.sG
    simp only [List.length_cons, List.length_nil] at hk3 hG3
    cases n with
    | pt p i j =>
      have hb3' : H3 b = some (.tup [.str p, .int ((i : Nat) : Int), .int ((j : Nat) : Int)]) := hb3
      kxs_still
      refine iteDT rfl ?_
      kxs_still
      have hE3 := hsz.sE p i
      have hB3 := hsz.sB p i
      simp only [List.length_cons, List.length_nil] at hE3 hB3
      refine ⟨H0, c, rs, vs, _, p, i, j, rfl, rfl, rfl, rfl, hc3, hs3, (by show Q'.length ≤ _; omega), (by show s1.ke.length ≤ _; omega), (by show (s1.E p i).length ≤ _; omega), (by show (s1.B p i).length ≤ _; omega), fun ke' H4 hke hc4 => ?_⟩
      kxs_still
      obtain ⟨hl4, hm4⟩ := hlp.part hb.h6 hb.h1 hb.h2 (ke' := ke') hke
      exact ⟨_, Nat.lt_of_le_of_lt hm4 hmu, _, _, _, rfl, hc4, hl4, rfl, .inr (Nat.lt_of_le_of_lt hm4 hmus)⟩
    | ru r d i j =>
      have hb3' : H3 b = some (.tup [.int ((r : Nat) : Int), .int ((d : Nat) : Int), .int ((i : Nat) : Int), .int ((j : Nat) : Int)]) := hb3
      have hpL := (hsz.qT _ (.inr (List.mem_singleton_self _))).2
      obtain ⟨_, _, rl, hr1, hd⟩ := (hsz.ht _ _ hpL).1.1.wi.ru _ _ _ _ rfl
      kxs_still
      refine iteDF (show ¬ ((4 : Nat) : Int) = 3 by decide) ?_
      kxs_still
      refine ⟨H0, c, rs, vs, _, r, d, i, j, rl, rfl, rfl, rfl, rfl, rfl, hc3, hs3, (by show Q'.length ≤ _; omega), (by show s1.kb.length ≤ _; omega), (by show s1.G.length ≤ _; omega), hr1, hd, hb.h6 rl (List.mem_of_getElem? hr1), fun hdl H4 hc4 => ?_, fun X hX => ?_⟩
      · kxs_still
        obtain ⟨hl4, hm4⟩ := hlp.partsA hr1 hdl
        exact ⟨_, Nat.lt_of_le_of_lt hm4 hmu, _, _, _, rfl, hc4, hl4, rfl, .inr (Nat.lt_of_le_of_lt hm4 hmus)⟩
      · have hE3 := hsz.sE X j
        have hB3 := hsz.sB X j
        simp only [List.length_cons, List.length_nil] at hE3 hB3
        refine ⟨by show (s1.E X j).length ≤ _; omega, by show (s1.B X j).length ≤ _; omega, fun kb' H4 hkb hc4 => ?_⟩
        kxs_still
        obtain ⟨hl4, hm4⟩ := hlp.partsB hb.h6 hb.h1 hb.h2 (kb' := kb') hr1 hX hkb
        exact ⟨_, Nat.lt_of_le_of_lt hm4 hmu, _, _, _, rfl, hc4, hl4, rfl, .inr (Nat.lt_of_le_of_lt hm4 hmus)⟩
  · have eQ : s1.Q = [] := by
      have := aQ.len
      rw [cn] at this
      exact List.eq_nil_of_length_eq_zero this.symm
    kxs_still
    refine h s1 T1 H2 hc2 hl1 eQ fun hne => ?_
    rcases hm with rfl | hm
    · exact absurd eQ hne
    · exact hm
end
theorem md_Chart_take_level (T : Txt K mg cs) : Md P w K mg base cs.Chart "take_level" 3 ["self"] (sp1 (R_Chart_take_level K cs)) := by
  obtain ⟨f, fd, hm, F, hb⟩ := T.m_Chart_take_level.ex
  exact ⟨f, fd, hm, hb, ok_Chart_take_level F T⟩
theorem all2_by {α β : Type} {R : α → β → Prop} : ∀ {ys : List α} {ns : List β}, ys.length = ns.length → (∀ (i : Nat) (y : α), ys[i]? = some y → ∃ n, ns[i]? = some n ∧ R y n) → All2 R ys ns
  | [], [], _, _ => .nil
  | [], _ :: _, h, _ => by cases h
  | _ :: _, [], h, _ => by cases h
  | y :: ys, n :: ns, h, k => by
    obtain ⟨n', e, q⟩ := k 0 y rfl
    cases e
    exact .cons q (all2_by (Nat.succ.inj h) fun i y' e => k (i + 1) y' e)
def R_first_nodes (K : PySem.W.Frag) : V → V → Hp → VK → XK → Prop := fun x y H Q _ => ∃ (a : Addr) (vs : List V) (z : Str) (n : Nat), x = .ref a ∧ SqL K H a vs ∧ vs.length = n ∧ n ≤ 60 ∧ y = .str z ∧ z.length ≤ 60 ∧ ∀ l ns H', Same H H' → H l = none → H' l = some (.lst ns) → All2 (NdAt H') ns (firstN n (tl z)) → Q (.ref l) H'
section
theorem ok_first_nodes {f : Addr} {fd : FuncData} (F : Fun K "first_nodes" "first_nodes" s_first_nodes f fd) (T : Txt K mg cs) : FnOk P w K mg base (L2.CX P w) 1 f fd ["rules", "signs"] (sp2 (R_first_nodes K)) := by
  refine F.okX sc_first_nodes (fun vs H Q E h => sp2_len h) (fun cdv A outer s H vs Q E hr h => ⟨_, PBw (X := X_first_nodes P w K mg base f cdv A outer s H E), ?_⟩)
  obtain ⟨a0, a1, rfl, h⟩ := h
  have ib_range := T.b_range
  have ib_len := T.b_len
  have ib_enumerate := T.b_enumerate
  have hr' : Room 0 (X_first_nodes P w K mg base f cdv A outer s H E).A := hr
  replace hr := hr'
  clear hr'
  obtain ⟨a, vs, z, n, rfl, hS, rfl, hn, rfl, hz, h⟩ := h
  have hzt : (tl z).length = z.length := (len_tl z).symm
  refine b_cons (s_setLcH (blkOk_by (sc := defScope s_first_nodes) (own := [("i", 4), ("sign", 3)]) (by decide +kernel)) (fun i y H' => ∃ c, (tl z)[i]? = some c ∧ NdAt H' y (.pt (sgn c) i (i + 1))) (fun i y H' H'' s ⟨c, h1, h2⟩ => ⟨c, h1, h2.ts s⟩) (j_enumS ?_))
  kxs_still
  have hzc : z.cps.size = (tl z).length := by rw [hzt]; rfl
  refine ⟨_, _, _, walk_enumS, by rw [hzc]; omega, fun _ _ => trivial, ?_, ?_⟩
  · rintro i x H1 H2 hi s1 ⟨T1, cc, rfl, nT, rfl, hcc⟩
    have kT : (upd H1 T1 (.tup [V.int (i : Nat), V.str ⟨#[cc]⟩])) T1 = some (.tup [V.int (i : Nat), V.str ⟨#[cc]⟩]) := upd_same
    have sT := sameU (o := .tup [V.int (i : Nat), V.str ⟨#[cc]⟩]) nT
    generalize upd H1 T1 (.tup [V.int (i : Nat), V.str ⟨#[cc]⟩]) = H2 at kT sT
    have hct : (tl z)[i]? = some cc := by
      show z.cps.toList[i]? = some cc
      rw [Array.getElem?_toList]
      exact hcc
    refine ⟨sT, fun _ _ _ _ _ => ?_⟩
    kxs_still
    refine ⟨rfl, Same.refl _, fun _ _ _ _ _ => ?_⟩
    kxs_still
    refine o_cat (show 1 + 1 ≤ 1000000 by decide |> fun h => Nat.le_trans h (by decide +kernel)) ?_
    kxs_still
    intro t3 H3 s3 n3 k3 f3
    exact ⟨⟨cc, hct, t3, rfl, k3⟩, s3⟩
  intro l1 H1 ys s1 n1 k1 hyl hy
  have aY : All2 (NdAt H1) ys ((List.range (tl z).length).map fun i => Nd.pt (sgn ((tl z).getD i 0)) i (i + 1)) := by
    refine all2_by (by rw [List.length_map, List.length_range, ← hzc]; exact hyl) fun i y e => ?_
    obtain ⟨c, hc, hn⟩ := hy i y e
    have hi := (List.getElem?_eq_some_iff.mp hc).1
    exact ⟨_, by rw [List.getElem?_map, List.getElem?_range hi]; rfl, by show NdAt H1 y (Nd.pt (sgn ((tl z).getD i 0)) i (i + 1)); rw [List.getD_eq_getElem?_getD, hc]; exact hn⟩
  have hyl' := aY.len
  rw [List.length_map, List.length_range] at hyl'
  kxs_still
  refine s_for (j_rng1 ?_)
  kxs_still
  refine ⟨by omega, by omega, _, _, _, walk_range0, fun m σ' H' => ∃ v3 v4 v5 ns, σ' = [some (.ref a), some (.str z), some (.ref l1), v3, v4, v5] ∧ Same H H' ∧ H' l1 = some (.lst ns) ∧ All2 (NdAt H') ns (firstN m (tl z)), ⟨none, none, none, ys, rfl, s1, k1, by unfold firstN; rw [List.range_zero, List.flatMap_nil, List.append_nil]; exact aY⟩, fun _ _ _ _ _ => trivial, ?_, ?_⟩
  · rintro m x σ' H2 H3 hm ⟨v3, v4, v5, ns, rfl, s2, k2, a2⟩ ⟨rfl, rfl⟩
    have hm : m < vs.length := hm
    kxs_still
    refine e_extend ?_
    kxs_still
    refine ⟨ty_l k2, ?_⟩
    kxs_still
    refine e_lcH (blkOk_by (sc := defScope s_first_nodes) (own := [("i", 4)]) (by decide +kernel)) (fun i y H' => NdAt H' y (.ru m 0 i i)) (fun i y H' H'' s h => h.ts s) (j_rng1 ?_)
    kxs_still
    refine ⟨by omega, by omega, _, _, _, walk_range0, by omega, fun _ _ => trivial, ?_, ?_⟩
    · rintro i x H4 H5 hi s4 ⟨rfl, rfl⟩
      refine ⟨Same.refl _, fun _ _ _ _ _ => ?_⟩
      kxs_still
      refine ⟨rfl, Same.refl _, fun _ _ _ _ _ => ?_⟩
      kxs_still
      intro t6 H6 s6 n6 k6 f6
      exact ⟨⟨t6, rfl, k6⟩, s6⟩
    · intro l4 H4 ws s4 n4 k4 hwl hw
      have k24 := s4 _ _ k2
      have e1 : ((z.length : Int) + 1).toNat = (tl z).length + 1 := by omega
      rw [e1] at hwl
      have aW : All2 (NdAt H4) ws ((List.range ((tl z).length + 1)).map fun i => Nd.ru m 0 i i) := all2_by (by rw [List.length_map, List.length_range]; exact hwl) fun i y e => by
        have hi := (List.getElem?_eq_some_iff.mp e).1
        exact ⟨_, by rw [List.getElem?_map, List.getElem?_range (by omega)]; rfl, hw i y e⟩
      have hnl : ns.length ≤ 10000 := by
        rw [a2.len]
        unfold firstN
        rw [List.length_append, List.length_map, List.length_range, flat_len (c := (tl z).length + 1) fun x _ => by rw [List.length_map, List.length_range], List.length_range]
        have : m * ((tl z).length + 1) ≤ 60 * 61 := Nat.mul_le_mul (by omega) (by omega)
        omega
      kxs_still
      refine m_extend k24 k4 (by omega) fun H5 k5 f5 => ?_
      have ts5 : TS H4 H5 := TS.butL k24 f5
      kxs_still
      refine ⟨_, _, _, _, rfl, fun b o e => ?_, k5, ?_⟩
      · rw [f5 b fun w => by rw [w, n1] at e; cases e]
        exact s4 _ _ (s2 _ _ e)
      · have e3 : firstN (m + 1) (tl z) = firstN m (tl z) ++ (List.range ((tl z).length + 1)).map fun i => Nd.ru m 0 i i := by
          unfold firstN
          rw [show List.range (m + 1) = List.range m ++ [m] from List.range_succ, List.flatMap_append, ← List.append_assoc, List.flatMap_cons, List.flatMap_nil, List.append_nil]
        rw [e3]
        exact (a2.mono fun _ _ q => q.ts ((Same.ts s4).trans ts5)).app (aW.mono fun _ _ q => q.ts ts5)
  rintro σ' H2 ⟨v3, v4, v5, ns, rfl, s2, k2, a2⟩
  kxs_still
  exact h l1 ns H2 s2 n1 k2 a2
end
theorem df_first_nodes (T : Txt K mg cs) : Df P w K mg base "first_nodes" 1 ["rules", "signs"] (sp2 (R_first_nodes K)) := by
  obtain ⟨f, fd, hm, F, hb⟩ := T.f_first_nodes.ex
  exact ⟨f, fd, hm, F.kp, hb, ok_first_nodes F T⟩
def R_Chart_init (K : PySem.W.Frag) (cs : Cs) : V → V → Hp → VK → XK → Prop := fun x y H Q _ => ∃ (H0 : Hp) (c a dx : Addr) (rs : List Rl) (vs : List V), x = .ref c ∧ y = .ref a ∧ Same H0 H ∧ H0 c = none ∧ H0 dx = none ∧ H c = some (.ins cs.Chart dx []) ∧ H dx = some (.own c) ∧ H0 a = some (.lst vs) ∧ RulesAt H0 vs rs ∧
  ∀ s H', Ch H0 cs.Chart rs vs H' c s → s.F = [] ∧ s.Q = [] ∧ s.G = [] ∧ s.ke = [] ∧ s.kb = [] ∧ s.L = 0 ∧ (∀ p i, s.E p i = []) ∧ (∀ p i, s.B p i = []) → Q .non H'
section
theorem ok_Chart_init {f : Addr} {fd : FuncData} (F : Fun K "__init__" "Chart.__init__" s_Chart_init f fd) (T : Txt K mg cs) : FnOk P w K mg base (L2.CX P w) 1 f fd ["self", "rules"] (sp2 (R_Chart_init K cs)) := by
  refine F.okX sc_Chart_init (fun vs H Q E h => sp2_len h) (fun cdv A outer s H vs Q E hr h => ⟨_, PBw (X := X_Chart_init P w K mg base f cdv A outer s H E), ?_⟩)
  obtain ⟨a0, a1, rfl, h⟩ := h
  have icl_Chart : ClsI K cs.Chart := ⟨T.c_Chart.cl⟩
  have icl_Wood : ClsI K cs.Wood := ⟨T.c_Wood.cl⟩
  have ifl_Chart_behind : NoA K cs.Chart "behind" := ⟨T.n_Chart_behind⟩
  have ifl_Chart_ends : NoA K cs.Chart "ends" := ⟨T.n_Chart_ends⟩
  have ifl_Chart_heights : NoA K cs.Chart "heights" := ⟨T.n_Chart_heights⟩
  have ifl_Chart_higher : NoA K cs.Chart "higher" := ⟨T.n_Chart_higher⟩
  have ifl_Chart_level : NoA K cs.Chart "level" := ⟨T.n_Chart_level⟩
  have ifl_Chart_queue : NoA K cs.Chart "queue" := ⟨T.n_Chart_queue⟩
  have ifl_Chart_rules : NoA K cs.Chart "rules" := ⟨T.n_Chart_rules⟩
  have ifl_Wood_rules : NoA K cs.Wood "rules" := ⟨T.n_Wood_rules⟩
  have hr' : Room 0 (X_Chart_init P w K mg base f cdv A outer s H E).A := hr
  replace hr := hr'
  clear hr'
  obtain ⟨H0, c, a, dx, rs, vs, rfl, rfl, sm, n0, nd0, kc, kd, ka, hR, h⟩ := h
  refine b_cons (s_fldV ?_)
  kxs_still
  refine ⟨c, cs.Chart, dx, [], rfl, kc, inferInstance, inferInstance, by decide, fun H1 k1 f1 => ?_⟩
  refine b_cons (s_fldV (e_dctT fun dh H2 s2 n2 k2 f2 => ?_))
  refine ⟨c, cs.Chart, dx, _, rfl, s2 _ _ k1, inferInstance, inferInstance, (show 1 < 1000 by decide), fun H3 k3 f3 => ?_⟩
  kxs_still
  refine s_fldV ?_
  kxs_still
  refine ⟨c, cs.Chart, dx, _, rfl, k3, inferInstance, inferInstance, (show 2 < 1000 by decide), fun H4 k4 f4 => ?_⟩
  refine b_cons (s_fldV ?_)
  kxs_still
  intro q H5 s5 n5 k5 f5
  refine ⟨c, cs.Chart, dx, _, rfl, s5 _ _ k4, inferInstance, inferInstance, (show 3 < 1000 by decide), fun H6 k6 f6 => ?_⟩
  refine b_cons (s_fldV ?_)
  kxs_still
  intro g H7 s7 n7 k7 f7
  refine ⟨c, cs.Chart, dx, _, rfl, s7 _ _ k6, inferInstance, inferInstance, (show 4 < 1000 by decide), fun H8 k8 f8 => ?_⟩
  refine b_cons (s_fldV (e_dctT fun de H9 s9 n9 k9 f9 => ?_))
  refine ⟨c, cs.Chart, dx, _, rfl, s9 _ _ k8, inferInstance, inferInstance, (show 5 < 1000 by decide), fun H10 k10 f10 => ?_⟩
  refine b_cons (s_fldV (e_dctT fun db H11 s11 n11 k11 f11 => ?_))
  refine ⟨c, cs.Chart, dx, _, rfl, s11 _ _ k10, inferInstance, inferInstance, (show 6 < 1000 by decide), fun H12 k12 f12 => ?_⟩
  have st : ∀ {A B : Hp} {o : HO} {b : Addr}, (∀ b, b ≠ c → B b = A b) → A b = some o → b ≠ c → B b = some o := fun f e n => (f _ n).trans e
  have up : ∀ {A B : Hp} {b : Addr}, (∀ b, b ≠ c → B b = A b) → B b = none → b ≠ c → A b = none := fun f e n => (f _ n).symm.trans e
  have c2 := s2 _ _ k1
  have nedh : dh ≠ c := fun z => by rw [z, k1] at n2; cases n2
  have neq : q ≠ c := fun z => by rw [z, k4] at n5; cases n5
  have neg : g ≠ c := fun z => by rw [z, k6] at n7; cases n7
  have nede : de ≠ c := fun z => by rw [z, k8] at n9; cases n9
  have nedb : db ≠ c := fun z => by rw [z, k10] at n11; cases n11
  have nedx : dx ≠ c := fun z => by rw [z, kc] at kd; cases kd
  have d3 := st f3 k2 nedh
  have d4 := st f4 d3 nedh
  have d6 := st f6 (s5 _ _ d4) nedh
  have d8 := st f8 (s7 _ _ d6) nedh
  have d10 := st f10 (s9 _ _ d8) nedh
  have d12 := st f12 (s11 _ _ d10) nedh
  have q6 := st f6 k5 neq
  have q8 := st f8 (s7 _ _ q6) neq
  have q10 := st f10 (s9 _ _ q8) neq
  have q12 := st f12 (s11 _ _ q10) neq
  have g8 := st f8 k7 neg
  have g10 := st f10 (s9 _ _ g8) neg
  have g12 := st f12 (s11 _ _ g10) neg
  have e10 := st f10 k9 nede
  have e12 := st f12 (s11 _ _ e10) nede
  have b12 := st f12 k11 nedb
  have x1 := st f1 kd nedx
  have x3 := st f3 (s2 _ _ x1) nedx
  have x4 := st f4 x3 nedx
  have x6 := st f6 (s5 _ _ x4) nedx
  have x8 := st f8 (s7 _ _ x6) nedx
  have x10 := st f10 (s9 _ _ x8) nedx
  have x12 := st f12 (s11 _ _ x10) nedx
  have sm12 : Same H0 H12 := fun b o e => by
    have nb : b ≠ c := fun z => by rw [z, n0] at e; cases e
    exact st f12 (s11 _ _ (st f10 (s9 _ _ (st f8 (s7 _ _ (st f6 (s5 _ _ (st f4 (st f3 (s2 _ _ (st f1 (sm _ _ e) nb)) nb) nb)) nb)) nb)) nb)) nb
  have no2 : ∀ b, b ≠ c → H1 b = none → H0 b = none := fun b nb e => sm.none (up f1 e nb)
  have no4 : ∀ b, b ≠ c → H4 b = none → H0 b = none := fun b nb e => no2 b nb (s2.none (up f3 (up f4 e nb) nb))
  have no6 : ∀ b, b ≠ c → H6 b = none → H0 b = none := fun b nb e => no4 b nb (s5.none (up f6 e nb))
  have no8 : ∀ b, b ≠ c → H8 b = none → H0 b = none := fun b nb e => no6 b nb (s7.none (up f8 e nb))
  have no10 : ∀ b, b ≠ c → H10 b = none → H0 b = none := fun b nb e => no8 b nb (s9.none (up f10 e nb))
  have em : ∀ d : Addr, H12 d = some (.dT []) → DLs H12 d [] (fun _ _ => ([] : List V)) := fun d e => ⟨e, List.nodup_nil, List.nodup_nil, fun _ _ _ z => (nomatch z), fun _ _ _ => rfl⟩
  kxs_still
  refine h { dx := dx, a := a, dh := dh, q := q, g := g, de := de, db := db, L := 0, F := [], Q := [], G := [], ke := [], kb := [], E := fun _ _ => [], B := fun _ _ => [] } H12 ⟨sm12, ka, hR, k12, x12, d12, ⟨[], q12, .nil⟩, ⟨[], g12, .nil⟩, em de e12, ⟨fun _ _ => [], em db b12, fun _ _ => .nil⟩, ?_, ⟨by simp, by simp, by simp, by simp⟩, (fun l m => by cases m), ⟨?_, ?_, ?_⟩, ⟨n0, nd0, no2 _ nedh n2, no4 _ neq n5, no6 _ neg n7, no8 _ nede n9, no10 _ nedb n11, (fun l m => by cases m), (fun l m => by cases m)⟩⟩ ⟨rfl, rfl, rfl, rfl, rfl, rfl, fun _ _ => rfl, fun _ _ => rfl⟩
  · show q ≠ g
    intro z; rw [← z, q6] at n7; cases n7
  · show dh ≠ de
    intro z; rw [← z, d8] at n9; cases n9
  · show dh ≠ db
    intro z; rw [← z, d10] at n11; cases n11
  · show de ≠ db
    intro z; rw [← z, e10] at n11; cases n11
end
theorem in_Chart (T : Txt K mg cs) : Ini P w K mg base cs.Chart 1 ["self", "rules"] (sp2 (R_Chart_init K cs)) := by
  obtain ⟨f, fd, hm, F, hb⟩ := T.i_Chart.ex
  exact ⟨f, fd, hm, hb, ok_Chart_init F T⟩
def R_heights_over (K : PySem.W.Frag) (cs : Cs) : V → V → Hp → VK → XK → Prop := fun x y H Q _ => ∃ (a : Addr) (vs : List V) (rs : List Rl) (z : Str), x = .ref a ∧ H a = some (.lst vs) ∧ RulesAt H vs rs ∧ y = .str z ∧ GB rs (tl z) ∧ ∀ d F H', Same H H' → H d = none → H' d = some (.dT (hK F)) → Std rs (tl z) F → Q (.ref d) H'
section
set_option hygiene false in
local macro_rules | `(tactic| top_name) => `(tactic| first | refine e_call (df_first_nodes T) (hr.mono (by decide)) ?_)
set_option hygiene false in
local macro_rules | `(tactic| kpc_turns) => `(tactic| first | refine e_methV T.c_Chart.cl (md_Chart_offer T) (hr.mono (by decide)) rfl (by ki_room) rfl ?_ | refine e_methV0 T.c_Chart.cl (md_Chart_take_level T) (hr.mono (by decide)) rfl (by ki_room) rfl ?_ | refine e_methV0 T.c_Chart.cl (md_Chart_rise T) (hr.mono (by decide)) rfl (by ki_room) rfl ?_)
theorem ok_heights_over {f : Addr} {fd : FuncData} (F : Fun K "heights_over" "heights_over" s_heights_over f fd) (T : Txt K mg cs) : FnOk P w K mg base (L2.CX P w) 4 f fd ["rules", "signs"] (sp2 (R_heights_over K cs)) := by
  refine F.okX sc_heights_over (fun vs H Q E h => sp2_len h) (fun cdv A outer s H vs Q E hr h => ⟨_, PBw (X := X_heights_over P w K mg base f cdv A outer s H E), ?_⟩)
  obtain ⟨a0, a1, rfl, h⟩ := h
  have ib_Chart : Gn mg "Chart" (some _) := ⟨T.c_Chart.mg⟩
  have icl_Chart : ClsI K cs.Chart := ⟨T.c_Chart.cl⟩
  have ifl_Chart_heights : NoA K cs.Chart "heights" := ⟨T.n_Chart_heights⟩
  have ifl_Chart_queue : NoA K cs.Chart "queue" := ⟨T.n_Chart_queue⟩
  have hr' : Room 3 (X_heights_over P w K mg base f cdv A outer s H E).A := hr
  replace hr := hr'
  clear hr'
  obtain ⟨a, vs, rs, z, rfl, ka, hR, rfl, hb, h⟩ := h
  have hvl := hR.len
  refine b_cons (s_set (e_make (in_Chart T) (hr.mono (by decide)) ?_))
  kxs_still
  intro c dx H1 s1 n1 nd1 ndx k1 kd1 f1
  kxs_still
  refine ⟨H, c, a, dx, rs, vs, rfl, rfl, s1, n1, nd1, k1, kd1, ka, hR, fun s0 H2 hc2 e0 => ⟨rfl, ?_⟩⟩
  have ka2 := hc2.sm _ _ ka
  refine b_cons (s_for (j_list ?_))
  kxs_still
  refine ⟨a, vs, z, rs.length, rfl, SqL.of ka2, hvl, hb.h1, rfl, by rw [len_tl]; exact hb.h2, fun l ns H3 s3 n3 k3 aN => ?_⟩
  have hc3 := hc2.more s3
  have hnl := aN.len
  have hfl : (firstN rs.length (tl z)).length ≤ 10000 := by
    unfold firstN
    rw [List.length_append, List.length_map, List.length_range, flat_len (c := (tl z).length + 1) fun x _ => by rw [List.length_map, List.length_range], List.length_range]
    have h1 := hb.h1
    have h2 := hb.h2
    have : rs.length * ((tl z).length + 1) ≤ 60 * 61 := Nat.mul_le_mul (by omega) (by omega)
    omega
  obtain ⟨e1, e2, e3, e4, e5, e6, e7, e8⟩ := e0
  have nl : ∀ b o, H2 b = some o → l ≠ b := fun b o e w => by rw [w, e] at n3; cases n3
  obtain ⟨qv0, kq0, _⟩ := hc2.hQ
  kxs_still
  refine ⟨⟨_, SqL.of k3⟩, _, _, _, walk_list (xs := ns), fun m σ' H' => ∃ v3, σ' = [some (.ref a), some (.str z), some (.ref c), v3] ∧ Ch H cs.Chart rs vs H' c (offs s0 ((firstN rs.length (tl z)).take m)) ∧ H' l = some (.lst ns) ∧ TS H3 H', ⟨none, rfl, hc3, k3, TS.refl _⟩, fun m σ' H' _ ⟨_, _, _, k, _⟩ => SqL.of k, ?_, ?_⟩
  · rintro m x σ' H4 H5 hm ⟨v3, rfl, hc4, kl4, ts4⟩ ⟨rfl, hx⟩
    obtain ⟨n, hn, hnd⟩ := aN.get hx
    have kI4 := hc4.ins
    have ho := offs_keep s0 ((firstN rs.length (tl z)).take m)
    have hl4 : ((firstN rs.length (tl z)).take m).length ≤ 10000 := by rw [List.length_take]; omega
    rw [e1, e2] at ho
    have hF := ho.2.2.2.2.2.2.2.2.2.2.2.2.2.1
    have hQ := ho.2.2.2.2.2.2.2.2.2.2.2.2.2.2
    simp only [List.length_nil, Nat.zero_add] at hF hQ
    kxs_still
    refine ⟨H, c, rs, vs, _, n, rfl, hc4, hnd.ts ts4, by omega, by omega, fun H6 hc6 f6 => ?_⟩
    rw [← offs_snoc, ← take_snoc hn] at hc6
    have ts6 : TS H5 H6 := fun x xs e => (f6 x (fun z => hc4.not_tup e (.inr (.inr (.inl z)))) fun z => hc4.not_tup e (.inr (.inr (.inr (.inl z))))).trans e
    kxs_still
    refine ⟨_, rfl, hc6, ?_, ts4.trans ts6⟩
    rw [f6 l (fun w => nl _ _ hc2.hF (w.trans ho.2.2.1)) fun w => nl _ _ kq0 (w.trans ho.2.2.2.1)]
    exact kl4
  rintro σ' H4 ⟨v3, rfl, hc4, _, _⟩
  rw [List.take_of_length_le (by omega)] at hc4
  obtain ⟨hl4, hG4⟩ := LI.first hb.h6 hb.h1 hb.h2 ⟨e1, e2, e3, e4, e5, e6, e7, e8⟩
  refine b_cons (s_while (fun m σ' H' => ∃ s' T', σ' = [some (.ref a), some (.str z), some (.ref c), v3] ∧ Ch H cs.Chart rs vs H' c s' ∧ LI rs (tl z) s' T' [] ∧ s'.G = [] ∧ m = muS s') _ ⟨_, _, rfl, hc4, hl4, hG4, rfl⟩ ?_)
  rintro m σ' H5 ⟨s5, T5, rfl, hc5, hl5, hG5, rfl⟩
  have kI := hc5.ins
  obtain ⟨qv, kQ, aQ⟩ := hc5.hQ
  kxs_still
  intro l6 H6 s6 n6 k6 f6
  have kQ6 := s6 _ _ kQ
  have hc6 := hc5.more s6
  have kI6 := hc6.ins
  refine o_neNil hr.units kQ6 k6 ?_
  kxs_still
  refine iteND (fun cn => ?_) fun cn => ?_
  · have hqn : s5.Q ≠ [] := fun w => by
      have := aQ.len
      rw [w] at this
      exact cn (List.eq_nil_of_length_eq_zero this)
    kxs_still
    refine ⟨H, c, rs, tl z, vs, s5, T5, rfl, hc6, hb, hl5, fun s7 T7 H7 hc7 hl7 hQ7 hmu => ?_⟩
    have kI7 := hc7.ins
    have hlen := hl7.c.len hb.h6 hb.h1 hb.h2
    unfold bigN at hlen
    have hsG := hl7.c.sG
    kxs_still
    refine ⟨H, c, rs, vs, s7, rfl, hc7, by omega, by rw [hQ7]; exact Nat.zero_le _, by omega, fun g' H8 hc8 => ?_⟩
    obtain ⟨hl8, hG8, hm8⟩ := hl7.rise hb.h6 hb.h1 hb.h2 hQ7 g'
    kxs_still
    exact ⟨_, Nat.lt_of_le_of_lt hm8 (hmu hqn), _, _, rfl, hc8, hl8, hG8, rfl⟩
  · have eQ : s5.Q = [] := by
      have := aQ.len
      rw [cn] at this
      exact List.eq_nil_of_length_eq_zero this.symm
    have hst := hl5.std eQ hG5
    kxs_still
    exact h s5.dh s5.F H6 hc6.sm hc6.nw.2.2.1 hc6.hF hst
end
theorem df_heights_over (T : Txt K mg cs) : Df P w K mg base "heights_over" 4 ["rules", "signs"] (sp2 (R_heights_over K cs)) := by
  obtain ⟨f, fd, hm, F, hb⟩ := T.f_heights_over.ex
  exact ⟨f, fd, hm, F.kp, hb, ok_heights_over F T⟩
theorem gb_of {rs : List Rl} {z : Str} (g : GoodG rs) (h : isTextD (.str z) = true) : GB rs (tl z) := by
  have h : (decide (z.length ≤ 60) && (tl z).all okc) = true := h
  rw [Bool.and_eq_true, decide_eq_true_eq] at h
  exact ⟨fun r hr => (g.good r hr).few, g.few, by rw [← len_tl]; exact h.1⟩
theorem text_is {d : PyData} (h : isTextD d = true) : ∃ z, d = .str z := by
  cases d <;> first | exact ⟨_, rfl⟩ | (exact Bool.noConfusion h)
def R_standing (K : PySem.W.Frag) (cs : Cs) : V → V → Hp → VK → XK → Prop := fun x y H Q E => RG K cs x H E fun a vs rs => ∃ d, Th K H y d ∧ (isTextD d = false → ∀ H', Same H H' → E (.ref cs.NoText) none H') ∧
  (∀ z, d = .str z → isTextD d = true → ∀ dd F H', Same H H' → H dd = none → H' dd = some (.dT (hK F)) → Std rs (tl z) F → Q (.ref dd) H')
section
set_option hygiene false in
local macro_rules | `(tactic| top_name) => `(tactic| first | refine e_call (df_checked T) (hr.mono (by decide)) ?_ | refine e_call (df_heights_over T) (hr.mono (by decide)) ?_ | refine e_call (df_checked_text T) (hr.mono (by decide)) ?_)
theorem ok_standing {f : Addr} {fd : FuncData} (F : Fun K "standing" "standing" s_standing f fd) (T : Txt K mg cs) : FnOk P w K mg base (L2.CX P w) 6 f fd ["grammar", "text"] (sp2 (R_standing K cs)) := by
  refine F.okX sc_standing (fun vs H Q E h => sp2_len h) (fun cdv A outer s H vs Q E hr h => ⟨_, PBw (X := X_standing P w K mg base f cdv A outer s H E), ?_⟩)
  obtain ⟨a0, a1, rfl, h⟩ := h
  have hr' : Room 5 (X_standing P w K mg base f cdv A outer s H E).A := hr
  replace hr := hr'
  clear hr'
  kxs_still
  rcases h with ⟨a, vs, rs, g, d, hd, h1, h2⟩ | ⟨d, hd, hb, q⟩
  case inr => exact .inr ⟨d, hd, hb, q⟩
  refine .inl ⟨a, vs, rs, g, fun l H1 s1 n1 k1 => ?_⟩
  have hd1 := hd.more s1
  kxs_still
  refine ⟨d, hd1, fun ht => ?_, fun ht => h1 ht H1 s1⟩
  obtain ⟨z, rfl⟩ := text_is ht
  obtain ⟨rfl⟩ : a1 = .str z := by cases hd; rfl
  kxs_still
  refine ⟨l, vs, rs, z, rfl, k1, g.at_.ts (Same.ts s1), rfl, gb_of g.ok ht, fun dd F H2 s2 n2 k2 hs => ?_⟩
  exact h2 z rfl ht dd F H2 (s1.trans s2) (s1.none n2) k2 hs

end
theorem df_standing (T : Txt K mg cs) : Df P w K mg base "standing" 6 ["grammar", "text"] (sp2 (R_standing K cs)) := by
  obtain ⟨f, fd, hm, F, hb⟩ := T.f_standing.ex
  exact ⟨f, fd, hm, F.kp, hb, ok_standing F T⟩
/-! ### a grammar whose heads have a short rule each -/
structure Gr4 (rs : List Rl) : Prop where
  nms : ∃ nms : List Str, nms.length = 4 ∧ (∀ n ∈ nms, isNameS n = true) ∧ ∀ r ∈ rs, r.head ∈ nms ∧ ∀ p ∈ r.parts, isSg p = false → p ∈ nms
  short : ∀ r ∈ rs, ∃ r' ∈ rs, r'.head = r.head ∧ r'.parts.length < 3 ∧ ∀ p ∈ r'.parts, isSg p = true
  pos : 0 < rs.length
  few : rs.length ≤ 9
  hds : ∃ hs : List Str, hs.length ≤ 3 ∧ ∀ r ∈ rs, r.head ∈ hs
theorem quote_part {c : Nat} (h : okc c = true) : isPartS (Str.ofString "'" ++ ⟨#[c]⟩) = true ∧ isSg (Str.ofString "'" ++ ⟨#[c]⟩) = true := by
  refine ⟨rule_part h, ?_⟩
  have e : tl (Str.ofString "'" ++ ⟨#[c]⟩) = [39, c] := by rw [tl_append, tl_q]; rfl
  unfold isSg
  rw [e]
  rfl
theorem name_sg {n : Str} (h : isNameS n = true) : isSg n = false := by
  have := name_free h (s := 39) (by decide)
  unfold isSg
  cases q : tl n with
  | nil => rfl
  | cons x t =>
    rw [q] at this
    have : x ≠ 39 := fun z => this (by rw [z]; exact List.mem_cons_self ..)
    show (some x == some 39) = false
    simp [this]
/-! ### rows and signs: the plain law -/
/-- what a row reads from the parts that wait -/
def rg (rs : List Rl) : List PyData → List Str → Option (List Nat)
  | [], ps => if ps.all isSg = true then some (ps.map codeOf) else none
  | d :: ds, ps => (stp rs d (ps.dropWhile isSg)).bind fun q => (rg rs ds q).map ((ps.takeWhile isSg).map codeOf ++ ·)
theorem rg_sign {rs : List Rl} {p : Str} {ps : List Str} (h : isSg p = true) : ∀ (ds : List PyData), rg rs ds (p :: ps) = (rg rs ds ps).map (codeOf p :: ·)
  | [] => by
    show (if (isSg p && ps.all isSg) = true then some ((p :: ps).map codeOf) else none) = Option.map _ (if ps.all isSg = true then some (ps.map codeOf) else none)
    rw [h, Bool.true_and]
    by_cases c : ps.all isSg = true
    · rw [if_pos c, if_pos c]; rfl
    · rw [if_neg c, if_neg c]; rfl
  | d :: ds => by
    show (stp rs d ((p :: ps).dropWhile isSg)).bind _ = Option.map _ ((stp rs d (ps.dropWhile isSg)).bind _)
    rw [List.dropWhile_cons_of_pos h, List.takeWhile_cons_of_pos h]
    cases stp rs d (ps.dropWhile isSg) with
    | none => rfl
    | some q =>
      show Option.map _ (rg rs ds q) = Option.map _ (Option.map _ (rg rs ds q))
      cases rg rs ds q with
      | none => rfl
      | some z => rfl
theorem rg_name0 {rs : List Rl} {p : Str} {ps : List Str} (h : isSg p = false) : rg rs [] (p :: ps) = none := by
  show (if (isSg p && ps.all isSg) = true then _ else none) = none
  rw [h, Bool.false_and]
  rfl
theorem rg_name {rs : List Rl} {p : Str} {ps : List Str} (h : isSg p = false) (d : PyData) (ds : List PyData) : rg rs (d :: ds) (p :: ps) = (stp rs d (p :: ps)).bind (rg rs ds) := by
  show (stp rs d ((p :: ps).dropWhile isSg)).bind _ = _
  rw [List.dropWhile_cons_of_neg (by rw [h]; simp), List.takeWhile_cons_of_neg (by rw [h]; simp)]
  congr 1
  funext q
  cases rg rs ds q with
  | none => rfl
  | some z => rfl
theorem stp_nil (rs : List Rl) (d : PyData) : stp rs d [] = none := by
  unfold stp
  split <;> first | rfl | (rename_i e; cases e)
theorem rg_nil (rs : List Rl) : ∀ ds, rg rs ds [] = if ds = [] then some [] else none
  | [] => rfl
  | d :: ds => by
    show (stp rs d []).bind _ = _
    rw [stp_nil, if_neg (by simp)]
    rfl
theorem stp_int (rs : List Rl) (i : Int) (p : Str) (ps : List Str) : stp rs (.int i) (p :: ps) = if 0 ≤ i then (rs[i.toNat]?).bind fun r => if r.head = p then some (r.parts ++ ps) else none else none := rfl
theorem stp_nat {rs : List Rl} {k : Nat} {r : Rl} (h : rs[k]? = some r) (ps : List Str) : stp rs (.int (k : Nat)) (r.head :: ps) = some (r.parts ++ ps) := by
  rw [stp_int, if_pos (by omega), show ((k : Nat) : Int).toNat = k by omega, h]
  show (if r.head = r.head then _ else _) = _
  rw [if_pos rfl]
theorem rg_num {rs : List Rl} {k : Nat} {r : Rl} (h : rs[k]? = some r) (hs : isSg r.head = false) (ds : List PyData) (ps : List Str) : rg rs (.int (k : Nat) :: ds) (r.head :: ps) = rg rs ds (r.parts ++ ps) := by
  rw [rg_name hs, stp_nat h]
  rfl
theorem dropAll {α : Type} {f : α → Bool} : ∀ (l : List α), l.dropWhile f = [] ↔ l.all f = true
  | [] => by simp
  | a :: l => by
    by_cases c : f a = true
    · rw [List.dropWhile_cons_of_pos c, List.all_cons, c, Bool.true_and]; exact dropAll l
    · rw [List.dropWhile_cons_of_neg c, List.all_cons]
      simp [c]
theorem takeAll {α : Type} {f : α → Bool} : ∀ {l : List α}, l.all f = true → l.takeWhile f = l
  | [], _ => rfl
  | a :: l, h => by
    rw [List.all_cons, Bool.and_eq_true] at h
    rw [List.takeWhile_cons_of_pos h.1, takeAll h.2]
theorem rowGo_rg (rs : List Rl) : ∀ (ds : List PyData) (q : List Str) (c0 bg : List Nat), (rowEnd (rowGo rs ds ⟨q.dropWhile isSg, c0 ++ (q.takeWhile isSg).map codeOf, bg⟩)).map (·.1) = (rg rs ds q).map (c0 ++ ·)
  | [], q, c0, bg => by
    show (rowEnd (some _)).map _ = Option.map _ (if q.all isSg = true then some (q.map codeOf) else none)
    by_cases c : q.all isSg = true
    · rw [if_pos c, (dropAll q).mpr c, takeAll c]
      rfl
    · rw [if_neg c]
      cases e : q.dropWhile isSg with
      | nil => exact absurd ((dropAll q).mp e) c
      | cons x t => rfl
  | d :: ds, q, c0, bg => by
    show (rowEnd ((rowStep rs _ d).bind (rowGo rs ds))).map _ = Option.map _ ((stp rs d (q.dropWhile isSg)).bind _)
    unfold rowStep
    cases stp rs d (q.dropWhile isSg) with
    | none => rfl
    | some q' =>
      have ih := rowGo_rg rs ds q' (c0 ++ (q.takeWhile isSg).map codeOf) (bg ++ [(c0 ++ (q.takeWhile isSg).map codeOf).length])
      refine Eq.trans ih ?_
      show _ = Option.map _ (Option.map _ (rg rs ds q'))
      cases rg rs ds q' with
      | none => rfl
      | some z => simp
theorem rowRead_rg {rs : List Rl} {r0 : Rl} (h : rs[0]? = some r0) (hs : isSg r0.head = false) (ds : List PyData) : (rowRead rs ds).map (·.1) = rg rs ds [r0.head] := by
  have e := rowGo_rg rs ds [r0.head] [] []
  rw [List.dropWhile_cons_of_neg (by rw [hs]; simp), List.takeWhile_cons_of_neg (by rw [hs]; simp)] at e
  unfold rowRead
  rw [h]
  refine Eq.trans e ?_
  cases rg rs ds [r0.head] with
  | none => rfl
  | some z => rfl
theorem rowRead_none {rs : List Rl} (hg : ∀ r ∈ rs, isSg r.head = false) {ds : List PyData} : rowRead rs ds = none ↔ ∀ r0, rs[0]? = some r0 → rg rs ds [r0.head] = none := by
  constructor
  · intro h r0 h0
    rw [← rowRead_rg h0 (hg r0 (List.mem_of_getElem? h0)), h]
    rfl
  · intro h
    cases h0 : rs[0]? with
    | none => unfold rowRead; rw [h0]
    | some r0 =>
      have := rowRead_rg h0 (hg r0 (List.mem_of_getElem? h0)) ds
      rw [h r0 h0] at this
      cases e : rowRead rs ds with
      | none => rfl
      | some z => rw [e] at this; cases this
theorem stp_some {rs : List Rl} {d : PyData} {ps q : List Str} (h : stp rs d ps = some q) : ∃ (k : Nat) (r : Rl) (qs : List Str), d = .int (k : Nat) ∧ rs[k]? = some r ∧ ps = r.head :: qs ∧ q = r.parts ++ qs := by
  unfold stp at h
  split at h
  · rename_i i p ps'
    by_cases c : 0 ≤ i
    · rw [if_pos c] at h
      cases e : rs[i.toNat]? with
      | none => rw [e] at h; cases h
      | some r =>
        rw [e] at h
        have h : (if r.head = p then some (r.parts ++ ps') else none) = some q := h
        by_cases c2 : r.head = p
        · rw [if_pos c2] at h
          cases h
          exact ⟨i.toNat, r, ps', by rw [show ((i.toNat : Nat) : Int) = i by omega], e, by rw [c2], rfl⟩
        · rw [if_neg c2] at h; cases h
    · rw [if_neg c] at h; cases h
  · cases h
/-- a row that is read: each thing is the number of a rule -/
theorem rg_nums {rs : List Rl} : ∀ {ds : List PyData} {ps : List Str} {zs : List Nat}, rg rs ds ps = some zs → ∀ d ∈ ds, ∃ (k : Nat) (r : Rl), d = .int (k : Nat) ∧ rs[k]? = some r
  | [], _, _, _, d, hd => by cases hd
  | d :: ds, ps, zs, h, x, hx => by
    have h : (stp rs d (ps.dropWhile isSg)).bind (fun q => (rg rs ds q).map ((ps.takeWhile isSg).map codeOf ++ ·)) = some zs := h
    cases e : stp rs d (ps.dropWhile isSg) with
    | none => rw [e] at h; cases h
    | some q =>
      rw [e] at h
      obtain ⟨k, r, qs, e1, e2, _, _⟩ := stp_some e
      rcases List.mem_cons.mp hx with hx | hx
      · exact ⟨k, r, hx.trans e1, e2⟩
      · cases e3 : rg rs ds q with
        | none => rw [Option.bind_some, e3] at h; cases h
        | some z => exact rg_nums e3 x hx
theorem rg_ne {rs : List Rl} {p : Str} {zs : List Nat} {ds : List PyData} (hs : isSg p = false) (h : rg rs ds [p] = some zs) : ds ≠ [] := fun z => by
  rw [z, rg_name0 hs] at h
  cases h
def rowD (row : List Nat) : List PyData := row.map fun k => .int (k : Nat)
def strOf (zs : List Nat) : Str := ⟨zs.toArray⟩
theorem tl_strOf (zs : List Nat) : tl (strOf zs) = zs := by unfold tl strOf; simp
theorem strOf_app (a b : List Nat) : strOf a ++ strOf b = strOf (a ++ b) := by
  apply ext_tl
  rw [tl_append, tl_strOf, tl_strOf, tl_strOf]
theorem strOf_len (zs : List Nat) : (strOf zs).length = zs.length := by rw [len_tl, tl_strOf]
theorem strOf_nil : strOf [] = Str.ofString "" := by decide +kernel
/-! ### short rules -/
def isShort (r : Rl) : Prop := namesOf r = [] ∧ r.parts.length < 3
instance (r : Rl) : Decidable (isShort r) := inferInstanceAs (Decidable (_ ∧ _))
def shK (rs : List Rl) (E : Szs) (k : Nat) : Szs := match rs[k]? with
  | none => E
  | some r => if isShort r ∧ look E r.head = none then putS E r.head k else E
def shTo (rs : List Rl) (i : Nat) : Szs := (List.range i).foldl (shK rs) []
theorem shTo_step (rs : List Rl) (i : Nat) : shTo rs (i + 1) = shK rs (shTo rs i) i := by
  unfold shTo
  rw [List.range_succ, List.foldl_append]
  rfl
structure ShOk (rs : List Rl) (i : Nat) (E : Szs) : Prop where
  why : ∀ h k, look E h = some k → ∃ r, rs[k]? = some r ∧ r.head = h ∧ isShort r
  all : ∀ k r, k < i → rs[k]? = some r → isShort r → (look E r.head).isSome = true
  len : E.length ≤ i
theorem shTo_ok (rs : List Rl) : ∀ i, ShOk rs i (shTo rs i)
  | 0 => ⟨fun h k e => (nomatch e), fun k r h => absurd h (by omega), Nat.le_refl _⟩
  | i + 1 => by
    have ih := shTo_ok rs i
    rw [shTo_step]
    unfold shK
    cases hr : rs[i]? with
    | none =>
      refine ⟨ih.why, fun k r h1 h2 h3 => ?_, Nat.le_succ_of_le ih.len⟩
      by_cases c : k = i
      · rw [c, hr] at h2; cases h2
      · exact ih.all k r (by omega) h2 h3
    | some r =>
      show ShOk rs (i + 1) (if isShort r ∧ look (shTo rs i) r.head = none then putS (shTo rs i) r.head i else shTo rs i)
      by_cases c : isShort r ∧ look (shTo rs i) r.head = none
      · rw [if_pos c]
        refine ⟨fun h k e => ?_, fun k r' h1 h2 h3 => ?_, ?_⟩
        · rw [look_put] at e
          by_cases q : h = r.head
          · rw [if_pos q] at e
            cases e
            exact ⟨r, hr, q.symm, c.1⟩
          · rw [if_neg q] at e
            exact ih.why h k e
        · rw [look_put]
          by_cases q : r'.head = r.head
          · rw [if_pos q]; rfl
          · rw [if_neg q]
            by_cases c2 : k = i
            · rw [c2, hr] at h2; cases h2; exact absurd rfl q
            · exact ih.all k r' (by omega) h2 h3
        · rw [putS_none c.2, List.length_append]
          have := ih.len
          simp
          omega
      · rw [if_neg c]
        refine ⟨ih.why, fun k r' h1 h2 h3 => ?_, Nat.le_succ_of_le ih.len⟩
        by_cases c2 : k = i
        · rw [c2, hr] at h2
          cases h2
          cases e : look (shTo rs i) r.head with
          | some n => rfl
          | none => exact absurd ⟨h3, e⟩ c
        · exact ih.all k r' (by omega) h2 h3
/-- the short rules of all heads -/
def shorts (rs : List Rl) : Szs := shTo rs rs.length
theorem shorts_all {rs : List Rl} (g : Gr4 rs) : ∀ r ∈ rs, (look (shorts rs) r.head).isSome = true := fun r hr => by
  obtain ⟨r', h1, h2, h3, h4⟩ := g.short r hr
  obtain ⟨k, hk⟩ := List.mem_iff_getElem?.mp h1
  rw [← h2]
  refine (shTo_ok rs rs.length).all k r' (List.getElem?_eq_some_iff.mp hk).1 hk ⟨?_, h3⟩
  unfold namesOf
  rw [List.filter_eq_nil_iff]
  intro p hp
  rw [h4 p hp]
  simp
def needS (ps : List Str) : Nat := (ps.map fun p => if isSg p = true then 1 else 2).sum
theorem needS_app (a b : List Str) : needS (a ++ b) = needS a + needS b := by unfold needS; rw [List.map_append, List.sum_append]
theorem needS_cons (p : Str) (b : List Str) : needS (p :: b) = (if isSg p = true then 1 else 2) + needS b := by unfold needS; rw [List.map_cons, List.sum_cons]
theorem needS_len : ∀ (a : List Str), a.length ≤ needS a
  | [] => Nat.le_refl _
  | p :: a => by
    have := needS_len a
    rw [needS_cons, List.length_cons]
    split <;> omega
theorem needS_rev (a : List Str) : needS a.reverse = needS a := by unfold needS; rw [List.map_reverse, List.sum_reverse]
theorem needS_sg : ∀ {a : List Str}, (∀ p ∈ a, isSg p = true) → needS a = a.length
  | [], _ => rfl
  | p :: a, h => by
    rw [needS_cons, if_pos (h p (List.mem_cons_self ..)), needS_sg fun q hq => h q (List.mem_cons_of_mem _ hq), List.length_cons]
    omega
theorem isShort.sg {r : Rl} (h : isShort r) : ∀ p ∈ r.parts, isSg p = true := fun p hp => by
  have := List.filter_eq_nil_iff.mp h.1 p hp
  simpa using this
def wtS (ps : List Str) : Nat := (ps.map fun p => if isSg p = true then 1 else 3).sum
theorem wtS_app (a b : List Str) : wtS (a ++ b) = wtS a + wtS b := by unfold wtS; rw [List.map_append, List.sum_append]
theorem wtS_one (p : Str) : wtS [p] = if isSg p = true then 1 else 3 := by unfold wtS; simp
theorem wtS_rev (a : List Str) : wtS a.reverse = wtS a := by unfold wtS; rw [List.map_reverse, List.sum_reverse]
theorem wtS_le : ∀ (a : List Str), wtS a ≤ 3 * a.length
  | [] => Nat.le_refl _
  | p :: a => by
    have := wtS_le a
    have e : wtS (p :: a) = (if isSg p = true then 1 else 3) + wtS a := by unfold wtS; rw [List.map_cons, List.sum_cons]
    rw [e, List.length_cons]
    split <;> omega
theorem wtS_sg : ∀ {a : List Str}, (∀ p ∈ a, isSg p = true) → wtS a = a.length
  | [], _ => rfl
  | p :: a, h => by
    have e : wtS (p :: a) = (if isSg p = true then 1 else 3) + wtS a := by unfold wtS; rw [List.map_cons, List.sum_cons]
    rw [e, if_pos (h p (List.mem_cons_self ..)), wtS_sg fun q hq => h q (List.mem_cons_of_mem _ hq), List.length_cons]
    omega
theorem list_by {α : Type} {ys : List V} {xs : List α} {f : α → V} (hl : ys.length = xs.length) (h : ∀ (i : Nat) (y : V), ys[i]? = some y → ∃ x, xs[i]? = some x ∧ y = f x) : ys = xs.map f := by
  apply List.ext_getElem?
  intro i
  rw [List.getElem?_map]
  cases e : ys[i]? with
  | none =>
    rw [List.getElem?_eq_none (by have := List.getElem?_eq_none_iff.mp e; omega)]
    rfl
  | some y =>
    obtain ⟨x, h1, h2⟩ := h i y e
    rw [h1, h2]
    rfl
def wOf (rs : List Rl) : PyData → Int
  | .int i => ((rs[i.toNat]?).map Rl.worth).getD 0
  | _ => 0
def wsum (rs : List Rl) (ds : List PyData) : Int := (ds.map (wOf rs)).sum
theorem wsum_nat (rs : List Rl) (row : List Nat) : wsum rs (rowD row) = (row.map fun k => ((rs[k]?).map Rl.worth).getD 0).sum := by
  unfold wsum rowD
  rw [List.map_map]
  rfl
theorem tl_join0 (ms : List Str) : tl (Txt.join (Str.ofString "") ms) = ms.flatMap tl := by
  have e : tl (Str.ofString "") = [] := by decide +kernel
  have q : ∀ l : List (List Nat), joinL [] l = l.flatten := by
    intro l
    induction l with
    | nil => rfl
    | cons a l ih =>
      cases l with
      | nil => simp [joinL]
      | cons b l =>
        show a ++ ([] ++ joinL [] (b :: l)) = _
        rw [ih]
        simp
  rw [join_eq, tl_join, e, q, List.flatMap_def]
theorem join_ones (zs : List Nat) : Txt.join (Str.ofString "") (zs.map fun c => (⟨#[c]⟩ : Str)) = strOf zs := by
  apply ext_tl
  rw [tl_join0, tl_strOf, List.flatMap_map]
  induction zs with
  | nil => rfl
  | cons c zs ih => rw [List.flatMap_cons, ih]; rfl
theorem th_row {K : PySem.W.Frag} {H : Hp} {l : Addr} {row : List Nat} (h : SqL K H l (row.map fun k => V.int ((k : Nat) : Int))) : Th K H (.ref l) (.list (rowD row)) := .lst h (th_nats row)
theorem GoodG.hsg {rs : List Rl} (g : GoodG rs) : ∀ r ∈ rs, isSg r.head = false := fun r hr => name_sg (g.good r hr).head
theorem read_some {rs : List Rl} (g : GoodG rs) {ds : List PyData} {zs bg : List Nat} (h : rowRead rs ds = some (zs, bg)) : ∃ r0, rs[0]? = some r0 ∧ rg rs ds [r0.head] = some zs := by
  cases h0 : rs[0]? with
  | none => unfold rowRead at h; rw [h0] at h; cases h
  | some r0 =>
    refine ⟨r0, rfl, ?_⟩
    rw [← rowRead_rg h0 (g.hsg r0 (List.mem_of_getElem? h0)), h]
    rfl
theorem read_none {rs : List Rl} (g : GoodG rs) {d : PyData} (h : ∀ ds, d = .list ds → rowRead rs ds = none) : ∀ ds r0, d = .list ds → rs[0]? = some r0 → rg rs ds [r0.head] = none := fun ds r0 e h0 => (rowRead_none g.hsg).mp (h ds e) r0 h0
theorem row_get {rs : List Rl} {row : List Nat} {ps : List Str} {zs : List Nat} (h : rg rs (rowD row) ps = some zs) {k : Nat} (hk : k ∈ row) : ∃ r, rs[k]? = some r := by
  obtain ⟨k', r, e, hr⟩ := rg_nums h (.int (k : Nat)) (List.mem_map.mpr ⟨k, hk, rfl⟩)
  have : k = k' := by
    have := PyData.int.inj e
    omega
  subst this
  exact ⟨r, hr⟩
theorem rowD_ints (row : List Nat) : (row.map fun k => V.int ((k : Nat) : Int)) = (row.map fun k => ((k : Nat) : Int)).map V.int ∧ rowD row = (row.map fun k => ((k : Nat) : Int)).map PyData.int := by
  unfold rowD
  rw [List.map_map, List.map_map]
  exact ⟨rfl, rfl⟩

theorem atI_m1' {α : Type} {xs : List α} {y : α} (h0 : 0 < xs.length) (h : xs[xs.length - 1]? = some y) : atI xs (-1) = some y := by
  obtain ⟨ys, z, rfl⟩ : ∃ ys z, xs = ys ++ [z] := ⟨xs.dropLast, xs.getLast (List.length_pos_iff.mp h0), (List.dropLast_concat_getLast _).symm⟩
  rw [List.length_append, List.length_singleton, Nat.add_sub_cancel, List.getElem?_append_right (Nat.le_refl _), Nat.sub_self] at h
  cases h
  exact atI_last
def R_law_grammar (K : PySem.W.Frag) : V → Hp → VK → XK → Prop := fun x H Q _ => ∃ (a : Addr) (ns : List Int), x = .ref a ∧ SqL K H a (ns.map V.int) ∧ ns.length ≤ 63 ∧ ∀ l vs rs H', Same H H' → H l = none → H' l = some (.lst vs) → RulesAt H' vs rs → GoodG rs → Gr4 rs → Q (.ref l) H'
section
set_option hygiene false in
local macro_rules | `(tactic| top_name) => `(tactic| first | refine e_call (df_law_names T) (hr.mono (by decide)) ?_ | refine e_call (df_law_mixed T) (hr.mono (by decide)) ?_ | refine e_call (df_law_parts T) (hr.mono (by decide)) ?_ | refine e_call (df_law_signs T) (hr.mono (by decide)) ?_ | refine e_call (df_law_worth T) (hr.mono (by decide)) ?_ | refine e_call (df_law_cell_at T) (hr.mono (by decide)) ?_)
theorem ok_law_grammar {f : Addr} {fd : FuncData} (F : Fun K "_law_grammar" "_law_grammar" s_law_grammar f fd) (T : Txt K mg cs) : FnOk P w K mg base (L2.CX P w) 3 f fd ["_law_script"] (sp1 (R_law_grammar K)) := by
  refine F.okX sc_law_grammar (fun vs H Q E h => sp1_len h) (fun cdv A outer s H vs Q E hr h => ⟨_, PBw (X := X_law_grammar P w K mg base f cdv A outer s H E), ?_⟩)
  obtain ⟨a0, rfl, h⟩ := h
  have ib_range := T.b_range
  have ib_len := T.b_len
  have ib_int := T.b_int
  have hr' : Room 2 (X_law_grammar P w K mg base f cdv A outer s H E).A := hr
  replace hr := hr'
  clear hr'
  obtain ⟨a, ns, rfl, hS, hlen, h⟩ := h
  kxs_still
  refine ⟨_, _, _, rfl, hS, rfl, by decide, by decide, fun j j0 j1 => ?_⟩
  kxs_still
  refine ⟨j0, j1, fun l1 H1 nms s1 k1 hn hnm => ?_⟩
  kxs_still
  refine s_setLcP (blkOk_by (sc := defScope s_law_grammar) (own := [("_law_sign", 3)]) (by decide +kernel)) (fun _ y => ∃ p, y = .str p ∧ isPartS p = true ∧ isSg p = true) (j_list ?_)
  kxs_still
  refine ⟨_, _, _, rfl, s1.seq hS, rfl, by decide, by decide, fun jj jj0 jj1 => ?_⟩
  kxs_still
  refine ⟨jj0, fun l2 H2 cs s2 n2 k2 hc hcs => ?_⟩
  kxs_still
  refine ⟨⟨_, SqL.of k2⟩, _, _, _, walk_list (xs := cs.map fun c => V.str ⟨#[c]⟩), by rw [List.length_map]; omega, fun H' s' => SqL.of (s' _ _ k2), ?_, ?_⟩
  · rintro n x H' H2 hn s' ⟨rfl, hx⟩
    obtain ⟨c, hc1, rfl⟩ := map_get hx
    refine ⟨Same.refl _, fun _ _ _ _ _ => ?_⟩
    kxs_still
    refine ⟨rfl, Same.refl _, fun _ _ _ _ _ => ?_⟩
    kxs_still
    refine o_cat (by rw [q1len, one_len, sizeLine_eq]; decide) ?_
    exact ⟨⟨_, rfl, quote_part (hcs c (List.mem_of_getElem? hc1))⟩, Same.refl _⟩
  intro l3 H3 ys s3 n3 k3 e3 hy
  obtain ⟨ps, rfl, hps⟩ := strs_of (P := fun p => isPartS p = true ∧ isSg p = true) fun y hm => by
    obtain ⟨j, hj⟩ := List.mem_iff_getElem?.mp hm
    exact hy j y hj
  rw [List.length_map, List.length_map, hc] at e3
  have k13 := s3 _ _ (s2 _ _ k1)
  have s13 : Same H1 H3 := s2.trans s3
  have s03 := s1.trans s13
  kxs_still
  refine ⟨_, _, _, rfl, s03.seq hS, rfl, by decide, by decide, fun way way0 way1 => ?_⟩
  kxs_still
  refine n_lst (SqL.of k13) fun l4 H4 s4 n4 k4 _ => ?_
  rw [cutV_to _ (by omega), ← List.map_take] at k4
  have k34 := s4 _ _ k3
  have k14 := s4 _ _ k13
  obtain ⟨hds, ehd, hdl, hdn⟩ : ∃ hds, nms.take (1 + way % 3).toNat = hds ∧ 1 ≤ hds.length ∧ hds.length ≤ 3 := ⟨_, rfl, by rw [List.length_take]; omega, by rw [List.length_take]; omega⟩
  rw [ehd] at k4
  have hdm : ∀ n ∈ hds, n ∈ nms := fun n q => List.mem_of_mem_take (by rw [ehd]; exact q)
  kxs_still
  refine n_lst (SqL.of k34) fun l5 H5 s5 n5 k5 _ => ?_
  rw [cutV_to _ (by decide), ← List.map_take] at k5
  have k45 := s5 _ _ k4
  kxs_still
  refine o_catL k45 k5 (by simp only [List.length_map, List.length_take]; omega) fun l6 H6 s6 n6 k6 _ => ?_
  have k46 := s6 _ _ k45
  kxs_still
  refine o_catL k6 k46 (by simp only [List.length_append, List.length_map, List.length_take]; omega) fun l7 H7 s7 n7 k7 _ => ?_
  have k37 : H7 l3 = _ := s7 _ _ (s6 _ _ (s5 _ _ k34))
  kxs_still
  refine o_catL k7 k37 (by simp only [List.length_append, List.length_map, List.length_take]; omega) fun l8 H8 s8 n8 k8 _ => ?_
  have k18 : H8 l1 = _ := s8 _ _ (s7 _ _ (s6 _ _ (s5 _ _ k14)))
  kxs_still
  refine n_lst (SqL.of k18) fun l9 H9 s9 n9 k9 _ => ?_
  rw [cutV_from _ (by decide), ← List.map_drop] at k9
  have k89 := s9 _ _ k8
  refine o_catL k89 k9 (by simp only [List.length_append, List.length_map, List.length_take, List.length_drop]; omega) fun l10 H10 s10 n10 k10 _ => ?_
  obtain ⟨mn, emn, hmn, hmn2, lmn, lmn2⟩ : ∃ mn : List Str, (hds.map V.str ++ (ps.take (2 : Int).toNat).map V.str ++ hds.map V.str ++ ps.map V.str ++ (nms.drop (3 : Int).toNat).map V.str) = mn.map V.str ∧ (∀ p ∈ mn, isPartS p = true) ∧ (∀ p ∈ mn, isSg p = false → p ∈ nms) ∧ 0 < mn.length ∧ mn.length ≤ 1000 := by
    refine ⟨hds ++ ps.take 2 ++ hds ++ ps ++ nms.drop 3, by simp, ?_, ?_, ?_, ?_⟩
    · intro p hp
      simp only [List.mem_append] at hp
      have A : ∀ n ∈ nms, isPartS n = true := fun n q => by rw [isPartS, hnm n q, Bool.or_true]
      rcases hp with (((hp | hp) | hp) | hp) | hp
      · exact A _ (hdm _ hp)
      · exact (hps p (List.mem_of_mem_take hp)).1
      · exact A _ (hdm _ hp)
      · exact (hps p hp).1
      · exact A _ (List.mem_of_mem_drop hp)
    · intro p hp hs
      simp only [List.mem_append] at hp
      rcases hp with (((hp | hp) | hp) | hp) | hp
      · exact hdm _ hp
      · rw [(hps p (List.mem_of_mem_take hp)).2] at hs; cases hs
      · exact hdm _ hp
      · rw [(hps p hp).2] at hs; cases hs
      · exact List.mem_of_mem_drop hp
    · simp only [List.length_append]; omega
    · simp only [List.length_append, List.length_take, List.length_drop]; omega
  rw [emn] at k10
  kxs_still
  intro lr HR sR nR kR eR
  have s4R : Same H4 HR := s5.trans (s6.trans (s7.trans (s8.trans (s9.trans (s10.trans sR)))))
  have s3R : Same H3 HR := s4.trans s4R
  have k4R := s4R _ _ k4
  have n10R : H10 lr = none := nR
  have sHR : Same H HR := s03.trans s3R
  have kR1 : HR l1 = some (.lst (nms.map V.str)) := s3R _ _ k13
  have kR3 : HR l3 = some (.lst (ps.map V.str)) := s3R _ _ k3
  have kR4 : HR l4 = some (.lst (hds.map V.str)) := k4R
  have kR10 : HR l10 = some (.lst (mn.map V.str)) := sR _ _ k10
  have s410 : Same H4 H10 := s5.trans (s6.trans (s7.trans (s8.trans (s9.trans s10))))
  have ne3 : l3 ≠ lr := fun z => by rw [← z, (s4.trans s410) _ _ k3] at nR; cases nR
  have ne4 : l4 ≠ lr := fun z => by rw [← z, s410 _ _ k4] at nR; cases nR
  have ne10 : l10 ≠ lr := fun z => by rw [← z, k10] at nR; cases nR
  have nH : H lr = none := by
    cases e : H lr with
    | none => rfl
    | some o => have := (s03.trans (s4.trans (s5.trans (s6.trans (s7.trans (s8.trans (s9.trans s10))))))) _ _ e; rw [this] at nR; cases nR
  kxs_still
  refine s_for (j_rng1 ?_)
  kxs_still
  have nmh : ∀ i n, hds[i]? = some n → n ∈ nms ∧ isNameS n = true := fun i n q => ⟨hdm _ (List.mem_of_getElem? q), hnm _ (hdm _ (List.mem_of_getElem? q))⟩
  refine ⟨by rw [List.length_map]; omega, by rw [List.length_map]; omega, _, _, _, walk_range0, fun n σ' H' => ∃ (vs : List V) (rs : List Rl) (v8 v9 : Option V), σ' = [some (.ref a), some (.ref l1), some (.ref l3), none, some (.int way), some (.ref l4), some (.ref l10), some (.ref lr), v8, v9, none] ∧ (∀ b o, b ≠ lr → HR b = some o → H' b = some o) ∧ H' lr = some (.lst vs) ∧ RulesAt H' vs rs ∧ rs.length = n ∧ (∀ r ∈ rs, GoodR r) ∧ (∀ (i : Nat) (r : Rl), rs[i]? = some r → hds[i]? = some r.head ∧ r.parts.length < 3 ∧ ∀ p ∈ r.parts, isSg p = true), ⟨[], [], none, none, rfl, fun _ _ _ e => e, kR, RulesAt.nil, rfl, by simp, by simp⟩, fun _ _ _ _ _ => trivial, ?_, ?_⟩
  · rintro n x σ' H' H11 hn' ⟨vs, rs, v8, v9, rfl, e8, k11, hR, hl, hg, hh⟩ ⟨rfl, rfl⟩
    rw [List.length_map] at hn'
    have hvl := hR.len
    have s8' : Same H H11 := fun b o q => e8 b o (ne_of_none q nH) (sHR _ _ q)
    have k411 := e8 _ _ ne4 kR4
    have k311 := e8 _ _ ne3 kR3
    have hS11 := s8'.seq hS
    obtain ⟨hd, hhd⟩ : ∃ hd, hds[n]? = some hd := ⟨_, List.getElem?_eq_getElem hn'⟩
    have hat : atI (hds.map V.str) ((n : Nat) : Int) = some (.str hd) := atI_nat (by omega) (by rw [show ((n : Nat) : Int).toNat = n by omega, List.getElem?_map, hhd]; rfl)
    kxs_still
    refine ⟨_, _, _, rfl, hS11, rfl, by omega, by omega, fun c c0 c1 => ?_⟩
    kxs_still
    refine ⟨ty_l k11, ?_⟩
    kxs_still
    refine ⟨c, 2, l3, ps, rfl, rfl, k311, rfl, by decide, by decide, c0, by omega, by omega, fun t H12 qs s12 k12 _ hq hqs => ?_⟩
    kxs_still
    refine ⟨_, _, _, rfl, s12.seq hS11, rfl, by omega, ?_⟩
    kxs_still
    intro wo w0 w1
    kxs_still
    intro t2 H13 s13' n13 k13' _
    kxs_still
    have k11' := s13' _ _ (s12 _ _ k11)
    refine m_append k11' (by omega) fun H14 k14 e14 => ?_
    have t14 : TS H13 H14 := TS.butL k11' e14
    have hR' : RulesAt H14 vs rs := hR.ts (TS.trans (Same.ts (s12.trans s13')) t14)
    have new : GoodR ⟨hd, qs, wo⟩ := ⟨(nmh _ _ hhd).2, by omega, fun p hp => (hps p (hqs p hp)).1, w0, w1⟩
    kxs_still
    refine ⟨_, rs ++ [⟨hd, qs, wo⟩], _, _, rfl, fun b o hb e => ?_, k14, hR'.app (RulesAt.cons ⟨t2, t, rfl, t14 _ _ k13', t14 _ _ (s13' _ _ k12)⟩ RulesAt.nil), by rw [List.length_append, hl]; rfl, fun r hr => ?_, fun i r hr => ?_⟩
    · rw [e14 b hb]
      exact s13' _ _ (s12 _ _ (e8 b o hb e))
    · rcases List.mem_append.mp hr with q | q
      · exact hg r q
      · rw [List.mem_singleton.mp q]
        exact new
    · by_cases c : i < rs.length
      · rw [List.getElem?_append_left c] at hr
        exact hh i r hr
      · have hlt := (List.getElem?_eq_some_iff.mp hr).1
        rw [List.length_append] at hlt
        have hlt : i < rs.length + 1 := hlt
        have ei : i = rs.length := by omega
        rw [ei, List.getElem?_append_right (Nat.le_refl _), Nat.sub_self] at hr
        cases hr
        exact ⟨by rw [ei, hl]; exact hhd, by show qs.length < 3; omega, fun p hp => (hps p (hqs p hp)).2⟩
  rintro σ' H' ⟨vs1, rs1, v8, v9, rfl, f1, kf1, hR1, hl1, hg1, hh1⟩
  rw [List.length_map] at hl1
  kxs_still
  have hin : ∀ (r : Rl), r ∈ rs1 → ∃ i : Nat, rs1[i]? = some r := fun r hr => List.mem_iff_getElem?.mp hr
  refine s_for (j_rng1 ?_)
  kxs_still
  refine ⟨by omega, by omega, _, _, _, walk_range0, fun n σ' H' => ∃ (vs : List V) (rs : List Rl) (v8 v9 v10 : Option V), σ' = [some (.ref a), some (.ref l1), some (.ref l3), none, some (.int way), some (.ref l4), some (.ref l10), some (.ref lr), v8, v9, v10] ∧ (∀ b o, b ≠ lr → HR b = some o → H' b = some o) ∧ H' lr = some (.lst vs) ∧ RulesAt H' vs rs ∧ rs.length = hds.length + n ∧ (∀ r ∈ rs, GoodR r) ∧ (∀ r ∈ rs, r.head ∈ nms ∧ (∀ p ∈ r.parts, isSg p = false → p ∈ nms) ∧ ∃ r' ∈ rs1, r'.head = r.head) ∧ (∀ r ∈ rs1, r ∈ rs), ⟨vs1, rs1, v8, v9, none, rfl, f1, kf1, hR1, hl1, hg1, fun r hr => ?_, fun r hr => hr⟩, fun _ _ _ _ _ => trivial, ?_, ?_⟩
  · obtain ⟨i, hi⟩ := hin r hr
    obtain ⟨q1, q2, q3⟩ := hh1 i r hi
    exact ⟨(nmh _ _ q1).1, fun p hp hs => absurd hs (by rw [q3 p hp]; simp), r, hr, rfl⟩
  · rintro n x σ' H' H11 hn' ⟨vs, rs, v8, v9, v10, rfl, e8, k11, hR, hl, hg, hh, hk⟩ ⟨rfl, rfl⟩
    have hvl := hR.len
    have s8' : Same H H11 := fun b o q => e8 b o (ne_of_none q nH) (sHR _ _ q)
    have k411 := e8 _ _ ne4 kR4
    have k1011 := e8 _ _ ne10 kR10
    have hS11 := s8'.seq hS
    kxs_still
    refine ⟨_, _, _, rfl, hS11, rfl, by omega, by omega, fun c c0 c1 => ?_⟩
    kxs_still
    refine k_intB ?_
    obtain ⟨w1, hw1, hw0, hw2⟩ : ∃ w1 : Int, (if decide (way / 24 % 5 = ((n : Nat) : Int)) = true then (1 : Int) else 0) = w1 ∧ 0 ≤ w1 ∧ w1 ≤ 1 := ⟨_, rfl, by split <;> decide, by split <;> decide⟩
    rw [hw1]
    refine o_mulS (.inl ⟨by omega, by omega⟩) ?_
    kxs_still
    refine ⟨c / 3, _, l10, mn, rfl, rfl, k1011, rfl, by omega, by omega, by omega, by omega, by omega, fun t H12 qs s12 k12 hq6 hq hqs => ?_⟩
    have k412 := s12 _ _ k411
    have hz0 : 0 ≤ c % 3 % (hds.length : Int) := Int.emod_nonneg _ (by omega)
    have hz1 : c % 3 % (hds.length : Int) < hds.length := Int.emod_lt_of_pos _ (by omega)
    obtain ⟨v, hv, h', rfl, hh'⟩ := ix_any (i := c % 3 % (hds.length : Int)) k412 (fun v => ∃ h, v = .str h ∧ h ∈ hds) (fun x hx => by
      obtain ⟨q, q1, q2⟩ := List.mem_map.mp hx
      exact ⟨q, q2.symm, q1⟩) hz0 (by rw [List.length_map]; exact hz1)
    have k1112 := s12 _ _ k11
    kxs_still
    refine ⟨ty_l k1112, ?_⟩
    kxs_still
    refine o_mod (by rw [List.length_map]; omega) ?_
    rw [List.length_map]
    refine i_lst (SqL.of k412) hv ?_
    kxs_still
    refine ⟨_, _, _, rfl, s12.seq hS11, rfl, by omega, ?_⟩
    kxs_still
    intro wo w0 w1
    kxs_still
    intro t2 H13 s13' n13 k13' _
    kxs_still
    have k11' := s13' _ _ k1112
    refine m_append k11' (by omega) fun H14 k14 e14 => ?_
    have t14 : TS H13 H14 := TS.butL k11' e14
    have hR' : RulesAt H14 vs rs := hR.ts (TS.trans (Same.ts (s12.trans s13')) t14)
    obtain ⟨ih, hih⟩ := List.mem_iff_getElem?.mp hh'
    have new : GoodR ⟨h', qs, wo⟩ := ⟨(nmh _ _ hih).2, hq6, fun p hp => hmn p (hqs p hp), w0, w1⟩
    kxs_still
    refine ⟨_, rs ++ [⟨h', qs, wo⟩], _, _, _, rfl, fun b o hb e => ?_, k14, hR'.app (RulesAt.cons ⟨t2, t, rfl, t14 _ _ k13', t14 _ _ (s13' _ _ k12)⟩ RulesAt.nil), by rw [List.length_append, hl]; rfl, fun r hr => ?_, fun r hr => ?_, fun r hr => List.mem_append_left _ (hk r hr)⟩
    · rw [e14 b hb]
      exact s13' _ _ (s12 _ _ (e8 b o hb e))
    · rcases List.mem_append.mp hr with q | q
      · exact hg r q
      · rw [List.mem_singleton.mp q]
        exact new
    · rcases List.mem_append.mp hr with q | q
      · exact hh r q
      · rw [List.mem_singleton.mp q]
        refine ⟨(nmh _ _ hih).1, fun p hp hs => hmn2 p (hqs p hp) hs, ?_⟩
        obtain ⟨r1, hr1⟩ : ∃ r1, rs1[ih]? = some r1 := ⟨_, List.getElem?_eq_getElem (by have := (List.getElem?_eq_some_iff.mp hih).1; omega)⟩
        obtain ⟨z1, _⟩ := hh1 ih r1 hr1
        rw [hih] at z1
        exact ⟨r1, List.mem_of_getElem? hr1, (Option.some.inj z1).symm⟩
  rintro σ' H' ⟨vs, rs, v8', v9', v10', rfl, f2, kf2, hR, hl, hg, hh, hk⟩
  have hhd : ∀ hd, hd ∈ hds → ∃ r' ∈ rs1, r'.head = hd := fun hd hm => by
    obtain ⟨ih, hih⟩ := List.mem_iff_getElem?.mp hm
    obtain ⟨r1, hr1⟩ : ∃ r1, rs1[ih]? = some r1 := ⟨_, List.getElem?_eq_getElem (by have := (List.getElem?_eq_some_iff.mp hih).1; omega)⟩
    obtain ⟨z1, _⟩ := hh1 ih r1 hr1
    rw [hih] at z1
    exact ⟨r1, List.mem_of_getElem? hr1, (Option.some.inj z1).symm⟩
  refine b_cons (sMono (fun σ' H' => ∃ (vs : List V) (rs : List Rl), σ' = [some (.ref a), some (.ref l1), some (.ref l3), none, some (.int way), some (.ref l4), some (.ref l10), some (.ref lr), v8', v9', v10'] ∧ (∀ b o, b ≠ lr → HR b = some o → H' b = some o) ∧ H' lr = some (.lst vs) ∧ RulesAt H' vs rs ∧ 1 ≤ rs.length ∧ rs.length ≤ 9 ∧ (∀ r ∈ rs, GoodR r) ∧ (∀ r ∈ rs, r.head ∈ nms ∧ (∀ p ∈ r.parts, isSg p = false → p ∈ nms) ∧ ∃ r' ∈ rs1, r'.head = r.head) ∧ (∀ r ∈ rs1, r ∈ rs)) ?_ ?_)
  · kxs_still
    refine iteD (fun _ => ?_) fun _ => ?_
    · have k4' := f2 _ _ ne4 kR4
      obtain ⟨h0, hh0⟩ : ∃ h0, hds[0]? = some h0 := ⟨_, List.getElem?_eq_getElem (by omega)⟩
      obtain ⟨hz, hhz⟩ : ∃ hz, hds[hds.length - 1]? = some hz := ⟨_, List.getElem?_eq_getElem (by omega)⟩
      have a0 : atI (hds.map V.str) (0 : Int) = some (.str h0) := atI_nat (by decide) (by rw [show (0 : Int).toNat = 0 from rfl, List.getElem?_map, hh0]; rfl)
      have az : atI (hds.map V.str) (-1) = some (.str hz) := atI_m1' (by rw [List.length_map]; omega) (by rw [List.length_map, List.getElem?_map, hhz]; rfl)
      have m0 := List.mem_of_getElem? hh0
      have mz := List.mem_of_getElem? hhz
      kxs_still
      refine ⟨ty_l kf2, ?_⟩
      kxs_still
      intro t1 H11 s11 n11 k11 _
      kxs_still
      intro t2 H12 s12 n12 k12 _
      kxs_still
      refine m_append (s12 _ _ (s11 _ _ kf2)) (by have := hR.len; omega) fun H13 k13 e13 => ?_
      have t13 : TS H12 H13 := TS.butL (s12 _ _ (s11 _ _ kf2)) e13
      have f13 : ∀ b o, b ≠ lr → HR b = some o → H13 b = some o := fun b o hb e => by rw [e13 b hb]; exact s12 _ _ (s11 _ _ (f2 b o hb e))
      have hR13 : RulesAt H13 (vs ++ [.ref t2]) (rs ++ [⟨h0, [hz], 0⟩]) := (hR.ts ((Same.ts (s11.trans s12)).trans t13)).app (RulesAt.cons ⟨t2, t1, rfl, t13 _ _ k12, t13 _ _ (s12 _ _ k11)⟩ RulesAt.nil)
      have k4'' := f13 _ _ ne4 kR4
      kxs_still
      refine ⟨ty_l k13, ?_⟩
      kxs_still
      intro t3 H14 s14 n14 k14 _
      kxs_still
      intro t4 H15 s15 n15 k15 _
      kxs_still
      refine m_append (s15 _ _ (s14 _ _ k13)) (by rw [List.length_append]; have := hR.len; show vs.length + 1 < _; omega) fun H16 k16 e16 => ?_
      have t16 : TS H15 H16 := TS.butL (s15 _ _ (s14 _ _ k13)) e16
      have A : ∀ n ∈ nms, isPartS n = true := fun n q => by rw [isPartS, hnm n q, Bool.or_true]
      have new : ∀ x ∈ hds, ∀ y ∈ hds, ∀ w : Int, (w = 0 ∨ w = 1) → GoodR ⟨x, [y], w⟩ := fun x hx y hy w hw => ⟨hnm _ (hdm _ hx), by show 1 ≤ 6; decide, fun p hp => by rw [List.mem_singleton.mp hp]; exact A _ (hdm _ hy), (by show 0 ≤ w; rcases hw with rfl | rfl <;> decide), (by show w ≤ top60; rcases hw with rfl | rfl <;> decide +kernel)⟩
      kxs_still
      refine ⟨_, rs ++ [⟨h0, [hz], 0⟩] ++ [⟨hz, [h0], 1⟩], rfl, fun b o hb e => ?_, k16, (hR13.ts ((Same.ts (s14.trans s15)).trans t16)).app (RulesAt.cons (r := ⟨hz, [h0], 1⟩) ⟨t4, t3, rfl, t16 _ _ k15, t16 _ _ (s15 _ _ k14)⟩ RulesAt.nil), by simp only [List.length_append, List.length_cons, List.length_nil]; omega, by simp only [List.length_append, List.length_cons, List.length_nil]; omega, fun r hr => ?_, fun r hr => ?_, fun r hr => List.mem_append_left _ (List.mem_append_left _ (hk r hr))⟩
      · rw [e16 b hb]
        exact s15 _ _ (s14 _ _ (f13 b o hb e))
      · rcases List.mem_append.mp hr with q | q
        · rcases List.mem_append.mp q with q | q
          · exact hg r q
          · rw [List.mem_singleton.mp q]; exact new _ m0 _ mz 0 (.inl rfl)
        · rw [List.mem_singleton.mp q]; exact new _ mz _ m0 1 (.inr rfl)
      · rcases List.mem_append.mp hr with q | q
        · rcases List.mem_append.mp q with q | q
          · exact hh r q
          · rw [List.mem_singleton.mp q]
            exact ⟨hdm _ m0, fun p hp _ => by rw [List.mem_singleton.mp hp]; exact hdm _ mz, hhd _ m0⟩
        · rw [List.mem_singleton.mp q]
          exact ⟨hdm _ mz, fun p hp _ => by rw [List.mem_singleton.mp hp]; exact hdm _ m0, hhd _ mz⟩
    · kxs_still
      exact ⟨vs, rs, rfl, f2, kf2, hR, by omega, by omega, hg, hh, hk⟩
  clear hl hg hh hk hR kf2 f2
  rintro σ' H' ⟨vs, rs, rfl, f2, kf2, hR, hl1', hl9, hg, hh, hk⟩
  kxs_still
  have sEnd : Same H H' := fun b o q => f2 b o (ne_of_none q nH) (sHR _ _ q)
  have rl2 : rs.length ≤ 9 := hl9
  have good : GoodG rs := ⟨by omega, hg⟩
  have gr4 : ∀ rs', (∀ r, r ∈ rs' ↔ r ∈ rs) → rs'.length = rs.length → Gr4 rs' := fun rs' hm hl' => by
    refine ⟨⟨nms, hn, hnm, fun r hr => ⟨(hh r ((hm r).mp hr)).1, (hh r ((hm r).mp hr)).2.1⟩⟩, fun r hr => ?_, by omega, by omega, ⟨rs1.map Rl.head, by rw [List.length_map]; omega, fun r hr => by obtain ⟨r', m, e⟩ := (hh r ((hm r).mp hr)).2.2; exact List.mem_map.mpr ⟨r', m, e⟩⟩⟩
    obtain ⟨r', q1, q2⟩ := (hh r ((hm r).mp hr)).2.2
    obtain ⟨i, hi⟩ := hin r' q1
    obtain ⟨_, z2, z3⟩ := hh1 i r' hi
    exact ⟨r', (hm r').mpr (hk r' q1), q2, z2, z3⟩
  refine iteD (fun cr => ?_) fun cr => ?_
  · kxs_still
    refine e_reverse ?_
    kxs_still
    refine ⟨ty_l kf2, ?_⟩
    refine m_reverse kf2 fun H15 k15 e15 => ?_
    kxs_still
    exact h lr vs.reverse rs.reverse H15 (fun b o q => by rw [e15 b (ne_of_none q nH)]; exact sEnd _ _ q) nH k15 (hR.ts (TS.butL kf2 e15)).rev ⟨by rw [List.length_reverse]; omega, fun r hr => hg r (List.mem_reverse.mp hr)⟩ (gr4 _ (fun r => List.mem_reverse) (List.length_reverse ..))
  · kxs_still
    exact h lr vs rs H' sEnd nH kf2 hR good (gr4 _ (fun r => Iff.rfl) rfl)

end
theorem df_law_grammar (T : Txt K mg cs) : Df P w K mg base "_law_grammar" 3 ["_law_script"] (sp1 (R_law_grammar K)) := by
  obtain ⟨f, fd, hm, F, hb⟩ := T.f_law_grammar.ex
  exact ⟨f, fd, hm, F.kp, hb, ok_law_grammar F T⟩
theorem lk_has {κ α : Type} [DecidableEq κ] {F : List (κ × α)} {n : κ} (h : n ∈ F.map (·.1)) : ∃ v, lk F n = some v := by
  induction F with
  | nil => cases h
  | cons q F ih =>
    show ∃ v, (if q.1 = n then some q.2 else lk F n) = some v
    by_cases c : q.1 = n
    · exact ⟨q.2, if_pos c⟩
    · rw [if_neg c]
      rcases List.mem_cons.mp h with h | h
      · exact absurd h.symm c
      · exact ih h
theorem text_strOf {zs : List Nat} (h1 : zs.length ≤ 60) (h2 : ∀ z ∈ zs, okc z = true) : isTextD (.str (strOf zs)) = true := by
  show (decide ((strOf zs).length ≤ 60) && (tl (strOf zs)).all okc) = true
  rw [strOf_len, tl_strOf, decide_eq_true h1, Bool.true_and, List.all_eq_true]
  exact h2
theorem Std.short {rs : List Rl} {t : List Nat} {F : Hts} (s : Std rs t F) (hG : GoodG rs) : ∀ n ∈ F.map (·.1), ∀ p i j, n = .pt p i j → p.length ≤ 1000000 := by
  intro n hn p i j e
  obtain ⟨h, hh⟩ := lk_has hn
  have d := ((s.ht n h).mp hh).1
  cases d with
  | sign e1 =>
    cases e
    rw [len_tl, tl_sgn]
    show 2 ≤ _
    decide
  | zero => cases e
  | step => cases e
  | head hr =>
    cases e
    exact Nat.le_trans (name_len (hG.good _ (List.mem_of_getElem? hr)).head) (by decide)

/-! ### a least row with a rule -/
/-- a dict from each head to the numbers of its rules -/
structure ByAt (H : Hp) (d : Addr) (kvs : List (Key × V)) (rs : List Rl) (L : Str → Option Addr) (i : Nat) : Prop where
  val : ∀ h, valV kvs (.inr h) = (L h).map V.ref
  inj : ∀ h h' l, L h = some l → L h' = some l → h = h'
  at_ : ∀ h l, L h = some l → l ≠ d ∧ H l = some (.lst (numV (numsTo rs h i)))
  non : ∀ h, L h = none → numsTo rs h i = []
  len : kvs.length ≤ i
def R_rules_by_head (K : PySem.W.Frag) : V → Hp → VK → XK → Prop := fun x H Q _ => ∃ (a : Addr) (vs : List V) (rs : List Rl), x = .ref a ∧ SqL K H a vs ∧ RulesAt H vs rs ∧ GoodG rs ∧ ∀ (d : Addr) (kvs : List (Key × V)) (L : Str → Option Addr) (H' : Hp), Same H H' → H d = none → H' d = some (.dK kvs) → ByAt H' d kvs rs L rs.length → Q (.ref d) H'
section
theorem ok_rules_by_head {f : Addr} {fd : FuncData} (F : Fun K "rules_by_head" "rules_by_head" s_rules_by_head f fd) (T : Txt K mg cs) : FnOk P w K mg base (L2.CX P w) 1 f fd ["rules"] (sp1 (R_rules_by_head K)) := by
  refine F.okX sc_rules_by_head (fun vs H Q E h => sp1_len h) (fun cdv A outer s H vs Q E hr h => ⟨_, PBw (X := X_rules_by_head P w K mg base f cdv A outer s H E), ?_⟩)
  obtain ⟨a0, rfl, h⟩ := h
  have ib_enumerate := T.b_enumerate
  have hr' : Room 0 (X_rules_by_head P w K mg base f cdv A outer s H E).A := hr
  replace hr := hr'
  clear hr'
  obtain ⟨a, vs, rs, rfl, hS, hR, hG, h⟩ := h
  have hvl := hR.len
  have h60 := hG.few
  kxs_still
  intro d H1 s1 n1 k1 _
  have hS1 := s1.seq hS
  kxs_still
  refine s_for (j_enum ?_)
  kxs_still
  refine ⟨a, vs, rfl, hS1, _, _, _, walk_enumL (xs := vs), fun i σ' H' => ∃ (kvs : List (Key × V)) (L : Str → Option Addr) (v2 v3 : Option V), σ' = [some (.ref a), some (.ref d), v2, v3] ∧ Same H H' ∧ H' d = some (.dK kvs) ∧ ByAt H' d kvs rs L i ∧ (∀ h l, L h = some l → H l = none), ⟨[], fun _ => none, none, none, rfl, s1, k1, ⟨fun _ => rfl, (fun _ _ _ e => nomatch e), (fun _ _ e => nomatch e), fun _ _ => rfl, Nat.le_refl _⟩, (fun _ _ e => nomatch e)⟩, ?_, ?_, ?_⟩
  · rintro i σ' H' hi ⟨_, _, _, _, _, s, _⟩
    exact s.seq hS
  · rintro i x σ' H' H2 hi ⟨kvs, L, v2, v3, rfl, s2, k2, hby, hfr⟩ ⟨T1, x1, rfl, nT1, rfl, hx⟩
    have kT1 : (upd H' T1 (.tup [V.int (i : Nat), x1])) T1 = some (.tup [V.int (i : Nat), x1]) := upd_same
    have sT1 := sameU (o := .tup [V.int (i : Nat), x1]) nT1
    generalize upd H' T1 (.tup [V.int (i : Nat), x1]) = H7 at kT1 sT1
    obtain ⟨r, hr1⟩ : ∃ r, rs[i]? = some r := ⟨_, List.getElem?_eq_getElem (by omega)⟩
    obtain ⟨ra, rb, hv, _, e1, e2⟩ := hR.at' hr1
    rw [hx] at hv
    obtain rfl := Option.some.inj hv
    have s07 := s2.trans sT1
    have e17 := s07 _ _ e1
    have k27 := sT1 _ _ k2
    kxs_still
    refine e_dsetd ?_
    kxs_still
    refine ⟨.inl ⟨_, .inl k27⟩, ?_⟩
    kxs_still
    intro l0 H8 s8 n8 k8 e8
    have k28 := s8 _ _ k27
    have n0d : l0 ≠ d := fun z => by rw [z, k27] at n8; cases n8
    have s08 := s07.trans s8
    have n0 : H l0 = none := s07.none n8
    have h38 : ∀ {l : Addr} {xs : List V}, H' l = some (.lst xs) → H8 l = some (.lst xs) := fun q => s8 _ _ (sT1 _ _ q)
    have nl0 : ∀ {l : Addr} {o : HO}, H' l = some o → l ≠ l0 := fun {l o} q z => by rw [← z] at n8; rw [sT1 _ _ q] at n8; cases n8
    have step : ∀ h, numsTo rs h (i + 1) = numsTo rs h i ++ (if r.head = h then [i] else []) := fun h => by
      rw [nums_step, hr1]
      congr 1
      by_cases q : r.head = h
      · rw [if_pos q]; exact if_pos (show some r.head = some h by rw [q])
      · rw [if_neg q]; exact if_neg fun z => q (Option.some.inj z)
    have hlen := hby.len
    refine ⟨kvs, .inr r.head, k28, rfl, by omega, fun v hv => ?_, fun hn H9 k9 e9 => ?_⟩
    · rw [hby.val] at hv
      cases hL : L r.head with
      | none => rw [hL] at hv; cases hv
      | some l =>
        rw [hL] at hv
        cases hv
        obtain ⟨q1, q2⟩ := hby.at_ _ _ hL
        have q8 := h38 q2
        kxs_still
        refine ⟨ty_l q8, ?_⟩
        kxs_still
        refine m_append q8 (by unfold numV numsTo; rw [List.length_map]; have := List.length_filter_le (fun k => decide (rs[k]?.map Rl.head = some r.head)) (List.range i); rw [List.length_range] at this; omega) fun H10 k10 e10 => ?_
        kxs_still
        refine ⟨kvs, L, _, _, rfl, fun b o q => ?_, ?_, ⟨hby.val, hby.inj, fun h' l' hl' => ?_, fun h' hl' => ?_, by omega⟩, hfr⟩
        · rw [e10 b (ne_of_none q (hfr _ _ hL))]
          exact s08 _ _ q
        · rw [e10 d q1.symm]
          exact k28
        · obtain ⟨w1, w2⟩ := hby.at_ _ _ hl'
          refine ⟨w1, ?_⟩
          rw [step]
          by_cases q : r.head = h'
          · subst q
            rw [hL] at hl'
            cases hl'
            rw [if_pos rfl, k10]
            unfold numV
            rw [List.map_append]
            rfl
          · rw [if_neg q, List.append_nil, e10 l' (fun z => q (hby.inj _ _ l hL (by rw [← z]; exact hl')))]
            exact h38 w2
        · rw [step, if_neg (fun q => by rw [q] at hL; rw [hL] at hl'; cases hl'), List.append_nil]
          exact hby.non _ hl'
    · rw [hby.val] at hn
      have hL : L r.head = none := by
        cases q : L r.head with
        | none => rfl
        | some l => rw [q] at hn; cases hn
      have k09 : H9 l0 = some (.lst []) := by rw [e9 l0 n0d]; exact k8
      kxs_still
      refine ⟨ty_l k09, ?_⟩
      kxs_still
      refine m_append k09 (by decide) fun H10 k10 e10 => ?_
      kxs_still
      refine ⟨putK kvs (.inr r.head) (V.ref l0), fun h => if h = r.head then some l0 else L h, _, _, rfl, fun b o q => ?_, ?_, ⟨fun h' => ?_, fun h1 h2 l q1 q2 => ?_, fun h' l' hl' => ?_, fun h' hl' => ?_, ?_⟩, fun h' l' hl' => ?_⟩
      · rw [e10 b (ne_of_none q n0), e9 b (ne_of_none q n1)]
        exact s08 _ _ q
      · rw [e10 d n0d.symm]
        exact k9
      · rw [valV_put, hby.val]
        by_cases q : h' = r.head
        · rw [if_pos q, if_pos (by rw [q])]; rfl
        · rw [if_neg q, if_neg fun z => q (Sum.inr.inj z)]
      · have no : ∀ h, L h = some l → l ≠ l0 := fun h q => nl0 (hby.at_ _ _ q).2
        by_cases c1 : h1 = r.head
        · by_cases c2 : h2 = r.head
          · rw [c1, c2]
          · simp only [if_pos c1] at q1
            simp only [if_neg c2] at q2
            exact absurd (Option.some.inj q1).symm (no _ q2)
        · by_cases c2 : h2 = r.head
          · simp only [if_neg c1] at q1
            simp only [if_pos c2] at q2
            exact absurd (Option.some.inj q2).symm (no _ q1)
          · simp only [if_neg c1] at q1
            simp only [if_neg c2] at q2
            exact hby.inj _ _ _ q1 q2
      · by_cases c1 : h' = r.head
        · simp only [if_pos c1] at hl'
          cases hl'
          refine ⟨n0d, ?_⟩
          rw [step, if_pos c1.symm, c1, hby.non _ hL, k10]
          rfl
        · simp only [if_neg c1] at hl'
          obtain ⟨w1, w2⟩ := hby.at_ _ _ hl'
          refine ⟨w1, ?_⟩
          rw [step, if_neg fun z => c1 z.symm, List.append_nil, e10 l' (nl0 w2), e9 l' w1]
          exact h38 w2
      · by_cases c1 : h' = r.head
        · simp only [if_pos c1] at hl'
          cases hl'
        · simp only [if_neg c1] at hl'
          rw [step, if_neg fun z => c1 z.symm, List.append_nil]
          exact hby.non _ hl'
      · have := length_putK kvs (.inr r.head) (V.ref l0)
        omega
      · by_cases c1 : h' = r.head
        · simp only [if_pos c1] at hl'
          cases hl'
          exact n0
        · simp only [if_neg c1] at hl'
          exact hfr _ _ hl'
  · rintro σ' H' ⟨kvs, L, v2, v3, rfl, s2, k2, hby, hfr⟩
    kxs_still
    rw [hvl] at hby
    exact h d kvs L H' s2 n1 k2 hby

end
theorem df_rules_by_head (T : Txt K mg cs) : Df P w K mg base "rules_by_head" 1 ["rules"] (sp1 (R_rules_by_head K)) := by
  obtain ⟨f, fd, hm, F, hb⟩ := T.f_rules_by_head.ex
  exact ⟨f, fd, hm, F.kp, hb, ok_rules_by_head F T⟩
/-! ### the ways of a node, among what stands -/
abbrev Way : Type := List Nd
def plen (rs : List Rl) (r : Nat) : Nat := ((rs[r]?).map (·.parts.length)).getD 0
def headWays (rs : List Rl) (F : Hts) (i j : Nat) (l : List Nat) : List Way := (l.filter fun r => (lk F (.ru r (plen rs r) i j)).isSome).map fun r => [.ru r (plen rs r) i j]
def cutOk (F : Hts) (X : Str) (r d i j k : Nat) : Bool := (lk F (.ru r d i k)).isSome && (lk F (.pt X k j)).isSome
def cutWays (F : Hts) (X : Str) (r d i j n : Nat) : List Way := ((List.range n).filter fun k => cutOk F X r d i j (i + k)).map fun k => [.ru r d i (i + k), .pt X (i + k) j]
def waysN (rs : List Rl) (F : Hts) : Nd → List Way
  | .pt X i j => if isSg X = true then [[]] else headWays rs F i j (nums rs X)
  | .ru _ 0 _ _ => [[]]
  | .ru r (d + 1) i j => match (rs[r]?).bind (·.parts[d]?) with
    | none => []
    | some X => cutWays F X r d i j (j + 1 - i)
theorem cutWays_succ (F : Hts) (X : Str) (r d i j n : Nat) : cutWays F X r d i j (n + 1) = cutWays F X r d i j n ++ (if cutOk F X r d i j (i + n) = true then [[.ru r d i (i + n), .pt X (i + n) j]] else []) := by
  unfold cutWays
  rw [List.range_succ, List.filter_append, List.map_append]
  congr 1
  cases c : cutOk F X r d i j (i + n) with
  | true => rw [List.filter_cons_of_pos (by exact c), List.filter_nil, if_pos rfl]; rfl
  | false => rw [List.filter_cons_of_neg (by rw [c]; exact Bool.false_ne_true), List.filter_nil, if_neg Bool.false_ne_true]; rfl
theorem cutWays_len (F : Hts) (X : Str) (r d i j n : Nat) : (cutWays F X r d i j n).length ≤ n := by
  unfold cutWays
  rw [List.length_map]
  exact Nat.le_trans (List.length_filter_le _ _) (by rw [List.length_range]; exact Nat.le_refl _)
theorem headWays_snoc (rs : List Rl) (F : Hts) (i j : Nat) (l : List Nat) (r : Nat) : headWays rs F i j (l ++ [r]) = headWays rs F i j l ++ (if (lk F (.ru r (plen rs r) i j)).isSome = true then [[.ru r (plen rs r) i j]] else []) := by
  unfold headWays
  rw [List.filter_append, List.map_append]
  congr 1
  cases c : (lk F (.ru r (plen rs r) i j)).isSome with
  | true => rw [List.filter_cons_of_pos (by exact c), List.filter_nil, if_pos rfl]; rfl
  | false => rw [List.filter_cons_of_neg (by rw [c]; exact Bool.false_ne_true), List.filter_nil, if_neg Bool.false_ne_true]; rfl
theorem headWays_len (rs : List Rl) (F : Hts) (i j : Nat) (l : List Nat) : (headWays rs F i j l).length ≤ l.length := by
  unfold headWays
  rw [List.length_map]
  exact List.length_filter_le _ _
def WayAt (H : Hp) (v : V) (w : Way) : Prop := ∃ a xs, v = .ref a ∧ H a = some (.tup xs) ∧ All2 (NdAt H) xs w
def WaysAt (H : Hp) (v : V) (ws : List Way) : Prop := ∃ a xs, v = .ref a ∧ H a = some (.lst xs) ∧ All2 (WayAt H) xs ws
theorem WayAt.ts {H H' : Hp} (s : TS H H') {v : V} {w : Way} (h : WayAt H v w) : WayAt H' v w := by
  obtain ⟨a, xs, e, k, q⟩ := h
  exact ⟨a, xs, e, s _ _ k, q.mono fun _ _ z => z.ts s⟩
theorem WaysAt.more {H H' : Hp} (s : Same H H') {v : V} {w : List Way} (h : WaysAt H v w) : WaysAt H' v w := by
  obtain ⟨a, xs, e, k, q⟩ := h
  exact ⟨a, xs, e, s _ _ k, q.mono fun _ _ z => z.ts (Same.ts s)⟩
theorem walk_rangeN {a : Int} {n : Nat} : Walk (Itr a n) n (fun _ => True) (fun i H v H' => H' = H ∧ v = .int (a + ((i : Nat) : Int))) :=
  ⟨fun _ _ hi _ => hi, fun _ _ => Nat.le_refl _, fun i H x H' _ _ y => y⟩
def R_ways_of_parts (K : PySem.W.Frag) : V → V → V → Hp → VK → XK → Prop := fun x y z H Q _ => ∃ (a : Addr) (vs : List V) (rs : List Rl) (df : Addr) (F : Hts) (b : Addr) (r d i j : Nat) (rl : Rl), x = .ref a ∧ SqL K H a vs ∧ RulesAt H vs rs ∧ y = .ref df ∧ H df = some (.dT (hK F)) ∧ z = .ref b ∧ H b = some (.tup ((ndK (.ru r d i j)).map kV)) ∧ rs[r]? = some rl ∧ d ≤ rl.parts.length ∧ i ≤ j ∧ j ≤ 60 ∧
  ∀ v H', Same H H' → (∀ l, v = .ref l → H l = none) → WaysAt H' v (waysN rs F (.ru r d i j)) → Q v H'
section
theorem ok_ways_of_parts {f : Addr} {fd : FuncData} (F : Fun K "ways_of_parts" "ways_of_parts" s_ways_of_parts f fd) (T : Txt K mg cs) : FnOk P w K mg base (L2.CX P w) 1 f fd ["rules", "heights", "node"] (sp3 (R_ways_of_parts K)) := by
  refine F.okX sc_ways_of_parts (fun vs H Q E h => sp3_len h) (fun cdv A outer s H vs Q E hr h => ⟨_, PBw (X := X_ways_of_parts P w K mg base f cdv A outer s H E), ?_⟩)
  obtain ⟨a0, a1, a2, rfl, h⟩ := h
  have ib_range := T.b_range
  have hr' : Room 0 (X_ways_of_parts P w K mg base f cdv A outer s H E).A := hr
  replace hr := hr'
  clear hr'
  obtain ⟨a, vs, rs, df, F, b, r, d, i, j, rl, rfl, hS, hR, rfl, hdf, rfl, hb, hrl, hd, hij, hj, h⟩ := h
  obtain ⟨ra, rb, hv, hvk, e1, e2⟩ := hR.at' hrl
  have hb' : H b = some (.tup [.int ((r : Nat) : Int), .int ((d : Nat) : Int), .int ((i : Nat) : Int), .int ((j : Nat) : Int)]) := hb
  kxs_still
  refine iteD (fun hd0 => ?_) fun hd0 => ?_
  · have hd0 : d = 0 := by omega
    subst hd0
    kxs_still
    intro t1 H1 s1 n1 k1 f1
    kxs_still
    intro l2 H2 s2 n2 k2 f2
    kxs_still
    exact h _ H2 (s1.trans s2) (fun l e => by cases e; exact s1.none n2) ⟨l2, _, rfl, k2, .cons ⟨t1, [], rfl, s2 _ _ k1, .nil⟩ .nil⟩
  obtain ⟨d', rfl⟩ : ∃ d', d = d' + 1 := ⟨d - 1, by omega⟩
  obtain ⟨X, hX⟩ : ∃ X, rl.parts[d']? = some X := ⟨_, List.getElem?_eq_getElem (by omega)⟩
  have hXk : atI (rl.parts.map V.str) (((d' + 1 : Nat) : Int) - 1) = some (.str X) := atI_nat (by omega) (by rw [show (((d' + 1 : Nat) : Int) - 1).toNat = d' by omega, List.getElem?_map, hX]; rfl)
  have hw : waysN rs F (.ru r (d' + 1) i j) = cutWays F X r d' i j (j + 1 - i) := by
    show (match (rs[r]?).bind (·.parts[d']?) with | none => [] | some X => cutWays F X r d' i j (j + 1 - i)) = _
    rw [hrl, Option.bind_some, hX]
  rw [hw] at h
  kxs_still
  intro l1 H1 s1 n1 k1 f1
  kxs_still
  refine s_for (j_rng2 ?_)
  kxs_still
  refine ⟨by omega, _, _, _, walk_rangeN, fun n σ' H' => ∃ (xs : List V) (v9 : Option V), σ' = [some (.ref a), some (.ref df), some (.ref b), some (.int ((r : Nat) : Int)), some (.int ((d' + 1 : Nat) : Int)), some (.int ((i : Nat) : Int)), some (.int ((j : Nat) : Int)), some (.str X), some (.ref l1), v9] ∧ (∀ x o, x ≠ l1 → H1 x = some o → H' x = some o) ∧ H' l1 = some (.lst xs) ∧ All2 (WayAt H') xs (cutWays F X r d' i j n),
    ⟨[], none, rfl, fun _ _ _ q => q, k1, .nil⟩, fun _ _ _ _ _ => trivial, ?_, ?_⟩
  · rintro n x σ' H2 H3 hn ⟨xs, v9, rfl, fr, kl, aw⟩ ⟨rfl, rfl⟩
    have hdf3 : H3 df = some (.dT (hK F)) := fr df _ (fun z => by rw [z, n1] at hdf; cases hdf) (s1 _ _ hdf)
    have hn : i + n ≤ j := by omega
    have ed : (((d' + 1 : Nat) : Int) - 1) = ((d' : Nat) : Int) := by omega
    rw [← Int.natCast_add]
    kxs_still
    intro t2 H4 s4 n4 k4 f4
    have k4' : H4 t2 = some (.tup ((ndK (.ru r d' i (i + n))).map kV)) := by rw [k4, ed]; rfl
    have gk := DGet.t (s4 _ _ hdf3) k4'
    rw [valV_hK] at gk
    kxs_still
    cases c1 : lk F (.ru r d' i (i + n)) with
    | none =>
      rw [c1] at gk
      refine o_din (rm1 hr) gk ?_
      kxs_still
      exact ⟨xs, _, rfl, fun x o hx q => s4 _ _ (fr x o hx q), s4 _ _ kl, by rw [cutWays_succ, if_neg (by unfold cutOk; rw [c1]; exact Bool.false_ne_true), List.append_nil]; exact aw.mono fun _ _ q => q.ts (Same.ts s4)⟩
    | some h1 =>
      rw [c1] at gk
      refine o_din (rm1 hr) gk ?_
      kxs_still
      intro t5 H5 s5 n5 k5 f5
      have k5' : H5 t5 = some (.tup ((ndK (.pt X (i + n) j)).map kV)) := k5
      have gk2 := DGet.t (s5 _ _ (s4 _ _ hdf3)) k5'
      rw [valV_hK] at gk2
      kxs_still
      cases c2 : lk F (.pt X (i + n) j) with
      | none =>
        rw [c2] at gk2
        refine o_din (rm1 hr) gk2 ?_
        kxs_still
        exact ⟨xs, _, rfl, fun x o hx q => s5 _ _ (s4 _ _ (fr x o hx q)), s5 _ _ (s4 _ _ kl), by rw [cutWays_succ, if_neg (by unfold cutOk; rw [c1, c2]; exact Bool.false_ne_true), List.append_nil]; exact aw.mono fun _ _ q => q.ts (Same.ts (s4.trans s5))⟩
      | some h2 =>
        rw [c2] at gk2
        refine o_din (rm1 hr) gk2 ?_
        kxs_still
        have kl5 := s5 _ _ (s4 _ _ kl)
        refine ⟨ty_l kl5, ?_⟩
        kxs_still
        intro t6 H6 s6 n6 k6 f6
        kxs_still
        intro t7 H7 s7 n7 k7 f7
        kxs_still
        intro t8 H8 s8 n8 k8 f8
        have s58 := s6.trans (s7.trans s8)
        have kl8 := s58 _ _ kl5
        have hlx := aw.len
        have hcl := cutWays_len F X r d' i j n
        kxs_still
        refine m_append kl8 (by omega) fun H9 k9 f9 => ?_
        have s48 := s4.trans (s5.trans s58)
        have ts9 := TS.butL kl8 f9
        kxs_still
        refine ⟨xs ++ [.ref t8], _, rfl, fun x o hx q => (f9 x hx).trans (s48 _ _ (fr x o hx q)), k9, ?_⟩
        rw [cutWays_succ, if_pos (by unfold cutOk; rw [c1, c2]; rfl)]
        have kk6 : H8 t6 = some (.tup ((ndK (.ru r d' i (i + n))).map kV)) := s8 _ _ (s7 _ _ (by rw [k6, ed]; rfl))
        exact (aw.mono fun _ _ q => q.ts ((Same.ts s48).trans ts9)).snoc ⟨t8, _, rfl, ts9 _ _ k8, .cons ⟨t6, rfl, ts9 _ _ kk6⟩ (.cons ⟨t7, rfl, ts9 _ _ (s8 _ _ k7)⟩ .nil)⟩
  · rintro σ' H2 ⟨xs, v9, rfl, fr, kl, aw⟩
    rw [show (((j : Nat) : Int) + 1 - ((i : Nat) : Int)).toNat = j + 1 - i by omega] at aw
    kxs_still
    exact h _ H2 (fun x o q => fr x o (fun z => by rw [z, n1] at q; cases q) (s1 _ _ q)) (fun l e => by cases e; exact n1) ⟨l1, xs, rfl, kl, aw⟩
end
theorem df_ways_of_parts (T : Txt K mg cs) : Df P w K mg base "ways_of_parts" 1 ["rules", "heights", "node"] (sp3 (R_ways_of_parts K)) := by
  obtain ⟨f, fd, hm, F, hb⟩ := T.f_ways_of_parts.ex
  exact ⟨f, fd, hm, F.kp, hb, ok_ways_of_parts F T⟩
def R_ways_of_head (K : PySem.W.Frag) : V → V → V → V → Hp → VK → XK → Prop := fun x y z u H Q _ => ∃ (a : Addr) (vs : List V) (rs : List Rl) (by_ : Addr) (kvs : List (Key × V)) (L : Str → Option Addr) (df : Addr) (F : Hts) (b : Addr) (X : Str) (i j : Nat), x = .ref a ∧ SqL K H a vs ∧ RulesAt H vs rs ∧ GoodG rs ∧ y = .ref by_ ∧ H by_ = some (.dK kvs) ∧ ByAt H by_ kvs rs L rs.length ∧ z = .ref df ∧ H df = some (.dT (hK F)) ∧ u = .ref b ∧ H b = some (.tup ((ndK (.pt X i j)).map kV)) ∧
  ∀ v H', Same H H' → (∀ l, v = .ref l → H l = none) → WaysAt H' v (headWays rs F i j (nums rs X)) → Q v H'
section
theorem ok_ways_of_head {f : Addr} {fd : FuncData} (F : Fun K "ways_of_head" "ways_of_head" s_ways_of_head f fd) (T : Txt K mg cs) : FnOk P w K mg base (L2.CX P w) 1 f fd ["rules", "by", "heights", "node"] (sp4 (R_ways_of_head K)) := by
  refine F.okX sc_ways_of_head (fun vs H Q E h => sp4_len h) (fun cdv A outer s H vs Q E hr h => ⟨_, PBw (X := X_ways_of_head P w K mg base f cdv A outer s H E), ?_⟩)
  obtain ⟨a0, a1, a2, a3, rfl, h⟩ := h
  have ib_len := T.b_len
  have hr' : Room 0 (X_ways_of_head P w K mg base f cdv A outer s H E).A := hr
  replace hr := hr'
  clear hr'
  obtain ⟨a, vs, rs, by_, kvs, L, df, F, b, X, i, j, rfl, hS, hR, hG, rfl, hby, hB, rfl, hdf, rfl, hb, h⟩ := h
  have hb' : H b = some (.tup [.str X, .int ((i : Nat) : Int), .int ((j : Nat) : Int)]) := hb
  kxs_still
  intro l1 H1 s1 n1 k1 f1
  kxs_still
  refine s_for (j_list (e_dget2 (rm1 hr) ?_))
  kxs_still
  have kby1 := s1 _ _ hby
  refine ⟨.inl ⟨_, .inl kby1⟩, ?_⟩
  kxs_still
  intro l2 H2 s2 n2 k2 f2
  have gk := DGet.k (k := .inr X) (s2 _ _ kby1)
  have nl1 : ∀ {c : Addr} {o : HO}, H c = some o → c ≠ l1 := fun q z => by rw [z, n1] at q; cases q
  have n12 : l2 ≠ l1 := fun z => by rw [z, k1] at n2; cases n2
  obtain ⟨la, ela, kla, nla⟩ : ∃ la, (valV kvs (.inr X)).getD (.ref l2) = .ref la ∧ H2 la = some (.lst (numV (nums rs X))) ∧ la ≠ l1 := by
    cases e : L X with
    | none =>
      refine ⟨l2, by rw [hB.val, e]; rfl, ?_, n12⟩
      have := hB.non X e
      unfold nums
      rw [this]
      exact k2
    | some l =>
      obtain ⟨q1, q2⟩ := hB.at_ X l e
      exact ⟨l, by rw [hB.val, e]; rfl, s2 _ _ (s1 _ _ q2), nl1 q2⟩
  refine ⟨_, gk, la, ela, ⟨_, SqL.of kla⟩, _, _, _, walk_list (xs := numV (nums rs X)), fun n σ' H' => ∃ (xs : List V) (v8 v9 : Option V), σ' = [some (.ref a), some (.ref by_), some (.ref df), some (.ref b), some (.str X), some (.int ((i : Nat) : Int)), some (.int ((j : Nat) : Int)), some (.ref l1), v8, v9] ∧ (∀ x o, x ≠ l1 → H2 x = some o → H' x = some o) ∧ H' l1 = some (.lst xs) ∧ All2 (WayAt H') xs (headWays rs F i j ((nums rs X).take n)),
    ⟨[], none, none, rfl, fun _ _ _ q => q, s2 _ _ k1, .nil⟩, fun n σ' H' _ ⟨_, _, _, _, fr, _⟩ => SqL.of (fr _ _ nla kla), ?_, ?_⟩
  · rintro n x σ' H3 H4 hn ⟨xs, v8, v9, rfl, fr, kl, aw⟩ ⟨rfl, hx⟩
    obtain ⟨r, hr1, rfl⟩ := map_get hx
    have hrs : ∃ rl, rs[r]? = some rl := by
      have m := List.mem_of_getElem? hr1
      unfold nums numsTo at m
      have := List.mem_range.mp (List.mem_filter.mp m).1
      exact ⟨_, List.getElem?_eq_getElem this⟩
    obtain ⟨rl, hrl⟩ := hrs
    obtain ⟨ra, rb, hv, hvk, e1, e2⟩ := hR.at' hrl
    have up : ∀ {c : Addr} {o : HO}, H c = some o → H4 c = some o := fun q => fr _ _ (nl1 q) (s2 _ _ (s1 _ _ q))
    have hS4 : SqL K H4 a vs := hS.elim (fun q => .inl (q.elim (fun q => .inl (up q)) fun ⟨o, q⟩ => .inr ⟨o, up q⟩)) .inr
    have e14 := up e1
    have e24 := up e2
    have hdf4 := up hdf
    have hpl : plen rs r = rl.parts.length := by unfold plen; rw [hrl]; rfl
    kxs_still
    intro t5 H5 s5 n5 k5 f5
    have k5' : H5 t5 = some (.tup ((ndK (.ru r (plen rs r) i j)).map kV)) := by rw [k5, hpl, List.length_map]; rfl
    have gk5 := DGet.t (s5 _ _ hdf4) k5'
    rw [valV_hK] at gk5
    have hst := headWays_snoc rs F i j ((nums rs X).take n) r
    rw [← take_snoc hr1] at hst
    kxs_still
    cases c1 : lk F (.ru r (plen rs r) i j) with
    | none =>
      rw [c1] at gk5
      refine o_din (rm1 hr) gk5 ?_
      kxs_still
      exact ⟨xs, _, _, rfl, fun x o hx q => s5 _ _ (fr x o hx q), s5 _ _ kl, by rw [hst, c1, if_neg (show ¬ (none : Option Nat).isSome = true from Bool.false_ne_true), List.append_nil]; exact aw.mono fun _ _ q => q.ts (Same.ts s5)⟩
    | some h1 =>
      rw [c1] at gk5
      refine o_din (rm1 hr) gk5 ?_
      kxs_still
      have kl5 := s5 _ _ kl
      refine ⟨ty_l kl5, ?_⟩
      kxs_still
      intro t6 H6 s6 n6 k6 f6
      have kl6 := s6 _ _ kl5
      have hlx := aw.len
      have hcl := headWays_len rs F i j ((nums rs X).take n)
      have h60 := hG.few
      have hnl : (nums rs X).length ≤ rs.length := by unfold nums numsTo; exact Nat.le_trans (List.length_filter_le _ _) (by rw [List.length_range]; exact Nat.le_refl _)
      rw [List.length_take] at hcl
      kxs_still
      refine m_append kl6 (by omega) fun H7 k7 f7 => ?_
      have ts7 := TS.butL kl6 f7
      have s46 := s5.trans s6
      kxs_still
      refine ⟨xs ++ [.ref t6], _, _, rfl, fun x o hx q => (f7 x hx).trans (s46 _ _ (fr x o hx q)), k7, ?_⟩
      rw [hst, c1, if_pos (show (some h1).isSome = true from rfl)]
      exact (aw.mono fun _ _ q => q.ts ((Same.ts s46).trans ts7)).snoc ⟨t6, _, rfl, ts7 _ _ k6, .cons ⟨t5, rfl, ts7 _ _ (s6 _ _ k5')⟩ .nil⟩
  · rintro σ' H3 ⟨xs, v8, v9, rfl, fr, kl, aw⟩
    rw [show (numV (nums rs X)).length = (nums rs X).length from List.length_map .., List.take_length] at aw
    kxs_still
    exact h _ H3 (fun x o q => fr x o (nl1 q) (s2 _ _ (s1 _ _ q))) (fun l e => by cases e; exact n1) ⟨l1, xs, rfl, kl, aw⟩
end
theorem df_ways_of_head (T : Txt K mg cs) : Df P w K mg base "ways_of_head" 1 ["rules", "by", "heights", "node"] (sp4 (R_ways_of_head K)) := by
  obtain ⟨f, fd, hm, F, hb⟩ := T.f_ways_of_head.ex
  exact ⟨f, fd, hm, F.kp, hb, ok_ways_of_head F T⟩
/-- the first letter of a part of a node that stands -/
theorem Std.nm {rs : List Rl} {t : List Nat} {F : Hts} (s : Std rs t F) (hG : GoodG rs) {p : Str} {i j h : Nat} (e : lk F (.pt p i j) = some h) : (∃ c l, tl p = c :: l) ∧ p.length ≤ 1000000 := by
  have hl := s.short hG _ (List.mem_map.mpr ⟨_, lk_mem e, rfl⟩) p i j rfl
  refine ⟨?_, hl⟩
  generalize hn : Nd.pt p i j = n at e
  have d := ((s.ht n h).mp e).1
  cases d with
  | sign e1 =>
    cases hn
    exact ⟨_, _, tl_sgn _⟩
  | zero => cases hn
  | step => cases hn
  | head hr =>
    cases hn
    exact (part_sg (p := _) (by rw [isPartS, (hG.good _ (List.mem_of_getElem? hr)).head, Bool.or_true])).1
def R_ways_over (K : PySem.W.Frag) : V → V → V → V → Hp → VK → XK → Prop := fun x y z u H Q _ => ∃ (a : Addr) (vs : List V) (rs : List Rl) (by_ : Addr) (kvs : List (Key × V)) (L : Str → Option Addr) (df : Addr) (F : Hts) (t : List Nat) (n : Nd) (hh : Nat), x = .ref a ∧ SqL K H a vs ∧ RulesAt H vs rs ∧ GoodG rs ∧ y = .ref by_ ∧ H by_ = some (.dK kvs) ∧ ByAt H by_ kvs rs L rs.length ∧ z = .ref df ∧ H df = some (.dT (hK F)) ∧ Std rs t F ∧ t.length ≤ 60 ∧ NdAt H u n ∧ lk F n = some hh ∧
  ∀ v H', Same H H' → (∀ l, v = .ref l → H l = none) → WaysAt H' v (waysN rs F n) → Q v H'
section
set_option hygiene false in
local macro_rules | `(tactic| top_name) => `(tactic| first | refine e_call (df_ways_of_head T) (hr.mono (by decide)) ?_ | refine e_call (df_ways_of_parts T) (hr.mono (by decide)) ?_)
theorem ok_ways_over {f : Addr} {fd : FuncData} (F : Fun K "ways_over" "ways_over" s_ways_over f fd) (T : Txt K mg cs) : FnOk P w K mg base (L2.CX P w) 2 f fd ["rules", "by", "heights", "node"] (sp4 (R_ways_over K)) := by
  refine F.okX sc_ways_over (fun vs H Q E h => sp4_len h) (fun cdv A outer s H vs Q E hr h => ⟨_, PBw (X := X_ways_over P w K mg base f cdv A outer s H E), ?_⟩)
  obtain ⟨a0, a1, a2, a3, rfl, h⟩ := h
  have ib_len := T.b_len
  have hr' : Room 1 (X_ways_over P w K mg base f cdv A outer s H E).A := hr
  replace hr := hr'
  clear hr'
  obtain ⟨a, vs, rs, by_, kvs, L, df, F, t, n, hh, rfl, hS, hR, hG, rfl, hby, hB, rfl, hdf, hst, ht, ⟨b, rfl, hb⟩, hl, h⟩ := h
  have wi := ((hst.ht n hh).mp hl).1.wi
  cases n with
  | ru r d i j =>
    have hb' : H b = some (.tup [.int ((r : Nat) : Int), .int ((d : Nat) : Int), .int ((i : Nat) : Int), .int ((j : Nat) : Int)]) := hb
    obtain ⟨hij, hj, rl, hrl, hd⟩ := wi.ru _ _ _ _ rfl
    kxs_still
    refine iteDT rfl ?_
    kxs_still
    exact ⟨a, vs, rs, df, F, b, r, d, i, j, rl, rfl, hS, hR, rfl, hdf, rfl, hb, hrl, hd, hij, by omega, fun v H' s f w => h v H' s f w⟩
  | pt p i j =>
    have hb' : H b = some (.tup [.str p, .int ((i : Nat) : Int), .int ((j : Nat) : Int)]) := hb
    have hnm := hst.nm hG hl
    kxs_still
    refine iteDF (show ¬ ((3 : Nat) : Int) = 4 by decide) ?_
    kxs_still
    refine ⟨hnm, ?_⟩
    cases c : isSg p with
    | true =>
      kxs_still
      intro t1 H1 s1 n1 k1 f1
      kxs_still
      intro l2 H2 s2 n2 k2 f2
      kxs_still
      refine h _ H2 (s1.trans s2) (fun l e => by cases e; exact s1.none n2) ⟨l2, _, rfl, k2, ?_⟩
      rw [show waysN rs F (.pt p i j) = [[]] from by show (if isSg p = true then [[]] else headWays rs F i j (nums rs p)) = _; rw [c, if_pos rfl]]
      exact .cons ⟨t1, [], rfl, s2 _ _ k1, .nil⟩ .nil
    | false =>
      rw [show waysN rs F (.pt p i j) = headWays rs F i j (nums rs p) from by show (if isSg p = true then [[]] else headWays rs F i j (nums rs p)) = _; rw [c, if_neg Bool.false_ne_true]] at h
      kxs_still
      exact ⟨a, vs, rs, by_, kvs, L, df, F, b, p, i, j, rfl, hS, hR, hG, rfl, hby, hB, rfl, hdf, rfl, hb, fun v H' s f w => h v H' s f w⟩
end
theorem df_ways_over (T : Txt K mg cs) : Df P w K mg base "ways_over" 2 ["rules", "by", "heights", "node"] (sp4 (R_ways_over K)) := by
  obtain ⟨f, fd, hm, F, hb⟩ := T.f_ways_over.ex
  exact ⟨f, fd, hm, F.kp, hb, ok_ways_over F T⟩
inductive Rch (rs : List Rl) (F : Hts) (top : Nd) : Nd → Prop
  | top : Rch rs F top top
  | step {n m : Nd} {w : Way} : Rch rs F top n → w ∈ waysN rs F n → m ∈ w → Rch rs F top m
def wn (rs : List Rl) (F : Hts) (n : Nd) : Nat := ((waysN rs F n).map List.length).sum
abbrev Pths : Type := List (Nd × List Way)
/-- what the walk from the top keeps -/
structure WI (rs : List Rl) (F : Hts) (top : Nd) (P : Pths) (A : List Nd) : Prop where
  nd : (P.map (·.1)).Nodup
  ws : ∀ q ∈ P, q.2 = waysN rs F q.1
  st : ∀ n, n ∈ P.map (·.1) ∨ n ∈ A → (lk F n).isSome = true ∧ Rch rs F top n
  cl : ∀ q ∈ P, ∀ w ∈ q.2, ∀ m ∈ w, m ∈ P.map (·.1) ∨ m ∈ A
  tp : top ∈ P.map (·.1) ∨ top ∈ A
  sz : A.length ≤ 1 + (P.map fun q => wn rs F q.1).sum
theorem ways_stand {rs : List Rl} {F : Hts} {n : Nd} {w : Way} (h : w ∈ waysN rs F n) : ∀ m ∈ w, (lk F m).isSome = true := by
  intro m hm
  cases n with
  | pt X i j =>
    have h : w ∈ (if isSg X = true then [[]] else headWays rs F i j (nums rs X)) := h
    split at h
    · rw [List.mem_singleton.mp h] at hm; cases hm
    · unfold headWays at h
      obtain ⟨r, hr, rfl⟩ := List.mem_map.mp h
      rw [List.mem_singleton.mp hm]
      exact (List.mem_filter.mp hr).2
  | ru r d i j =>
    cases d with
    | zero =>
      rw [List.mem_singleton.mp h] at hm; cases hm
    | succ d =>
      have h : w ∈ (match (rs[r]?).bind (·.parts[d]?) with | none => [] | some X => cutWays F X r d i j (j + 1 - i)) := h
      split at h
      · cases h
      · unfold cutWays at h
        obtain ⟨k, hk, rfl⟩ := List.mem_map.mp h
        have := (List.mem_filter.mp hk).2
        unfold cutOk at this
        rw [Bool.and_eq_true] at this
        rcases List.mem_cons.mp hm with rfl | hm
        · exact this.1
        · rw [List.mem_singleton.mp hm]; exact this.2
section
variable {rs : List Rl} {F : Hts} {top n : Nd} {P : Pths} {A : List Nd}
theorem WI.skip (h : WI rs F top P (A ++ [n])) (m : n ∈ P.map (·.1)) : WI rs F top P A := by
  have up : ∀ {x}, x ∈ P.map (·.1) ∨ x ∈ A ++ [n] → x ∈ P.map (·.1) ∨ x ∈ A := by
    rintro x (q | q)
    · exact .inl q
    · rcases List.mem_append.mp q with q | q
      · exact .inr q
      · rw [List.mem_singleton.mp q]; exact .inl m
  exact ⟨h.nd, h.ws, fun x q => h.st x (q.imp id fun q => List.mem_append_left _ q), fun q hq w hw x hx => up (h.cl q hq w hw x hx), up h.tp, by have := h.sz; rw [List.length_append] at this; omega⟩
theorem WI.add (h : WI rs F top P (A ++ [n])) (m : n ∉ P.map (·.1)) : WI rs F top (P ++ [(n, waysN rs F n)]) (A ++ (waysN rs F n).flatten) := by
  have hn := h.st n (.inr (List.mem_append_right _ (List.mem_singleton_self _)))
  have up : ∀ {x}, x ∈ P.map (·.1) ∨ x ∈ A ++ [n] → x ∈ (P ++ [(n, waysN rs F n)]).map (·.1) ∨ x ∈ A ++ (waysN rs F n).flatten := by
    rintro x (q | q)
    · exact .inl (by rw [List.map_append]; exact List.mem_append_left _ q)
    · rcases List.mem_append.mp q with q | q
      · exact .inr (List.mem_append_left _ q)
      · exact .inl (by rw [List.map_append]; exact List.mem_append_right _ q)
  refine ⟨?_, ?_, ?_, ?_, up h.tp, ?_⟩
  · rw [List.map_append, List.nodup_append]
    exact ⟨h.nd, List.nodup_cons.mpr ⟨List.not_mem_nil, List.nodup_nil⟩, fun a ha b hb => by rw [List.mem_singleton.mp hb]; rintro rfl; exact m ha⟩
  · intro q hq
    rcases List.mem_append.mp hq with hq | hq
    · exact h.ws q hq
    · rw [List.mem_singleton.mp hq]
  · rintro x (q | q)
    · rw [List.map_append] at q
      rcases List.mem_append.mp q with q | q
      · exact h.st x (.inl q)
      · rw [List.mem_singleton.mp q]; exact hn
    · rcases List.mem_append.mp q with q | q
      · exact h.st x (.inr (List.mem_append_left _ q))
      · obtain ⟨w, hw, hx⟩ := List.mem_flatten.mp q
        exact ⟨ways_stand hw x hx, .step hn.2 hw hx⟩
  · intro q hq w hw x hx
    rcases List.mem_append.mp hq with hq | hq
    · exact up (h.cl q hq w hw x hx)
    · rw [List.mem_singleton.mp hq] at hw
      exact .inr (List.mem_append_right _ (List.mem_flatten.mpr ⟨w, hw, hx⟩))
  · have := h.sz
    rw [List.length_append] at this
    rw [List.length_append, List.length_flatten, List.map_append, List.sum_append]
    show A.length + ((waysN rs F n).map List.length).sum ≤ 1 + (_ + (((waysN rs F n).map List.length).sum + 0))
    omega
theorem sum_sub {α : Type} [DecidableEq α] (f : α → Nat) : ∀ {K L : List α}, K.Nodup → (∀ x ∈ K, x ∈ L) → (K.map f).sum ≤ (L.map f).sum
  | [], _, _, _ => Nat.zero_le _
  | x :: K, L, hn, hs => by
    obtain ⟨n1, n2⟩ := List.nodup_cons.mp hn
    have hp := (List.perm_cons_erase (hs x (List.mem_cons_self ..)))
    have ih := sum_sub f (K := K) (L := L.erase x) n2 fun y hy => (List.mem_erase_of_ne (fun z => by rw [z] at hy; exact n1 hy)).mpr (hs y (List.mem_cons_of_mem _ hy))
    have e := (hp.map f).sum_nat
    rw [List.map_cons, List.sum_cons] at e ⊢
    omega
theorem lk_key {κ α : Type} [DecidableEq κ] {F : List (κ × α)} {n : κ} {v : α} (h : lk F n = some v) : n ∈ F.map (·.1) := List.mem_map.mpr ⟨_, lk_mem h, rfl⟩
theorem WI.sum (h : WI rs F top P A) : (P.map fun q => wn rs F q.1).sum ≤ (F.map fun q => wn rs F q.1).sum := by
  have := sum_sub (wn rs F) (K := P.map (·.1)) (L := F.map (·.1)) h.nd fun x hx => by
    obtain ⟨v, hv⟩ := Option.isSome_iff_exists.mp (h.st x (.inl hx)).1
    exact lk_key hv
  rw [List.map_map, List.map_map] at this
  exact this
theorem WI.len (h : WI rs F top P A) : P.length ≤ F.length := by
  have one : ∀ L : List Nd, (L.map fun _ => 1).sum = L.length := fun L => by
    induction L with
    | nil => rfl
    | cons x L ih => rw [List.map_cons, List.sum_cons, ih, List.length_cons]; omega
  have := sum_sub (fun _ => 1) (K := P.map (·.1)) (L := F.map (·.1)) h.nd fun x hx => by
    obtain ⟨v, hv⟩ := Option.isSome_iff_exists.mp (h.st x (.inl hx)).1
    exact lk_key hv
  rw [one, one, List.length_map, List.length_map] at this
  exact this
end
theorem WaysAt.up {H H' : Hp} {v : V} {ws : List Way} (h : WaysAt H v ws) (f : ∀ l xs, v = .ref l → H l = some (.lst xs) → H' l = some (.lst xs)) (ts : TS H H') : WaysAt H' v ws := by
  obtain ⟨a, xs, e, k, q⟩ := h
  exact ⟨a, xs, e, f a _ e k, q.mono fun _ _ z => z.ts ts⟩
theorem flat_take {α : Type} (l : List (List α)) (i : Nat) : (l.take i).flatten.length ≤ l.flatten.length := by
  have := congrArg List.length (congrArg List.flatten (List.take_append_drop i l))
  rw [List.flatten_append, List.length_append] at this
  omega
theorem all2_mem {α β : Type} {R : α → β → Prop} : ∀ {xs : List α} {ys : List β} {x : α}, All2 R xs ys → x ∈ xs → ∃ y, y ∈ ys ∧ R x y
  | _, _, _, .cons r t, m => by
    rcases List.mem_cons.mp m with rfl | m
    · exact ⟨_, List.mem_cons_self .., r⟩
    · obtain ⟨y, a, b⟩ := all2_mem t m
      exact ⟨y, List.mem_cons_of_mem _ a, b⟩
theorem all2_and {α β : Type} {R : α → β → Prop} {p : α → Prop} : ∀ {xs : List α} {ys : List β}, All2 R xs ys → (∀ x ∈ xs, p x) → All2 (fun x y => R x y ∧ p x) xs ys
  | _, _, .nil, _ => .nil
  | _, _, .cons r t, h => .cons ⟨r, h _ (List.mem_cons_self ..)⟩ (all2_and t fun x m => h x (List.mem_cons_of_mem _ m))
/-! the wood's object -/
def wdF (la : Addr) (z : Str) (pk : V) (pa : Addr) : List (Str × V) := [(Str.ofString "rules", .ref la), (Str.ofString "signs", .str z), (Str.ofString "peak", pk), (Str.ofString "paths", .ref pa)]
structure Wd (H : Hp) (C : Addr) (vs : List V) (rs : List Rl) (z : Str) (c dx la pa : Addr) (pk : V) (top : Option Nd) (kvs : List (List Key × V)) (P : Pths) : Prop where
  ins : H c = some (.ins C dx (wdF la z pk pa))
  rl : H la = some (.lst vs)
  ra : RulesAt H vs rs
  pk : (top = none ∧ pk = .non) ∨ ∃ n, top = some n ∧ NdAt H pk n
  dt : H pa = some (.dT kvs)
  el : All2 (fun (kv : List Key × V) (q : Nd × List Way) => kv.1 = ndK q.1 ∧ WaysAt H kv.2 q.2) kvs P
theorem Wd.more {H H' : Hp} {C : Addr} {vs : List V} {rs : List Rl} {z : Str} {c dx la pa : Addr} {pk : V} {top : Option Nd} {kvs : List (List Key × V)} {P : Pths} (h : Wd H C vs rs z c dx la pa pk top kvs P) (s : Same H H') : Wd H' C vs rs z c dx la pa pk top kvs P :=
  ⟨s _ _ h.ins, s _ _ h.rl, h.ra.ts (Same.ts s), h.pk.imp id fun ⟨n, e, q⟩ => ⟨n, e, q.ts (Same.ts s)⟩, s _ _ h.dt, h.el.mono fun _ _ q => ⟨q.1, q.2.more s⟩⟩
theorem Wd.but {H H' : Hp} {C : Addr} {vs : List V} {rs : List Rl} {z : Str} {c dx la pa : Addr} {pk : V} {top : Option Nd} {kvs : List (List Key × V)} {P : Pths} (h : Wd H C vs rs z c dx la pa pk top kvs P) {lh : Addr} {ys : List V} (kl : H lh = some (.lst ys)) (n1 : la ≠ lh) (n2 : ∀ kv ∈ kvs, kv.2 ≠ .ref lh) (fr : ∀ b, b ≠ lh → H' b = H b) : Wd H' C vs rs z c dx la pa pk top kvs P := by
  have ts : TS H H' := TS.butL kl fr
  have up : ∀ {x : Addr} {o : HO}, x ≠ lh → H x = some o → H' x = some o := fun n q => (fr _ n).trans q
  have el : All2 (fun (kv : List Key × V) (q : Nd × List Way) => (kv.1 = ndK q.1 ∧ WaysAt H kv.2 q.2) ∧ kv.2 ≠ .ref lh) kvs P := all2_and h.el n2
  exact ⟨up (fun w => by have := h.ins; rw [w, kl] at this; cases this) h.ins, up n1 h.rl, h.ra.ts ts, h.pk.imp id fun ⟨n, e, q⟩ => ⟨n, e, q.ts ts⟩, up (fun w => by have := h.dt; rw [w, kl] at this; cases this) h.dt, el.mono fun _ _ q => ⟨q.1.1, q.1.2.up (fun l o e w => up (fun z => q.2 (by rw [e, z])) w) ts⟩⟩
theorem el_val {H : Hp} : ∀ {kvs : List (List Key × V)} {P : Pths}, All2 (fun (kv : List Key × V) (q : Nd × List Way) => kv.1 = ndK q.1 ∧ WaysAt H kv.2 q.2) kvs P → ∀ n, (valV kvs (ndK n) = none ∧ n ∉ P.map (·.1)) ∨ ∃ v ws, valV kvs (ndK n) = some v ∧ (n, ws) ∈ P ∧ lk P n = some ws ∧ WaysAt H v ws
  | [], _, .nil, n => .inl ⟨rfl, List.not_mem_nil⟩
  | (k, v) :: kvs, (m, ws) :: P, .cons ⟨e, w⟩ t, n => by
    have e : k = ndK m := e
    by_cases c : m = n
    · refine .inr ⟨v, ws, ?_, ?_, ?_, w⟩
      · rw [valV_pos (by rw [e, c])]
      · rw [← c]; exact List.mem_cons_self ..
      · show (if m = n then some ws else lk P n) = _
        rw [if_pos c]
    · have hk : k ≠ ndK n := fun q => c (ndK_inj (e.symm.trans q))
      rw [valV_neg hk]
      rcases el_val t n with ⟨q1, q2⟩ | ⟨v', ws', q1, q2, q3, q4⟩
      · refine .inl ⟨q1, fun q => ?_⟩
        rcases List.mem_cons.mp q with q | q
        · exact c q.symm
        · exact q2 q
      · refine .inr ⟨v', ws', q1, List.mem_cons_of_mem _ q2, ?_, q4⟩
        show (if m = n then some ws else lk P n) = _
        rw [if_neg c]
        exact q3
theorem el_keys {H H' H'' : Hp} (ts : TS H' H'') : ∀ {kvs : List (List Key × V)} {P : Pths} {bs : List Addr}, All2 (fun (kv : List Key × V) (q : Nd × List Way) => kv.1 = ndK q.1 ∧ WaysAt H kv.2 q.2) kvs P → IsKeys H' kvs bs → All2 (NdAt H'') (bs.map V.ref) (P.map (·.1))
  | _, _, _, .nil, .nil => .nil
  | _, _, _, .cons e t, .cons k r => .cons ⟨_, rfl, ts _ _ (by rw [← e.1]; exact k)⟩ (el_keys ts t r)
theorem el_other {H : Hp} : ∀ {kvs : List (List Key × V)} {P : Pths}, All2 (fun (kv : List Key × V) (q : Nd × List Way) => kv.1 = ndK q.1 ∧ WaysAt H kv.2 q.2) kvs P → ∀ ks, (∀ n ∈ P.map (·.1), ks ≠ ndK n) → valV kvs ks = none
  | _, _, .nil, _, _ => rfl
  | _, _, .cons (a := kv) (b := q) e t, ks, h => by
    rw [valV_neg (fun z => h q.1 (List.mem_cons_self ..) (z.symm.trans e.1))]
    exact el_other t ks fun n m => h n (List.mem_cons_of_mem _ m)
/-- what the whole wood is, by what stands -/
structure Wo (rs : List Rl) (F : Hts) (top : Option Nd) (P : Pths) : Prop where
  non : top = none → P = []
  som : ∀ n, top = some n → WI rs F n P []
def R_Wood_reach (K : PySem.W.Frag) (cs : Cs) : V → V → Hp → VK → XK → Prop := fun x y H Q _ => ∃ (vs : List V) (rs : List Rl) (z : Str) (c dx la pa : Addr) (pk : V) (top : Nd) (df : Addr) (F : Hts), x = .ref c ∧ Wd H cs.Wood vs rs z c dx la pa pk (some top) [] [] ∧ GoodG rs ∧ y = .ref df ∧ H df = some (.dT (hK F)) ∧ Std rs (tl z) F ∧ (tl z).length ≤ 60 ∧ F.length ≤ 3000000 ∧ (lk F top).isSome = true ∧ (F.map fun q => wn rs F q.1).sum ≤ 15000000 ∧
  ∀ kvs P H', (∀ b o, b ≠ pa → H b = some o → H' b = some o) → Wd H' cs.Wood vs rs z c dx la pa pk (some top) kvs P → WI rs F top P [] → (∀ kv ∈ kvs, ∀ l, kv.2 = .ref l → H l = none) → Q .non H'
section
set_option hygiene false in
local macro_rules | `(tactic| top_name) => `(tactic| first | refine e_call (df_rules_by_head T) (hr.mono (by decide)) ?_ | refine e_call (df_ways_over T) (hr.mono (by decide)) ?_)
theorem ok_Wood_reach {f : Addr} {fd : FuncData} (F : Fun K "reach" "Wood.reach" s_Wood_reach f fd) (T : Txt K mg cs) : FnOk P w K mg base (L2.CX P w) 3 f fd ["self", "heights"] (sp2 (R_Wood_reach K cs)) := by
  refine F.okX sc_Wood_reach (fun vs H Q E h => sp2_len h) (fun cdv A outer s H vs Q E hr h => ⟨_, PBw (X := X_Wood_reach P w K mg base f cdv A outer s H E), ?_⟩)
  obtain ⟨a0, a1, rfl, h⟩ := h
  have icl_Chart : ClsI K cs.Chart := ⟨T.c_Chart.cl⟩
  have icl_Wood : ClsI K cs.Wood := ⟨T.c_Wood.cl⟩
  have ifl_Chart_rules : NoA K cs.Chart "rules" := ⟨T.n_Chart_rules⟩
  have ifl_Wood_paths : NoA K cs.Wood "paths" := ⟨T.n_Wood_paths⟩
  have ifl_Wood_peak : NoA K cs.Wood "peak" := ⟨T.n_Wood_peak⟩
  have ifl_Wood_rules : NoA K cs.Wood "rules" := ⟨T.n_Wood_rules⟩
  have hr' : Room 2 (X_Wood_reach P w K mg base f cdv A outer s H E).A := hr
  replace hr := hr'
  clear hr'
  obtain ⟨vs, rs, z, c, dx, la, pa, pk, top, df, F, rfl, hW, hG, rfl, hdf, hst, hz, hFl, htop, hsum, h⟩ := h
  obtain ⟨n', q, hpk⟩ := hW.pk.resolve_left fun q => by cases q.1
  cases q
  have kI := hW.ins
  have kl := hW.rl
  kxs_still
  refine ⟨la, vs, rs, rfl, SqL.of kl, hW.ra, hG, fun by_ kvb L H1 s1 n1 k1 hB => ?_⟩
  have kI1 := s1 _ _ kI
  have kdt1 := s1 _ _ hW.dt
  kxs_still
  intro ah H2 s2 n2 k2 f2
  have s12 := s1.trans s2
  have hB2 : ∀ (H' : Hp), (∀ b o, b ≠ pa → b ≠ ah → H2 b = some o → H' b = some o) → ByAt H' by_ kvb rs L rs.length := fun H' f => ⟨hB.val, hB.inj, fun h' l e => by
    obtain ⟨q1, q2⟩ := hB.at_ h' l e
    exact ⟨q1, f l _ (fun w => by rw [w, kdt1] at q2; cases q2) (fun w => by rw [w, n2] at q2; cases q2) (s2 _ _ q2)⟩, hB.non, hB.len⟩
  have nah : ∀ {b : Addr} {o : HO}, H1 b = some o → b ≠ ah := fun q w => by rw [w, n2] at q; cases q
  have npa : ∀ {b : Addr} {o : HO}, H b = some o → (∀ z, o ≠ .dT z) → b ≠ pa := fun q no w => by rw [w, hW.dt] at q; cases q; exact no _ rfl
  have WI0 : WI rs F top [] [top] := ⟨List.nodup_nil, (fun q m => by cases m), (fun n m => by
    rcases m with m | m
    · cases m
    · rw [List.mem_singleton.mp m]; exact ⟨htop, .top⟩), (fun q m => by cases m), .inr (List.mem_singleton_self _), by show 1 ≤ 1 + 0; decide⟩
  refine b_cons (s_while (fun m σ' H' => ∃ (kvs : List (List Key × V)) (P : Pths) (A : List Nd) (av : List V) (v4 v5 : Option V), σ' = [some (.ref c), some (.ref df), some (.ref by_), some (.ref ah), v4, v5] ∧ (∀ b o, b ≠ pa → b ≠ ah → H2 b = some o → H' b = some o) ∧ H' ah = some (.lst av) ∧ All2 (NdAt H') av A ∧ H' pa = some (.dT kvs) ∧ All2 (fun (kv : List Key × V) (q : Nd × List Way) => kv.1 = ndK q.1 ∧ WaysAt H' kv.2 q.2 ∧ ∀ l, kv.2 = .ref l → H2 l = none) kvs P ∧ WI rs F top P A ∧ m = (F.length - P.length) * 20000000 + A.length) _ ⟨[], [], [top], _, none, none, rfl, fun _ _ _ _ q => q, k2, .cons (hpk.ts (Same.ts s12)) .nil, s2 _ _ kdt1, .nil, WI0, rfl⟩ ?_)
  rintro m σ' H3 ⟨kvs, P, A, av, v4, v5, rfl, fr, kah, aA, kpa, aP, wi, rfl⟩
  have nca : c ≠ ah := nah kI1
  have ncp : c ≠ pa := npa kI fun _ w => by cases w
  have kI3 := fr c _ ncp nca (s2 _ _ kI1)
  kxs_still
  intro l4 H4 s4 n4 k4 f4
  have kah4 := s4 _ _ kah
  have kpa4 := s4 _ _ kpa
  have kI4 := s4 _ _ kI3
  refine o_neNil hr.units kah4 k4 ?_
  kxs_still
  refine iteND (fun cn => ?_) fun cn => ?_
  · have hqn : A ≠ [] := fun w => by rw [w] at aA; cases aA; exact cn rfl
    obtain ⟨A', n, rfl⟩ := list_last hqn
    obtain ⟨av', x, rfl, aA', ⟨b, rfl, hbn⟩⟩ := all2_last aA
    have hAl := wi.sz
    have hPs := wi.sum
    have hPl := wi.len
    rw [List.length_append] at hAl
    kxs_still
    refine e_pop ?_
    kxs_still
    refine ⟨ty_l kah4, ?_⟩
    refine m_pop kah4 fun H5 k5 f5 => ?_
    have npah : pa ≠ ah := nah kdt1
    have kpa5 : H5 pa = _ := (f5 pa npah).trans kpa4
    have kI5 : H5 c = _ := (f5 c nca).trans kI4
    have hb5 : H5 b = some (.tup ((ndK n).map kV)) := (f5 b fun w => by rw [w, kah] at hbn; cases hbn).trans (s4 _ _ hbn)
    have ts35 : TS H3 H5 := (Same.ts s4).trans (TS.butL kah4 f5)
    have gk := DGet.t kpa5 hb5
    obtain ⟨hst1, hst2⟩ := wi.st n (.inr (List.mem_append_right _ (List.mem_singleton_self _)))
    obtain ⟨hh, hhl⟩ := Option.isSome_iff_exists.mp hst1
    kxs_still
    refine o_dni (rm1 hr) gk ?_
    kxs_still
    have fr35 : ∀ b o, b ≠ ah → H3 b = some o → H5 b = some o := fun b o hb q => (f5 b hb).trans (s4 _ _ q)
    have aP5 : All2 (fun (kv : List Key × V) (q : Nd × List Way) => kv.1 = ndK q.1 ∧ WaysAt H5 kv.2 q.2 ∧ ∀ l, kv.2 = .ref l → H2 l = none) kvs P := aP.mono fun _ _ q => ⟨q.1, q.2.1.up (fun l o e w => fr35 l _ (fun z => by have := q.2.2 l e; rw [z, k2] at this; cases this) w) ts35, q.2.2⟩
    rcases el_val (aP5.mono fun _ _ q => ⟨q.1, q.2.1⟩) n with ⟨q1, q2⟩ | ⟨v, ws, q1, q2, _, _⟩
    · have wi' := wi.add q2
      have hsz' := wi'.sz
      have hsm' := wi'.sum
      have hln' := wi'.len
      rw [List.length_append] at hsz' hln'
      rw [q1]
      have fr5 : ∀ b o, b ≠ pa → b ≠ ah → H2 b = some o → H5 b = some o := fun b o h1 h2 q => fr35 b o h2 (fr b o h1 h2 q)
      have kl5 := fr5 la _ (npa kl fun _ w => by cases w) (nah (s1 _ _ kl)) (s12 _ _ kl)
      have ts25 : TS H2 H5 := fun x xs q => fr5 x _ (fun w => by rw [w, s2 _ _ kdt1] at q; cases q) (fun w => by rw [w, k2] at q; cases q) q
      have hdfpa : df ≠ pa := fun w => by
        rw [w, hW.dt] at hdf
        cases F with
        | nil => cases htop
        | cons p F => cases (Option.some.inj hdf)
      have hdf5 := fr5 df _ hdfpa (nah (s1 _ _ hdf)) (s12 _ _ hdf)
      have kby5 := fr5 by_ _ (fun w => by rw [w, kdt1] at k1; cases k1) (nah k1) (s2 _ _ k1)
      refine iteT (b_cons (s_asg ?_))
      kxs_still
      refine ⟨la, vs, rs, by_, kvb, L, df, F, tl z, n, hh, rfl, SqL.of kl5, hW.ra.ts ((Same.ts s12).trans ts25), hG, rfl, kby5, hB2 H5 fr5, rfl, hdf5, hst, hz, ⟨b, rfl, hb5⟩, hhl, fun v H6 s6 fv w6 => ?_⟩
      have kpa6 := s6 _ _ kpa5
      have hb6 := s6 _ _ hb5
      have kI6 := s6 _ _ kI5
      kxs_still
      refine g_setT (rm1 hr) ?_
      kxs_still
      refine ⟨_, _, _, _, rfl, kpa6, rfl, hb6, by have := aP5.len; simp only [List.length_singleton] at hln'; omega, fun H7 k7 f7 => ?_⟩
      have hb7 : H7 b = some (.tup ((ndK n).map kV)) := (f7 b fun w => by rw [w, kpa6] at hb6; cases hb6).trans hb6
      have kI7 : H7 c = _ := (f7 c ncp).trans kI6
      have gk7 := DGet.t k7 hb7
      rw [valV_put, if_pos rfl] at gk7
      rw [L2.putK_new v q1] at k7
      have ts67 : TS H6 H7 := fun x xs q => (f7 x fun w => by rw [w, kpa6] at q; cases q).trans q
      obtain ⟨lw, wv, rfl, klw, aw⟩ := w6
      have nlw : lw ≠ ah := fun w => by have := fv lw rfl; rw [w, k5] at this; cases this
      have nlp : lw ≠ pa := fun w => by rw [w, kpa6] at klw; cases klw
      have kah6 := s6 _ _ k5
      have kah7 : H7 ah = _ := (f7 ah npah.symm).trans kah6
      have klw7 : H7 lw = _ := (f7 lw nlp).trans klw
      have aw7 : All2 (WayAt H7) wv (waysN rs F n) := aw.mono fun _ _ q => q.ts ts67
      have ts57 : TS H5 H7 := (Same.ts s6).trans ts67
      refine b_cons (s_for (j_list ?_))
      kxs_still
      refine i_dget (rm1 hr) gk7 ?_
      refine ⟨lw, rfl, ⟨_, SqL.of klw7⟩, _, _, _, walk_list (xs := wv), fun i σ' H' => ∃ (av2 : List V) (v5' : Option V), σ' = [some (.ref c), some (.ref df), some (.ref by_), some (.ref ah), some (.ref b), v5'] ∧ (∀ x o, x ≠ ah → H7 x = some o → H' x = some o) ∧ H' ah = some (.lst av2) ∧ All2 (NdAt H') av2 (A' ++ ((waysN rs F n).take i).flatten),
        ⟨av', v5, rfl, fun _ _ _ q => q, kah7, by rw [List.take_zero, List.flatten_nil, List.append_nil]; exact aA'.mono fun _ _ q => q.ts (ts35.trans ts57)⟩, fun i σ' H' _ ⟨_, _, _, f, _⟩ => SqL.of (f _ _ nlw klw7), ?_, ?_⟩
      · rintro i x σ' H8 H9 hi ⟨av2, v5', rfl, f8, k8, a8⟩ ⟨rfl, hx⟩
        obtain ⟨w, hw, ⟨tw, ys, rfl, ktw, aw2⟩⟩ := aw7.get hx
        have ts79 : TS H7 H9 := fun x xs q => f8 x _ (fun w => by rw [w, kah7] at q; cases q) q
        have hft := flat_take (waysN rs F n) (i + 1)
        have hl8 := a8.len
        have hly := aw2.len
        rw [take_snoc hw, List.flatten_append, List.length_append, List.flatten_singleton] at hft
        rw [List.length_append] at hl8
        kxs_still
        refine e_extend ?_
        kxs_still
        refine ⟨ty_l k8, ?_⟩
        kxs_still
        refine m_extendT k8 (SqT.of (ts79 _ _ ktw)) (by omega) fun H10 k10 f10 => ?_
        have ts10 := TS.butL k8 f10
        kxs_still
        refine ⟨av2 ++ ys, _, rfl, fun x o hx q => (f10 x hx).trans (f8 x o hx q), k10, ?_⟩
        rw [take_snoc hw, List.flatten_append, List.flatten_singleton, ← List.append_assoc]
        exact (a8.mono fun _ _ q => q.ts ts10).app (aw2.mono fun _ _ q => q.ts (ts79.trans ts10))
      · rintro σ' H8 ⟨av2, v5', rfl, f8, k8, a8⟩
        rw [show wv.length = (waysN rs F n).length from aw7.len, List.take_length] at a8
        have ts78 : TS H7 H8 := fun x xs q => f8 x _ (fun w => by rw [w, kah7] at q; cases q) q
        have kpa8 := f8 pa _ npah k7
        kxs_still
        refine ⟨_, ?_, _, _, _, av2, _, _, rfl, fun x o h1 h2 q => f8 x o h2 ((f7 x h1).trans (s6 _ _ (fr5 x o h1 h2 q))), k8, a8, kpa8, ?_, wi', rfl⟩
        · rw [List.length_append, List.length_append, List.length_append]
          simp only [List.length_singleton] at hln' ⊢
          omega
        · have ts58 := ts57.trans ts78
          refine (aP5.mono fun _ _ q => ⟨q.1, q.2.1.up (fun l o e w => ?_) ts58, q.2.2⟩).snoc ⟨rfl, ⟨lw, wv, rfl, f8 _ _ nlw klw7, aw7.mono fun _ _ q => q.ts ts78⟩, fun l e => by
            cases e
            have n5 := fv lw rfl
            cases e2 : H2 lw with
            | none => rfl
            | some o => rw [fr5 lw o (fun w => by rw [w, kpa5] at n5; cases n5) nlw e2] at n5; cases n5⟩
          have nl : l ≠ ah := fun z => by have := q.2.2 l e; rw [z, k2] at this; cases this
          exact f8 l _ nl ((f7 l fun z => by rw [z, kpa5] at w; cases w).trans (s6 _ _ w))
    · have wi' := wi.skip (n := n) (List.mem_map.mpr ⟨_, q2, rfl⟩)
      rw [q1]
      kxs_still
      exact ⟨_, by rw [List.length_append, List.length_singleton]; omega, kvs, P, A', av', _, _, rfl, fun x o h1 h2 q => fr35 x o h2 (fr x o h1 h2 q), k5, aA'.mono fun _ _ q => q.ts ts35, kpa5, aP5, wi', rfl⟩
  · have eA : A = [] := by
      have := aA.len
      rw [cn] at this
      exact List.eq_nil_of_length_eq_zero this.symm
    subst eA
    kxs_still
    have fr4 : ∀ b o, b ≠ pa → H b = some o → H4 b = some o := fun b o hb q => s4 _ _ (fr b o hb (nah (s1 _ _ q)) (s12 _ _ q))
    have ts4 : TS H H4 := fun x xs q => fr4 x _ (fun w => by rw [w, hW.dt] at q; cases q) q
    exact h kvs P H4 fr4 ⟨fr4 _ _ ncp kI, fr4 _ _ (npa kl fun _ w => by cases w) kl, hW.ra.ts ts4, .inr ⟨_, rfl, hpk.ts ts4⟩, kpa4, aP.mono fun _ _ q => ⟨q.1, q.2.1.more s4⟩⟩ wi fun kv hkv l e => by
      obtain ⟨q, _, r⟩ := all2_mem aP hkv
      exact s12.none (r.2.2 l e)
end
theorem md_Wood_reach (T : Txt K mg cs) : Md P w K mg base cs.Wood "reach" 3 ["self", "heights"] (sp2 (R_Wood_reach K cs)) := by
  obtain ⟨f, fd, hm, F, hb⟩ := T.m_Wood_reach.ex
  exact ⟨f, fd, hm, hb, ok_Wood_reach F T⟩
def R_Wood_init (K : PySem.W.Frag) (cs : Cs) : V → V → V → Hp → VK → XK → Prop := fun x y y2 H Q E => ∃ (H0 : Hp) (c dx : Addr), x = .ref c ∧ Same H0 H ∧ H0 c = none ∧ H0 dx = none ∧ H c = some (.ins cs.Wood dx []) ∧ H dx = some (.own c) ∧
  ((∃ (d : PyData), Th K H0 y d ∧ isGramD d = false ∧ ∀ H', Same H0 H' → E (.ref cs.NoGrammar) none H') ∨
  (∃ (a : Addr) (vs : List V) (rs : List Rl), GramAt K H0 y a vs rs ∧ ∃ d2, Th K H0 y2 d2 ∧ ((isTextD d2 = false ∧ ∀ H', Same H0 H' → E (.ref cs.NoText) none H') ∨
    ∃ z, d2 = .str z ∧ isTextD d2 = true ∧ (∀ F, Std rs (tl z) F → F.length ≤ 3000000 ∧ (F.map fun q => wn rs F q.1).sum ≤ 15000000) ∧
    ∀ (la pa : Addr) (pk : V) (top : Option Nd) (kvs : List (List Key × V)) (P : Pths) (F : Hts) (H' : Hp), Same H0 H' → H0 la = none → H0 pa = none → Wd H' cs.Wood vs rs z c dx la pa pk top kvs P → Std rs (tl z) F → (top = (rs.head?).bind fun r0 => if (lk F (.pt r0.head 0 (tl z).length)).isSome = true then some (.pt r0.head 0 (tl z).length) else none) → Wo rs F top P → (∀ kv ∈ kvs, ∀ l, kv.2 = .ref l → H0 l = none) → Q .non H')))
section
set_option hygiene false in
local macro_rules | `(tactic| top_name) => `(tactic| first | refine e_call (df_checked T) (hr.mono (by decide)) ?_ | refine e_call (df_checked_text T) (hr.mono (by decide)) ?_ | refine e_call (df_heights_over T) (hr.mono (by decide)) ?_)
set_option hygiene false in
local macro_rules | `(tactic| kpc_turns) => `(tactic| first | refine e_methV T.c_Wood.cl (md_Wood_reach T) (hr.mono (by decide)) rfl (by ki_room) rfl ?_)
theorem ok_Wood_init {f : Addr} {fd : FuncData} (F : Fun K "__init__" "Wood.__init__" s_Wood_init f fd) (T : Txt K mg cs) : FnOk P w K mg base (L2.CX P w) 6 f fd ["self", "grammar", "text"] (sp3 (R_Wood_init K cs)) := by
  refine F.okX sc_Wood_init (fun vs H Q E h => sp3_len h) (fun cdv A outer s H vs Q E hr h => ⟨_, PBw (X := X_Wood_init P w K mg base f cdv A outer s H E), ?_⟩)
  obtain ⟨a0, a1, a2, rfl, h⟩ := h
  have ib_len := T.b_len
  have icl_Chart : ClsI K cs.Chart := ⟨T.c_Chart.cl⟩
  have icl_Wood : ClsI K cs.Wood := ⟨T.c_Wood.cl⟩
  have ifl_Chart_rules : NoA K cs.Chart "rules" := ⟨T.n_Chart_rules⟩
  have ifl_Wood_paths : NoA K cs.Wood "paths" := ⟨T.n_Wood_paths⟩
  have ifl_Wood_peak : NoA K cs.Wood "peak" := ⟨T.n_Wood_peak⟩
  have ifl_Wood_rules : NoA K cs.Wood "rules" := ⟨T.n_Wood_rules⟩
  have ifl_Wood_signs : NoA K cs.Wood "signs" := ⟨T.n_Wood_signs⟩
  have hr' : Room 5 (X_Wood_init P w K mg base f cdv A outer s H E).A := hr
  replace hr := hr'
  clear hr'
  obtain ⟨H0, c, dx, rfl, sm, n0, nd0, kc, kd, h⟩ := h
  refine b_cons (s_fldV ?_)
  kxs_still
  rcases h with ⟨d, hd, hb, q⟩ | ⟨a, vs, rs, g, d2, hd2, h⟩
  · exact .inr ⟨d, hd.more sm, hb, fun H' s => q H' (sm.trans s)⟩
  refine .inl ⟨a, vs, rs, g.more sm, fun la H1 s1 n1 k1 => ?_⟩
  have nla : la ≠ c := fun w => by rw [w, kc] at n1; cases n1
  refine ⟨c, cs.Wood, dx, [], rfl, s1 _ _ kc, inferInstance, inferInstance, by decide, fun H2 k2 f2 => ?_⟩
  have fr2 : Same H0 H2 := fun b o q => (f2 b fun w => by rw [w, n0] at q; cases q).trans (s1 _ _ (sm _ _ q))
  have kl2 : H2 la = _ := (f2 la nla).trans k1
  refine b_cons (s_fldV ?_)
  kxs_still
  refine ⟨d2, hd2.more fr2, fun ht => ?_, fun ht => ?_⟩
  case refine_2 =>
    rcases h with ⟨_, q⟩ | ⟨z, rfl, q, _⟩
    · exact q H2 fr2
    · rw [q] at ht; cases ht
  obtain ⟨z, rfl, _, hbd, h⟩ := h.resolve_left fun q => by rw [q.1] at ht; cases ht
  cases hd2
  refine ⟨c, cs.Wood, dx, _, rfl, k2, inferInstance, inferInstance, (show 1 < 1000 by decide), fun H3 k3 f3 => ?_⟩
  kxs_still
  refine s_fldV ?_
  kxs_still
  refine ⟨c, cs.Wood, dx, _, rfl, k3, inferInstance, inferInstance, (show 2 < 1000 by decide), fun H4 k4 f4 => ?_⟩
  refine b_cons (s_fldV (e_dctT fun pa H5 s5 n5 k5 f5 => ?_))
  refine ⟨c, cs.Wood, dx, _, rfl, s5 _ _ k4, inferInstance, inferInstance, (show 3 < 1000 by decide), fun H6 k6 f6 => ?_⟩
  have npc : pa ≠ c := fun w => by rw [w, k4] at n5; cases n5
  have fr6 : Same H0 H6 := fun b o q => by
    have nb : b ≠ c := fun w => by rw [w, n0] at q; cases q
    exact (f6 b nb).trans (s5 _ _ ((f4 b nb).trans ((f3 b nb).trans (fr2 _ _ q))))
  have kl6 : H6 la = some (.lst vs) := (f6 la nla).trans (s5 _ _ ((f4 la nla).trans ((f3 la nla).trans kl2)))
  have kp6 : H6 pa = some (.dT []) := (f6 pa npc).trans k5
  have g6 := g.more fr6
  have gbd := gb_of g.ok ht
  have n0la : H0 la = none := sm.none n1
  have n0pa : H0 pa = none := by
    have : H2 pa = none := by rw [← f3 pa npc, ← f4 pa npc]; exact n5
    exact fr2.none this
  have k6' : H6 c = some (.ins cs.Wood dx (wdF la z .non pa)) := k6
  kxs_still
  refine ⟨la, vs, rs, z, rfl, kl6, g6.at_, rfl, gbd, fun df F H7 s7 n7 k7 hst => ?_⟩
  have k67 := s7 _ _ k6'
  have kl7 := s7 _ _ kl6
  have fr7 := fr6.trans s7
  kxs_still
  intro l8 H8 s8 n8 k8 f8
  have kl8 := s8 _ _ kl7
  refine o_neNil hr.units kl8 k8 ?_
  have k68 := s8 _ _ k67
  have fr8 := fr7.trans s8
  have kdf8 := s8 _ _ k7
  have kpa8 := s8 _ _ (s7 _ _ kp6)
  have g8 := g.more fr8
  kxs_still
  refine iteND (fun cn => ?_) fun cn => ?_
  · obtain ⟨r0, hr0⟩ : ∃ r0, rs[0]? = some r0 := by
      have hl := g8.at_.len
      cases rs with
      | nil => cases vs with
        | nil => exact absurd rfl cn
        | cons _ _ => cases hl
      | cons r0 rs => exact ⟨r0, rfl⟩
    have hhd : rs.head? = some r0 := by cases rs with
      | nil => cases hr0
      | cons r rs => cases hr0; rfl
    rw [hhd] at h
    obtain ⟨ra, rb, hv, hvk, e1, e2⟩ := g8.at_.at' hr0
    kxs_still
    intro t9 H9 s9 n9 k9 f9
    have k9' : H9 t9 = some (.tup ((ndK (.pt r0.head 0 (tl z).length)).map kV)) := by rw [k9]; show some (HO.tup [_, _, V.int (z.length : Nat)]) = _; rw [len_tl]; rfl
    have gk9 := DGet.t (s9 _ _ kdf8) k9'
    rw [valV_hK] at gk9
    kxs_still
    cases c1 : lk F (.pt r0.head 0 (tl z).length) with
    | none =>
      rw [c1] at gk9
      refine o_din (rm1 hr) gk9 ?_
      kxs_still
      have fr9 := fr8.trans s9
      exact h la pa .non none [] [] F _ fr9 n0la n0pa ⟨s9 _ _ k68, s9 _ _ kl8, (g.more fr9).at_, .inl ⟨rfl, rfl⟩, s9 _ _ kpa8, .nil⟩ hst (by rw [Option.bind_some, c1]; rfl) ⟨fun _ => rfl, fun n e => by cases e⟩ (fun kv m => by cases m)
    | some hh =>
      rw [c1] at gk9
      refine o_din (rm1 hr) gk9 ?_
      kxs_still
      refine s_fldV ?_
      kxs_still
      refine ⟨c, cs.Wood, dx, _, rfl, s9 _ _ k68, inferInstance, inferInstance, (show 4 < 1000 by decide), fun H10 k10 f10 => ?_⟩
      have fr10 : Same H0 H10 := fun b o q => (f10 b fun w => by rw [w, n0] at q; cases q).trans (s9 _ _ (fr8 _ _ q))
      have k10' : H10 c = some (.ins cs.Wood dx (wdF la z (.ref t9) pa)) := k10
      have kl10 : H10 la = some (.lst vs) := (f10 la nla).trans (s9 _ _ kl8)
      have kp10 : H10 pa = some (.dT []) := (f10 pa npc).trans (s9 _ _ kpa8)
      have ndc : df ≠ c := fun w => by have := s8 _ _ k7; rw [w, k68] at this; cases this
      have kd10 : H10 df = some (.dT (hK F)) := (f10 df ndc).trans (s9 _ _ kdf8)
      have ntc : t9 ≠ c := fun w => by have := s9 _ _ k68; rw [← w, k9] at this; cases this
      have kt10 : H10 t9 = _ := (f10 t9 ntc).trans k9'
      have hb := hbd F hst
      kxs_still
      refine ⟨vs, rs, z, c, dx, la, pa, .ref t9, .pt r0.head 0 (tl z).length, df, F, rfl, ⟨k10', kl10, (g.more fr10).at_, .inr ⟨_, rfl, t9, rfl, kt10⟩, kp10, .nil⟩, g.ok, rfl, kd10, hst, gbd.h2, hb.1, by rw [c1]; rfl, hb.2, fun kvs P H11 f11 hW hwi hfv => ?_⟩
      kxs_still
      exact h la pa (.ref t9) (some (.pt r0.head 0 (tl z).length)) kvs P F H11 (fun b o q => f11 b o (fun w => by rw [w, n0pa] at q; cases q) (fr10 _ _ q)) n0la n0pa hW hst (by rw [Option.bind_some, c1]; rfl) ⟨fun e => (by cases e), fun n e => by cases e; exact hwi⟩ fun kv hkv l e => fr10.none (hfv kv hkv l e)
  · have ers : rs = [] := by
      have hl := g8.at_.len
      rw [cn] at hl
      exact List.eq_nil_of_length_eq_zero hl.symm
    subst ers
    kxs_still
    exact h la pa .non none [] [] F _ fr8 n0la n0pa ⟨k68, kl8, g8.at_, .inl ⟨rfl, rfl⟩, kpa8, .nil⟩ hst rfl ⟨fun _ => rfl, fun n e => by cases e⟩ (fun kv m => by cases m)
end
theorem in_Wood (T : Txt K mg cs) : Ini P w K mg base cs.Wood 6 ["self", "grammar", "text"] (sp3 (R_Wood_init K cs)) := by
  obtain ⟨f, fd, hm, F, hb⟩ := T.i_Wood.ex
  exact ⟨f, fd, hm, hb, ok_Wood_init F T⟩
def R_Wood_nodes (K : PySem.W.Frag) (cs : Cs) : V → Hp → VK → XK → Prop := fun x H Q _ => ∃ (vs : List V) (rs : List Rl) (z : Str) (c dx la pa : Addr) (pk : V) (top : Option Nd) (kvs : List (List Key × V)) (P : Pths), x = .ref c ∧ Wd H cs.Wood vs rs z c dx la pa pk top kvs P ∧
  ∀ l xs H', Same H H' → H l = none → H' l = some (.lst xs) → All2 (NdAt H') xs (P.map (·.1)) → Q (.ref l) H'
section
theorem ok_Wood_nodes {f : Addr} {fd : FuncData} (F : Fun K "nodes" "Wood.nodes" s_Wood_nodes f fd) (T : Txt K mg cs) : FnOk P w K mg base (L2.CX P w) 1 f fd ["self"] (sp1 (R_Wood_nodes K cs)) := by
  refine F.okX sc_Wood_nodes (fun vs H Q E h => sp1_len h) (fun cdv A outer s H vs Q E hr h => ⟨_, PBw (X := X_Wood_nodes P w K mg base f cdv A outer s H E), ?_⟩)
  obtain ⟨a0, rfl, h⟩ := h
  have ib_list := T.b_list
  have icl_Wood : ClsI K cs.Wood := ⟨T.c_Wood.cl⟩
  have ifl_Wood_paths : NoA K cs.Wood "paths" := ⟨T.n_Wood_paths⟩
  have hr' : Room 0 (X_Wood_nodes P w K mg base f cdv A outer s H E).A := hr
  replace hr := hr'
  clear hr'
  obtain ⟨vs, rs, z, c, dx, la, pa, pk, top, kvs, P, rfl, hW, h⟩ := h
  have kI := hW.ins
  kxs_still
  refine k_listDT hW.dt fun l bs H1 s1 n1 k1 hk f1 => ?_
  kxs_still
  refine h l _ H1 s1 n1 k1 ?_
  exact el_keys (Same.ts s1) hW.el hk
end
def R_Wood_ways (K : PySem.W.Frag) (cs : Cs) : V → V → Hp → VK → XK → Prop := fun x y H Q _ => ∃ (vs : List V) (rs : List Rl) (z : Str) (c dx la pa : Addr) (pk : V) (top : Option Nd) (kvs : List (List Key × V)) (P : Pths) (b : Addr) (ks : List Key), x = .ref c ∧ Wd H cs.Wood vs rs z c dx la pa pk top kvs P ∧ y = .ref b ∧ H b = some (.tup (ks.map kV)) ∧
  ∀ v H', Same H H' → (∀ l, v = .ref l → H l = none) → ((∃ n ws, ks = ndK n ∧ lk P n = some ws ∧ WaysAt H' v ws) ∨ ((∀ n, ks = ndK n → n ∉ P.map (·.1)) ∧ WaysAt H' v [])) → Q v H'
section
theorem ok_Wood_ways {f : Addr} {fd : FuncData} (F : Fun K "ways" "Wood.ways" s_Wood_ways f fd) (T : Txt K mg cs) : FnOk P w K mg base (L2.CX P w) 1 f fd ["self", "node"] (sp2 (R_Wood_ways K cs)) := by
  refine F.okX sc_Wood_ways (fun vs H Q E h => sp2_len h) (fun cdv A outer s H vs Q E hr h => ⟨_, PBw (X := X_Wood_ways P w K mg base f cdv A outer s H E), ?_⟩)
  obtain ⟨a0, a1, rfl, h⟩ := h
  have ib_list := T.b_list
  have icl_Wood : ClsI K cs.Wood := ⟨T.c_Wood.cl⟩
  have ifl_Wood_paths : NoA K cs.Wood "paths" := ⟨T.n_Wood_paths⟩
  have hr' : Room 0 (X_Wood_ways P w K mg base f cdv A outer s H E).A := hr
  replace hr := hr'
  clear hr'
  obtain ⟨vs, rs, z, c, dx, la, pa, pk, top, kvs, P, b, ks, rfl, hW, rfl, hb, h⟩ := h
  have kI := hW.ins
  kxs_still
  refine e_dget2 (rm1 hr) ?_
  kxs_still
  refine ⟨.inr ⟨_, .inl hW.dt⟩, ?_⟩
  kxs_still
  intro l1 H1 s1 n1 k1 f1
  have gk := DGet.t (s1 _ _ hW.dt) (s1 _ _ hb)
  refine ⟨_, gk, ?_⟩
  by_cases c1 : ∃ n ∈ P.map (·.1), ks = ndK n
  · obtain ⟨n, hn, rfl⟩ := c1
    rcases el_val hW.el n with ⟨_, q2⟩ | ⟨v, ws, q1, q2, q3, q4⟩
    · exact absurd hn q2
    obtain ⟨lw, wv, rfl, klw, aw⟩ := q4.more s1
    rw [q1]
    kxs_still
    refine k_listL (.inl (SqL.of klw)) fun l2 H2 s2 n2 k2 f2 => ?_
    kxs_still
    exact h _ H2 (s1.trans s2) (fun l e => by cases e; exact s1.none n2) (.inl ⟨n, ws, rfl, q3, l2, wv, rfl, k2, aw.mono fun _ _ q => q.ts (Same.ts s2)⟩)
  · rw [el_other hW.el ks fun n hn e => c1 ⟨n, hn, e⟩]
    kxs_still
    refine k_listL (.inl (SqL.of k1)) fun l2 H2 s2 n2 k2 f2 => ?_
    kxs_still
    exact h _ H2 (s1.trans s2) (fun l e => by cases e; exact s1.none n2) (.inr ⟨fun n e hn => c1 ⟨n, hn, e⟩, l2, [], rfl, k2, .nil⟩)

end
theorem sum_le_mul {α : Type} {f : α → Nat} {B : Nat} : ∀ {l : List α}, (∀ x ∈ l, f x ≤ B) → (l.map f).sum ≤ l.length * B
  | [], _ => by simp
  | x :: l, h => by
    rw [List.map_cons, List.sum_cons, List.length_cons, Nat.succ_mul]
    have := h x (List.mem_cons_self ..)
    have := sum_le_mul (l := l) fun y m => h y (List.mem_cons_of_mem _ m)
    omega
theorem wn_le {rs : List Rl} {t : List Nat} {F : Hts} {n : Nd} (w : Wi rs t n) : wn rs F n ≤ rs.length + 2 * (t.length + 1) := by
  unfold wn
  cases n with
  | pt X i j =>
    show ((if isSg X = true then [[]] else headWays rs F i j (nums rs X)).map List.length).sum ≤ _
    split
    · show 0 + 0 ≤ _; omega
    · have h1 := sum_le_mul (f := List.length) (B := 1) (l := headWays rs F i j (nums rs X)) fun w hw => by
        unfold headWays at hw
        obtain ⟨r, _, rfl⟩ := List.mem_map.mp hw
        exact Nat.le_refl _
      have h2 := headWays_len rs F i j (nums rs X)
      have hnl : (nums rs X).length ≤ rs.length := by unfold nums numsTo; exact Nat.le_trans (List.length_filter_le _ _) (by rw [List.length_range]; exact Nat.le_refl _)
      omega
  | ru r d i j =>
    obtain ⟨hij, hj, _⟩ := w.ru _ _ _ _ rfl
    cases d with
    | zero => show 0 + 0 ≤ _; omega
    | succ d =>
      show ((match (rs[r]?).bind (·.parts[d]?) with | none => [] | some X => cutWays F X r d i j (j + 1 - i)).map List.length).sum ≤ _
      split
      · show 0 ≤ _; omega
      · rename_i X _
        have h1 := sum_le_mul (f := List.length) (B := 2) (l := cutWays F X r d i j (j + 1 - i)) fun w hw => by
          unfold cutWays at hw
          obtain ⟨k, _, rfl⟩ := List.mem_map.mp hw
          exact Nat.le_refl _
        have h2 := cutWays_len F X r d i j (j + 1 - i)
        omega
theorem Std.small {rs : List Rl} {t : List Nat} {F : Hts} (s : Std rs t F) (h6 : ∀ r ∈ rs, r.parts.length ≤ 6) (h1 : rs.length ≤ 10) (h2 : t.length ≤ 10) : F.length ≤ 10890 ∧ (F.map fun q => wn rs F q.1).sum ≤ 15000000 := by
  have wi : ∀ n ∈ F.map (·.1), Wi rs t n := fun n hn => by
    obtain ⟨h, hh⟩ := lk_has hn
    exact ((s.ht n h).mp hh).1.wi
  have hl : F.length ≤ 10890 := by
    have := nodup_len s.nd fun n hn => (wi n hn).univ h6
    rw [List.length_map] at this
    refine Nat.le_trans this ?_
    unfold univ
    rw [List.length_append, flat_len (c := (t.length + 1) * (t.length + 1)), flat_len (c := 7 * ((t.length + 1) * (t.length + 1)))]
    · rw [List.length_append, List.length_map, List.length_map, List.length_range]
      have h3 : (t.length + 1) * (t.length + 1) ≤ 11 * 11 := Nat.mul_le_mul (by omega) (by omega)
      have h4 : (rs.length + t.length) * ((t.length + 1) * (t.length + 1)) ≤ 20 * (11 * 11) := Nat.mul_le_mul (by omega) h3
      have h5 : rs.length * (7 * ((t.length + 1) * (t.length + 1))) ≤ 10 * (7 * (11 * 11)) := Nat.mul_le_mul h1 (Nat.mul_le_mul (Nat.le_refl _) h3)
      omega
    · intro r _
      rw [flat_len (c := (t.length + 1) * (t.length + 1))]
      · rw [List.length_range]
      · intro d _
        rw [flat_len (c := t.length + 1)]
        · rw [List.length_range]
        · intro i _; rw [List.length_map, List.length_range]
    · intro p _
      rw [flat_len (c := t.length + 1)]
      · rw [List.length_range]
      · intro i _; rw [List.length_map, List.length_range]
  refine ⟨by omega, ?_⟩
  have h3 := sum_le_mul (f := fun q : Nd × Nat => wn rs F q.1) (B := 32) (l := F) fun q hq => by
    have := wn_le (F := F) (wi q.1 (List.mem_map.mpr ⟨q, hq, rfl⟩))
    omega
  omega

theorem cs_at {cs : List Nat} {n : Nat} {i : Int} (hc : cs.length = n) (h0 : 0 ≤ i) (h1 : i < (n : Nat)) : ∃ c ∈ cs, atI (cs.map fun c => V.str ⟨#[c]⟩) i = some (.str ⟨#[c]⟩) := by
  have hl : i.toNat < cs.length := by omega
  refine ⟨cs[i.toNat], List.getElem_mem hl, atI_nat h0 ?_⟩
  rw [List.getElem?_map, List.getElem?_eq_getElem hl]
  rfl
def R_law_text (K : PySem.W.Frag) : V → V → V → Hp → VK → XK → Prop := fun x y z H Q _ => ∃ (a : Addr) (ns : List Int) (at_ : Int) (n : Nat), x = .ref a ∧ SqL K H a (ns.map V.int) ∧ y = .int at_ ∧ 0 ≤ at_ ∧ at_ ≤ 900 ∧ z = .int (n : Nat) ∧ n ≤ 60 ∧ ∀ zs H', Same H H' → zs.length = n → (∀ c ∈ zs, okc c = true) → Q (.str (strOf zs)) H'
section
set_option hygiene false in
local macro_rules | `(tactic| top_name) => `(tactic| first | refine e_call (df_law_signs T) (hr.mono (by decide)) ?_ | refine e_call (df_law_mixed T) (hr.mono (by decide)) ?_)
theorem ok_law_text {f : Addr} {fd : FuncData} (F : Fun K "_law_text" "_law_text" s_law_text f fd) (T : Txt K mg cs) : FnOk P w K mg base (L2.CX P w) 3 f fd ["_law_script", "_law_at", "_law_size"] (sp3 (R_law_text K)) := by
  refine F.okX sc_law_text (fun vs H Q E h => sp3_len h) (fun cdv A outer s H vs Q E hr h => ⟨_, PBw (X := X_law_text P w K mg base f cdv A outer s H E), ?_⟩)
  obtain ⟨a0, a1, a2, rfl, h⟩ := h
  have ib_range := T.b_range
  have hr' : Room 2 (X_law_text P w K mg base f cdv A outer s H E).A := hr
  replace hr := hr'
  clear hr'
  obtain ⟨a, ns, at_, n, rfl, hS, rfl, h0, h9, rfl, hn, h⟩ := h
  kxs_still
  refine ⟨_, _, _, rfl, hS, rfl, by decide, by decide, fun j j0 j1 => ?_⟩
  kxs_still
  refine ⟨j0, fun l1 H1 cs s1 n1 k1 hc hcs => ?_⟩
  have hS1 := s1.seq hS
  kxs_still
  refine s_for (j_rng1 ?_)
  kxs_still
  refine ⟨by omega, by omega, _, _, _, walk_range0, fun i σ' H' => ∃ (zs : List Nat) (v5 v6 : Option V), σ' = [some (.ref a), some (.int at_), some (.int (n : Nat)), some (.ref l1), some (.str (strOf zs)), v5, v6] ∧ Same H1 H' ∧ zs.length = i ∧ ∀ c ∈ zs, okc c = true, ⟨[], none, none, by rw [strOf_nil]; rfl, Same.refl _, rfl, fun _ m => by cases m⟩, fun _ _ _ _ _ => trivial, ?_, ?_⟩
  · rintro i x σ' H2 H3 hi ⟨zs, v5, v6, rfl, s3, hl, hz⟩ ⟨rfl, rfl⟩
    have k3 := s3 _ _ k1
    kxs_still
    refine ⟨_, _, _, rfl, s3.seq hS1, rfl, by omega, by omega, fun jj jj0 jj1 => ?_⟩
    kxs_still
    refine iteD (fun c4 => ?_) fun c4 => ?_
    · kxs_still
      refine ⟨by omega, fun l4 H4 cs4 s4 n4 k4 hc4 hcs4 => ?_⟩
      obtain ⟨c, hcm, hca⟩ := cs_at (i := 0) hc4 (by decide) (by decide)
      kxs_still
      refine o_cat (by rw [strOf_len, one_len, sizeLine_eq]; omega) ?_
      kxs_still
      exact ⟨zs ++ [c], _, _, by rw [← strOf_app]; rfl, s3.trans s4, by rw [List.length_append, hl]; rfl, fun d m => by
        rcases List.mem_append.mp m with m | m
        · exact hz d m
        · rw [List.mem_singleton.mp m]; exact hcs4 c hcm⟩
    · obtain ⟨c, hcm, hca⟩ := cs_at (i := jj % 5 % 3) hc (by omega) (by show _ < (3 : Int); omega)
      kxs_still
      refine o_cat (by rw [strOf_len, one_len, sizeLine_eq]; omega) ?_
      kxs_still
      exact ⟨zs ++ [c], _, _, by rw [← strOf_app]; rfl, s3, by rw [List.length_append, hl]; rfl, fun d m => by
        rcases List.mem_append.mp m with m | m
        · exact hz d m
        · rw [List.mem_singleton.mp m]; exact hcs c hcm⟩
  · rintro σ' H2 ⟨zs, v5, v6, rfl, s3, hl, hz⟩
    kxs_still
    exact h zs H2 (s1.trans s3) (by omega) hz

end
theorem df_law_text (T : Txt K mg cs) : Df P w K mg base "_law_text" 3 ["_law_script", "_law_at", "_law_size"] (sp3 (R_law_text K)) := by
  obtain ⟨f, fd, hm, F, hb⟩ := T.f_law_text.ex
  exact ⟨f, fd, hm, F.kp, hb, ok_law_text F T⟩
/-- how much a wood's nodes have, of a text of any length -/
theorem Std.mid {rs : List Rl} {t : List Nat} {F : Hts} (s : Std rs t F) (h6 : ∀ r ∈ rs, r.parts.length ≤ 6) {R N : Nat} (h1 : rs.length ≤ R) (h2 : t.length ≤ N) :
    (F.map fun q => wn rs F q.1).sum ≤ (R + N) * ((N + 1) * (N + 1)) * R + R * (7 * ((N + 1) * (N + 1))) * (2 * (N + 1)) := by
  have wi : ∀ n ∈ F.map (·.1), Wi rs t n := fun n hn => by
    obtain ⟨h, hh⟩ := lk_has hn
    exact ((s.ht n h).mp hh).1.wi
  have e := sum_sub (wn rs F) (K := F.map (·.1)) (L := univ rs t) s.nd fun n hn => (wi n hn).univ h6
  rw [List.map_map] at e
  refine Nat.le_trans e ?_
  unfold univ
  rw [List.map_append, List.sum_append]
  have h3 : (t.length + 1) * (t.length + 1) ≤ (N + 1) * (N + 1) := Nat.mul_le_mul (by omega) (by omega)
  refine Nat.add_le_add ?_ ?_
  · refine Nat.le_trans (sum_le_mul (B := R) fun n hn => ?_) (Nat.mul_le_mul ?_ (Nat.le_refl _))
    · obtain ⟨p, _, hn⟩ := List.mem_flatMap.mp hn
      obtain ⟨i, _, hn⟩ := List.mem_flatMap.mp hn
      obtain ⟨j, _, rfl⟩ := List.mem_map.mp hn
      show ((if isSg p = true then [[]] else headWays rs F i j (nums rs p)).map List.length).sum ≤ _
      split
      · show 0 + 0 ≤ _; omega
      · have h1 := sum_le_mul (f := List.length) (B := 1) (l := headWays rs F i j (nums rs p)) fun w hw => by
          unfold headWays at hw
          obtain ⟨r, _, rfl⟩ := List.mem_map.mp hw
          exact Nat.le_refl _
        have h2 := headWays_len rs F i j (nums rs p)
        have hnl : (nums rs p).length ≤ rs.length := by unfold nums numsTo; exact Nat.le_trans (List.length_filter_le _ _) (by rw [List.length_range]; exact Nat.le_refl _)
        omega
    · rw [flat_len (c := (t.length + 1) * (t.length + 1))]
      · rw [List.length_append, List.length_map, List.length_map]
        exact Nat.mul_le_mul (by omega) h3
      · intro p _
        rw [flat_len (c := t.length + 1)]
        · rw [List.length_range]
        · intro i _; rw [List.length_map, List.length_range]
  · refine Nat.le_trans (sum_le_mul (B := 2 * (N + 1)) fun n hn => ?_) (Nat.mul_le_mul ?_ (Nat.le_refl _))
    · obtain ⟨r, _, hn⟩ := List.mem_flatMap.mp hn
      obtain ⟨d, _, hn⟩ := List.mem_flatMap.mp hn
      obtain ⟨i, _, hn⟩ := List.mem_flatMap.mp hn
      obtain ⟨j, hj, rfl⟩ := List.mem_map.mp hn
      have hj := List.mem_range.mp hj
      cases d with
      | zero => show 0 + 0 ≤ _; omega
      | succ d =>
        show ((match (rs[r]?).bind (·.parts[d]?) with | none => [] | some X => cutWays F X r d i j (j + 1 - i)).map List.length).sum ≤ _
        split
        · show 0 ≤ _; omega
        · rename_i X _
          have h1 := sum_le_mul (f := List.length) (B := 2) (l := cutWays F X r d i j (j + 1 - i)) fun w hw => by
            unfold cutWays at hw
            obtain ⟨k, _, rfl⟩ := List.mem_map.mp hw
            exact Nat.le_refl _
          have h2 := cutWays_len F X r d i j (j + 1 - i)
          omega
    · rw [flat_len (c := 7 * ((t.length + 1) * (t.length + 1)))]
      · rw [List.length_range]
        exact Nat.mul_le_mul h1 (Nat.mul_le_mul (Nat.le_refl _) h3)
      · intro r _
        rw [flat_len (c := (t.length + 1) * (t.length + 1))]
        · rw [List.length_range]
        · intro d _
          rw [flat_len (c := t.length + 1)]
          · rw [List.length_range]
          · intro i _; rw [List.length_map, List.length_range]

/-- H'' keeps the tuples of H' and all that is new against H -/
def FrS (H H' H'' : Hp) : Prop := ∀ b o, H' b = some o → (H b = none ∨ ∃ xs, o = .tup xs) → H'' b = some o
theorem FrS.pre {H H1 H2 H3 : Hp} (s : Same H1 H2) (f : FrS H H2 H3) : FrS H H1 H3 := fun b o e q => f b o (s b o e) q
theorem FrS.of {H H1 H2 : Hp} (s : Same H1 H2) : FrS H H1 H2 := fun b o e _ => s b o e
theorem FrS.t {H H' H'' : Hp} (f : FrS H H' H'') {b : Addr} {xs : List V} (e : H' b = some (.tup xs)) : H'' b = some (.tup xs) := f b _ e (.inr ⟨_, rfl⟩)
theorem FrS.l {H H' H'' : Hp} (f : FrS H H' H'') {b : Addr} {o : HO} (n : H b = none) (e : H' b = some o) : H'' b = some o := f b _ e (.inl n)
theorem rule_bad1 {a b c : PyData} (h : isNameD a = false) : isRuleD (.tuple [a, b, c]) = false := by simp [isRuleD, isRuleL, h]
theorem rule_bad2 {a b c : PyData} (h : arePartsD b = false) : isRuleD (.tuple [a, b, c]) = false := by simp [isRuleD, isRuleL, h]
theorem rule_bad3 {a b c : PyData} (h : isWorthD c = false) : isRuleD (.tuple [a, b, c]) = false := by simp [isRuleD, isRuleL, h]
theorem parts_bad {ds : List PyData} {d : PyData} (hm : d ∈ ds) (h : isPartD d = false) : arePartsD (.tuple ds) = false := by
  have : ds.all isPartD = false := List.all_eq_false.mpr ⟨d, hm, by rw [h]; simp⟩
  simp [arePartsD, this]
theorem part_lens {l : List Str} (h : ∀ p ∈ l, isPartS p = true) : ∀ p ∈ l, p.length ≤ 1000000 := fun p hp => Nat.le_trans (part_len (h p hp)) (by decide)
theorem worth_bad {n : Int} (h : n < 0 ∨ top60 < n) : isWorthD (.int n) = false := by
  show (decide (0 ≤ n) && decide (n ≤ top60)) = false
  rcases h with h | h
  · rw [decide_eq_false (by omega), Bool.false_and]
  · rw [decide_eq_false (show ¬ n ≤ top60 by omega), Bool.and_false]
theorem gram_bad {ds : List PyData} {d : PyData} (hm : d ∈ ds) (h : isRuleD d = false) : isGramD (.list ds) = false := by
  have : ds.all isRuleD = false := List.all_eq_false.mpr ⟨d, hm, by rw [h]; simp⟩
  simp [isGramD, this]
theorem rules_each {H : Hp} : ∀ {ys : List V}, (∀ y ∈ ys, ∃ r, RuleAt H y r ∧ GoodR r) → ∃ rs, RulesAt H ys rs ∧ ∀ r ∈ rs, GoodR r
  | [], _ => ⟨[], RulesAt.nil, by simp⟩
  | y :: ys, h => by
    obtain ⟨r, h1, h2⟩ := h y (List.mem_cons_self ..)
    obtain ⟨rs, h3, h4⟩ := rules_each (ys := ys) fun z hz => h z (List.mem_cons_of_mem _ hz)
    exact ⟨r :: rs, .cons h1 h3, fun q hq => by
      rcases List.mem_cons.mp hq with rfl | hq
      · exact h2
      · exact h4 q hq⟩
theorem gram_long {ds : List PyData} (h : ¬ ds.length ≤ 60) : isGramD (.list ds) = false := by
  simp [isGramD, h]
theorem thAll_set {K : PySem.W.Frag} {H : Hp} {v : V} {d : PyData} : ∀ {xs : List V} {ds : List PyData} (j : Nat), ThAll K H xs ds → Th K H v d → ThAll K H (xs.set j v) (ds.set j d)
  | _, _, _, .nil, _ => .nil
  | _, _, 0, .cons _ t, h => .cons h t
  | _, _, j + 1, .cons a t, h => .cons a (thAll_set j t h)
def R_law_bad_rule (K : PySem.W.Frag) : V → V → Hp → VK → XK → Prop := fun x y H Q _ => ∃ (i : Int) (r : Rl), x = .int i ∧ 0 ≤ i ∧ RuleAt H y r ∧ GoodR r ∧ ∀ v d H', Same H H' → (∀ H'', FrS H H' H'' → Th K H'' v d) → isRuleD d = false → Q v H'
section
theorem ok_law_bad_rule {f : Addr} {fd : FuncData} (F : Fun K "_law_bad_rule" "_law_bad_rule" s_law_bad_rule f fd) (T : Txt K mg cs) : FnOk P w K mg base (L2.CX P w) 1 f fd ["_law_cell", "_law_rule"] (sp2 (R_law_bad_rule K)) := by
  refine F.okX sc_law_bad_rule (fun vs H Q E h => sp2_len h) (fun cdv A outer s H vs Q E hr h => ⟨_, PBw (X := X_law_bad_rule P w K mg base f cdv A outer s H E), ?_⟩)
  obtain ⟨a0, a1, rfl, h⟩ := h
  have ib_list := T.b_list
  have ib_len := T.b_len
  have ib_min := T.b_min
  have hr' : Room 0 (X_law_bad_rule P w K mg base f cdv A outer s H E).A := hr
  replace hr := hr'
  clear hr'
  obtain ⟨i, r, rfl, i0, ⟨a, b, rfl, f1, f2⟩, g, h⟩ := h
  have few := g.few
  have hn8 : r.head.length ≤ 1000000 := Nat.le_trans (name_len g.head) (by decide)
  have sl : ∀ s : String, (Str.ofString s).length ≤ 20 → (Str.ofString s).length ≤ 1000000 := fun s h => Nat.le_trans h (by decide)
  have thPs : ∀ {H9 : Hp}, ThAll K H9 (r.parts.map V.str) (r.parts.map PyData.str) := th_strs (part_lens g.parts)
  kxs_still
  intro t1 H1 s1 n1 k1 _
  refine o_repTL k1 (List.cons_ne_nil _ _) (by decide) (by decide) (by show 1 ≤ 1000; decide) fun t2 H2 s2 n2 k2 => ?_
  refine o_catT ((s1.trans s2) _ _ f2) k2 (by rw [List.length_map]; show r.parts.length + 7 ≤ 100000; omega) fun t3 H3 s3 k3 => ?_
  kxs_still
  refine n_tup k3 fun many H4 s4 k4 => ?_
  rw [cutV_to _ (by decide)] at k4
  obtain ⟨M, eM, hM, hMl⟩ : ∃ M : List Str, (List.take (7 : Int).toNat (r.parts.map V.str ++ (List.replicate (7 : Int).toNat [V.str r.head]).flatten)) = M.map V.str ∧ M.length = 7 ∧ ∀ p ∈ M, p.length ≤ 1000000 :=
    ⟨(r.parts ++ List.replicate 7 r.head).take 7, by rw [List.map_take, List.map_append]; rfl, by
      rw [List.length_take, List.length_append, List.length_replicate]; omega, fun p hp => by
      rcases List.mem_append.mp (List.mem_of_mem_take hp) with q | q
      · exact part_lens g.parts p q
      · rw [List.eq_of_mem_replicate q]; exact hn8⟩
  rw [eM] at k4
  have s04 := s1.trans (s2.trans (s3.trans s4))
  have f14 := s04 _ _ f1
  have f24 := s04 _ _ f2
  kxs_still
  refine iteD (fun c => ?_) fun c => ?_
  · kxs_still
    refine k_listL (.inr (SqT.of f14)) fun l5 H5 s5 n5 k5 _ => ?_
    kxs_still
    intro t6 H6 s6 n6 k6 _
    kxs_still
    intro t7 H7 s7 n7 k7 _
    kxs_still
    intro l8 H8 s8 n8 k8 _
    have s48 := s5.trans (s6.trans (s7.trans s8))
    have q5 := (s6.trans (s7.trans s8)) _ _ k5
    have q6 := (s7.trans s8) _ _ k6
    have q7 := s8 _ _ k7
    have q2 := s48 _ _ f24
    have m5 := s04.none n5
    kxs_still
    obtain ⟨v, hv, d, hd, hb⟩ := ix_any (i := i % 24) k8 (fun v => ∃ d, (∀ H'', FrS H H8 H'' → Th K H'' v d) ∧ isRuleD d = false) (by
      intro x hx
      simp only [List.mem_cons, List.not_mem_nil, or_false] at hx
      rcases hx with rfl | rfl | rfl | rfl
      · exact ⟨_, fun _ _ => .non, rfl⟩
      · exact ⟨_, fun H'' f => .lst (SqL.of (f.l m5 q5)) (.cons (.str _ hn8) (.cons (.tup (SqT.of (f.t q2)) thPs) (.cons (.int _) .nil))), rfl⟩
      · exact ⟨_, fun H'' f => .tup (SqT.of (f.t q6)) (.cons (.str _ hn8) (.cons (.tup (SqT.of (f.t q2)) thPs) .nil)), rfl⟩
      · exact ⟨_, fun H'' f => .tup (SqT.of (f.t q7)) (.cons (.str _ hn8) (.cons (.tup (SqT.of (f.t q2)) thPs) (.cons (.int _) (.cons (.int _) .nil)))), rfl⟩) (by omega) (by show _ < (4 : Int); omega)
    refine i_lst (SqL.of k8) hv ?_
    kxs_still
    exact h _ _ _ (s04.trans s48) hd hb
  kxs_still
  refine iteD (fun c2 => ?_) fun c2 => ?_
  · kxs_still
    intro l5 H5 s5 n5 k5 _
    have q2 := s5 _ _ f24
    kxs_still
    obtain ⟨v, hv, d, hd, hb⟩ := ix_any (i := i % 24 - 4) k5 (fun v => ∃ d, (∀ H'', Th K H'' v d) ∧ isNameD d = false) (by
      intro x hx
      simp only [List.mem_cons, List.not_mem_nil, or_false] at hx
      rcases hx with rfl | rfl | rfl | rfl | rfl | rfl
      · exact ⟨_, fun _ => .str _ (sl _ (by decide +kernel)), by decide +kernel⟩
      · exact ⟨_, fun _ => .str _ (sl _ (by decide +kernel)), by decide +kernel⟩
      · exact ⟨_, fun _ => .str _ (sl _ (by decide +kernel)), by decide +kernel⟩
      · exact ⟨_, fun _ => .str _ (sl _ (by decide +kernel)), by decide +kernel⟩
      · exact ⟨_, fun _ => .str _ (sl _ (by decide +kernel)), by decide +kernel⟩
      · exact ⟨_, fun _ => .int _, rfl⟩) (by omega) (by show _ < (6 : Int); omega)
    refine i_lst (SqL.of k5) hv ?_
    kxs_still
    intro t6 H6 s6 n6 k6 _
    kxs_still
    exact h _ _ _ (s04.trans (s5.trans s6)) (fun H'' f => .tup (SqT.of (f.t k6)) (.cons (hd H'') (.cons (.tup (SqT.of (f.t (s6 _ _ q2))) thPs) (.cons (.int _) .nil)))) (rule_bad1 hb)
  kxs_still
  refine iteD (fun c3 => ?_) fun c3 => ?_
  · kxs_still
    intro l5 H5 s5 n5 k5 _
    kxs_still
    have j0 : 0 ≤ i / 168 % 7 := by omega
    have j1 : i / 168 % 7 < 7 := by omega
    obtain ⟨v, hv, d, hd, hb⟩ := ix_any (i := i / 168 % 7) k5 (fun v => ∃ d, (∀ H'', Th K H'' v d) ∧ isPartD d = false) (by
      intro x hx
      simp only [List.mem_cons, List.not_mem_nil, or_false] at hx
      rcases hx with rfl | rfl | rfl | rfl | rfl | rfl | rfl
      · exact ⟨_, fun _ => .str _ (sl _ (by decide +kernel)), by decide +kernel⟩
      · exact ⟨_, fun _ => .str _ (sl _ (by decide +kernel)), by decide +kernel⟩
      · exact ⟨_, fun _ => .str _ (sl _ (by decide +kernel)), by decide +kernel⟩
      · exact ⟨_, fun _ => .int _, rfl⟩
      · exact ⟨_, fun _ => .str _ (sl _ (by decide +kernel)), by decide +kernel⟩
      · exact ⟨_, fun _ => .str _ (sl _ (by decide +kernel)), by decide +kernel⟩
      · exact ⟨_, fun _ => .str _ (sl _ (by decide +kernel)), by decide +kernel⟩) j0 (by show _ < (7 : Int); omega)
    refine i_lst (SqL.of k5) hv ?_
    have s05 := s04.trans s5
    have f25 := s5 _ _ f24
    kxs_still
    rw [List.length_map]
    refine o_mod (by omega) ?_
    have p0 : 0 ≤ i / 24 % ((r.parts.length : Int) + 1) := Int.emod_nonneg _ (by omega)
    generalize i / 24 % ((r.parts.length : Int) + 1) = at' at *
    kxs_still
    refine k_listL (.inr (SqT.of f25)) fun l6 H6 s6 n6 k6 _ => ?_
    have f26 := s6 _ _ f25
    kxs_still
    refine n_tup f26 fun t7 H7 s7 k7 => ?_
    rw [cutV_to _ p0, ← List.map_take] at k7
    kxs_still
    intro t8 H8 s8 n8 k8 _
    kxs_still
    refine o_catT (s8 _ _ k7) k8 (by rw [List.length_map, List.length_take]; show _ + 1 ≤ 100000; omega) fun t9 H9 s9 k9 => ?_
    have s69 := s7.trans (s8.trans s9)
    kxs_still
    refine n_tup (s69 _ _ f26) fun t10 H10 s10 k10 => ?_
    rw [cutV_from _ p0, ← List.map_drop] at k10
    refine o_catT (s10 _ _ k9) k10 (by simp only [List.length_append, List.length_map, List.length_take, List.length_drop, List.length_cons, List.length_nil]; omega) fun t11 H11 s11 k11 => ?_
    kxs_still
    intro l12 H12 s12 n12 k12 _
    have s612 := s69.trans (s10.trans (s11.trans s12))
    have s412 := s5.trans (s6.trans s612)
    have q6 := s612 _ _ k6
    have q4 := s412 _ _ k4
    have q11 := s12 _ _ k11
    have m6 := s05.none n6
    kxs_still
    obtain ⟨w', hw, d2, hd2, hb2⟩ := ix_any (i := if i % 24 - 10 < 3 then i % 24 - 10 else 3) k12 (fun v => ∃ d, (∀ H'', FrS H H12 H'' → Th K H'' v d) ∧ arePartsD d = false) (by
      intro x hx
      simp only [List.mem_cons, List.not_mem_nil, or_false] at hx
      rcases hx with rfl | rfl | rfl | rfl
      · exact ⟨_, fun H'' f => .lst (SqL.of (f.l m6 q6)) thPs, rfl⟩
      · exact ⟨_, fun _ _ => .str _ hn8, rfl⟩
      · exact ⟨_, fun H'' f => .tup (SqT.of (f.t q4)) (th_strs hMl), by
          show (decide ((M.map PyData.str).length ≤ 6) && _) = false
          rw [List.length_map, hM, decide_eq_false (by decide), Bool.false_and]⟩
      · exact ⟨_, fun H'' f => .tup (SqT.of (f.t q11)) (((th_strs (part_lens fun p hp => g.parts p (List.mem_of_mem_take hp))).app (.cons (hd H'') .nil)).app (th_strs (part_lens fun p hp => g.parts p (List.mem_of_mem_drop hp)))), parts_bad (d := d) (by simp) hb⟩) (by split <;> omega) (by show _ < (4 : Int); split <;> omega)
    refine i_lst (SqL.of k12) hw ?_
    kxs_still
    intro t13 H13 s13 n13 k13 _
    kxs_still
    exact h _ _ _ (s04.trans (s412.trans s13)) (fun H'' f => .tup (SqT.of (f.t k13)) (.cons (.str _ hn8) (.cons (hd2 H'' (f.pre s13)) (.cons (.int _) .nil)))) (rule_bad2 hb2)
  · kxs_still
    intro l5 H5 s5 n5 k5 _
    have q2 := s5 _ _ f24
    kxs_still
    obtain ⟨v, hv, d, hd, hb⟩ := ix_any (i := i % 24 - 19) k5 (fun v => ∃ d, (∀ H'', Th K H'' v d) ∧ isWorthD d = false) (by
      intro x hx
      simp only [List.mem_cons, List.not_mem_nil, or_false] at hx
      rcases hx with rfl | rfl | rfl | rfl | rfl
      · exact ⟨_, fun _ => .int _, worth_bad (.inl (by omega))⟩
      · exact ⟨_, fun _ => .int _, worth_bad (.inr (by show (1000000000000000000000000000000000000000000000000000000000000 : Int) < _; omega))⟩
      · exact ⟨_, fun _ => .bl _, rfl⟩
      · exact ⟨_, fun _ => .str _ (sl _ (by decide +kernel)), rfl⟩
      · exact ⟨_, fun _ => .non, rfl⟩) (by omega) (by show _ < (5 : Int); omega)
    refine i_lst (SqL.of k5) hv ?_
    kxs_still
    intro t6 H6 s6 n6 k6 _
    kxs_still
    exact h _ _ _ (s04.trans (s5.trans s6)) (fun H'' f => .tup (SqT.of (f.t k6)) (.cons (.str _ hn8) (.cons (.tup (SqT.of (f.t (s6 _ _ q2))) thPs) (.cons (hd H'') .nil)))) (rule_bad3 hb)
end
theorem df_law_bad_rule (T : Txt K mg cs) : Df P w K mg base "_law_bad_rule" 1 ["_law_cell", "_law_rule"] (sp2 (R_law_bad_rule K)) := by
  obtain ⟨f, fd, hm, F, hb⟩ := T.f_law_bad_rule.ex
  exact ⟨f, fd, hm, F.kp, hb, ok_law_bad_rule F T⟩
def R_law_bad_grammar (K : PySem.W.Frag) : V → V → Hp → VK → XK → Prop := fun x y H Q _ => ∃ (i : Int) (a : Addr) (vs : List V) (rs : List Rl), x = .int i ∧ 0 ≤ i ∧ GramAt K H y a vs rs ∧ 0 < rs.length ∧ ∀ v d H', Same H H' → Th K H' v d → isGramD d = false → (isK d "list" = false ∨ ∃ l xs, v = .ref l ∧ H l = none ∧ H' l = some (.lst xs)) → Q v H'
section
set_option hygiene false in
local macro_rules | `(tactic| top_name) => `(tactic| first | refine e_call (df_law_bad_rule T) (hr.mono (by decide)) ?_)
theorem ok_law_bad_grammar {f : Addr} {fd : FuncData} (F : Fun K "_law_bad_grammar" "_law_bad_grammar" s_law_bad_grammar f fd) (T : Txt K mg cs) : FnOk P w K mg base (L2.CX P w) 2 f fd ["_law_cell", "_law_rules"] (sp2 (R_law_bad_grammar K)) := by
  refine F.okX sc_law_bad_grammar (fun vs H Q E h => sp2_len h) (fun cdv A outer s H vs Q E hr h => ⟨_, PBw (X := X_law_bad_grammar P w K mg base f cdv A outer s H E), ?_⟩)
  obtain ⟨a0, a1, rfl, h⟩ := h
  have ib_list := T.b_list
  have ib_len := T.b_len
  have ib_tuple := T.b_tuple
  have ib_range := T.b_range
  have hr' : Room 1 (X_law_bad_grammar P w K mg base f cdv A outer s H E).A := hr
  replace hr := hr'
  clear hr'
  obtain ⟨i, a, vs, rs, rfl, i0, g, lp, h⟩ := h
  obtain rfl := g.ref
  have hlen := g.at_.len
  have few := g.ok.few
  obtain ⟨v0, hv0⟩ : ∃ v, vs[0]? = some v := ⟨vs[0]'(by omega), List.getElem?_eq_getElem (by omega)⟩
  kxs_still
  refine iteD (fun c => ?_) fun c => ?_
  · kxs_still
    refine k_tupL g.sq fun t1 H1 s1 n1 k1 _ => ?_
    kxs_still
    refine e_dct1 fun d2 H2 s2 n2 k2 f2 => ?_
    kxs_still
    refine i_lst ((s1.trans s2).seq g.sq) (v := v0) (atI_nat (by decide) hv0) ?_
    refine ⟨k2, .inl 0, rfl, fun H3 k3 f3 => ?_⟩
    have s13 : Same H1 H3 := fun b o q => (f3 b (ne_of_none q n2)).trans (s2 _ _ q)
    kxs_still
    intro l4 H4 s4 n4 k4 _
    kxs_still
    have q1 := (s13.trans s4) _ _ k1
    have q3 := s4 _ _ k3
    have s04 := s1.trans (s13.trans s4)
    obtain ⟨v, hv, d, hd, hb, hl⟩ := ix_any (i := i % 30) k4 (fun v => ∃ d, Th K H4 v d ∧ isGramD d = false ∧ isK d "list" = false) (by
      intro x hx
      simp only [List.mem_cons, List.not_mem_nil, or_false] at hx
      rcases hx with rfl | rfl | rfl | rfl | rfl
      · exact ⟨_, .non, rfl, rfl⟩
      · exact ⟨_, .int _, rfl, rfl⟩
      · exact ⟨_, .str _ (by decide +kernel), rfl, rfl⟩
      · exact ⟨_, .tup (SqT.of q1) ((g.at_.th g.ok.good).more s04), rfl, rfl⟩
      · exact ⟨_, .dct q3, rfl, rfl⟩) (by omega) (by show _ < (5 : Int); omega)
    refine i_lst (SqL.of k4) hv ?_
    kxs_still
    exact h _ _ _ s04 hd hb (.inl hl)
  kxs_still
  refine iteD (fun c2 => ?_) fun c2 => ?_
  · kxs_still
    refine e_lcH (blkOk_by (sc := defScope s_law_bad_grammar) (own := [("_law_k", 3)]) (by decide +kernel)) (fun _ y H => ∃ r, RuleAt H y r ∧ GoodR r) (fun _ _ _ _ s ⟨r, h1, h2⟩ => ⟨r, h1.ts s, h2⟩) (j_rng1 ?_)
    kxs_still
    refine ⟨by omega, by omega, _, _, _, walk_range0, by omega, fun _ _ => trivial, ?_, ?_⟩
    · rintro n x H' H6 hn s' ⟨rfl, rfl⟩
      refine ⟨Same.refl _, fun _ _ _ _ _ => ?_⟩
      kxs_still
      refine ⟨rfl, Same.refl _, fun _ _ _ _ _ => ?_⟩
      have g6 := g.more s'
      kxs_still
      refine k_lenL g6.sq ?_
      kxs_still
      refine o_mod (by omega) ?_
      have q0 : 0 ≤ (n : Int) % (vs.length : Int) := Int.emod_nonneg _ (by omega)
      have q1 : (n : Int) % (vs.length : Int) < vs.length := Int.emod_lt_of_pos _ (by omega)
      generalize (n : Int) % (vs.length : Int) = j at *
      obtain ⟨v, hv⟩ : ∃ v, vs[j.toNat]? = some v := ⟨vs[j.toNat]'(by omega), List.getElem?_eq_getElem (by omega)⟩
      obtain ⟨r, hr1, hr2⟩ := g6.at_.get _ v hv
      refine i_lst g6.sq (atI_nat q0 hv) ?_
      exact ⟨⟨r, hr2, g.ok.good r (List.mem_of_getElem? hr1)⟩, Same.refl _⟩
    intro l6 H6 ys s6 n6 k6 e6 hy
    obtain ⟨qs, hqs, hg⟩ := rules_each (H := H6) (ys := ys) fun y hm => by
      obtain ⟨j, hj⟩ := List.mem_iff_getElem?.mp hm
      exact hy j y hj
    have hql := hqs.len
    kxs_still
    exact h _ _ _ s6 (.lst (SqL.of k6) (hqs.th hg)) (gram_long (by rw [List.length_map]; omega)) (.inr ⟨l6, ys, rfl, n6, k6⟩)
  kxs_still
  refine k_listL (.inl g.sq) fun l1 H1 s1 n1 k1 f1 => ?_
  kxs_still
  refine k_lenL (s1.seq g.sq) ?_
  kxs_still
  refine o_mod (by omega) ?_
  have p0 : 0 ≤ i / 720 % (vs.length : Int) := Int.emod_nonneg _ (by omega)
  have p1 : i / 720 % (vs.length : Int) < vs.length := Int.emod_lt_of_pos _ (by omega)
  generalize i / 720 % (vs.length : Int) = at' at *
  kxs_still
  refine s_asg ?_
  kxs_still
  obtain ⟨v, hv⟩ : ∃ v, vs[at'.toNat]? = some v := ⟨vs[at'.toNat]'(by omega), List.getElem?_eq_getElem (by omega)⟩
  obtain ⟨r, hr1, hr2⟩ := g.at_.get _ v hv
  refine i_lst (SqL.of k1) (atI_nat p0 hv) ?_
  kxs_still
  refine ⟨_, r, rfl, by omega, hr2.more s1, g.ok.good r (List.mem_of_getElem? hr1), fun v2 d2 H2 s2 hd2 hb2 => ?_⟩
  have k12 := s2 _ _ k1
  refine g_setL ?_
  kxs_still
  refine ⟨l1, vs, at', at'.toNat, rfl, rfl, k12, (by unfold ixN; rw [if_pos p0, if_pos p1]), fun H3 k3 f3 => ?_⟩
  have s03 : Same H H3 := fun b o q => (f3 b (ne_of_none q n1)).trans (s2 _ _ (s1 _ _ q))
  have fr : FrS H1 H2 H3 := fun b o q c => (f3 b fun w => by
    rcases c with c | ⟨xs, rfl⟩
    · rw [w, k1] at c; cases c
    · rw [w, k12] at q; cases q).trans q
  kxs_still
  refine h _ _ _ s03 (.lst (SqL.of k3) (thAll_set _ ((g.at_.th g.ok.good).more s03) (hd2 H3 fr))) (gram_bad (d := d2) ?_ hb2) (.inr ⟨l1, _, rfl, n1, k3⟩)
  exact List.mem_of_getElem? (List.getElem?_set_self (by rw [List.length_map]; omega))
end
theorem df_law_bad_grammar (T : Txt K mg cs) : Df P w K mg base "_law_bad_grammar" 2 ["_law_cell", "_law_rules"] (sp2 (R_law_bad_grammar K)) := by
  obtain ⟨f, fd, hm, F, hb⟩ := T.f_law_bad_grammar.ex
  exact ⟨f, fd, hm, F.kp, hb, ok_law_bad_grammar F T⟩
theorem text_bad {z : Str} {c : Nat} (h : c ∈ tl z) (hc : okc c = false) : isTextD (.str z) = false := by
  show (decide (z.length ≤ 60) && (tl z).all okc) = false
  rw [List.all_eq_false.mpr ⟨c, h, by rw [hc]; exact Bool.false_ne_true⟩, Bool.and_false]
theorem text_far {z : Str} (h : ¬ z.length ≤ 60) : isTextD (.str z) = false := by
  show (decide (z.length ≤ 60) && _) = false
  rw [decide_eq_false h, Bool.false_and]
def R_law_bad_text (K : PySem.W.Frag) : V → V → Hp → VK → XK → Prop := fun x y H Q _ => ∃ (i : Int) (z : Str), x = .int i ∧ 0 ≤ i ∧ y = .str z ∧ z.length ≤ 60 ∧ ∀ v d H', Same H H' → Th K H' v d → isTextD d = false → Q v H'
section
theorem ok_law_bad_text {f : Addr} {fd : FuncData} (F : Fun K "_law_bad_text" "_law_bad_text" s_law_bad_text f fd) (T : Txt K mg cs) : FnOk P w K mg base (L2.CX P w) 1 f fd ["_law_cell", "_law_text_here"] (sp2 (R_law_bad_text K)) := by
  refine F.okX sc_law_bad_text (fun vs H Q E h => sp2_len h) (fun cdv A outer s H vs Q E hr h => ⟨_, PBw (X := X_law_bad_text P w K mg base f cdv A outer s H E), ?_⟩)
  obtain ⟨a0, a1, rfl, h⟩ := h
  have ib_len := T.b_len
  have hr' : Room 0 (X_law_bad_text P w K mg base f cdv A outer s H E).A := hr
  replace hr := hr'
  clear hr'
  obtain ⟨i, z, rfl, i0, rfl, hz, h⟩ := h
  have hzm : z.length ≤ 1000000 := by omega
  kxs_still
  refine iteD (fun c => ?_) fun c => ?_
  · kxs_still
    intro l1 H1 s1 n1 k1 _
    kxs_still
    intro t2 H2 s2 n2 k2 _
    kxs_still
    intro l3 H3 s3 n3 k3 _
    kxs_still
    have q1 := (s2.trans s3) _ _ k1
    have q2 := s3 _ _ k2
    obtain ⟨v, hv, d, hd, hb⟩ := ix_any (i := i % 9) k3 (fun v => ∃ d, Th K H3 v d ∧ isTextD d = false) (by
      intro x hx
      simp only [List.mem_cons, List.not_mem_nil, or_false] at hx
      rcases hx with rfl | rfl | rfl | rfl | rfl
      · exact ⟨_, .non, rfl⟩
      · exact ⟨_, .int _, rfl⟩
      · exact ⟨_, .bl _, rfl⟩
      · exact ⟨_, .lst (SqL.of q1) (.cons (.str _ hzm) .nil), rfl⟩
      · exact ⟨_, .tup (SqT.of q2) (.cons (.str _ hzm) .nil), rfl⟩) (by omega) (by show _ < (5 : Int); omega)
    refine i_lst (SqL.of k3) hv ?_
    kxs_still
    exact h _ _ _ (s1.trans (s2.trans s3)) hd hb
  kxs_still
  refine iteD (fun c2 => ?_) fun c2 => ?_
  · kxs_still
    refine o_repS (by decide) (by decide) (by decide +kernel) fun y' hy => ?_
    have hyl : y'.length = 61 := by rw [len_tl, hy]; decide +kernel
    refine o_cat (by rw [hyl, sizeLine_eq]; omega) ?_
    kxs_still
    refine n_str (by rw [lenA, hyl, sizeLine_eq]; omega) ?_
    kxs_still
    have hl : (cutS (z ++ y') none (some 61)).length = 61 := by
      rw [len_tl, cutS_to _ (by decide), List.length_take, ← len_tl, lenA, hyl]
      show min 61 _ = 61
      omega
    exact h _ _ _ (Same.refl _) (.str _ (by rw [hl]; decide)) (text_far (by rw [hl]; decide))
  kxs_still
  refine o_mod (by omega) ?_
  have p0 : 0 ≤ i / 9 % ((z.length : Int) + 1) := Int.emod_nonneg _ (by omega)
  generalize i / 9 % ((z.length : Int) + 1) = at' at *
  kxs_still
  refine n_str (by rw [sizeLine_eq]; omega) ?_
  kxs_still
  intro l1 H1 s1 n1 k1 _
  kxs_still
  obtain ⟨v, hv, s, c, rfl, es, hc⟩ := ix_any (i := i % 9 - 7) k1 (fun v => ∃ s c, v = .str s ∧ tl s = [c] ∧ okc c = false) (by
    intro x hx
    simp only [List.mem_cons, List.not_mem_nil, or_false] at hx
    rcases hx with rfl | rfl
    · exact ⟨_, 10, rfl, by decide +kernel, rfl⟩
    · exact ⟨_, 9, rfl, by decide +kernel, rfl⟩) (by omega) (by show _ < (2 : Int); omega)
  refine i_lst (SqL.of k1) hv ?_
  have hsl : s.length = 1 := by rw [len_tl, es]; rfl
  have a1 : (cutS z none (some at')).length ≤ z.length := by rw [len_tl, cutS_to z p0, len_tl]; exact List.length_take_le' ..
  have a2 : (cutS z (some at') none).length ≤ z.length := by rw [len_tl, cutS_from z p0, len_tl, List.length_drop]; omega
  refine o_cat (by rw [hsl, sizeLine_eq]; omega) ?_
  kxs_still
  refine n_str (by rw [sizeLine_eq]; omega) ?_
  refine o_cat (by rw [lenA, hsl, sizeLine_eq]; omega) ?_
  kxs_still
  refine h _ _ _ s1 (.str _ (by rw [lenA, lenA, hsl]; omega)) (text_bad (c := c) ?_ hc)
  rw [tl_append, tl_append, es]
  simp
end
theorem df_law_bad_text (T : Txt K mg cs) : Df P w K mg base "_law_bad_text" 1 ["_law_cell", "_law_text_here"] (sp2 (R_law_bad_text K)) := by
  obtain ⟨f, fd, hm, F, hb⟩ := T.f_law_bad_text.ex
  exact ⟨f, fd, hm, F.kp, hb, ok_law_bad_text F T⟩
/-- what is refused of a grammar and a text -/
def RefOk (K : PySem.W.Frag) (H : Hp) (y u : V) (g t : Bool) : Prop :=
  (g = true ∧ t = false ∧ ∃ d, Th K H y d ∧ isGramD d = false) ∨ (g = false ∧ ∃ a vs rs, GramAt K H y a vs rs ∧ ((t = true ∧ ∃ d, Th K H u d ∧ isTextD d = false) ∨
    (t = false ∧ ∃ z, u = .str z ∧ isTextD (.str z) = true ∧ ∀ F, Std rs (tl z) F → F.length ≤ 3000000 ∧ (F.map fun q => wn rs F q.1).sum ≤ 15000000)))
theorem RefOk.more {K : PySem.W.Frag} {H H' : Hp} {y u : V} {g t : Bool} (h : RefOk K H y u g t) (s : Same H H') : RefOk K H' y u g t := by
  rcases h with ⟨a, b, d, hd, hb⟩ | ⟨a, b, vs, rs, hg, h⟩
  · exact .inl ⟨a, b, d, hd.more s, hb⟩
  · refine .inr ⟨a, b, vs, rs, hg.more s, h.imp (fun ⟨c, d, hd, hb⟩ => ⟨c, d, hd.more s, hb⟩) id⟩
def R_law_refused (K : PySem.W.Frag) (cs : Cs) : V → V → V → Hp → VK → XK → Prop := fun x y u H Q _ => ∃ (i : Int), x = .int i ∧ ∃ (g t : Bool), RefOk K H y u g t ∧ ∀ l H', Same H H' → H l = none → H' l = some (.lst [.bl g, .bl t, .bl true, .bl false]) → Q (.ref l) H'
section
set_option hygiene false in
local macro_rules | `(tactic| top_name) => `(tactic| first | refine e_call (df_standing T) (hr.mono (by decide)) ?_)
theorem ok_law_refused {f : Addr} {fd : FuncData} (F : Fun K "_law_refused" "_law_refused" s_law_refused f fd) (T : Txt K mg cs) : FnOk P w K mg base (L2.CX P w) 8 f fd ["_law_one", "_law_grammar_here", "_law_text_here"] (sp3 (R_law_refused K cs)) := by
  refine F.okX sc_law_refused (fun vs H Q E h => sp3_len h) (fun cdv A outer s H vs Q E hr h => ⟨_, PBw (X := X_law_refused P w K mg base f cdv A outer s H E), ?_⟩)
  obtain ⟨a0, a1, a2, rfl, h⟩ := h
  have ib_ForestError : Gn mg "ForestError" (some _) := ⟨T.x_ForestError.mg⟩
  have ib_Wood : Gn mg "Wood" (some _) := ⟨T.c_Wood.mg⟩
  have ib_isinstance := T.b_isinstance
  have ib_NoGrammar : Gn mg "NoGrammar" (some _) := ⟨T.x_NoGrammar.mg⟩
  have ib_NoText : Gn mg "NoText" (some _) := ⟨T.x_NoText.mg⟩
  have ib_ValueError := T.b_ValueError
  have ib_NoRow : Gn mg "NoRow" (some _) := ⟨T.x_NoRow.mg⟩
  have ib_NoRule : Gn mg "NoRule" (some _) := ⟨T.x_NoRule.mg⟩
  have ib_NoNumber : Gn mg "NoNumber" (some _) := ⟨T.x_NoNumber.mg⟩
  have ib_NoCosts : Gn mg "NoCosts" (some _) := ⟨T.x_NoCosts.mg⟩
  have ib_NoChange : Gn mg "NoChange" (some _) := ⟨T.x_NoChange.mg⟩
  have ib_NoWords : Gn mg "NoWords" (some _) := ⟨T.x_NoWords.mg⟩
  have ib_Endless : Gn mg "Endless" (some _) := ⟨T.x_Endless.mg⟩
  have ib_TooGreat : Gn mg "TooGreat" (some _) := ⟨T.x_TooGreat.mg⟩
  have ib_Barren : Gn mg "Barren" (some _) := ⟨T.x_Barren.mg⟩
  have hr' : Room 7 (X_law_refused P w K mg base f cdv A outer s H E).A := hr
  replace hr := hr'
  clear hr'
  obtain ⟨i, rfl, g, t, ho, h⟩ := h
  kxs_still
  intro p H1 s1 n1 k1 e1
  kxs_still
  rcases ho with ⟨rfl, rfl, d, hd, hb⟩ | ⟨rfl, a, vs, rs, hg, ho⟩
  · skip
    refine s_tryAs T.x_ForestError (fun cls dd σ' H' => cls = .ref cs.NoGrammar ∧ dd = none ∧ Same H1 H' ∧ σ' = [some (.int i), some a1, some a2, some (.ref p), none]) ?_ ?_
    · rintro cls dd σ' H' ⟨rfl, rfl, sx, rfl⟩
      refine .inl ⟨T.x_ForestError.exm T.s_NoGrammar_ForestError, fun e oe pn he hz hf => ?_⟩
      wp_step
      refine k_isE T.x_NoGrammar T.x_NoGrammar hz hf T.s_NoGrammar_NoGrammar ?_
      wp_step
      refine k_isE T.x_NoGrammar T.x_NoText hz hf T.s_NoGrammar_NoText ?_
      wp_step
      refine k_isEV T.x_NoGrammar hz hf ?_
      wp_step
      intro t2 H2 s2 n2 k2 _
      wp_step
      refine k_isEN [cs.NoRow, cs.NoRule, cs.NoNumber, cs.NoCosts, cs.NoChange, cs.NoWords, cs.Endless, cs.TooGreat, cs.Barren] T.x_NoGrammar hz hf k2 (by
        simp only [List.mem_cons, List.not_mem_nil, or_false, forall_eq_or_imp, forall_eq]
        exact ⟨T.x_NoGrammar.kit T.x_NoRow T.s_NoGrammar_NoRow, T.x_NoGrammar.kit T.x_NoRule T.s_NoGrammar_NoRule, T.x_NoGrammar.kit T.x_NoNumber T.s_NoGrammar_NoNumber, T.x_NoGrammar.kit T.x_NoCosts T.s_NoGrammar_NoCosts, T.x_NoGrammar.kit T.x_NoChange T.s_NoGrammar_NoChange, T.x_NoGrammar.kit T.x_NoWords T.s_NoGrammar_NoWords, T.x_NoGrammar.kit T.x_Endless T.s_NoGrammar_Endless, T.x_NoGrammar.kit T.x_TooGreat T.s_NoGrammar_TooGreat, T.x_NoGrammar.kit T.x_Barren T.s_NoGrammar_Barren⟩) ?_
      wp_step
      intro t3 H3 s3 n3 k3 _
      wp_step
      exact h _ _ (s1.trans (sx.trans (s2.trans s3))) ((s1.trans (sx.trans s2)).none n3) k3
    · intro pn xe ct co
      kxs_still
      refine iteD (fun _ => ?_) fun c => ?_
      · kxs_still
        exact .inr ⟨d, hd.more s1, hb, fun H' s' => ⟨rfl, rfl, s', rfl⟩⟩
      · kxs_still
        refine e_make (in_Wood T) (hr.mono (by decide)) ?_
        kxs_still
        intro c dx H8 s8 n8 nd8 ndx k8 kd8 f8
        kxs_still
        exact ⟨H1, c, dx, rfl, s8, n8, nd8, k8, kd8, .inl ⟨d, hd.more s1, hb, fun H' s' => ⟨rfl, rfl, s', rfl⟩⟩⟩
  · rcases ho with ⟨rfl, d, hd, hb⟩ | ⟨rfl, z, rfl, hz, hbd⟩
    · skip
      refine s_tryAs T.x_ForestError (fun cls dd σ' H' => cls = .ref cs.NoText ∧ dd = none ∧ Same H1 H' ∧ σ' = [some (.int i), some a1, some a2, some (.ref p), none]) ?_ ?_
      · rintro cls dd σ' H' ⟨rfl, rfl, sx, rfl⟩
        refine .inl ⟨T.x_ForestError.exm T.s_NoText_ForestError, fun e oe pn he hz hf => ?_⟩
        wp_step
        refine k_isE T.x_NoText T.x_NoGrammar hz hf T.s_NoText_NoGrammar ?_
        wp_step
        refine k_isE T.x_NoText T.x_NoText hz hf T.s_NoText_NoText ?_
        wp_step
        refine k_isEV T.x_NoText hz hf ?_
        wp_step
        intro t2 H2 s2 n2 k2 _
        wp_step
        refine k_isEN [cs.NoRow, cs.NoRule, cs.NoNumber, cs.NoCosts, cs.NoChange, cs.NoWords, cs.Endless, cs.TooGreat, cs.Barren] T.x_NoText hz hf k2 (by
          simp only [List.mem_cons, List.not_mem_nil, or_false, forall_eq_or_imp, forall_eq]
          exact ⟨T.x_NoText.kit T.x_NoRow T.s_NoText_NoRow, T.x_NoText.kit T.x_NoRule T.s_NoText_NoRule, T.x_NoText.kit T.x_NoNumber T.s_NoText_NoNumber, T.x_NoText.kit T.x_NoCosts T.s_NoText_NoCosts, T.x_NoText.kit T.x_NoChange T.s_NoText_NoChange, T.x_NoText.kit T.x_NoWords T.s_NoText_NoWords, T.x_NoText.kit T.x_Endless T.s_NoText_Endless, T.x_NoText.kit T.x_TooGreat T.s_NoText_TooGreat, T.x_NoText.kit T.x_Barren T.s_NoText_Barren⟩) ?_
        wp_step
        intro t3 H3 s3 n3 k3 _
        wp_step
        exact h _ _ (s1.trans (sx.trans (s2.trans s3))) ((s1.trans (sx.trans s2)).none n3) k3
      · intro pn xe ct co
        kxs_still
        refine iteD (fun _ => ?_) fun c => ?_
        · kxs_still
          exact .inl ⟨a, vs, rs, hg.more s1, d, hd.more s1, fun _ H' s' => ⟨rfl, rfl, s', rfl⟩, fun z e hz => absurd (hz.symm.trans hb) (by decide)⟩
        · kxs_still
          refine e_make (in_Wood T) (hr.mono (by decide)) ?_
          kxs_still
          intro c dx H8 s8 n8 nd8 ndx k8 kd8 f8
          kxs_still
          exact ⟨H1, c, dx, rfl, s8, n8, nd8, k8, kd8, .inr ⟨a, vs, rs, hg.more s1, d, hd.more s1, .inl ⟨hb, fun H' s' => ⟨rfl, rfl, s', rfl⟩⟩⟩⟩
    · have hzl : z.length ≤ 1000000 := by
        have hz : (decide (z.length ≤ 60) && (tl z).all okc) = true := hz
        rw [Bool.and_eq_true, decide_eq_true_eq] at hz
        omega
      refine s_tryAs T.x_ForestError (fun _ _ _ _ => False) (fun _ _ _ _ z => z.elim) ?_
      intro pn xe ct co
      kxs_still
      refine iteD (fun _ => ?_) fun c => ?_
      · kxs_still
        refine .inl ⟨a, vs, rs, hg.more s1, .str z, .str _ hzl, fun q => absurd (hz.symm.trans q) (by decide), fun z' e _ dd F H2 s2 n2 k2 hst => ?_⟩
        kxs_still
        exact h _ _ (s1.trans s2) n1 (s2 _ _ k1)
      · kxs_still
        refine e_make (in_Wood T) (hr.mono (by decide)) ?_
        kxs_still
        intro c dx H8 s8 n8 nd8 ndx k8 kd8 f8
        kxs_still
        refine ⟨H1, c, dx, rfl, s8, n8, nd8, k8, kd8, .inr ⟨a, vs, rs, hg.more s1, .str z, .str _ hzl, .inr ⟨z, rfl, hz, hbd, fun la pa pk top kvs P F H9 s9 nla npa hW hst htop hwo hfv => ⟨rfl, ?_⟩⟩⟩⟩
        kxs_still
        exact h _ _ (s1.trans s9) n1 (s9 _ _ k1)
end
theorem df_law_refused (T : Txt K mg cs) : Df P w K mg base "_law_refused" 8 ["_law_one", "_law_grammar_here", "_law_text_here"] (sp3 (R_law_refused K cs)) := by
  obtain ⟨f, fd, hm, F, hb⟩ := T.f_law_refused.ex
  exact ⟨f, fd, hm, F.kp, hb, ok_law_refused F T⟩
theorem blkOk_nf {N : List Str} {sc0 sc scope : Scope} {own : List (Str × Nat)} (h : (blkC N sc0 scope own && scope.names.all fun y => decide (y.2 ≠ .free)) = true) : BlkOk N sc scope own := by
  rw [Bool.and_eq_true, List.all_eq_true] at h
  have b := blkOk_by h.1
  exact ⟨b.kind, b.uniq, b.ix, fun y hy e => absurd e (of_decide_eq_true (h.2 y hy)), b.own⟩
theorem sg_none (ps : List Str) : decide (ps.filter (fun p => !isSg p) = []) = ps.all isSg := by
  rw [Bool.eq_iff_iff, decide_eq_true_iff, List.filter_eq_nil_iff, List.all_eq_true]
  exact ⟨fun h p hp => by have := h p hp; simpa using this, fun h p hp => by rw [h p hp]; exact Bool.false_ne_true⟩
section
set_option hygiene false in
local macro_rules | `(tactic| top_name) => `(tactic| first | refine e_call (df_law_grammar T) (hr.mono (by decide)) ?_ | refine e_call (df_law_mixed T) (hr.mono (by decide)) ?_ | refine e_call (df_law_text T) (hr.mono (by decide)) ?_ | refine e_call (df_law_refused T) (hr.mono (by decide)) ?_ | refine e_call (df_law_bad_grammar T) (hr.mono (by decide)) ?_ | refine e_call (df_law_bad_text T) (hr.mono (by decide)) ?_)
theorem ok_law {f : Addr} {fd : FuncData} (F : Fun K "law" "law" s_law f fd) (T : Txt K mg cs) : FnOk P w K mg base (L2.CX P w) 9 f fd ["_law_script"] (sp1 (R_law K)) := by
  refine F.okX sc_law (fun vs H Q E h => sp1_len h) (fun cdv A outer s H vs Q E hr h => ⟨_, PBw (X := X_law P w K mg base f cdv A outer s H E), ?_⟩)
  obtain ⟨a0, rfl, h⟩ := h
  have ib_list := T.b_list
  have ib_isinstance := T.b_isinstance
  have ib_range := T.b_range
  have ib_len := T.b_len
  have hr' : Room 8 (X_law P w K mg base f cdv A outer s H E).A := hr
  replace hr := hr'
  clear hr'
  obtain ⟨a, ns, rfl, hS, hlen, h⟩ := h
  kxs_still
  refine ⟨a, ns, rfl, hS, hlen, fun lg vs rs H1 s1 n1 k1 hR hG g4 => ?_⟩
  have hS1 := s1.seq hS
  have hvl := hR.len
  have few := g4.few
  kxs_still
  refine ⟨_, _, _, rfl, hS1, rfl, by decide, by decide, fun way way0 way1 => ?_⟩
  kxs_still
  refine ⟨a, ns, 11, (way / 4 % 4).toNat, rfl, hS1, rfl, by decide, by decide, by rw [Int.toNat_of_nonneg (by omega)], by omega, fun zs H2 s2 hzl hzc => ?_⟩
  refine b_cons (sMono (fun σ' H' => ∃ (lg' : Addr) (vs' : List V) (rs' : List Rl) (zs' : List Nat), σ' = [some (.ref a), some (.ref lg'), some (.int way), some (.str (strOf zs')), none, none, none, none, none, none, none, none] ∧ Same H1 H' ∧ H' lg' = some (.lst vs') ∧ RulesAt H' vs' rs' ∧ (∀ r ∈ rs', GoodR r) ∧ 0 < rs'.length ∧ (∀ c ∈ zs', okc c = true) ∧ ((rs'.length ≤ 1 ∧ zs'.length ≤ 60) ∨ (rs'.length ≤ 9 ∧ zs'.length ≤ 3))) ?_ ?_)
  · kxs_still
    refine iteD (fun c => ?_) fun c => ?_
    · kxs_still
      have k12 := s2 _ _ k1
      refine e_lcG (blkOk_by (sc := defScope s_law) (own := [("_law_rule", 4)]) (by decide +kernel)) (j_list ?_)
      kxs_still
      refine ⟨⟨_, SqL.of k12⟩, fun i => (rs[i]?.map fun r => r.parts.all isSg).getD false, fun i => (vs[i]?).getD .non, _, _, _, walk_list (xs := vs), by omega, fun H' s' => SqL.of (s' _ _ k12), ?_, ?_⟩
      · rintro i x H' H3 hi s' ⟨rfl, hx⟩
        obtain ⟨r, hr1, hr2⟩ := hR.get i x hx
        have s13 := s2.trans s'
        obtain ⟨ra, rb, rfl, e1, e2⟩ := hr2.more s13
        have hrg := hG.good r (List.mem_of_getElem? hr1)
        have few6 := hrg.few
        refine ⟨Same.refl _, fun _ _ _ _ _ => ?_⟩
        kxs_still
        refine ⟨rfl, Same.refl _, fun _ _ _ _ _ => ?_⟩
        refine t_cmp ?_
        refine e_lcG (blkOk_nf (sc0 := defScope s_law) (own := [("_law_part", 5)]) (by decide +kernel)) (j_tup ?_)
        kxs_still
        refine ⟨⟨_, SqT.of e2⟩, fun i => (r.parts[i]?.map fun p => !isSg p).getD false, fun i => (r.parts[i]?.map V.str).getD .non, _, _, _, walk_tup (xs := r.parts.map V.str), by rw [List.length_map]; omega, fun H' s' => SqT.of (s' _ _ e2), ?_, ?_⟩
        · rintro m9 x9 H9 H10 hn9 s9 ⟨rfl, hx9⟩
          obtain ⟨p9, hp9, rfl⟩ := map_get hx9
          refine ⟨Same.refl _, fun _ _ _ _ _ => ?_⟩
          kxs_still
          refine ⟨rfl, Same.refl _, fun _ _ _ _ _ => ?_⟩
          kxs_still
          refine ⟨part_sg (hrg.parts p9 (List.mem_of_getElem? hp9)), ?_⟩
          refine ⟨Same.refl _, by simp [hp9], fun _ _ _ _ _ _ => ?_⟩
          kxs_still
          exact ⟨by simp [hp9], Same.refl _⟩
        intro l4 H4 s4 n4 k4
        rw [List.length_map, filter_ix V.str] at k4
        kxs_still
        intro l5 H5 s5 n5 k5 _
        refine o_eqNil hr.units (s5 _ _ k4) k5 ?_
        kxs_still
        refine ⟨s4.trans s5, ?_, fun _ _ _ _ _ _ => ?_⟩
        · show _ = ((rs[i]?).map fun r => r.parts.all isSg).getD false
          rw [hr1]
          show decide ((r.parts.filter fun p => !isSg p).map V.str = []) = r.parts.all isSg
          rw [← sg_none]
          exact decide_eq_decide.mpr List.map_eq_nil_iff
        · kxs_still
          exact ⟨by simp [hx], Same.refl _⟩
      intro l3 H3 s3 n3 k3
      have s13 := s2.trans s3
      obtain ⟨L, eL⟩ : ∃ L, (((List.range vs.length).filter fun i => (rs[i]?.map fun r => r.parts.all isSg).getD false).map fun i => (vs[i]?).getD .non) = L := ⟨_, rfl⟩
      have hys : ∀ y ∈ L, ∃ r, RuleAt H3 y r ∧ GoodR r := by
        intro y hy
        rw [← eL] at hy
        obtain ⟨i, hi, rfl⟩ := List.mem_map.mp hy
        have hi := List.mem_range.mp (List.mem_filter.mp hi).1
        obtain ⟨v, hv⟩ : ∃ v, vs[i]? = some v := ⟨_, List.getElem?_eq_getElem hi⟩
        obtain ⟨r, hr1, hr2⟩ := hR.get i v hv
        exact ⟨r, by rw [hv]; exact hr2.more s13, hG.good r (List.mem_of_getElem? hr1)⟩
      have hLp : 0 < L.length := by
        obtain ⟨r0, hr0⟩ : ∃ r0, rs[0]? = some r0 := ⟨_, List.getElem?_eq_getElem g4.pos⟩
        obtain ⟨r', hr', _, _, hsg⟩ := g4.short r0 (List.mem_of_getElem? hr0)
        obtain ⟨i, hi⟩ := List.mem_iff_getElem?.mp hr'
        rw [← eL]
        refine List.length_pos_of_mem (List.mem_map.mpr ⟨i, List.mem_filter.mpr ⟨List.mem_range.mpr ?_, ?_⟩, rfl⟩)
        · have := (List.getElem?_eq_some_iff.mp hi).1; omega
        · rw [hi]
          exact List.all_eq_true.mpr hsg
      replace k3 : H3 l3 = some (.lst L) := by rw [← eL]; exact k3
      obtain ⟨qs, hqs, hg⟩ := rules_each hys
      have hql := hqs.len
      kxs_still
      refine n_lst (SqL.of k3) fun l4 H4 s4 n4 k4 _ => ?_
      rw [cutV_to _ (by decide)] at k4
      kxs_still
      refine ⟨a, ns, 11, 5, rfl, (s13.trans s4).seq hS1, rfl, by decide, by decide, rfl, by decide, fun us H5 s5 hul huc => ?_⟩
      kxs_still
      refine o_repS (by decide) (by decide) (by rw [strOf_len]; omega) fun y' hy => ?_
      rw [tl_strOf] at hy
      have hyl : (tl y').length = 60 := by rw [hy, List.length_flatten, List.map_replicate, List.sum_replicate_nat, hul]; rfl
      kxs_still
      refine n_str (by rw [len_tl, hyl, sizeLine_eq]; decide) ?_
      rw [show cutS y' none (some 60) = strOf ((tl y').take 60) from ext_tl (by rw [cutS_to _ (by decide), tl_strOf]; rfl)]
      kxs_still
      refine ⟨l4, _, _, _, rfl, s13.trans (s4.trans s5), s5 _ _ k4, (hqs.take _).ts (Same.ts (s4.trans s5)), fun r hr => hg r (List.mem_of_mem_take hr), by rw [List.length_take]; show 0 < min 1 _; omega, fun c hc => ?_, .inl ⟨by rw [List.length_take]; show min 1 _ ≤ 1; omega, by rw [List.length_take]; omega⟩⟩
      have hc := List.mem_of_mem_take hc
      rw [hy] at hc
      obtain ⟨l, hl, hc⟩ := List.mem_flatten.mp hc
      rw [List.eq_of_mem_replicate hl] at hc
      exact huc c hc
    · kxs_still
      exact ⟨lg, vs, rs, zs, rfl, s2, s2 _ _ k1, hR.ts (Same.ts s2), hG.good, g4.pos, hzc, .inr ⟨by omega, by omega⟩⟩
  clear hzl hzc s2
  rintro σ' H2 ⟨lg2, vs2, rs2, zs2, rfl, s2, k2, hR2, hg2, pos2, hzc2, hsz2⟩
  have hvl2 := hR2.len
  refine b_cons (sMono (fun σ' H' => ∃ (lg' : Addr) (vs' : List V) (rs' : List Rl) (zs' : List Nat), σ' = [some (.ref a), some (.ref lg'), some (.int way), some (.str (strOf zs')), none, none, none, none, none, none, none, none] ∧ Same H1 H' ∧ H' lg' = some (.lst vs') ∧ RulesAt H' vs' rs' ∧ (∀ r ∈ rs', GoodR r) ∧ 0 < rs'.length ∧ (∀ c ∈ zs', okc c = true) ∧ ((rs'.length ≤ 1 ∧ zs'.length ≤ 60) ∨ (rs'.length ≤ 60 ∧ zs'.length ≤ 1) ∨ (rs'.length ≤ 9 ∧ zs'.length ≤ 3))) ?_ ?_)
  · kxs_still
    refine iteD (fun c => ?_) fun c => ?_
    · kxs_still
      refine e_lcH (blkOk_by (sc := defScope s_law) (own := [("_law_k", 6)]) (by decide +kernel)) (fun _ y H => ∃ r, RuleAt H y r ∧ GoodR r) (fun _ _ _ _ s ⟨r, h1, h2⟩ => ⟨r, h1.ts s, h2⟩) (j_rng1 ?_)
      kxs_still
      refine ⟨by omega, by omega, _, _, _, walk_range0, by omega, fun _ _ => trivial, ?_, ?_⟩
      · rintro n x H' H6 hn s' ⟨rfl, rfl⟩
        refine ⟨Same.refl _, fun _ _ _ _ _ => ?_⟩
        kxs_still
        refine ⟨rfl, Same.refl _, fun _ _ _ _ _ => ?_⟩
        have k26 := s' _ _ k2
        kxs_still
        refine o_mod (by omega) ?_
        have q0 : 0 ≤ (n : Int) % (vs2.length : Int) := Int.emod_nonneg _ (by omega)
        have q1 : (n : Int) % (vs2.length : Int) < vs2.length := Int.emod_lt_of_pos _ (by omega)
        generalize (n : Int) % (vs2.length : Int) = j at *
        obtain ⟨v, hv⟩ : ∃ v, vs2[j.toNat]? = some v := ⟨vs2[j.toNat]'(by omega), List.getElem?_eq_getElem (by omega)⟩
        obtain ⟨r, hr1, hr2⟩ := (hR2.ts (Same.ts s')).get _ v hv
        refine i_lst (SqL.of k26) (atI_nat q0 hv) ?_
        exact ⟨⟨r, hr2, hg2 r (List.mem_of_getElem? hr1)⟩, Same.refl _⟩
      intro l6 H6 ys s6 n6 k6 e6 hy
      obtain ⟨qs, hqs, hg⟩ := rules_each (H := H6) (ys := ys) fun y hm => by
        obtain ⟨j, hj⟩ := List.mem_iff_getElem?.mp hm
        exact hy j y hj
      have hql := hqs.len
      have e6 : ys.length = 60 := e6
      kxs_still
      refine n_str (by rw [strOf_len, sizeLine_eq]; omega) ?_
      rw [show cutS (strOf zs2) none (some 1) = strOf (zs2.take 1) from ext_tl (by rw [cutS_to _ (by decide), tl_strOf, tl_strOf]; rfl)]
      kxs_still
      exact ⟨l6, _, _, _, rfl, s2.trans s6, k6, hqs, hg, by omega, fun c hc => hzc2 c (List.mem_of_mem_take hc), .inr (.inl ⟨by omega, by rw [List.length_take]; omega⟩)⟩
    · kxs_still
      exact ⟨lg2, vs2, rs2, zs2, rfl, s2, k2, hR2, hg2, pos2, hzc2, hsz2.imp id .inr⟩
  clear hvl2 s2 k2 hR2 hg2 pos2 hzc2 hsz2
  rintro σ' H2 ⟨lg, vs, rs, zs, rfl, s2, k2, hR, hg, pos, hzc, hsz⟩
  have hG : GoodG rs := ⟨by omega, hg⟩
  have hvl := hR.len
  have hz60 : zs.length ≤ 60 := by omega
  have hS2 := s2.seq hS1
  have gAt : ∀ {H' : Hp}, Same H2 H' → GramAt K H' (.ref lg) lg vs rs := fun s => ⟨rfl, SqL.of (s _ _ k2), hR.ts (Same.ts s), hG⟩
  kxs_still
  refine k_listL (.inl (SqL.of k2)) fun lh H3 s3 n3 k3 _ => ?_
  refine b_cons (s_set (e_var rfl ?_))
  refine b_cons (sMono (fun σ' H' => ∃ vg, σ' = [some (.ref a), some (.ref lg), some (.int way), some (.str (strOf zs)), none, none, none, some vg, some (.str (strOf zs)), none, none, none] ∧ Same H3 H' ∧ (way % 2 = 1 → ∃ d, Th K H' vg d ∧ isGramD d = false ∧ (isK d "list" = false ∨ ∃ l xs, vg = .ref l ∧ H3 l = none ∧ H' l = some (.lst xs))) ∧ (¬ way % 2 = 1 → ∃ l, GramAt K H' vg l vs rs)) ?_ ?_)
  · kxs_still
    refine iteD (fun c => ?_) fun c => ?_
    · have hS3 := s3.seq hS2
      kxs_still
      refine ⟨_, _, _, rfl, hS3, rfl, by decide, by decide, fun j j0 j1 => ?_⟩
      kxs_still
      refine ⟨j, lg, vs, rs, rfl, j0, gAt s3, pos, fun v d H' s hd hb hl => ?_⟩
      kxs_still
      exact ⟨v, rfl, s, fun _ => ⟨d, hd, hb, hl⟩, fun q => absurd c q⟩
    · kxs_still
      exact ⟨_, rfl, Same.refl _, fun q => absurd q c, fun _ => ⟨lh, rfl, SqL.of k3, hR.ts (Same.ts s3), hG⟩⟩
  rintro σ' H4 ⟨vg, rfl, s4, hg1, hg0⟩
  have s24 := s3.trans s4
  refine b_cons (sMono (fun σ' H' => ∃ vh, σ' = [some (.ref a), some (.ref lg), some (.int way), some (.str (strOf zs)), none, none, none, some vg, some vh, none, none, none] ∧ Same H4 H' ∧ (way / 2 % 2 = 1 → ∃ d, Th K H' vh d ∧ isTextD d = false) ∧ (¬ way / 2 % 2 = 1 → vh = .str (strOf zs))) ?_ ?_)
  · kxs_still
    refine iteD (fun c => ?_) fun c => ?_
    · have hS4 := s24.seq hS2
      kxs_still
      refine ⟨_, _, _, rfl, hS4, rfl, by decide, by decide, fun j j0 j1 => ?_⟩
      kxs_still
      refine ⟨j, strOf zs, rfl, j0, rfl, by rw [strOf_len]; exact hz60, fun v d H' s hd hb => ?_⟩
      kxs_still
      exact ⟨v, rfl, s, fun _ => ⟨d, hd, hb⟩, fun q => absurd c q⟩
    · kxs_still
      exact ⟨_, rfl, Same.refl _, fun q => absurd q c, fun _ => rfl⟩
  rintro σ' H5 ⟨vh, rfl, s5, ht1, ht0⟩
  have s25 := s24.trans s5
  have hbd : ∀ F, Std rs (tl (strOf zs)) F → F.length ≤ 3000000 ∧ (F.map fun q => wn rs F q.1).sum ≤ 15000000 := by
    intro F hF
    rw [tl_strOf] at hF
    have h6 : ∀ r ∈ rs, r.parts.length ≤ 6 := fun r hr => (hg r hr).few
    refine ⟨Nat.le_trans (hts_len h6 (by omega) hz60 hF.nd fun n hn => ?_) (by decide), ?_⟩
    · obtain ⟨h, hh⟩ := lk_has hn
      exact ((hF.ht n h).mp hh).1.wi
    · rcases hsz with ⟨q1, q2⟩ | ⟨q1, q2⟩ | ⟨q1, q2⟩
      · exact Nat.le_trans (hF.mid h6 q1 q2) (by decide)
      · exact Nat.le_trans (hF.mid h6 q1 q2) (by decide)
      · exact Nat.le_trans (hF.mid h6 q1 q2) (by decide)
  have htx := text_strOf hz60 hzc
  have ref : ∀ {H' : Hp}, Same H5 H' → RefOk K H' vg vh (decide (way % 2 = 1)) (decide (way % 4 = 2)) := by
    intro H' s
    by_cases c : way % 2 = 1
    · obtain ⟨d, hd, hb, _⟩ := hg1 c
      exact .inl ⟨decide_eq_true c, decide_eq_false (by omega), d, hd.more (s5.trans s), hb⟩
    · obtain ⟨l, hgm⟩ := hg0 c
      refine .inr ⟨decide_eq_false c, l, vs, rs, hgm.more (s5.trans s), ?_⟩
      by_cases c2 : way / 2 % 2 = 1
      · obtain ⟨d, hd, hb⟩ := ht1 c2
        exact .inl ⟨decide_eq_true (by omega), d, hd.more s, hb⟩
      · exact .inr ⟨decide_eq_false (by omega), strOf zs, ht0 c2, htx, hbd⟩
  have dpB : ∀ {H' : Hp} {l : Addr} (g t : Bool), H' l = some (.lst [.bl g, .bl t, .bl true, .bl false]) → Dp K H' (.ref l) (.list [.bool g, .bool t, .bool true, .bool false]) := fun g t e => .lst (SqL.of e) (.cons (.bl _) (.cons (.bl _) (.cons (.bl _) (.cons (.bl _) .nil))))
  have eqB : ∀ g t, PyData.eqv (.list [.bool g, .bool t, .bool true, .bool false]) (.list [.bool g, .bool t, .bool true, .bool false]) = true := by decide
  have shB : ∀ g t, SeqAt.shaped (.list [.bool g, .bool t, .bool true, .bool false]) = true := by intro g t; rfl
  kxs_still
  refine ⟨_, _, ref (Same.refl _), fun l6 H6 s6 n6 k6 => ?_⟩
  kxs_still
  intro l7 H7 s7 n7 k7 _
  have k67 := s7 _ _ k6
  refine o_neD hr.units (dpB _ _ k67) (dpB _ _ k7) (shB _ _) (shB _ _) ?_
  rw [eqB]
  kxs_still
  have s57 := s6.trans s7
  refine ⟨_, _, ref s57, fun l8 H8 s8 n8 k8 => ?_⟩
  kxs_still
  refine o_neD hr.units (dpB _ _ k8) (dpB _ _ (s8 _ _ k67)) (shB _ _) (shB _ _) ?_
  rw [eqB]
  refine ⟨_, rfl, iteBF rfl ?_⟩
  refine b_nil ?_
  have s58 := s57.trans s8
  have s28 := s25.trans s58
  have k28 := s28 _ _ k2
  refine b_cons (sMono (fun σ' H' => ∃ lh', σ' = [some (.ref a), some (.ref lg), some (.int way), some (.str (strOf zs)), none, none, none, some (.ref lh'), some vh, some (.int (way / 128 % 2)), some (.ref l6), none] ∧ GramAt K H' (.ref lh') lh' vs rs) ?_ ?_)
  · kxs_still
    refine iteD (fun c => ?_) fun c => ?_
    · obtain ⟨d, hd, hb, hl⟩ := hg1 c
      kxs_still
      refine k_isList (hd.more (s5.trans s58)) ?_
      refine ⟨_, rfl, ?_⟩
      cases e : isK d "list" with
      | true =>
        obtain ⟨l, xs, rfl, nl, kl⟩ := hl.resolve_left fun q => by rw [e] at q; cases q
        have kl8 := (s5.trans s58) _ _ kl
        have nlg : lg ≠ l := fun w => by have := s3 _ _ k2; rw [w, nl] at this; cases this
        refine iteT ?_
        kxs_still
        refine e_clear ?_
        kxs_still
        refine ⟨ty_l kl8, ?_⟩
        refine m_clear kl8 fun H9 k9 f9 => ?_
        kxs_still
        refine e_extend ?_
        kxs_still
        refine ⟨ty_l k9, ?_⟩
        kxs_still
        refine m_extend k9 ((f9 lg nlg).trans k28) (by show 0 + vs.length ≤ 100000; omega) fun H10 k10 f10 => ?_
        kxs_still
        exact ⟨l, rfl, rfl, SqL.of k10, hR.ts ((Same.ts s28).trans ((TS.butL kl8 f9).trans (TS.butL k9 f10))), hG⟩
      | false =>
        refine iteF ?_
        kxs_still
        refine k_listL (.inl (SqL.of k28)) fun l9 H9 s9 n9 k9 _ => ?_
        kxs_still
        exact ⟨l9, rfl, rfl, SqL.of k9, hR.ts (Same.ts (s28.trans s9)), hG⟩
    · kxs_still
      refine k_listL (.inl (SqL.of k28)) fun l9 H9 s9 n9 k9 _ => ?_
      kxs_still
      exact ⟨l9, rfl, rfl, SqL.of k9, hR.ts (Same.ts (s28.trans s9)), hG⟩
  rintro σ' H9 ⟨lh', rfl, g9⟩
  have ref9 : ∀ {H' : Hp}, Same H9 H' → RefOk K H' (.ref lh') (.str (strOf zs)) false false := fun s => .inr ⟨rfl, lh', vs, rs, g9.more s, .inr ⟨rfl, strOf zs, rfl, htx, hbd⟩⟩
  kxs_still
  refine ⟨_, _, ref9 (Same.refl _), fun l10 H10 s10 n10 k10 => ?_⟩
  kxs_still
  refine ⟨_, _, ref9 s10, fun l11 H11 s11 n11 k11 => ?_⟩
  kxs_still
  intro l12 H12 s12 n12 k12 _
  kxs_still
  intro l13 H13 s13 n13 k13 _
  kxs_still
  intro l14 H14 s14 n14 k14 _
  kxs_still
  intro l15 H15 s15 n15 k15 _
  have dp2 : ∀ {H' : Hp} {l p q : Addr}, H' l = some (.lst [.ref p, .ref q]) → H' p = some (.lst [.bl false, .bl false, .bl true, .bl false]) → H' q = some (.lst [.bl false, .bl false, .bl true, .bl false]) → Dp K H' (.ref l) (.list [.list [.bool false, .bool false, .bool true, .bool false], .list [.bool false, .bool false, .bool true, .bool false]]) := fun e e1 e2 => .lst (SqL.of e) (.cons (dpB _ _ e1) (.cons (dpB _ _ e2) .nil))
  have s1215 := s13.trans (s14.trans s15)
  refine o_eqD hr.units (dp2 (s1215 _ _ k12) (s1215 _ _ (s12 _ _ (s11 _ _ k10))) (s1215 _ _ (s12 _ _ k11))) (dp2 k15 ((s14.trans s15) _ _ k13) (s15 _ _ k14)) rfl rfl ?_
  kxs_still
  exact h _

end
end
theorem all_mk {l : PySem.W.OpenLaw} {w : World} {K : PySem.W.Frag} {h : Heap} {mg : Str → Option Value} {fa C_ForestError C_NoGrammar C_NoText C_NoRow C_NoRule C_NoNumber C_NoCosts C_NoChange C_NoWords C_Endless C_TooGreat C_Barren C_Chart C_Wood f_i_Chart f_m_Chart_offer f_m_Chart_take_part f_m_Chart_take_parts f_m_Chart_take_level f_m_Chart_rise f_i_Wood f_m_Wood_reach f_wall f_is_whole f_may_stand f_is_sign f_is_name f_checked_text f_are_parts f_is_rule f_checked f_rules_by_head f_first_nodes f_heights_over f_standing f_ways_of_parts f_ways_of_head f_ways_over f_law_cell_at f_law_mixed f_law_signs f_law_names f_law_worth f_law_parts f_law_grammar f_law_text f_law_bad_rule f_law_bad_grammar f_law_bad_text f_law_refused f_law : Addr} (X : K.In h) (G : h.Ns mainGlobals mg) (hfa : mg "law" = some (.ref fa))
    {t_MOST_SIGNS : Tok}
    {t_MOST_RULES : Tok}
    {t_MOST_PARTS : Tok}
    {t_MOST_WORTH : Tok}
    {od_i_Chart an_i_Chart : Option Addr} {sl_i_Chart : Array (Option Value)} {oc_i_Chart kV_i_Chart dc_i_Chart pm_i_Chart cd_i_Chart ct_i_Chart : Value}
    {od_m_Chart_offer an_m_Chart_offer : Option Addr} {sl_m_Chart_offer : Array (Option Value)} {oc_m_Chart_offer kV_m_Chart_offer dc_m_Chart_offer pm_m_Chart_offer cd_m_Chart_offer ct_m_Chart_offer : Value}
    {od_m_Chart_take_part an_m_Chart_take_part : Option Addr} {sl_m_Chart_take_part : Array (Option Value)} {oc_m_Chart_take_part kV_m_Chart_take_part dc_m_Chart_take_part pm_m_Chart_take_part cd_m_Chart_take_part ct_m_Chart_take_part : Value}
    {od_m_Chart_take_parts an_m_Chart_take_parts : Option Addr} {sl_m_Chart_take_parts : Array (Option Value)} {oc_m_Chart_take_parts kV_m_Chart_take_parts dc_m_Chart_take_parts pm_m_Chart_take_parts cd_m_Chart_take_parts ct_m_Chart_take_parts : Value}
    {od_m_Chart_take_level an_m_Chart_take_level : Option Addr} {sl_m_Chart_take_level : Array (Option Value)} {oc_m_Chart_take_level kV_m_Chart_take_level dc_m_Chart_take_level pm_m_Chart_take_level cd_m_Chart_take_level ct_m_Chart_take_level : Value}
    {od_m_Chart_rise an_m_Chart_rise : Option Addr} {sl_m_Chart_rise : Array (Option Value)} {oc_m_Chart_rise kV_m_Chart_rise dc_m_Chart_rise pm_m_Chart_rise cd_m_Chart_rise ct_m_Chart_rise : Value}
    {od_i_Wood an_i_Wood : Option Addr} {sl_i_Wood : Array (Option Value)} {oc_i_Wood kV_i_Wood dc_i_Wood pm_i_Wood cd_i_Wood ct_i_Wood : Value}
    {od_m_Wood_reach an_m_Wood_reach : Option Addr} {sl_m_Wood_reach : Array (Option Value)} {oc_m_Wood_reach kV_m_Wood_reach dc_m_Wood_reach pm_m_Wood_reach cd_m_Wood_reach ct_m_Wood_reach : Value}
    {od_wall an_wall : Option Addr} {sl_wall : Array (Option Value)} {oc_wall kV_wall dc_wall pm_wall cd_wall ct_wall : Value}
    {od_is_whole an_is_whole : Option Addr} {sl_is_whole : Array (Option Value)} {oc_is_whole kV_is_whole dc_is_whole pm_is_whole cd_is_whole ct_is_whole : Value}
    {od_may_stand an_may_stand : Option Addr} {sl_may_stand : Array (Option Value)} {oc_may_stand kV_may_stand dc_may_stand pm_may_stand cd_may_stand ct_may_stand : Value}
    {od_is_sign an_is_sign : Option Addr} {sl_is_sign : Array (Option Value)} {oc_is_sign kV_is_sign dc_is_sign pm_is_sign cd_is_sign ct_is_sign : Value}
    {od_is_name an_is_name : Option Addr} {sl_is_name : Array (Option Value)} {oc_is_name kV_is_name dc_is_name pm_is_name cd_is_name ct_is_name : Value}
    {od_checked_text an_checked_text : Option Addr} {sl_checked_text : Array (Option Value)} {oc_checked_text kV_checked_text dc_checked_text pm_checked_text cd_checked_text ct_checked_text : Value}
    {od_are_parts an_are_parts : Option Addr} {sl_are_parts : Array (Option Value)} {oc_are_parts kV_are_parts dc_are_parts pm_are_parts cd_are_parts ct_are_parts : Value}
    {od_is_rule an_is_rule : Option Addr} {sl_is_rule : Array (Option Value)} {oc_is_rule kV_is_rule dc_is_rule pm_is_rule cd_is_rule ct_is_rule : Value}
    {od_checked an_checked : Option Addr} {sl_checked : Array (Option Value)} {oc_checked kV_checked dc_checked pm_checked cd_checked ct_checked : Value}
    {od_rules_by_head an_rules_by_head : Option Addr} {sl_rules_by_head : Array (Option Value)} {oc_rules_by_head kV_rules_by_head dc_rules_by_head pm_rules_by_head cd_rules_by_head ct_rules_by_head : Value}
    {od_first_nodes an_first_nodes : Option Addr} {sl_first_nodes : Array (Option Value)} {oc_first_nodes kV_first_nodes dc_first_nodes pm_first_nodes cd_first_nodes ct_first_nodes : Value}
    {od_heights_over an_heights_over : Option Addr} {sl_heights_over : Array (Option Value)} {oc_heights_over kV_heights_over dc_heights_over pm_heights_over cd_heights_over ct_heights_over : Value}
    {od_standing an_standing : Option Addr} {sl_standing : Array (Option Value)} {oc_standing kV_standing dc_standing pm_standing cd_standing ct_standing : Value}
    {od_ways_of_parts an_ways_of_parts : Option Addr} {sl_ways_of_parts : Array (Option Value)} {oc_ways_of_parts kV_ways_of_parts dc_ways_of_parts pm_ways_of_parts cd_ways_of_parts ct_ways_of_parts : Value}
    {od_ways_of_head an_ways_of_head : Option Addr} {sl_ways_of_head : Array (Option Value)} {oc_ways_of_head kV_ways_of_head dc_ways_of_head pm_ways_of_head cd_ways_of_head ct_ways_of_head : Value}
    {od_ways_over an_ways_over : Option Addr} {sl_ways_over : Array (Option Value)} {oc_ways_over kV_ways_over dc_ways_over pm_ways_over cd_ways_over ct_ways_over : Value}
    {od_law_cell_at an_law_cell_at : Option Addr} {sl_law_cell_at : Array (Option Value)} {oc_law_cell_at kV_law_cell_at dc_law_cell_at pm_law_cell_at cd_law_cell_at ct_law_cell_at : Value}
    {od_law_mixed an_law_mixed : Option Addr} {sl_law_mixed : Array (Option Value)} {oc_law_mixed kV_law_mixed dc_law_mixed pm_law_mixed cd_law_mixed ct_law_mixed : Value}
    {od_law_signs an_law_signs : Option Addr} {sl_law_signs : Array (Option Value)} {oc_law_signs kV_law_signs dc_law_signs pm_law_signs cd_law_signs ct_law_signs : Value}
    {od_law_names an_law_names : Option Addr} {sl_law_names : Array (Option Value)} {oc_law_names kV_law_names dc_law_names pm_law_names cd_law_names ct_law_names : Value}
    {od_law_worth an_law_worth : Option Addr} {sl_law_worth : Array (Option Value)} {oc_law_worth kV_law_worth dc_law_worth pm_law_worth cd_law_worth ct_law_worth : Value}
    {od_law_parts an_law_parts : Option Addr} {sl_law_parts : Array (Option Value)} {oc_law_parts kV_law_parts dc_law_parts pm_law_parts cd_law_parts ct_law_parts : Value}
    {od_law_grammar an_law_grammar : Option Addr} {sl_law_grammar : Array (Option Value)} {oc_law_grammar kV_law_grammar dc_law_grammar pm_law_grammar cd_law_grammar ct_law_grammar : Value}
    {od_law_text an_law_text : Option Addr} {sl_law_text : Array (Option Value)} {oc_law_text kV_law_text dc_law_text pm_law_text cd_law_text ct_law_text : Value}
    {od_law_bad_rule an_law_bad_rule : Option Addr} {sl_law_bad_rule : Array (Option Value)} {oc_law_bad_rule kV_law_bad_rule dc_law_bad_rule pm_law_bad_rule cd_law_bad_rule ct_law_bad_rule : Value}
    {od_law_bad_grammar an_law_bad_grammar : Option Addr} {sl_law_bad_grammar : Array (Option Value)} {oc_law_bad_grammar kV_law_bad_grammar dc_law_bad_grammar pm_law_bad_grammar cd_law_bad_grammar ct_law_bad_grammar : Value}
    {od_law_bad_text an_law_bad_text : Option Addr} {sl_law_bad_text : Array (Option Value)} {oc_law_bad_text kV_law_bad_text dc_law_bad_text pm_law_bad_text cd_law_bad_text ct_law_bad_text : Value}
    {od_law_refused an_law_refused : Option Addr} {sl_law_refused : Array (Option Value)} {oc_law_refused kV_law_refused dc_law_refused pm_law_refused cd_law_refused ct_law_refused : Value}
    {od_law an_law : Option Addr} {sl_law : Array (Option Value)} {oc_law kV_law dc_law pm_law cd_law ct_law : Value}
    (b_ValueError : PySem.W.nsIn K mainGlobals "ValueError" = some none)
    (b_bool : PySem.W.nsIn K mainGlobals "bool" = some none)
    (b_enumerate : PySem.W.nsIn K mainGlobals "enumerate" = some none)
    (b_int : PySem.W.nsIn K mainGlobals "int" = some none)
    (b_isinstance : PySem.W.nsIn K mainGlobals "isinstance" = some none)
    (b_len : PySem.W.nsIn K mainGlobals "len" = some none)
    (b_list : PySem.W.nsIn K mainGlobals "list" = some none)
    (b_min : PySem.W.nsIn K mainGlobals "min" = some none)
    (b_ord : PySem.W.nsIn K mainGlobals "ord" = some none)
    (b_range : PySem.W.nsIn K mainGlobals "range" = some none)
    (b_str : PySem.W.nsIn K mainGlobals "str" = some none)
    (b_tuple : PySem.W.nsIn K mainGlobals "tuple" = some none)
    (k_MOST_SIGNS : PySem.W.nsIn K mainGlobals "MOST_SIGNS" = some (some (.int (60) t_MOST_SIGNS)))
    (k_MOST_RULES : PySem.W.nsIn K mainGlobals "MOST_RULES" = some (some (.int (60) t_MOST_RULES)))
    (k_MOST_PARTS : PySem.W.nsIn K mainGlobals "MOST_PARTS" = some (some (.int (6) t_MOST_PARTS)))
    (k_MOST_WORTH : PySem.W.nsIn K mainGlobals "MOST_WORTH" = some (some (.int (1000000000000000000000000000000000000000000000000000000000000) t_MOST_WORTH)))
    (g_Chart : PySem.W.nsIn K mainGlobals "Chart" = some (some (.ref C_Chart)))
    (pg_Chart : PySem.W.plainGet K C_Chart Str.empty = true)
    (hd_Chart : PySem.W.hasDictIn K C_Chart = true)
    (po_Chart : PySem.W.plainOver K C_Chart = true)
    (sa_Chart : PySem.W.findIn K (.ref C_Chart) "__setattr__" = some (some (.builtin "object.__setattr__")))
    (mk_Chart : PySem.W.makesIn K C_Chart = true)
    (kc_Chart : PySem.W.keepIn K (.ref C_Chart) = true)
    (ha_Chart : PySem.W.findIn K (.ref C_Chart) "__class__" = some (some (.builtin "object.__class__")))
    (hn_Chart : PySem.W.specialIn K (.builtin "object.__class__") "__get__" = some (some (.builtin "getset_descriptor.__get__")))
    (ht_Chart : PySem.W.takesIn K (.builtin "object.__class__") = some true)
    (hm_Chart : PySem.W.mroIn K C_Chart (.type "object") = some true)
    (tc_Chart : PySem.W.typeIn K (.ref C_Chart) = some (.type "type"))
    (ic_Chart : PySem.W.isClsIn K C_Chart = true)
    (n_Chart_rules : PySem.W.findIn K (.ref C_Chart) "rules" = some none)
    (n_Chart_heights : PySem.W.findIn K (.ref C_Chart) "heights" = some none)
    (n_Chart_level : PySem.W.findIn K (.ref C_Chart) "level" = some none)
    (n_Chart_queue : PySem.W.findIn K (.ref C_Chart) "queue" = some none)
    (n_Chart_higher : PySem.W.findIn K (.ref C_Chart) "higher" = some none)
    (n_Chart_ends : PySem.W.findIn K (.ref C_Chart) "ends" = some none)
    (n_Chart_behind : PySem.W.findIn K (.ref C_Chart) "behind" = some none)
    (a_i_Chart : PySem.W.findIn K (.ref C_Chart) "__init__" = some (some (.ref f_i_Chart)))
    (y_i_Chart : PySem.W.isFn K (.ref f_i_Chart) = true)
    (l_i_Chart : K.lookup f_i_Chart = some ⟨oc_i_Chart, od_i_Chart, .func (PySem.W.fnOf "__init__" "Chart.__init__" (defArgs s_Chart_init) (defBody s_Chart_init) (defScope s_Chart_init) .none kV_i_Chart dc_i_Chart pm_i_Chart an_i_Chart cd_i_Chart ct_i_Chart), sl_i_Chart⟩)
    (e_i_Chart : PySem.W.codeIn K cd_i_Chart "Chart.__init__" = true)
    (p_i_Chart : PySem.W.keepIn K (.ref f_i_Chart) = true)
    (a_m_Chart_offer : PySem.W.findIn K (.ref C_Chart) "offer" = some (some (.ref f_m_Chart_offer)))
    (y_m_Chart_offer : PySem.W.isFn K (.ref f_m_Chart_offer) = true)
    (l_m_Chart_offer : K.lookup f_m_Chart_offer = some ⟨oc_m_Chart_offer, od_m_Chart_offer, .func (PySem.W.fnOf "offer" "Chart.offer" (defArgs s_Chart_offer) (defBody s_Chart_offer) (defScope s_Chart_offer) .none kV_m_Chart_offer dc_m_Chart_offer pm_m_Chart_offer an_m_Chart_offer cd_m_Chart_offer ct_m_Chart_offer), sl_m_Chart_offer⟩)
    (e_m_Chart_offer : PySem.W.codeIn K cd_m_Chart_offer "Chart.offer" = true)
    (p_m_Chart_offer : PySem.W.keepIn K (.ref f_m_Chart_offer) = true)
    (a_m_Chart_take_part : PySem.W.findIn K (.ref C_Chart) "take_part" = some (some (.ref f_m_Chart_take_part)))
    (y_m_Chart_take_part : PySem.W.isFn K (.ref f_m_Chart_take_part) = true)
    (l_m_Chart_take_part : K.lookup f_m_Chart_take_part = some ⟨oc_m_Chart_take_part, od_m_Chart_take_part, .func (PySem.W.fnOf "take_part" "Chart.take_part" (defArgs s_Chart_take_part) (defBody s_Chart_take_part) (defScope s_Chart_take_part) .none kV_m_Chart_take_part dc_m_Chart_take_part pm_m_Chart_take_part an_m_Chart_take_part cd_m_Chart_take_part ct_m_Chart_take_part), sl_m_Chart_take_part⟩)
    (e_m_Chart_take_part : PySem.W.codeIn K cd_m_Chart_take_part "Chart.take_part" = true)
    (p_m_Chart_take_part : PySem.W.keepIn K (.ref f_m_Chart_take_part) = true)
    (a_m_Chart_take_parts : PySem.W.findIn K (.ref C_Chart) "take_parts" = some (some (.ref f_m_Chart_take_parts)))
    (y_m_Chart_take_parts : PySem.W.isFn K (.ref f_m_Chart_take_parts) = true)
    (l_m_Chart_take_parts : K.lookup f_m_Chart_take_parts = some ⟨oc_m_Chart_take_parts, od_m_Chart_take_parts, .func (PySem.W.fnOf "take_parts" "Chart.take_parts" (defArgs s_Chart_take_parts) (defBody s_Chart_take_parts) (defScope s_Chart_take_parts) .none kV_m_Chart_take_parts dc_m_Chart_take_parts pm_m_Chart_take_parts an_m_Chart_take_parts cd_m_Chart_take_parts ct_m_Chart_take_parts), sl_m_Chart_take_parts⟩)
    (e_m_Chart_take_parts : PySem.W.codeIn K cd_m_Chart_take_parts "Chart.take_parts" = true)
    (p_m_Chart_take_parts : PySem.W.keepIn K (.ref f_m_Chart_take_parts) = true)
    (a_m_Chart_take_level : PySem.W.findIn K (.ref C_Chart) "take_level" = some (some (.ref f_m_Chart_take_level)))
    (y_m_Chart_take_level : PySem.W.isFn K (.ref f_m_Chart_take_level) = true)
    (l_m_Chart_take_level : K.lookup f_m_Chart_take_level = some ⟨oc_m_Chart_take_level, od_m_Chart_take_level, .func (PySem.W.fnOf "take_level" "Chart.take_level" (defArgs s_Chart_take_level) (defBody s_Chart_take_level) (defScope s_Chart_take_level) .none kV_m_Chart_take_level dc_m_Chart_take_level pm_m_Chart_take_level an_m_Chart_take_level cd_m_Chart_take_level ct_m_Chart_take_level), sl_m_Chart_take_level⟩)
    (e_m_Chart_take_level : PySem.W.codeIn K cd_m_Chart_take_level "Chart.take_level" = true)
    (p_m_Chart_take_level : PySem.W.keepIn K (.ref f_m_Chart_take_level) = true)
    (a_m_Chart_rise : PySem.W.findIn K (.ref C_Chart) "rise" = some (some (.ref f_m_Chart_rise)))
    (y_m_Chart_rise : PySem.W.isFn K (.ref f_m_Chart_rise) = true)
    (l_m_Chart_rise : K.lookup f_m_Chart_rise = some ⟨oc_m_Chart_rise, od_m_Chart_rise, .func (PySem.W.fnOf "rise" "Chart.rise" (defArgs s_Chart_rise) (defBody s_Chart_rise) (defScope s_Chart_rise) .none kV_m_Chart_rise dc_m_Chart_rise pm_m_Chart_rise an_m_Chart_rise cd_m_Chart_rise ct_m_Chart_rise), sl_m_Chart_rise⟩)
    (e_m_Chart_rise : PySem.W.codeIn K cd_m_Chart_rise "Chart.rise" = true)
    (p_m_Chart_rise : PySem.W.keepIn K (.ref f_m_Chart_rise) = true)
    (g_Wood : PySem.W.nsIn K mainGlobals "Wood" = some (some (.ref C_Wood)))
    (pg_Wood : PySem.W.plainGet K C_Wood Str.empty = true)
    (hd_Wood : PySem.W.hasDictIn K C_Wood = true)
    (po_Wood : PySem.W.plainOver K C_Wood = true)
    (sa_Wood : PySem.W.findIn K (.ref C_Wood) "__setattr__" = some (some (.builtin "object.__setattr__")))
    (mk_Wood : PySem.W.makesIn K C_Wood = true)
    (kc_Wood : PySem.W.keepIn K (.ref C_Wood) = true)
    (ha_Wood : PySem.W.findIn K (.ref C_Wood) "__class__" = some (some (.builtin "object.__class__")))
    (hn_Wood : PySem.W.specialIn K (.builtin "object.__class__") "__get__" = some (some (.builtin "getset_descriptor.__get__")))
    (ht_Wood : PySem.W.takesIn K (.builtin "object.__class__") = some true)
    (hm_Wood : PySem.W.mroIn K C_Wood (.type "object") = some true)
    (tc_Wood : PySem.W.typeIn K (.ref C_Wood) = some (.type "type"))
    (ic_Wood : PySem.W.isClsIn K C_Wood = true)
    (n_Wood_rules : PySem.W.findIn K (.ref C_Wood) "rules" = some none)
    (n_Wood_signs : PySem.W.findIn K (.ref C_Wood) "signs" = some none)
    (n_Wood_peak : PySem.W.findIn K (.ref C_Wood) "peak" = some none)
    (n_Wood_paths : PySem.W.findIn K (.ref C_Wood) "paths" = some none)
    (a_i_Wood : PySem.W.findIn K (.ref C_Wood) "__init__" = some (some (.ref f_i_Wood)))
    (y_i_Wood : PySem.W.isFn K (.ref f_i_Wood) = true)
    (l_i_Wood : K.lookup f_i_Wood = some ⟨oc_i_Wood, od_i_Wood, .func (PySem.W.fnOf "__init__" "Wood.__init__" (defArgs s_Wood_init) (defBody s_Wood_init) (defScope s_Wood_init) .none kV_i_Wood dc_i_Wood pm_i_Wood an_i_Wood cd_i_Wood ct_i_Wood), sl_i_Wood⟩)
    (e_i_Wood : PySem.W.codeIn K cd_i_Wood "Wood.__init__" = true)
    (p_i_Wood : PySem.W.keepIn K (.ref f_i_Wood) = true)
    (a_m_Wood_reach : PySem.W.findIn K (.ref C_Wood) "reach" = some (some (.ref f_m_Wood_reach)))
    (y_m_Wood_reach : PySem.W.isFn K (.ref f_m_Wood_reach) = true)
    (l_m_Wood_reach : K.lookup f_m_Wood_reach = some ⟨oc_m_Wood_reach, od_m_Wood_reach, .func (PySem.W.fnOf "reach" "Wood.reach" (defArgs s_Wood_reach) (defBody s_Wood_reach) (defScope s_Wood_reach) .none kV_m_Wood_reach dc_m_Wood_reach pm_m_Wood_reach an_m_Wood_reach cd_m_Wood_reach ct_m_Wood_reach), sl_m_Wood_reach⟩)
    (e_m_Wood_reach : PySem.W.codeIn K cd_m_Wood_reach "Wood.reach" = true)
    (p_m_Wood_reach : PySem.W.keepIn K (.ref f_m_Wood_reach) = true)
    (g_ForestError : PySem.W.nsIn K mainGlobals "ForestError" = some (some (.ref C_ForestError)))
    (ex_ForestError : PySem.W.excIn K C_ForestError [.type "ValueError", .type "Exception", .type "BaseException", .type "object"] "ValueError.__new__" = true)
    (kc_ForestError : PySem.W.keepIn K (.ref C_ForestError) = true)
    (bc_ForestError : PySem.W.subIn K (.ref C_ForestError) (.type "BaseException") = some true)
    (tc_ForestError : PySem.W.typeIn K (.ref C_ForestError) = some (.type "type"))
    (ic_ForestError : PySem.W.isClsIn K C_ForestError = true)
    (ga_ForestError : PySem.W.findIn K (.ref C_ForestError) "__getattribute__" = some (some (.builtin "BaseException.__getattribute__")))
    (gk_ForestError : PySem.W.findIn K (.ref C_ForestError) "__getattr__" = some none)
    (hd_ForestError : PySem.W.hasDictIn K C_ForestError = true)
    (ha_ForestError : PySem.W.findIn K (.ref C_ForestError) "__class__" = some (some (.builtin "object.__class__")))
    (hn_ForestError : PySem.W.specialIn K (.builtin "object.__class__") "__get__" = some (some (.builtin "getset_descriptor.__get__")))
    (ht_ForestError : PySem.W.takesIn K (.builtin "object.__class__") = some true)
    (hm_ForestError : PySem.W.mroIn K C_ForestError (.type "object") = some true)
    (ve_ForestError : PySem.W.subIn K (.ref C_ForestError) (.type "ValueError") = some true)
    (g_NoGrammar : PySem.W.nsIn K mainGlobals "NoGrammar" = some (some (.ref C_NoGrammar)))
    (ex_NoGrammar : PySem.W.excIn K C_NoGrammar [.type "ValueError", .type "Exception", .type "BaseException", .type "object"] "ValueError.__new__" = true)
    (kc_NoGrammar : PySem.W.keepIn K (.ref C_NoGrammar) = true)
    (bc_NoGrammar : PySem.W.subIn K (.ref C_NoGrammar) (.type "BaseException") = some true)
    (tc_NoGrammar : PySem.W.typeIn K (.ref C_NoGrammar) = some (.type "type"))
    (ic_NoGrammar : PySem.W.isClsIn K C_NoGrammar = true)
    (ga_NoGrammar : PySem.W.findIn K (.ref C_NoGrammar) "__getattribute__" = some (some (.builtin "BaseException.__getattribute__")))
    (gk_NoGrammar : PySem.W.findIn K (.ref C_NoGrammar) "__getattr__" = some none)
    (hd_NoGrammar : PySem.W.hasDictIn K C_NoGrammar = true)
    (ha_NoGrammar : PySem.W.findIn K (.ref C_NoGrammar) "__class__" = some (some (.builtin "object.__class__")))
    (hn_NoGrammar : PySem.W.specialIn K (.builtin "object.__class__") "__get__" = some (some (.builtin "getset_descriptor.__get__")))
    (ht_NoGrammar : PySem.W.takesIn K (.builtin "object.__class__") = some true)
    (hm_NoGrammar : PySem.W.mroIn K C_NoGrammar (.type "object") = some true)
    (ve_NoGrammar : PySem.W.subIn K (.ref C_NoGrammar) (.type "ValueError") = some true)
    (g_NoText : PySem.W.nsIn K mainGlobals "NoText" = some (some (.ref C_NoText)))
    (ex_NoText : PySem.W.excIn K C_NoText [.type "ValueError", .type "Exception", .type "BaseException", .type "object"] "ValueError.__new__" = true)
    (kc_NoText : PySem.W.keepIn K (.ref C_NoText) = true)
    (bc_NoText : PySem.W.subIn K (.ref C_NoText) (.type "BaseException") = some true)
    (tc_NoText : PySem.W.typeIn K (.ref C_NoText) = some (.type "type"))
    (ic_NoText : PySem.W.isClsIn K C_NoText = true)
    (ga_NoText : PySem.W.findIn K (.ref C_NoText) "__getattribute__" = some (some (.builtin "BaseException.__getattribute__")))
    (gk_NoText : PySem.W.findIn K (.ref C_NoText) "__getattr__" = some none)
    (hd_NoText : PySem.W.hasDictIn K C_NoText = true)
    (ha_NoText : PySem.W.findIn K (.ref C_NoText) "__class__" = some (some (.builtin "object.__class__")))
    (hn_NoText : PySem.W.specialIn K (.builtin "object.__class__") "__get__" = some (some (.builtin "getset_descriptor.__get__")))
    (ht_NoText : PySem.W.takesIn K (.builtin "object.__class__") = some true)
    (hm_NoText : PySem.W.mroIn K C_NoText (.type "object") = some true)
    (ve_NoText : PySem.W.subIn K (.ref C_NoText) (.type "ValueError") = some true)
    (g_NoRow : PySem.W.nsIn K mainGlobals "NoRow" = some (some (.ref C_NoRow)))
    (ex_NoRow : PySem.W.excIn K C_NoRow [.type "ValueError", .type "Exception", .type "BaseException", .type "object"] "ValueError.__new__" = true)
    (kc_NoRow : PySem.W.keepIn K (.ref C_NoRow) = true)
    (bc_NoRow : PySem.W.subIn K (.ref C_NoRow) (.type "BaseException") = some true)
    (tc_NoRow : PySem.W.typeIn K (.ref C_NoRow) = some (.type "type"))
    (ic_NoRow : PySem.W.isClsIn K C_NoRow = true)
    (ga_NoRow : PySem.W.findIn K (.ref C_NoRow) "__getattribute__" = some (some (.builtin "BaseException.__getattribute__")))
    (gk_NoRow : PySem.W.findIn K (.ref C_NoRow) "__getattr__" = some none)
    (hd_NoRow : PySem.W.hasDictIn K C_NoRow = true)
    (ha_NoRow : PySem.W.findIn K (.ref C_NoRow) "__class__" = some (some (.builtin "object.__class__")))
    (hn_NoRow : PySem.W.specialIn K (.builtin "object.__class__") "__get__" = some (some (.builtin "getset_descriptor.__get__")))
    (ht_NoRow : PySem.W.takesIn K (.builtin "object.__class__") = some true)
    (hm_NoRow : PySem.W.mroIn K C_NoRow (.type "object") = some true)
    (ve_NoRow : PySem.W.subIn K (.ref C_NoRow) (.type "ValueError") = some true)
    (g_NoRule : PySem.W.nsIn K mainGlobals "NoRule" = some (some (.ref C_NoRule)))
    (ex_NoRule : PySem.W.excIn K C_NoRule [.type "ValueError", .type "Exception", .type "BaseException", .type "object"] "ValueError.__new__" = true)
    (kc_NoRule : PySem.W.keepIn K (.ref C_NoRule) = true)
    (bc_NoRule : PySem.W.subIn K (.ref C_NoRule) (.type "BaseException") = some true)
    (tc_NoRule : PySem.W.typeIn K (.ref C_NoRule) = some (.type "type"))
    (ic_NoRule : PySem.W.isClsIn K C_NoRule = true)
    (ga_NoRule : PySem.W.findIn K (.ref C_NoRule) "__getattribute__" = some (some (.builtin "BaseException.__getattribute__")))
    (gk_NoRule : PySem.W.findIn K (.ref C_NoRule) "__getattr__" = some none)
    (hd_NoRule : PySem.W.hasDictIn K C_NoRule = true)
    (ha_NoRule : PySem.W.findIn K (.ref C_NoRule) "__class__" = some (some (.builtin "object.__class__")))
    (hn_NoRule : PySem.W.specialIn K (.builtin "object.__class__") "__get__" = some (some (.builtin "getset_descriptor.__get__")))
    (ht_NoRule : PySem.W.takesIn K (.builtin "object.__class__") = some true)
    (hm_NoRule : PySem.W.mroIn K C_NoRule (.type "object") = some true)
    (ve_NoRule : PySem.W.subIn K (.ref C_NoRule) (.type "ValueError") = some true)
    (g_NoNumber : PySem.W.nsIn K mainGlobals "NoNumber" = some (some (.ref C_NoNumber)))
    (ex_NoNumber : PySem.W.excIn K C_NoNumber [.type "ValueError", .type "Exception", .type "BaseException", .type "object"] "ValueError.__new__" = true)
    (kc_NoNumber : PySem.W.keepIn K (.ref C_NoNumber) = true)
    (bc_NoNumber : PySem.W.subIn K (.ref C_NoNumber) (.type "BaseException") = some true)
    (tc_NoNumber : PySem.W.typeIn K (.ref C_NoNumber) = some (.type "type"))
    (ic_NoNumber : PySem.W.isClsIn K C_NoNumber = true)
    (ga_NoNumber : PySem.W.findIn K (.ref C_NoNumber) "__getattribute__" = some (some (.builtin "BaseException.__getattribute__")))
    (gk_NoNumber : PySem.W.findIn K (.ref C_NoNumber) "__getattr__" = some none)
    (hd_NoNumber : PySem.W.hasDictIn K C_NoNumber = true)
    (ha_NoNumber : PySem.W.findIn K (.ref C_NoNumber) "__class__" = some (some (.builtin "object.__class__")))
    (hn_NoNumber : PySem.W.specialIn K (.builtin "object.__class__") "__get__" = some (some (.builtin "getset_descriptor.__get__")))
    (ht_NoNumber : PySem.W.takesIn K (.builtin "object.__class__") = some true)
    (hm_NoNumber : PySem.W.mroIn K C_NoNumber (.type "object") = some true)
    (ve_NoNumber : PySem.W.subIn K (.ref C_NoNumber) (.type "ValueError") = some true)
    (g_NoCosts : PySem.W.nsIn K mainGlobals "NoCosts" = some (some (.ref C_NoCosts)))
    (ex_NoCosts : PySem.W.excIn K C_NoCosts [.type "ValueError", .type "Exception", .type "BaseException", .type "object"] "ValueError.__new__" = true)
    (kc_NoCosts : PySem.W.keepIn K (.ref C_NoCosts) = true)
    (bc_NoCosts : PySem.W.subIn K (.ref C_NoCosts) (.type "BaseException") = some true)
    (tc_NoCosts : PySem.W.typeIn K (.ref C_NoCosts) = some (.type "type"))
    (ic_NoCosts : PySem.W.isClsIn K C_NoCosts = true)
    (ga_NoCosts : PySem.W.findIn K (.ref C_NoCosts) "__getattribute__" = some (some (.builtin "BaseException.__getattribute__")))
    (gk_NoCosts : PySem.W.findIn K (.ref C_NoCosts) "__getattr__" = some none)
    (hd_NoCosts : PySem.W.hasDictIn K C_NoCosts = true)
    (ha_NoCosts : PySem.W.findIn K (.ref C_NoCosts) "__class__" = some (some (.builtin "object.__class__")))
    (hn_NoCosts : PySem.W.specialIn K (.builtin "object.__class__") "__get__" = some (some (.builtin "getset_descriptor.__get__")))
    (ht_NoCosts : PySem.W.takesIn K (.builtin "object.__class__") = some true)
    (hm_NoCosts : PySem.W.mroIn K C_NoCosts (.type "object") = some true)
    (ve_NoCosts : PySem.W.subIn K (.ref C_NoCosts) (.type "ValueError") = some true)
    (g_NoChange : PySem.W.nsIn K mainGlobals "NoChange" = some (some (.ref C_NoChange)))
    (ex_NoChange : PySem.W.excIn K C_NoChange [.type "ValueError", .type "Exception", .type "BaseException", .type "object"] "ValueError.__new__" = true)
    (kc_NoChange : PySem.W.keepIn K (.ref C_NoChange) = true)
    (bc_NoChange : PySem.W.subIn K (.ref C_NoChange) (.type "BaseException") = some true)
    (tc_NoChange : PySem.W.typeIn K (.ref C_NoChange) = some (.type "type"))
    (ic_NoChange : PySem.W.isClsIn K C_NoChange = true)
    (ga_NoChange : PySem.W.findIn K (.ref C_NoChange) "__getattribute__" = some (some (.builtin "BaseException.__getattribute__")))
    (gk_NoChange : PySem.W.findIn K (.ref C_NoChange) "__getattr__" = some none)
    (hd_NoChange : PySem.W.hasDictIn K C_NoChange = true)
    (ha_NoChange : PySem.W.findIn K (.ref C_NoChange) "__class__" = some (some (.builtin "object.__class__")))
    (hn_NoChange : PySem.W.specialIn K (.builtin "object.__class__") "__get__" = some (some (.builtin "getset_descriptor.__get__")))
    (ht_NoChange : PySem.W.takesIn K (.builtin "object.__class__") = some true)
    (hm_NoChange : PySem.W.mroIn K C_NoChange (.type "object") = some true)
    (ve_NoChange : PySem.W.subIn K (.ref C_NoChange) (.type "ValueError") = some true)
    (g_NoWords : PySem.W.nsIn K mainGlobals "NoWords" = some (some (.ref C_NoWords)))
    (ex_NoWords : PySem.W.excIn K C_NoWords [.type "ValueError", .type "Exception", .type "BaseException", .type "object"] "ValueError.__new__" = true)
    (kc_NoWords : PySem.W.keepIn K (.ref C_NoWords) = true)
    (bc_NoWords : PySem.W.subIn K (.ref C_NoWords) (.type "BaseException") = some true)
    (tc_NoWords : PySem.W.typeIn K (.ref C_NoWords) = some (.type "type"))
    (ic_NoWords : PySem.W.isClsIn K C_NoWords = true)
    (ga_NoWords : PySem.W.findIn K (.ref C_NoWords) "__getattribute__" = some (some (.builtin "BaseException.__getattribute__")))
    (gk_NoWords : PySem.W.findIn K (.ref C_NoWords) "__getattr__" = some none)
    (hd_NoWords : PySem.W.hasDictIn K C_NoWords = true)
    (ha_NoWords : PySem.W.findIn K (.ref C_NoWords) "__class__" = some (some (.builtin "object.__class__")))
    (hn_NoWords : PySem.W.specialIn K (.builtin "object.__class__") "__get__" = some (some (.builtin "getset_descriptor.__get__")))
    (ht_NoWords : PySem.W.takesIn K (.builtin "object.__class__") = some true)
    (hm_NoWords : PySem.W.mroIn K C_NoWords (.type "object") = some true)
    (ve_NoWords : PySem.W.subIn K (.ref C_NoWords) (.type "ValueError") = some true)
    (g_Endless : PySem.W.nsIn K mainGlobals "Endless" = some (some (.ref C_Endless)))
    (ex_Endless : PySem.W.excIn K C_Endless [.type "ValueError", .type "Exception", .type "BaseException", .type "object"] "ValueError.__new__" = true)
    (kc_Endless : PySem.W.keepIn K (.ref C_Endless) = true)
    (bc_Endless : PySem.W.subIn K (.ref C_Endless) (.type "BaseException") = some true)
    (tc_Endless : PySem.W.typeIn K (.ref C_Endless) = some (.type "type"))
    (ic_Endless : PySem.W.isClsIn K C_Endless = true)
    (ga_Endless : PySem.W.findIn K (.ref C_Endless) "__getattribute__" = some (some (.builtin "BaseException.__getattribute__")))
    (gk_Endless : PySem.W.findIn K (.ref C_Endless) "__getattr__" = some none)
    (hd_Endless : PySem.W.hasDictIn K C_Endless = true)
    (ha_Endless : PySem.W.findIn K (.ref C_Endless) "__class__" = some (some (.builtin "object.__class__")))
    (hn_Endless : PySem.W.specialIn K (.builtin "object.__class__") "__get__" = some (some (.builtin "getset_descriptor.__get__")))
    (ht_Endless : PySem.W.takesIn K (.builtin "object.__class__") = some true)
    (hm_Endless : PySem.W.mroIn K C_Endless (.type "object") = some true)
    (ve_Endless : PySem.W.subIn K (.ref C_Endless) (.type "ValueError") = some true)
    (g_TooGreat : PySem.W.nsIn K mainGlobals "TooGreat" = some (some (.ref C_TooGreat)))
    (ex_TooGreat : PySem.W.excIn K C_TooGreat [.type "ValueError", .type "Exception", .type "BaseException", .type "object"] "ValueError.__new__" = true)
    (kc_TooGreat : PySem.W.keepIn K (.ref C_TooGreat) = true)
    (bc_TooGreat : PySem.W.subIn K (.ref C_TooGreat) (.type "BaseException") = some true)
    (tc_TooGreat : PySem.W.typeIn K (.ref C_TooGreat) = some (.type "type"))
    (ic_TooGreat : PySem.W.isClsIn K C_TooGreat = true)
    (ga_TooGreat : PySem.W.findIn K (.ref C_TooGreat) "__getattribute__" = some (some (.builtin "BaseException.__getattribute__")))
    (gk_TooGreat : PySem.W.findIn K (.ref C_TooGreat) "__getattr__" = some none)
    (hd_TooGreat : PySem.W.hasDictIn K C_TooGreat = true)
    (ha_TooGreat : PySem.W.findIn K (.ref C_TooGreat) "__class__" = some (some (.builtin "object.__class__")))
    (hn_TooGreat : PySem.W.specialIn K (.builtin "object.__class__") "__get__" = some (some (.builtin "getset_descriptor.__get__")))
    (ht_TooGreat : PySem.W.takesIn K (.builtin "object.__class__") = some true)
    (hm_TooGreat : PySem.W.mroIn K C_TooGreat (.type "object") = some true)
    (ve_TooGreat : PySem.W.subIn K (.ref C_TooGreat) (.type "ValueError") = some true)
    (g_Barren : PySem.W.nsIn K mainGlobals "Barren" = some (some (.ref C_Barren)))
    (ex_Barren : PySem.W.excIn K C_Barren [.type "ValueError", .type "Exception", .type "BaseException", .type "object"] "ValueError.__new__" = true)
    (kc_Barren : PySem.W.keepIn K (.ref C_Barren) = true)
    (bc_Barren : PySem.W.subIn K (.ref C_Barren) (.type "BaseException") = some true)
    (tc_Barren : PySem.W.typeIn K (.ref C_Barren) = some (.type "type"))
    (ic_Barren : PySem.W.isClsIn K C_Barren = true)
    (ga_Barren : PySem.W.findIn K (.ref C_Barren) "__getattribute__" = some (some (.builtin "BaseException.__getattribute__")))
    (gk_Barren : PySem.W.findIn K (.ref C_Barren) "__getattr__" = some none)
    (hd_Barren : PySem.W.hasDictIn K C_Barren = true)
    (ha_Barren : PySem.W.findIn K (.ref C_Barren) "__class__" = some (some (.builtin "object.__class__")))
    (hn_Barren : PySem.W.specialIn K (.builtin "object.__class__") "__get__" = some (some (.builtin "getset_descriptor.__get__")))
    (ht_Barren : PySem.W.takesIn K (.builtin "object.__class__") = some true)
    (hm_Barren : PySem.W.mroIn K C_Barren (.type "object") = some true)
    (ve_Barren : PySem.W.subIn K (.ref C_Barren) (.type "ValueError") = some true)
    (su_Chart_Chart : PySem.W.subIn K (.ref C_Chart) (.ref C_Chart) = some true)
    (su_Chart_Wood : PySem.W.subIn K (.ref C_Chart) (.ref C_Wood) = some false)
    (su_Wood_Chart : PySem.W.subIn K (.ref C_Wood) (.ref C_Chart) = some false)
    (su_Wood_Wood : PySem.W.subIn K (.ref C_Wood) (.ref C_Wood) = some true)
    (su_NoGrammar_ForestError : PySem.W.subIn K (.ref C_NoGrammar) (.ref C_ForestError) = some true)
    (su_NoGrammar_NoGrammar : PySem.W.subIn K (.ref C_NoGrammar) (.ref C_NoGrammar) = some true)
    (su_NoGrammar_NoText : PySem.W.subIn K (.ref C_NoGrammar) (.ref C_NoText) = some false)
    (su_NoGrammar_NoRow : PySem.W.subIn K (.ref C_NoGrammar) (.ref C_NoRow) = some false)
    (su_NoGrammar_NoRule : PySem.W.subIn K (.ref C_NoGrammar) (.ref C_NoRule) = some false)
    (su_NoGrammar_NoNumber : PySem.W.subIn K (.ref C_NoGrammar) (.ref C_NoNumber) = some false)
    (su_NoGrammar_NoCosts : PySem.W.subIn K (.ref C_NoGrammar) (.ref C_NoCosts) = some false)
    (su_NoGrammar_NoChange : PySem.W.subIn K (.ref C_NoGrammar) (.ref C_NoChange) = some false)
    (su_NoGrammar_NoWords : PySem.W.subIn K (.ref C_NoGrammar) (.ref C_NoWords) = some false)
    (su_NoGrammar_Endless : PySem.W.subIn K (.ref C_NoGrammar) (.ref C_Endless) = some false)
    (su_NoGrammar_TooGreat : PySem.W.subIn K (.ref C_NoGrammar) (.ref C_TooGreat) = some false)
    (su_NoGrammar_Barren : PySem.W.subIn K (.ref C_NoGrammar) (.ref C_Barren) = some false)
    (su_NoText_ForestError : PySem.W.subIn K (.ref C_NoText) (.ref C_ForestError) = some true)
    (su_NoText_NoGrammar : PySem.W.subIn K (.ref C_NoText) (.ref C_NoGrammar) = some false)
    (su_NoText_NoText : PySem.W.subIn K (.ref C_NoText) (.ref C_NoText) = some true)
    (su_NoText_NoRow : PySem.W.subIn K (.ref C_NoText) (.ref C_NoRow) = some false)
    (su_NoText_NoRule : PySem.W.subIn K (.ref C_NoText) (.ref C_NoRule) = some false)
    (su_NoText_NoNumber : PySem.W.subIn K (.ref C_NoText) (.ref C_NoNumber) = some false)
    (su_NoText_NoCosts : PySem.W.subIn K (.ref C_NoText) (.ref C_NoCosts) = some false)
    (su_NoText_NoChange : PySem.W.subIn K (.ref C_NoText) (.ref C_NoChange) = some false)
    (su_NoText_NoWords : PySem.W.subIn K (.ref C_NoText) (.ref C_NoWords) = some false)
    (su_NoText_Endless : PySem.W.subIn K (.ref C_NoText) (.ref C_Endless) = some false)
    (su_NoText_TooGreat : PySem.W.subIn K (.ref C_NoText) (.ref C_TooGreat) = some false)
    (su_NoText_Barren : PySem.W.subIn K (.ref C_NoText) (.ref C_Barren) = some false)
    (a_wall : PySem.W.nsIn K mainGlobals "_wall" = some (some (.ref f_wall)))
    (l_wall : K.lookup f_wall = some ⟨oc_wall, od_wall, .func (PySem.W.fnOf "_wall" "_wall" (defArgs s_wall) (defBody s_wall) (defScope s_wall) .none kV_wall dc_wall pm_wall an_wall cd_wall ct_wall), sl_wall⟩)
    (e_wall : PySem.W.codeIn K cd_wall "_wall" = true)
    (p_wall : PySem.W.keepIn K (.ref f_wall) = true)
    (a_is_whole : PySem.W.nsIn K mainGlobals "is_whole" = some (some (.ref f_is_whole)))
    (l_is_whole : K.lookup f_is_whole = some ⟨oc_is_whole, od_is_whole, .func (PySem.W.fnOf "is_whole" "is_whole" (defArgs s_is_whole) (defBody s_is_whole) (defScope s_is_whole) .none kV_is_whole dc_is_whole pm_is_whole an_is_whole cd_is_whole ct_is_whole), sl_is_whole⟩)
    (e_is_whole : PySem.W.codeIn K cd_is_whole "is_whole" = true)
    (p_is_whole : PySem.W.keepIn K (.ref f_is_whole) = true)
    (a_may_stand : PySem.W.nsIn K mainGlobals "may_stand" = some (some (.ref f_may_stand)))
    (l_may_stand : K.lookup f_may_stand = some ⟨oc_may_stand, od_may_stand, .func (PySem.W.fnOf "may_stand" "may_stand" (defArgs s_may_stand) (defBody s_may_stand) (defScope s_may_stand) .none kV_may_stand dc_may_stand pm_may_stand an_may_stand cd_may_stand ct_may_stand), sl_may_stand⟩)
    (e_may_stand : PySem.W.codeIn K cd_may_stand "may_stand" = true)
    (p_may_stand : PySem.W.keepIn K (.ref f_may_stand) = true)
    (a_is_sign : PySem.W.nsIn K mainGlobals "is_sign" = some (some (.ref f_is_sign)))
    (l_is_sign : K.lookup f_is_sign = some ⟨oc_is_sign, od_is_sign, .func (PySem.W.fnOf "is_sign" "is_sign" (defArgs s_is_sign) (defBody s_is_sign) (defScope s_is_sign) .none kV_is_sign dc_is_sign pm_is_sign an_is_sign cd_is_sign ct_is_sign), sl_is_sign⟩)
    (e_is_sign : PySem.W.codeIn K cd_is_sign "is_sign" = true)
    (p_is_sign : PySem.W.keepIn K (.ref f_is_sign) = true)
    (a_is_name : PySem.W.nsIn K mainGlobals "is_name" = some (some (.ref f_is_name)))
    (l_is_name : K.lookup f_is_name = some ⟨oc_is_name, od_is_name, .func (PySem.W.fnOf "is_name" "is_name" (defArgs s_is_name) (defBody s_is_name) (defScope s_is_name) .none kV_is_name dc_is_name pm_is_name an_is_name cd_is_name ct_is_name), sl_is_name⟩)
    (e_is_name : PySem.W.codeIn K cd_is_name "is_name" = true)
    (p_is_name : PySem.W.keepIn K (.ref f_is_name) = true)
    (a_checked_text : PySem.W.nsIn K mainGlobals "checked_text" = some (some (.ref f_checked_text)))
    (l_checked_text : K.lookup f_checked_text = some ⟨oc_checked_text, od_checked_text, .func (PySem.W.fnOf "checked_text" "checked_text" (defArgs s_checked_text) (defBody s_checked_text) (defScope s_checked_text) .none kV_checked_text dc_checked_text pm_checked_text an_checked_text cd_checked_text ct_checked_text), sl_checked_text⟩)
    (e_checked_text : PySem.W.codeIn K cd_checked_text "checked_text" = true)
    (p_checked_text : PySem.W.keepIn K (.ref f_checked_text) = true)
    (a_are_parts : PySem.W.nsIn K mainGlobals "are_parts" = some (some (.ref f_are_parts)))
    (l_are_parts : K.lookup f_are_parts = some ⟨oc_are_parts, od_are_parts, .func (PySem.W.fnOf "are_parts" "are_parts" (defArgs s_are_parts) (defBody s_are_parts) (defScope s_are_parts) .none kV_are_parts dc_are_parts pm_are_parts an_are_parts cd_are_parts ct_are_parts), sl_are_parts⟩)
    (e_are_parts : PySem.W.codeIn K cd_are_parts "are_parts" = true)
    (p_are_parts : PySem.W.keepIn K (.ref f_are_parts) = true)
    (a_is_rule : PySem.W.nsIn K mainGlobals "is_rule" = some (some (.ref f_is_rule)))
    (l_is_rule : K.lookup f_is_rule = some ⟨oc_is_rule, od_is_rule, .func (PySem.W.fnOf "is_rule" "is_rule" (defArgs s_is_rule) (defBody s_is_rule) (defScope s_is_rule) .none kV_is_rule dc_is_rule pm_is_rule an_is_rule cd_is_rule ct_is_rule), sl_is_rule⟩)
    (e_is_rule : PySem.W.codeIn K cd_is_rule "is_rule" = true)
    (p_is_rule : PySem.W.keepIn K (.ref f_is_rule) = true)
    (a_checked : PySem.W.nsIn K mainGlobals "checked" = some (some (.ref f_checked)))
    (l_checked : K.lookup f_checked = some ⟨oc_checked, od_checked, .func (PySem.W.fnOf "checked" "checked" (defArgs s_checked) (defBody s_checked) (defScope s_checked) .none kV_checked dc_checked pm_checked an_checked cd_checked ct_checked), sl_checked⟩)
    (e_checked : PySem.W.codeIn K cd_checked "checked" = true)
    (p_checked : PySem.W.keepIn K (.ref f_checked) = true)
    (a_rules_by_head : PySem.W.nsIn K mainGlobals "rules_by_head" = some (some (.ref f_rules_by_head)))
    (l_rules_by_head : K.lookup f_rules_by_head = some ⟨oc_rules_by_head, od_rules_by_head, .func (PySem.W.fnOf "rules_by_head" "rules_by_head" (defArgs s_rules_by_head) (defBody s_rules_by_head) (defScope s_rules_by_head) .none kV_rules_by_head dc_rules_by_head pm_rules_by_head an_rules_by_head cd_rules_by_head ct_rules_by_head), sl_rules_by_head⟩)
    (e_rules_by_head : PySem.W.codeIn K cd_rules_by_head "rules_by_head" = true)
    (p_rules_by_head : PySem.W.keepIn K (.ref f_rules_by_head) = true)
    (a_first_nodes : PySem.W.nsIn K mainGlobals "first_nodes" = some (some (.ref f_first_nodes)))
    (l_first_nodes : K.lookup f_first_nodes = some ⟨oc_first_nodes, od_first_nodes, .func (PySem.W.fnOf "first_nodes" "first_nodes" (defArgs s_first_nodes) (defBody s_first_nodes) (defScope s_first_nodes) .none kV_first_nodes dc_first_nodes pm_first_nodes an_first_nodes cd_first_nodes ct_first_nodes), sl_first_nodes⟩)
    (e_first_nodes : PySem.W.codeIn K cd_first_nodes "first_nodes" = true)
    (p_first_nodes : PySem.W.keepIn K (.ref f_first_nodes) = true)
    (a_heights_over : PySem.W.nsIn K mainGlobals "heights_over" = some (some (.ref f_heights_over)))
    (l_heights_over : K.lookup f_heights_over = some ⟨oc_heights_over, od_heights_over, .func (PySem.W.fnOf "heights_over" "heights_over" (defArgs s_heights_over) (defBody s_heights_over) (defScope s_heights_over) .none kV_heights_over dc_heights_over pm_heights_over an_heights_over cd_heights_over ct_heights_over), sl_heights_over⟩)
    (e_heights_over : PySem.W.codeIn K cd_heights_over "heights_over" = true)
    (p_heights_over : PySem.W.keepIn K (.ref f_heights_over) = true)
    (a_standing : PySem.W.nsIn K mainGlobals "standing" = some (some (.ref f_standing)))
    (l_standing : K.lookup f_standing = some ⟨oc_standing, od_standing, .func (PySem.W.fnOf "standing" "standing" (defArgs s_standing) (defBody s_standing) (defScope s_standing) .none kV_standing dc_standing pm_standing an_standing cd_standing ct_standing), sl_standing⟩)
    (e_standing : PySem.W.codeIn K cd_standing "standing" = true)
    (p_standing : PySem.W.keepIn K (.ref f_standing) = true)
    (a_ways_of_parts : PySem.W.nsIn K mainGlobals "ways_of_parts" = some (some (.ref f_ways_of_parts)))
    (l_ways_of_parts : K.lookup f_ways_of_parts = some ⟨oc_ways_of_parts, od_ways_of_parts, .func (PySem.W.fnOf "ways_of_parts" "ways_of_parts" (defArgs s_ways_of_parts) (defBody s_ways_of_parts) (defScope s_ways_of_parts) .none kV_ways_of_parts dc_ways_of_parts pm_ways_of_parts an_ways_of_parts cd_ways_of_parts ct_ways_of_parts), sl_ways_of_parts⟩)
    (e_ways_of_parts : PySem.W.codeIn K cd_ways_of_parts "ways_of_parts" = true)
    (p_ways_of_parts : PySem.W.keepIn K (.ref f_ways_of_parts) = true)
    (a_ways_of_head : PySem.W.nsIn K mainGlobals "ways_of_head" = some (some (.ref f_ways_of_head)))
    (l_ways_of_head : K.lookup f_ways_of_head = some ⟨oc_ways_of_head, od_ways_of_head, .func (PySem.W.fnOf "ways_of_head" "ways_of_head" (defArgs s_ways_of_head) (defBody s_ways_of_head) (defScope s_ways_of_head) .none kV_ways_of_head dc_ways_of_head pm_ways_of_head an_ways_of_head cd_ways_of_head ct_ways_of_head), sl_ways_of_head⟩)
    (e_ways_of_head : PySem.W.codeIn K cd_ways_of_head "ways_of_head" = true)
    (p_ways_of_head : PySem.W.keepIn K (.ref f_ways_of_head) = true)
    (a_ways_over : PySem.W.nsIn K mainGlobals "ways_over" = some (some (.ref f_ways_over)))
    (l_ways_over : K.lookup f_ways_over = some ⟨oc_ways_over, od_ways_over, .func (PySem.W.fnOf "ways_over" "ways_over" (defArgs s_ways_over) (defBody s_ways_over) (defScope s_ways_over) .none kV_ways_over dc_ways_over pm_ways_over an_ways_over cd_ways_over ct_ways_over), sl_ways_over⟩)
    (e_ways_over : PySem.W.codeIn K cd_ways_over "ways_over" = true)
    (p_ways_over : PySem.W.keepIn K (.ref f_ways_over) = true)
    (a_law_cell_at : PySem.W.nsIn K mainGlobals "_law_cell_at" = some (some (.ref f_law_cell_at)))
    (l_law_cell_at : K.lookup f_law_cell_at = some ⟨oc_law_cell_at, od_law_cell_at, .func (PySem.W.fnOf "_law_cell_at" "_law_cell_at" (defArgs s_law_cell_at) (defBody s_law_cell_at) (defScope s_law_cell_at) .none kV_law_cell_at dc_law_cell_at pm_law_cell_at an_law_cell_at cd_law_cell_at ct_law_cell_at), sl_law_cell_at⟩)
    (e_law_cell_at : PySem.W.codeIn K cd_law_cell_at "_law_cell_at" = true)
    (p_law_cell_at : PySem.W.keepIn K (.ref f_law_cell_at) = true)
    (a_law_mixed : PySem.W.nsIn K mainGlobals "_law_mixed" = some (some (.ref f_law_mixed)))
    (l_law_mixed : K.lookup f_law_mixed = some ⟨oc_law_mixed, od_law_mixed, .func (PySem.W.fnOf "_law_mixed" "_law_mixed" (defArgs s_law_mixed) (defBody s_law_mixed) (defScope s_law_mixed) .none kV_law_mixed dc_law_mixed pm_law_mixed an_law_mixed cd_law_mixed ct_law_mixed), sl_law_mixed⟩)
    (e_law_mixed : PySem.W.codeIn K cd_law_mixed "_law_mixed" = true)
    (p_law_mixed : PySem.W.keepIn K (.ref f_law_mixed) = true)
    (a_law_signs : PySem.W.nsIn K mainGlobals "_law_signs" = some (some (.ref f_law_signs)))
    (l_law_signs : K.lookup f_law_signs = some ⟨oc_law_signs, od_law_signs, .func (PySem.W.fnOf "_law_signs" "_law_signs" (defArgs s_law_signs) (defBody s_law_signs) (defScope s_law_signs) .none kV_law_signs dc_law_signs pm_law_signs an_law_signs cd_law_signs ct_law_signs), sl_law_signs⟩)
    (e_law_signs : PySem.W.codeIn K cd_law_signs "_law_signs" = true)
    (p_law_signs : PySem.W.keepIn K (.ref f_law_signs) = true)
    (a_law_names : PySem.W.nsIn K mainGlobals "_law_names" = some (some (.ref f_law_names)))
    (l_law_names : K.lookup f_law_names = some ⟨oc_law_names, od_law_names, .func (PySem.W.fnOf "_law_names" "_law_names" (defArgs s_law_names) (defBody s_law_names) (defScope s_law_names) .none kV_law_names dc_law_names pm_law_names an_law_names cd_law_names ct_law_names), sl_law_names⟩)
    (e_law_names : PySem.W.codeIn K cd_law_names "_law_names" = true)
    (p_law_names : PySem.W.keepIn K (.ref f_law_names) = true)
    (a_law_worth : PySem.W.nsIn K mainGlobals "_law_worth" = some (some (.ref f_law_worth)))
    (l_law_worth : K.lookup f_law_worth = some ⟨oc_law_worth, od_law_worth, .func (PySem.W.fnOf "_law_worth" "_law_worth" (defArgs s_law_worth) (defBody s_law_worth) (defScope s_law_worth) .none kV_law_worth dc_law_worth pm_law_worth an_law_worth cd_law_worth ct_law_worth), sl_law_worth⟩)
    (e_law_worth : PySem.W.codeIn K cd_law_worth "_law_worth" = true)
    (p_law_worth : PySem.W.keepIn K (.ref f_law_worth) = true)
    (a_law_parts : PySem.W.nsIn K mainGlobals "_law_parts" = some (some (.ref f_law_parts)))
    (l_law_parts : K.lookup f_law_parts = some ⟨oc_law_parts, od_law_parts, .func (PySem.W.fnOf "_law_parts" "_law_parts" (defArgs s_law_parts) (defBody s_law_parts) (defScope s_law_parts) .none kV_law_parts dc_law_parts pm_law_parts an_law_parts cd_law_parts ct_law_parts), sl_law_parts⟩)
    (e_law_parts : PySem.W.codeIn K cd_law_parts "_law_parts" = true)
    (p_law_parts : PySem.W.keepIn K (.ref f_law_parts) = true)
    (a_law_grammar : PySem.W.nsIn K mainGlobals "_law_grammar" = some (some (.ref f_law_grammar)))
    (l_law_grammar : K.lookup f_law_grammar = some ⟨oc_law_grammar, od_law_grammar, .func (PySem.W.fnOf "_law_grammar" "_law_grammar" (defArgs s_law_grammar) (defBody s_law_grammar) (defScope s_law_grammar) .none kV_law_grammar dc_law_grammar pm_law_grammar an_law_grammar cd_law_grammar ct_law_grammar), sl_law_grammar⟩)
    (e_law_grammar : PySem.W.codeIn K cd_law_grammar "_law_grammar" = true)
    (p_law_grammar : PySem.W.keepIn K (.ref f_law_grammar) = true)
    (a_law_text : PySem.W.nsIn K mainGlobals "_law_text" = some (some (.ref f_law_text)))
    (l_law_text : K.lookup f_law_text = some ⟨oc_law_text, od_law_text, .func (PySem.W.fnOf "_law_text" "_law_text" (defArgs s_law_text) (defBody s_law_text) (defScope s_law_text) .none kV_law_text dc_law_text pm_law_text an_law_text cd_law_text ct_law_text), sl_law_text⟩)
    (e_law_text : PySem.W.codeIn K cd_law_text "_law_text" = true)
    (p_law_text : PySem.W.keepIn K (.ref f_law_text) = true)
    (a_law_bad_rule : PySem.W.nsIn K mainGlobals "_law_bad_rule" = some (some (.ref f_law_bad_rule)))
    (l_law_bad_rule : K.lookup f_law_bad_rule = some ⟨oc_law_bad_rule, od_law_bad_rule, .func (PySem.W.fnOf "_law_bad_rule" "_law_bad_rule" (defArgs s_law_bad_rule) (defBody s_law_bad_rule) (defScope s_law_bad_rule) .none kV_law_bad_rule dc_law_bad_rule pm_law_bad_rule an_law_bad_rule cd_law_bad_rule ct_law_bad_rule), sl_law_bad_rule⟩)
    (e_law_bad_rule : PySem.W.codeIn K cd_law_bad_rule "_law_bad_rule" = true)
    (p_law_bad_rule : PySem.W.keepIn K (.ref f_law_bad_rule) = true)
    (a_law_bad_grammar : PySem.W.nsIn K mainGlobals "_law_bad_grammar" = some (some (.ref f_law_bad_grammar)))
    (l_law_bad_grammar : K.lookup f_law_bad_grammar = some ⟨oc_law_bad_grammar, od_law_bad_grammar, .func (PySem.W.fnOf "_law_bad_grammar" "_law_bad_grammar" (defArgs s_law_bad_grammar) (defBody s_law_bad_grammar) (defScope s_law_bad_grammar) .none kV_law_bad_grammar dc_law_bad_grammar pm_law_bad_grammar an_law_bad_grammar cd_law_bad_grammar ct_law_bad_grammar), sl_law_bad_grammar⟩)
    (e_law_bad_grammar : PySem.W.codeIn K cd_law_bad_grammar "_law_bad_grammar" = true)
    (p_law_bad_grammar : PySem.W.keepIn K (.ref f_law_bad_grammar) = true)
    (a_law_bad_text : PySem.W.nsIn K mainGlobals "_law_bad_text" = some (some (.ref f_law_bad_text)))
    (l_law_bad_text : K.lookup f_law_bad_text = some ⟨oc_law_bad_text, od_law_bad_text, .func (PySem.W.fnOf "_law_bad_text" "_law_bad_text" (defArgs s_law_bad_text) (defBody s_law_bad_text) (defScope s_law_bad_text) .none kV_law_bad_text dc_law_bad_text pm_law_bad_text an_law_bad_text cd_law_bad_text ct_law_bad_text), sl_law_bad_text⟩)
    (e_law_bad_text : PySem.W.codeIn K cd_law_bad_text "_law_bad_text" = true)
    (p_law_bad_text : PySem.W.keepIn K (.ref f_law_bad_text) = true)
    (a_law_refused : PySem.W.nsIn K mainGlobals "_law_refused" = some (some (.ref f_law_refused)))
    (l_law_refused : K.lookup f_law_refused = some ⟨oc_law_refused, od_law_refused, .func (PySem.W.fnOf "_law_refused" "_law_refused" (defArgs s_law_refused) (defBody s_law_refused) (defScope s_law_refused) .none kV_law_refused dc_law_refused pm_law_refused an_law_refused cd_law_refused ct_law_refused), sl_law_refused⟩)
    (e_law_refused : PySem.W.codeIn K cd_law_refused "_law_refused" = true)
    (p_law_refused : PySem.W.keepIn K (.ref f_law_refused) = true)
    (a_law : PySem.W.nsIn K mainGlobals "law" = some (some (.ref f_law)))
    (l_law : K.lookup f_law = some ⟨oc_law, od_law, .func (PySem.W.fnOf "law" "law" (defArgs s_law) (defBody s_law) (defScope s_law) .none kV_law dc_law pm_law an_law cd_law ct_law), sl_law⟩)
    (e_law : PySem.W.codeIn K cd_law "law" = true)
    (p_law : PySem.W.keepIn K (.ref f_law) = true)
    : ∃ fd : FuncData, (∀ (s : Shared) (v : Value), BindsTo s fd ⟨[v], []⟩ [("_law_script", v)]) ∧ ∀ base : Heap, K.In base → base.Ns mainGlobals mg → FnOk l.prog w K mg base (L2.CX l.prog w) 9 fa fd ["_law_script"] (sp1 (R_law K)) := by
  have e := hfa.symm.trans (PySem.W.mg_of X G a_law)
  cases e
  have T : Txt K mg ⟨0, C_ForestError, C_NoGrammar, C_NoText, C_NoRow, C_NoRule, C_NoNumber, C_NoCosts, C_NoChange, C_NoWords, C_Endless, C_TooGreat, C_Barren, C_Chart, C_Wood⟩ := {
    b_ValueError := ⟨PySem.W.mg_none_of X G b_ValueError⟩,
    b_bool := ⟨PySem.W.mg_none_of X G b_bool⟩,
    b_enumerate := ⟨PySem.W.mg_none_of X G b_enumerate⟩,
    b_int := ⟨PySem.W.mg_none_of X G b_int⟩,
    b_isinstance := ⟨PySem.W.mg_none_of X G b_isinstance⟩,
    b_len := ⟨PySem.W.mg_none_of X G b_len⟩,
    b_list := ⟨PySem.W.mg_none_of X G b_list⟩,
    b_min := ⟨PySem.W.mg_none_of X G b_min⟩,
    b_ord := ⟨PySem.W.mg_none_of X G b_ord⟩,
    b_range := ⟨PySem.W.mg_none_of X G b_range⟩,
    b_str := ⟨PySem.W.mg_none_of X G b_str⟩,
    b_tuple := ⟨PySem.W.mg_none_of X G b_tuple⟩,
    k_MOST_SIGNS := ⟨_, PySem.W.mg_of X G k_MOST_SIGNS⟩,
    k_MOST_RULES := ⟨_, PySem.W.mg_of X G k_MOST_RULES⟩,
    k_MOST_PARTS := ⟨_, PySem.W.mg_of X G k_MOST_PARTS⟩,
    k_MOST_WORTH := ⟨_, PySem.W.mg_of X G k_MOST_WORTH⟩,
    c_Chart := ⟨PySem.W.mg_of X G g_Chart, ⟨pg_Chart, hd_Chart, po_Chart, sa_Chart⟩, mk_Chart, kc_Chart, ha_Chart, hn_Chart, ht_Chart, hm_Chart, tc_Chart, ic_Chart⟩,
    n_Chart_rules := n_Chart_rules,
    n_Chart_heights := n_Chart_heights,
    n_Chart_level := n_Chart_level,
    n_Chart_queue := n_Chart_queue,
    n_Chart_higher := n_Chart_higher,
    n_Chart_ends := n_Chart_ends,
    n_Chart_behind := n_Chart_behind,
    i_Chart := ⟨f_i_Chart, _, ⟨mk_Chart, a_i_Chart, y_i_Chart, kc_Chart⟩, (fun_mk (st := s_Chart_init) l_i_Chart e_i_Chart p_i_Chart), ((fun_mk (st := s_Chart_init) l_i_Chart e_i_Chart p_i_Chart).binds (ps := ["self", "rules"]) fun _ _ _ _ _ _ us hl => match us, hl with | [_, _], _ => rfl)⟩,
    m_Chart_offer := ⟨f_m_Chart_offer, _, ⟨a_m_Chart_offer, y_m_Chart_offer, p_m_Chart_offer⟩, (fun_mk (st := s_Chart_offer) l_m_Chart_offer e_m_Chart_offer p_m_Chart_offer), ((fun_mk (st := s_Chart_offer) l_m_Chart_offer e_m_Chart_offer p_m_Chart_offer).binds (ps := ["self", "node"]) fun _ _ _ _ _ _ us hl => match us, hl with | [_, _], _ => rfl)⟩,
    m_Chart_take_part := ⟨f_m_Chart_take_part, _, ⟨a_m_Chart_take_part, y_m_Chart_take_part, p_m_Chart_take_part⟩, (fun_mk (st := s_Chart_take_part) l_m_Chart_take_part e_m_Chart_take_part p_m_Chart_take_part), ((fun_mk (st := s_Chart_take_part) l_m_Chart_take_part e_m_Chart_take_part p_m_Chart_take_part).binds (ps := ["self", "part", "i", "j"]) fun _ _ _ _ _ _ us hl => match us, hl with | [_, _, _, _], _ => rfl)⟩,
    m_Chart_take_parts := ⟨f_m_Chart_take_parts, _, ⟨a_m_Chart_take_parts, y_m_Chart_take_parts, p_m_Chart_take_parts⟩, (fun_mk (st := s_Chart_take_parts) l_m_Chart_take_parts e_m_Chart_take_parts p_m_Chart_take_parts), ((fun_mk (st := s_Chart_take_parts) l_m_Chart_take_parts e_m_Chart_take_parts p_m_Chart_take_parts).binds (ps := ["self", "r", "d", "i", "j"]) fun _ _ _ _ _ _ us hl => match us, hl with | [_, _, _, _, _], _ => rfl)⟩,
    m_Chart_take_level := ⟨f_m_Chart_take_level, _, ⟨a_m_Chart_take_level, y_m_Chart_take_level, p_m_Chart_take_level⟩, (fun_mk (st := s_Chart_take_level) l_m_Chart_take_level e_m_Chart_take_level p_m_Chart_take_level), ((fun_mk (st := s_Chart_take_level) l_m_Chart_take_level e_m_Chart_take_level p_m_Chart_take_level).binds (ps := ["self"]) fun _ _ _ _ _ _ us hl => match us, hl with | [_], _ => rfl)⟩,
    m_Chart_rise := ⟨f_m_Chart_rise, _, ⟨a_m_Chart_rise, y_m_Chart_rise, p_m_Chart_rise⟩, (fun_mk (st := s_Chart_rise) l_m_Chart_rise e_m_Chart_rise p_m_Chart_rise), ((fun_mk (st := s_Chart_rise) l_m_Chart_rise e_m_Chart_rise p_m_Chart_rise).binds (ps := ["self"]) fun _ _ _ _ _ _ us hl => match us, hl with | [_], _ => rfl)⟩,
    c_Wood := ⟨PySem.W.mg_of X G g_Wood, ⟨pg_Wood, hd_Wood, po_Wood, sa_Wood⟩, mk_Wood, kc_Wood, ha_Wood, hn_Wood, ht_Wood, hm_Wood, tc_Wood, ic_Wood⟩,
    n_Wood_rules := n_Wood_rules,
    n_Wood_signs := n_Wood_signs,
    n_Wood_peak := n_Wood_peak,
    n_Wood_paths := n_Wood_paths,
    i_Wood := ⟨f_i_Wood, _, ⟨mk_Wood, a_i_Wood, y_i_Wood, kc_Wood⟩, (fun_mk (st := s_Wood_init) l_i_Wood e_i_Wood p_i_Wood), ((fun_mk (st := s_Wood_init) l_i_Wood e_i_Wood p_i_Wood).binds (ps := ["self", "grammar", "text"]) fun _ _ _ _ _ _ us hl => match us, hl with | [_, _, _], _ => rfl)⟩,
    m_Wood_reach := ⟨f_m_Wood_reach, _, ⟨a_m_Wood_reach, y_m_Wood_reach, p_m_Wood_reach⟩, (fun_mk (st := s_Wood_reach) l_m_Wood_reach e_m_Wood_reach p_m_Wood_reach), ((fun_mk (st := s_Wood_reach) l_m_Wood_reach e_m_Wood_reach p_m_Wood_reach).binds (ps := ["self", "heights"]) fun _ _ _ _ _ _ us hl => match us, hl with | [_, _], _ => rfl)⟩,
    x_ForestError := ⟨PySem.W.mg_of X G g_ForestError, ex_ForestError, kc_ForestError, bc_ForestError, tc_ForestError, ic_ForestError, ga_ForestError, gk_ForestError, hd_ForestError, ha_ForestError, hn_ForestError, ht_ForestError, hm_ForestError, ve_ForestError⟩,
    x_NoGrammar := ⟨PySem.W.mg_of X G g_NoGrammar, ex_NoGrammar, kc_NoGrammar, bc_NoGrammar, tc_NoGrammar, ic_NoGrammar, ga_NoGrammar, gk_NoGrammar, hd_NoGrammar, ha_NoGrammar, hn_NoGrammar, ht_NoGrammar, hm_NoGrammar, ve_NoGrammar⟩,
    x_NoText := ⟨PySem.W.mg_of X G g_NoText, ex_NoText, kc_NoText, bc_NoText, tc_NoText, ic_NoText, ga_NoText, gk_NoText, hd_NoText, ha_NoText, hn_NoText, ht_NoText, hm_NoText, ve_NoText⟩,
    x_NoRow := ⟨PySem.W.mg_of X G g_NoRow, ex_NoRow, kc_NoRow, bc_NoRow, tc_NoRow, ic_NoRow, ga_NoRow, gk_NoRow, hd_NoRow, ha_NoRow, hn_NoRow, ht_NoRow, hm_NoRow, ve_NoRow⟩,
    x_NoRule := ⟨PySem.W.mg_of X G g_NoRule, ex_NoRule, kc_NoRule, bc_NoRule, tc_NoRule, ic_NoRule, ga_NoRule, gk_NoRule, hd_NoRule, ha_NoRule, hn_NoRule, ht_NoRule, hm_NoRule, ve_NoRule⟩,
    x_NoNumber := ⟨PySem.W.mg_of X G g_NoNumber, ex_NoNumber, kc_NoNumber, bc_NoNumber, tc_NoNumber, ic_NoNumber, ga_NoNumber, gk_NoNumber, hd_NoNumber, ha_NoNumber, hn_NoNumber, ht_NoNumber, hm_NoNumber, ve_NoNumber⟩,
    x_NoCosts := ⟨PySem.W.mg_of X G g_NoCosts, ex_NoCosts, kc_NoCosts, bc_NoCosts, tc_NoCosts, ic_NoCosts, ga_NoCosts, gk_NoCosts, hd_NoCosts, ha_NoCosts, hn_NoCosts, ht_NoCosts, hm_NoCosts, ve_NoCosts⟩,
    x_NoChange := ⟨PySem.W.mg_of X G g_NoChange, ex_NoChange, kc_NoChange, bc_NoChange, tc_NoChange, ic_NoChange, ga_NoChange, gk_NoChange, hd_NoChange, ha_NoChange, hn_NoChange, ht_NoChange, hm_NoChange, ve_NoChange⟩,
    x_NoWords := ⟨PySem.W.mg_of X G g_NoWords, ex_NoWords, kc_NoWords, bc_NoWords, tc_NoWords, ic_NoWords, ga_NoWords, gk_NoWords, hd_NoWords, ha_NoWords, hn_NoWords, ht_NoWords, hm_NoWords, ve_NoWords⟩,
    x_Endless := ⟨PySem.W.mg_of X G g_Endless, ex_Endless, kc_Endless, bc_Endless, tc_Endless, ic_Endless, ga_Endless, gk_Endless, hd_Endless, ha_Endless, hn_Endless, ht_Endless, hm_Endless, ve_Endless⟩,
    x_TooGreat := ⟨PySem.W.mg_of X G g_TooGreat, ex_TooGreat, kc_TooGreat, bc_TooGreat, tc_TooGreat, ic_TooGreat, ga_TooGreat, gk_TooGreat, hd_TooGreat, ha_TooGreat, hn_TooGreat, ht_TooGreat, hm_TooGreat, ve_TooGreat⟩,
    x_Barren := ⟨PySem.W.mg_of X G g_Barren, ex_Barren, kc_Barren, bc_Barren, tc_Barren, ic_Barren, ga_Barren, gk_Barren, hd_Barren, ha_Barren, hn_Barren, ht_Barren, hm_Barren, ve_Barren⟩,
    s_Chart_Chart := su_Chart_Chart,
    s_Chart_Wood := su_Chart_Wood,
    s_Wood_Chart := su_Wood_Chart,
    s_Wood_Wood := su_Wood_Wood,
    s_NoGrammar_ForestError := su_NoGrammar_ForestError,
    s_NoGrammar_NoGrammar := su_NoGrammar_NoGrammar,
    s_NoGrammar_NoText := su_NoGrammar_NoText,
    s_NoGrammar_NoRow := su_NoGrammar_NoRow,
    s_NoGrammar_NoRule := su_NoGrammar_NoRule,
    s_NoGrammar_NoNumber := su_NoGrammar_NoNumber,
    s_NoGrammar_NoCosts := su_NoGrammar_NoCosts,
    s_NoGrammar_NoChange := su_NoGrammar_NoChange,
    s_NoGrammar_NoWords := su_NoGrammar_NoWords,
    s_NoGrammar_Endless := su_NoGrammar_Endless,
    s_NoGrammar_TooGreat := su_NoGrammar_TooGreat,
    s_NoGrammar_Barren := su_NoGrammar_Barren,
    s_NoText_ForestError := su_NoText_ForestError,
    s_NoText_NoGrammar := su_NoText_NoGrammar,
    s_NoText_NoText := su_NoText_NoText,
    s_NoText_NoRow := su_NoText_NoRow,
    s_NoText_NoRule := su_NoText_NoRule,
    s_NoText_NoNumber := su_NoText_NoNumber,
    s_NoText_NoCosts := su_NoText_NoCosts,
    s_NoText_NoChange := su_NoText_NoChange,
    s_NoText_NoWords := su_NoText_NoWords,
    s_NoText_Endless := su_NoText_Endless,
    s_NoText_TooGreat := su_NoText_TooGreat,
    s_NoText_Barren := su_NoText_Barren,
    f_wall := ⟨f_wall, _, PySem.W.mg_of X G a_wall, (fun_mk (st := s_wall) l_wall e_wall p_wall), ((fun_mk (st := s_wall) l_wall e_wall p_wall).binds (ps := ["k"]) fun _ _ _ _ _ _ us hl => match us, hl with | [_], _ => rfl)⟩,
    f_is_whole := ⟨f_is_whole, _, PySem.W.mg_of X G a_is_whole, (fun_mk (st := s_is_whole) l_is_whole e_is_whole p_is_whole), ((fun_mk (st := s_is_whole) l_is_whole e_is_whole p_is_whole).binds (ps := ["thing"]) fun _ _ _ _ _ _ us hl => match us, hl with | [_], _ => rfl)⟩,
    f_may_stand := ⟨f_may_stand, _, PySem.W.mg_of X G a_may_stand, (fun_mk (st := s_may_stand) l_may_stand e_may_stand p_may_stand), ((fun_mk (st := s_may_stand) l_may_stand e_may_stand p_may_stand).binds (ps := ["sign"]) fun _ _ _ _ _ _ us hl => match us, hl with | [_], _ => rfl)⟩,
    f_is_sign := ⟨f_is_sign, _, PySem.W.mg_of X G a_is_sign, (fun_mk (st := s_is_sign) l_is_sign e_is_sign p_is_sign), ((fun_mk (st := s_is_sign) l_is_sign e_is_sign p_is_sign).binds (ps := ["thing"]) fun _ _ _ _ _ _ us hl => match us, hl with | [_], _ => rfl)⟩,
    f_is_name := ⟨f_is_name, _, PySem.W.mg_of X G a_is_name, (fun_mk (st := s_is_name) l_is_name e_is_name p_is_name), ((fun_mk (st := s_is_name) l_is_name e_is_name p_is_name).binds (ps := ["thing"]) fun _ _ _ _ _ _ us hl => match us, hl with | [_], _ => rfl)⟩,
    f_checked_text := ⟨f_checked_text, _, PySem.W.mg_of X G a_checked_text, (fun_mk (st := s_checked_text) l_checked_text e_checked_text p_checked_text), ((fun_mk (st := s_checked_text) l_checked_text e_checked_text p_checked_text).binds (ps := ["thing"]) fun _ _ _ _ _ _ us hl => match us, hl with | [_], _ => rfl)⟩,
    f_are_parts := ⟨f_are_parts, _, PySem.W.mg_of X G a_are_parts, (fun_mk (st := s_are_parts) l_are_parts e_are_parts p_are_parts), ((fun_mk (st := s_are_parts) l_are_parts e_are_parts p_are_parts).binds (ps := ["thing"]) fun _ _ _ _ _ _ us hl => match us, hl with | [_], _ => rfl)⟩,
    f_is_rule := ⟨f_is_rule, _, PySem.W.mg_of X G a_is_rule, (fun_mk (st := s_is_rule) l_is_rule e_is_rule p_is_rule), ((fun_mk (st := s_is_rule) l_is_rule e_is_rule p_is_rule).binds (ps := ["thing"]) fun _ _ _ _ _ _ us hl => match us, hl with | [_], _ => rfl)⟩,
    f_checked := ⟨f_checked, _, PySem.W.mg_of X G a_checked, (fun_mk (st := s_checked) l_checked e_checked p_checked), ((fun_mk (st := s_checked) l_checked e_checked p_checked).binds (ps := ["thing"]) fun _ _ _ _ _ _ us hl => match us, hl with | [_], _ => rfl)⟩,
    f_rules_by_head := ⟨f_rules_by_head, _, PySem.W.mg_of X G a_rules_by_head, (fun_mk (st := s_rules_by_head) l_rules_by_head e_rules_by_head p_rules_by_head), ((fun_mk (st := s_rules_by_head) l_rules_by_head e_rules_by_head p_rules_by_head).binds (ps := ["rules"]) fun _ _ _ _ _ _ us hl => match us, hl with | [_], _ => rfl)⟩,
    f_first_nodes := ⟨f_first_nodes, _, PySem.W.mg_of X G a_first_nodes, (fun_mk (st := s_first_nodes) l_first_nodes e_first_nodes p_first_nodes), ((fun_mk (st := s_first_nodes) l_first_nodes e_first_nodes p_first_nodes).binds (ps := ["rules", "signs"]) fun _ _ _ _ _ _ us hl => match us, hl with | [_, _], _ => rfl)⟩,
    f_heights_over := ⟨f_heights_over, _, PySem.W.mg_of X G a_heights_over, (fun_mk (st := s_heights_over) l_heights_over e_heights_over p_heights_over), ((fun_mk (st := s_heights_over) l_heights_over e_heights_over p_heights_over).binds (ps := ["rules", "signs"]) fun _ _ _ _ _ _ us hl => match us, hl with | [_, _], _ => rfl)⟩,
    f_standing := ⟨f_standing, _, PySem.W.mg_of X G a_standing, (fun_mk (st := s_standing) l_standing e_standing p_standing), ((fun_mk (st := s_standing) l_standing e_standing p_standing).binds (ps := ["grammar", "text"]) fun _ _ _ _ _ _ us hl => match us, hl with | [_, _], _ => rfl)⟩,
    f_ways_of_parts := ⟨f_ways_of_parts, _, PySem.W.mg_of X G a_ways_of_parts, (fun_mk (st := s_ways_of_parts) l_ways_of_parts e_ways_of_parts p_ways_of_parts), ((fun_mk (st := s_ways_of_parts) l_ways_of_parts e_ways_of_parts p_ways_of_parts).binds (ps := ["rules", "heights", "node"]) fun _ _ _ _ _ _ us hl => match us, hl with | [_, _, _], _ => rfl)⟩,
    f_ways_of_head := ⟨f_ways_of_head, _, PySem.W.mg_of X G a_ways_of_head, (fun_mk (st := s_ways_of_head) l_ways_of_head e_ways_of_head p_ways_of_head), ((fun_mk (st := s_ways_of_head) l_ways_of_head e_ways_of_head p_ways_of_head).binds (ps := ["rules", "by", "heights", "node"]) fun _ _ _ _ _ _ us hl => match us, hl with | [_, _, _, _], _ => rfl)⟩,
    f_ways_over := ⟨f_ways_over, _, PySem.W.mg_of X G a_ways_over, (fun_mk (st := s_ways_over) l_ways_over e_ways_over p_ways_over), ((fun_mk (st := s_ways_over) l_ways_over e_ways_over p_ways_over).binds (ps := ["rules", "by", "heights", "node"]) fun _ _ _ _ _ _ us hl => match us, hl with | [_, _, _, _], _ => rfl)⟩,
    f_law_cell_at := ⟨f_law_cell_at, _, PySem.W.mg_of X G a_law_cell_at, (fun_mk (st := s_law_cell_at) l_law_cell_at e_law_cell_at p_law_cell_at), ((fun_mk (st := s_law_cell_at) l_law_cell_at e_law_cell_at p_law_cell_at).binds (ps := ["_law_script", "_law_k"]) fun _ _ _ _ _ _ us hl => match us, hl with | [_, _], _ => rfl)⟩,
    f_law_mixed := ⟨f_law_mixed, _, PySem.W.mg_of X G a_law_mixed, (fun_mk (st := s_law_mixed) l_law_mixed e_law_mixed p_law_mixed), ((fun_mk (st := s_law_mixed) l_law_mixed e_law_mixed p_law_mixed).binds (ps := ["_law_script", "_law_k"]) fun _ _ _ _ _ _ us hl => match us, hl with | [_, _], _ => rfl)⟩,
    f_law_signs := ⟨f_law_signs, _, PySem.W.mg_of X G a_law_signs, (fun_mk (st := s_law_signs) l_law_signs e_law_signs p_law_signs), ((fun_mk (st := s_law_signs) l_law_signs e_law_signs p_law_signs).binds (ps := ["_law_cell"]) fun _ _ _ _ _ _ us hl => match us, hl with | [_], _ => rfl)⟩,
    f_law_names := ⟨f_law_names, _, PySem.W.mg_of X G a_law_names, (fun_mk (st := s_law_names) l_law_names e_law_names p_law_names), ((fun_mk (st := s_law_names) l_law_names e_law_names p_law_names).binds (ps := ["_law_cell"]) fun _ _ _ _ _ _ us hl => match us, hl with | [_], _ => rfl)⟩,
    f_law_worth := ⟨f_law_worth, _, PySem.W.mg_of X G a_law_worth, (fun_mk (st := s_law_worth) l_law_worth e_law_worth p_law_worth), ((fun_mk (st := s_law_worth) l_law_worth e_law_worth p_law_worth).binds (ps := ["_law_cell"]) fun _ _ _ _ _ _ us hl => match us, hl with | [_], _ => rfl)⟩,
    f_law_parts := ⟨f_law_parts, _, PySem.W.mg_of X G a_law_parts, (fun_mk (st := s_law_parts) l_law_parts e_law_parts p_law_parts), ((fun_mk (st := s_law_parts) l_law_parts e_law_parts p_law_parts).binds (ps := ["_law_cell", "_law_menu", "_law_most"]) fun _ _ _ _ _ _ us hl => match us, hl with | [_, _, _], _ => rfl)⟩,
    f_law_grammar := ⟨f_law_grammar, _, PySem.W.mg_of X G a_law_grammar, (fun_mk (st := s_law_grammar) l_law_grammar e_law_grammar p_law_grammar), ((fun_mk (st := s_law_grammar) l_law_grammar e_law_grammar p_law_grammar).binds (ps := ["_law_script"]) fun _ _ _ _ _ _ us hl => match us, hl with | [_], _ => rfl)⟩,
    f_law_text := ⟨f_law_text, _, PySem.W.mg_of X G a_law_text, (fun_mk (st := s_law_text) l_law_text e_law_text p_law_text), ((fun_mk (st := s_law_text) l_law_text e_law_text p_law_text).binds (ps := ["_law_script", "_law_at", "_law_size"]) fun _ _ _ _ _ _ us hl => match us, hl with | [_, _, _], _ => rfl)⟩,
    f_law_bad_rule := ⟨f_law_bad_rule, _, PySem.W.mg_of X G a_law_bad_rule, (fun_mk (st := s_law_bad_rule) l_law_bad_rule e_law_bad_rule p_law_bad_rule), ((fun_mk (st := s_law_bad_rule) l_law_bad_rule e_law_bad_rule p_law_bad_rule).binds (ps := ["_law_cell", "_law_rule"]) fun _ _ _ _ _ _ us hl => match us, hl with | [_, _], _ => rfl)⟩,
    f_law_bad_grammar := ⟨f_law_bad_grammar, _, PySem.W.mg_of X G a_law_bad_grammar, (fun_mk (st := s_law_bad_grammar) l_law_bad_grammar e_law_bad_grammar p_law_bad_grammar), ((fun_mk (st := s_law_bad_grammar) l_law_bad_grammar e_law_bad_grammar p_law_bad_grammar).binds (ps := ["_law_cell", "_law_rules"]) fun _ _ _ _ _ _ us hl => match us, hl with | [_, _], _ => rfl)⟩,
    f_law_bad_text := ⟨f_law_bad_text, _, PySem.W.mg_of X G a_law_bad_text, (fun_mk (st := s_law_bad_text) l_law_bad_text e_law_bad_text p_law_bad_text), ((fun_mk (st := s_law_bad_text) l_law_bad_text e_law_bad_text p_law_bad_text).binds (ps := ["_law_cell", "_law_text_here"]) fun _ _ _ _ _ _ us hl => match us, hl with | [_, _], _ => rfl)⟩,
    f_law_refused := ⟨f_law_refused, _, PySem.W.mg_of X G a_law_refused, (fun_mk (st := s_law_refused) l_law_refused e_law_refused p_law_refused), ((fun_mk (st := s_law_refused) l_law_refused e_law_refused p_law_refused).binds (ps := ["_law_one", "_law_grammar_here", "_law_text_here"]) fun _ _ _ _ _ _ us hl => match us, hl with | [_, _, _], _ => rfl)⟩ }
  exact ⟨PySem.W.fnOf "law" "law" (defArgs s_law) (defBody s_law) (defScope s_law) .none kV_law dc_law pm_law an_law cd_law ct_law, fun s v => .of_eq rfl, fun base _ _ => ok_law (fun_mk (st := s_law) l_law e_law p_law) T⟩
theorem walk {l : PySem.W.OpenLaw} {q : Program} {loose : List Str} {XP : (Str → Option Value) → Heap → Prop} {YP : World → Heap → Prop} {d : DefRec} {K : Params → PySem.W.Frag} (hn : l.most = some 63) (hdf : d.params.defaults = [])
    (hY : ∀ (w : World) (h : Heap), YP w h → (K w.params).In h)
    (F : ∀ (w : World) (mg : Str → Option Value) (fa : Addr) (h : Heap), (K w.params).In h → h.Ns mainGlobals mg → mg d.name = some (.ref fa) →
      ∃ fd : FuncData, (∀ (s : Shared) (u : Value), BindsTo s fd ⟨[u], []⟩ [("_law_script", u)]) ∧ ∀ base : Heap, (K w.params).In base → base.Ns mainGlobals mg → FnOk l.prog w (K w.params) mg base (L2.CX l.prog w) 9 fa fd ["_law_script"] (sp1 (R_law (K w.params)))) :
    PySem.W.WalkO q loose XP YP l.row.toRowW d [] (fun f vs => PySem.call f vs) :=
  L2.walk_of (n := 63) (k := 9) (x := "_law_script") (CX := fun w => L2.CX l.prog w) (sp := fun w => sp1 (R_law (K w.params))) hn (by decide) hdf ⟨rfl, by decide, by decide⟩ hY F (fun _ _ a ns hl _ hS => ⟨_, rfl, a, ns, rfl, hS, hl, fun _ => rfl⟩) fun w H s e s' h => by
    obtain ⟨_, _, _, _, _, _, _, _, _, _, _, _, z⟩ := h
    exact z
end Lw
open PySem PySem.W PyProof.Rows
set_option maxRecDepth 100000 in
set_option maxHeartbeats 0 in
theorem PySem.Challenge.cw_forestread_k24_wood_refused_holds : PySem.Challenge.rw_forestread_k24_wood_refused.Holds := by
  w_on; o_law; k_head; (case hw => w_witness2)
  k_fill
  refine Lw.walk (l := PySem.Challenge.rw_forestread_k24_wood_refused) rfl rfl (fun w h Y => PySem.W.kIn_of Y) ?F
  case F =>
    intro w mg fa h KX G hmg
    refine' Lw.all_mk KX G hmg ?b_ValueError ?b_bool ?b_enumerate ?b_int ?b_isinstance ?b_len ?b_list ?b_min ?b_ord ?b_range ?b_str ?b_tuple ?k_MOST_SIGNS ?k_MOST_RULES ?k_MOST_PARTS ?k_MOST_WORTH ?g_Chart ?pg_Chart ?hd_Chart ?po_Chart ?sa_Chart ?mk_Chart ?kc_Chart ?ha_Chart ?hn_Chart ?ht_Chart ?hm_Chart ?tc_Chart ?ic_Chart ?n_Chart_rules ?n_Chart_heights ?n_Chart_level ?n_Chart_queue ?n_Chart_higher ?n_Chart_ends ?n_Chart_behind ?a_i_Chart ?y_i_Chart ?l_i_Chart ?e_i_Chart ?p_i_Chart ?a_m_Chart_offer ?y_m_Chart_offer ?l_m_Chart_offer ?e_m_Chart_offer ?p_m_Chart_offer ?a_m_Chart_take_part ?y_m_Chart_take_part ?l_m_Chart_take_part ?e_m_Chart_take_part ?p_m_Chart_take_part ?a_m_Chart_take_parts ?y_m_Chart_take_parts ?l_m_Chart_take_parts ?e_m_Chart_take_parts ?p_m_Chart_take_parts ?a_m_Chart_take_level ?y_m_Chart_take_level ?l_m_Chart_take_level ?e_m_Chart_take_level ?p_m_Chart_take_level ?a_m_Chart_rise ?y_m_Chart_rise ?l_m_Chart_rise ?e_m_Chart_rise ?p_m_Chart_rise ?g_Wood ?pg_Wood ?hd_Wood ?po_Wood ?sa_Wood ?mk_Wood ?kc_Wood ?ha_Wood ?hn_Wood ?ht_Wood ?hm_Wood ?tc_Wood ?ic_Wood ?n_Wood_rules ?n_Wood_signs ?n_Wood_peak ?n_Wood_paths ?a_i_Wood ?y_i_Wood ?l_i_Wood ?e_i_Wood ?p_i_Wood ?a_m_Wood_reach ?y_m_Wood_reach ?l_m_Wood_reach ?e_m_Wood_reach ?p_m_Wood_reach ?g_ForestError ?ex_ForestError ?kc_ForestError ?bc_ForestError ?tc_ForestError ?ic_ForestError ?ga_ForestError ?gk_ForestError ?hd_ForestError ?ha_ForestError ?hn_ForestError ?ht_ForestError ?hm_ForestError ?ve_ForestError ?g_NoGrammar ?ex_NoGrammar ?kc_NoGrammar ?bc_NoGrammar ?tc_NoGrammar ?ic_NoGrammar ?ga_NoGrammar ?gk_NoGrammar ?hd_NoGrammar ?ha_NoGrammar ?hn_NoGrammar ?ht_NoGrammar ?hm_NoGrammar ?ve_NoGrammar ?g_NoText ?ex_NoText ?kc_NoText ?bc_NoText ?tc_NoText ?ic_NoText ?ga_NoText ?gk_NoText ?hd_NoText ?ha_NoText ?hn_NoText ?ht_NoText ?hm_NoText ?ve_NoText ?g_NoRow ?ex_NoRow ?kc_NoRow ?bc_NoRow ?tc_NoRow ?ic_NoRow ?ga_NoRow ?gk_NoRow ?hd_NoRow ?ha_NoRow ?hn_NoRow ?ht_NoRow ?hm_NoRow ?ve_NoRow ?g_NoRule ?ex_NoRule ?kc_NoRule ?bc_NoRule ?tc_NoRule ?ic_NoRule ?ga_NoRule ?gk_NoRule ?hd_NoRule ?ha_NoRule ?hn_NoRule ?ht_NoRule ?hm_NoRule ?ve_NoRule ?g_NoNumber ?ex_NoNumber ?kc_NoNumber ?bc_NoNumber ?tc_NoNumber ?ic_NoNumber ?ga_NoNumber ?gk_NoNumber ?hd_NoNumber ?ha_NoNumber ?hn_NoNumber ?ht_NoNumber ?hm_NoNumber ?ve_NoNumber ?g_NoCosts ?ex_NoCosts ?kc_NoCosts ?bc_NoCosts ?tc_NoCosts ?ic_NoCosts ?ga_NoCosts ?gk_NoCosts ?hd_NoCosts ?ha_NoCosts ?hn_NoCosts ?ht_NoCosts ?hm_NoCosts ?ve_NoCosts ?g_NoChange ?ex_NoChange ?kc_NoChange ?bc_NoChange ?tc_NoChange ?ic_NoChange ?ga_NoChange ?gk_NoChange ?hd_NoChange ?ha_NoChange ?hn_NoChange ?ht_NoChange ?hm_NoChange ?ve_NoChange ?g_NoWords ?ex_NoWords ?kc_NoWords ?bc_NoWords ?tc_NoWords ?ic_NoWords ?ga_NoWords ?gk_NoWords ?hd_NoWords ?ha_NoWords ?hn_NoWords ?ht_NoWords ?hm_NoWords ?ve_NoWords ?g_Endless ?ex_Endless ?kc_Endless ?bc_Endless ?tc_Endless ?ic_Endless ?ga_Endless ?gk_Endless ?hd_Endless ?ha_Endless ?hn_Endless ?ht_Endless ?hm_Endless ?ve_Endless ?g_TooGreat ?ex_TooGreat ?kc_TooGreat ?bc_TooGreat ?tc_TooGreat ?ic_TooGreat ?ga_TooGreat ?gk_TooGreat ?hd_TooGreat ?ha_TooGreat ?hn_TooGreat ?ht_TooGreat ?hm_TooGreat ?ve_TooGreat ?g_Barren ?ex_Barren ?kc_Barren ?bc_Barren ?tc_Barren ?ic_Barren ?ga_Barren ?gk_Barren ?hd_Barren ?ha_Barren ?hn_Barren ?ht_Barren ?hm_Barren ?ve_Barren ?su_Chart_Chart ?su_Chart_Wood ?su_Wood_Chart ?su_Wood_Wood ?su_NoGrammar_ForestError ?su_NoGrammar_NoGrammar ?su_NoGrammar_NoText ?su_NoGrammar_NoRow ?su_NoGrammar_NoRule ?su_NoGrammar_NoNumber ?su_NoGrammar_NoCosts ?su_NoGrammar_NoChange ?su_NoGrammar_NoWords ?su_NoGrammar_Endless ?su_NoGrammar_TooGreat ?su_NoGrammar_Barren ?su_NoText_ForestError ?su_NoText_NoGrammar ?su_NoText_NoText ?su_NoText_NoRow ?su_NoText_NoRule ?su_NoText_NoNumber ?su_NoText_NoCosts ?su_NoText_NoChange ?su_NoText_NoWords ?su_NoText_Endless ?su_NoText_TooGreat ?su_NoText_Barren ?a_wall ?l_wall ?e_wall ?p_wall ?a_is_whole ?l_is_whole ?e_is_whole ?p_is_whole ?a_may_stand ?l_may_stand ?e_may_stand ?p_may_stand ?a_is_sign ?l_is_sign ?e_is_sign ?p_is_sign ?a_is_name ?l_is_name ?e_is_name ?p_is_name ?a_checked_text ?l_checked_text ?e_checked_text ?p_checked_text ?a_are_parts ?l_are_parts ?e_are_parts ?p_are_parts ?a_is_rule ?l_is_rule ?e_is_rule ?p_is_rule ?a_checked ?l_checked ?e_checked ?p_checked ?a_rules_by_head ?l_rules_by_head ?e_rules_by_head ?p_rules_by_head ?a_first_nodes ?l_first_nodes ?e_first_nodes ?p_first_nodes ?a_heights_over ?l_heights_over ?e_heights_over ?p_heights_over ?a_standing ?l_standing ?e_standing ?p_standing ?a_ways_of_parts ?l_ways_of_parts ?e_ways_of_parts ?p_ways_of_parts ?a_ways_of_head ?l_ways_of_head ?e_ways_of_head ?p_ways_of_head ?a_ways_over ?l_ways_over ?e_ways_over ?p_ways_over ?a_law_cell_at ?l_law_cell_at ?e_law_cell_at ?p_law_cell_at ?a_law_mixed ?l_law_mixed ?e_law_mixed ?p_law_mixed ?a_law_signs ?l_law_signs ?e_law_signs ?p_law_signs ?a_law_names ?l_law_names ?e_law_names ?p_law_names ?a_law_worth ?l_law_worth ?e_law_worth ?p_law_worth ?a_law_parts ?l_law_parts ?e_law_parts ?p_law_parts ?a_law_grammar ?l_law_grammar ?e_law_grammar ?p_law_grammar ?a_law_text ?l_law_text ?e_law_text ?p_law_text ?a_law_bad_rule ?l_law_bad_rule ?e_law_bad_rule ?p_law_bad_rule ?a_law_bad_grammar ?l_law_bad_grammar ?e_law_bad_grammar ?p_law_bad_grammar ?a_law_bad_text ?l_law_bad_text ?e_law_bad_text ?p_law_bad_text ?a_law_refused ?l_law_refused ?e_law_refused ?p_law_refused ?a_law ?l_law ?e_law ?p_law
    (case b_ValueError => k_is)
    (case b_bool => k_is)
    (case b_enumerate => k_is)
    (case b_int => k_is)
    (case b_isinstance => k_is)
    (case b_len => k_is)
    (case b_list => k_is)
    (case b_min => k_is)
    (case b_ord => k_is)
    (case b_range => k_is)
    (case b_str => k_is)
    (case b_tuple => k_is)
    (case k_MOST_SIGNS => k_is)
    (case k_MOST_RULES => k_is)
    (case k_MOST_PARTS => k_is)
    (case k_MOST_WORTH => k_is)
    (case g_Chart => k_is)
    (case pg_Chart => k_is)
    (case hd_Chart => k_is)
    (case po_Chart => k_is)
    (case sa_Chart => k_is)
    (case mk_Chart => k_is)
    (case kc_Chart => k_is)
    (case ha_Chart => k_is)
    (case hn_Chart => k_is)
    (case ht_Chart => k_is)
    (case hm_Chart => k_is)
    (case tc_Chart => k_is)
    (case ic_Chart => k_is)
    (case n_Chart_rules => k_is)
    (case n_Chart_heights => k_is)
    (case n_Chart_level => k_is)
    (case n_Chart_queue => k_is)
    (case n_Chart_higher => k_is)
    (case n_Chart_ends => k_is)
    (case n_Chart_behind => k_is)
    (case a_i_Chart => k_is)
    (case y_i_Chart => k_is)
    (case l_i_Chart => k_is)
    (case e_i_Chart => k_is)
    (case p_i_Chart => k_is)
    (case a_m_Chart_offer => k_is)
    (case y_m_Chart_offer => k_is)
    (case l_m_Chart_offer => k_is)
    (case e_m_Chart_offer => k_is)
    (case p_m_Chart_offer => k_is)
    (case a_m_Chart_take_part => k_is)
    (case y_m_Chart_take_part => k_is)
    (case l_m_Chart_take_part => k_is)
    (case e_m_Chart_take_part => k_is)
    (case p_m_Chart_take_part => k_is)
    (case a_m_Chart_take_parts => k_is)
    (case y_m_Chart_take_parts => k_is)
    (case l_m_Chart_take_parts => k_is)
    (case e_m_Chart_take_parts => k_is)
    (case p_m_Chart_take_parts => k_is)
    (case a_m_Chart_take_level => k_is)
    (case y_m_Chart_take_level => k_is)
    (case l_m_Chart_take_level => k_is)
    (case e_m_Chart_take_level => k_is)
    (case p_m_Chart_take_level => k_is)
    (case a_m_Chart_rise => k_is)
    (case y_m_Chart_rise => k_is)
    (case l_m_Chart_rise => k_is)
    (case e_m_Chart_rise => k_is)
    (case p_m_Chart_rise => k_is)
    (case g_Wood => k_is)
    (case pg_Wood => k_is)
    (case hd_Wood => k_is)
    (case po_Wood => k_is)
    (case sa_Wood => k_is)
    (case mk_Wood => k_is)
    (case kc_Wood => k_is)
    (case ha_Wood => k_is)
    (case hn_Wood => k_is)
    (case ht_Wood => k_is)
    (case hm_Wood => k_is)
    (case tc_Wood => k_is)
    (case ic_Wood => k_is)
    (case n_Wood_rules => k_is)
    (case n_Wood_signs => k_is)
    (case n_Wood_peak => k_is)
    (case n_Wood_paths => k_is)
    (case a_i_Wood => k_is)
    (case y_i_Wood => k_is)
    (case l_i_Wood => k_is)
    (case e_i_Wood => k_is)
    (case p_i_Wood => k_is)
    (case a_m_Wood_reach => k_is)
    (case y_m_Wood_reach => k_is)
    (case l_m_Wood_reach => k_is)
    (case e_m_Wood_reach => k_is)
    (case p_m_Wood_reach => k_is)
    (case g_ForestError => k_is)
    (case ex_ForestError => k_exc)
    (case kc_ForestError => k_is)
    (case bc_ForestError => k_is)
    (case tc_ForestError => k_is)
    (case ic_ForestError => k_is)
    (case ga_ForestError => k_is)
    (case gk_ForestError => k_is)
    (case hd_ForestError => k_is)
    (case ha_ForestError => k_is)
    (case hn_ForestError => k_is)
    (case ht_ForestError => k_is)
    (case hm_ForestError => k_is)
    (case ve_ForestError => k_is)
    (case g_NoGrammar => k_is)
    (case ex_NoGrammar => k_exc)
    (case kc_NoGrammar => k_is)
    (case bc_NoGrammar => k_is)
    (case tc_NoGrammar => k_is)
    (case ic_NoGrammar => k_is)
    (case ga_NoGrammar => k_is)
    (case gk_NoGrammar => k_is)
    (case hd_NoGrammar => k_is)
    (case ha_NoGrammar => k_is)
    (case hn_NoGrammar => k_is)
    (case ht_NoGrammar => k_is)
    (case hm_NoGrammar => k_is)
    (case ve_NoGrammar => k_is)
    (case g_NoText => k_is)
    (case ex_NoText => k_exc)
    (case kc_NoText => k_is)
    (case bc_NoText => k_is)
    (case tc_NoText => k_is)
    (case ic_NoText => k_is)
    (case ga_NoText => k_is)
    (case gk_NoText => k_is)
    (case hd_NoText => k_is)
    (case ha_NoText => k_is)
    (case hn_NoText => k_is)
    (case ht_NoText => k_is)
    (case hm_NoText => k_is)
    (case ve_NoText => k_is)
    (case g_NoRow => k_is)
    (case ex_NoRow => k_exc)
    (case kc_NoRow => k_is)
    (case bc_NoRow => k_is)
    (case tc_NoRow => k_is)
    (case ic_NoRow => k_is)
    (case ga_NoRow => k_is)
    (case gk_NoRow => k_is)
    (case hd_NoRow => k_is)
    (case ha_NoRow => k_is)
    (case hn_NoRow => k_is)
    (case ht_NoRow => k_is)
    (case hm_NoRow => k_is)
    (case ve_NoRow => k_is)
    (case g_NoRule => k_is)
    (case ex_NoRule => k_exc)
    (case kc_NoRule => k_is)
    (case bc_NoRule => k_is)
    (case tc_NoRule => k_is)
    (case ic_NoRule => k_is)
    (case ga_NoRule => k_is)
    (case gk_NoRule => k_is)
    (case hd_NoRule => k_is)
    (case ha_NoRule => k_is)
    (case hn_NoRule => k_is)
    (case ht_NoRule => k_is)
    (case hm_NoRule => k_is)
    (case ve_NoRule => k_is)
    (case g_NoNumber => k_is)
    (case ex_NoNumber => k_exc)
    (case kc_NoNumber => k_is)
    (case bc_NoNumber => k_is)
    (case tc_NoNumber => k_is)
    (case ic_NoNumber => k_is)
    (case ga_NoNumber => k_is)
    (case gk_NoNumber => k_is)
    (case hd_NoNumber => k_is)
    (case ha_NoNumber => k_is)
    (case hn_NoNumber => k_is)
    (case ht_NoNumber => k_is)
    (case hm_NoNumber => k_is)
    (case ve_NoNumber => k_is)
    (case g_NoCosts => k_is)
    (case ex_NoCosts => k_exc)
    (case kc_NoCosts => k_is)
    (case bc_NoCosts => k_is)
    (case tc_NoCosts => k_is)
    (case ic_NoCosts => k_is)
    (case ga_NoCosts => k_is)
    (case gk_NoCosts => k_is)
    (case hd_NoCosts => k_is)
    (case ha_NoCosts => k_is)
    (case hn_NoCosts => k_is)
    (case ht_NoCosts => k_is)
    (case hm_NoCosts => k_is)
    (case ve_NoCosts => k_is)
    (case g_NoChange => k_is)
    (case ex_NoChange => k_exc)
    (case kc_NoChange => k_is)
    (case bc_NoChange => k_is)
    (case tc_NoChange => k_is)
    (case ic_NoChange => k_is)
    (case ga_NoChange => k_is)
    (case gk_NoChange => k_is)
    (case hd_NoChange => k_is)
    (case ha_NoChange => k_is)
    (case hn_NoChange => k_is)
    (case ht_NoChange => k_is)
    (case hm_NoChange => k_is)
    (case ve_NoChange => k_is)
    (case g_NoWords => k_is)
    (case ex_NoWords => k_exc)
    (case kc_NoWords => k_is)
    (case bc_NoWords => k_is)
    (case tc_NoWords => k_is)
    (case ic_NoWords => k_is)
    (case ga_NoWords => k_is)
    (case gk_NoWords => k_is)
    (case hd_NoWords => k_is)
    (case ha_NoWords => k_is)
    (case hn_NoWords => k_is)
    (case ht_NoWords => k_is)
    (case hm_NoWords => k_is)
    (case ve_NoWords => k_is)
    (case g_Endless => k_is)
    (case ex_Endless => k_exc)
    (case kc_Endless => k_is)
    (case bc_Endless => k_is)
    (case tc_Endless => k_is)
    (case ic_Endless => k_is)
    (case ga_Endless => k_is)
    (case gk_Endless => k_is)
    (case hd_Endless => k_is)
    (case ha_Endless => k_is)
    (case hn_Endless => k_is)
    (case ht_Endless => k_is)
    (case hm_Endless => k_is)
    (case ve_Endless => k_is)
    (case g_TooGreat => k_is)
    (case ex_TooGreat => k_exc)
    (case kc_TooGreat => k_is)
    (case bc_TooGreat => k_is)
    (case tc_TooGreat => k_is)
    (case ic_TooGreat => k_is)
    (case ga_TooGreat => k_is)
    (case gk_TooGreat => k_is)
    (case hd_TooGreat => k_is)
    (case ha_TooGreat => k_is)
    (case hn_TooGreat => k_is)
    (case ht_TooGreat => k_is)
    (case hm_TooGreat => k_is)
    (case ve_TooGreat => k_is)
    (case g_Barren => k_is)
    (case ex_Barren => k_exc)
    (case kc_Barren => k_is)
    (case bc_Barren => k_is)
    (case tc_Barren => k_is)
    (case ic_Barren => k_is)
    (case ga_Barren => k_is)
    (case gk_Barren => k_is)
    (case hd_Barren => k_is)
    (case ha_Barren => k_is)
    (case hn_Barren => k_is)
    (case ht_Barren => k_is)
    (case hm_Barren => k_is)
    (case ve_Barren => k_is)
    (case su_Chart_Chart => first | k_is | rfl | decide)
    (case su_Chart_Wood => first | k_is | rfl | decide)
    (case su_Wood_Chart => first | k_is | rfl | decide)
    (case su_Wood_Wood => first | k_is | rfl | decide)
    (case su_NoGrammar_ForestError => first | k_is | rfl | decide)
    (case su_NoGrammar_NoGrammar => first | k_is | rfl | decide)
    (case su_NoGrammar_NoText => first | k_is | rfl | decide)
    (case su_NoGrammar_NoRow => first | k_is | rfl | decide)
    (case su_NoGrammar_NoRule => first | k_is | rfl | decide)
    (case su_NoGrammar_NoNumber => first | k_is | rfl | decide)
    (case su_NoGrammar_NoCosts => first | k_is | rfl | decide)
    (case su_NoGrammar_NoChange => first | k_is | rfl | decide)
    (case su_NoGrammar_NoWords => first | k_is | rfl | decide)
    (case su_NoGrammar_Endless => first | k_is | rfl | decide)
    (case su_NoGrammar_TooGreat => first | k_is | rfl | decide)
    (case su_NoGrammar_Barren => first | k_is | rfl | decide)
    (case su_NoText_ForestError => first | k_is | rfl | decide)
    (case su_NoText_NoGrammar => first | k_is | rfl | decide)
    (case su_NoText_NoText => first | k_is | rfl | decide)
    (case su_NoText_NoRow => first | k_is | rfl | decide)
    (case su_NoText_NoRule => first | k_is | rfl | decide)
    (case su_NoText_NoNumber => first | k_is | rfl | decide)
    (case su_NoText_NoCosts => first | k_is | rfl | decide)
    (case su_NoText_NoChange => first | k_is | rfl | decide)
    (case su_NoText_NoWords => first | k_is | rfl | decide)
    (case su_NoText_Endless => first | k_is | rfl | decide)
    (case su_NoText_TooGreat => first | k_is | rfl | decide)
    (case su_NoText_Barren => first | k_is | rfl | decide)
    (case a_wall => k_is)
    (case l_wall => k_is)
    (case e_wall => k_is)
    (case p_wall => k_is)
    (case a_is_whole => k_is)
    (case l_is_whole => k_is)
    (case e_is_whole => k_is)
    (case p_is_whole => k_is)
    (case a_may_stand => k_is)
    (case l_may_stand => k_is)
    (case e_may_stand => k_is)
    (case p_may_stand => k_is)
    (case a_is_sign => k_is)
    (case l_is_sign => k_is)
    (case e_is_sign => k_is)
    (case p_is_sign => k_is)
    (case a_is_name => k_is)
    (case l_is_name => k_is)
    (case e_is_name => k_is)
    (case p_is_name => k_is)
    (case a_checked_text => k_is)
    (case l_checked_text => k_is)
    (case e_checked_text => k_is)
    (case p_checked_text => k_is)
    (case a_are_parts => k_is)
    (case l_are_parts => k_is)
    (case e_are_parts => k_is)
    (case p_are_parts => k_is)
    (case a_is_rule => k_is)
    (case l_is_rule => k_is)
    (case e_is_rule => k_is)
    (case p_is_rule => k_is)
    (case a_checked => k_is)
    (case l_checked => k_is)
    (case e_checked => k_is)
    (case p_checked => k_is)
    (case a_rules_by_head => k_is)
    (case l_rules_by_head => k_is)
    (case e_rules_by_head => k_is)
    (case p_rules_by_head => k_is)
    (case a_first_nodes => k_is)
    (case l_first_nodes => k_is)
    (case e_first_nodes => k_is)
    (case p_first_nodes => k_is)
    (case a_heights_over => k_is)
    (case l_heights_over => k_is)
    (case e_heights_over => k_is)
    (case p_heights_over => k_is)
    (case a_standing => k_is)
    (case l_standing => k_is)
    (case e_standing => k_is)
    (case p_standing => k_is)
    (case a_ways_of_parts => k_is)
    (case l_ways_of_parts => k_is)
    (case e_ways_of_parts => k_is)
    (case p_ways_of_parts => k_is)
    (case a_ways_of_head => k_is)
    (case l_ways_of_head => k_is)
    (case e_ways_of_head => k_is)
    (case p_ways_of_head => k_is)
    (case a_ways_over => k_is)
    (case l_ways_over => k_is)
    (case e_ways_over => k_is)
    (case p_ways_over => k_is)
    (case a_law_cell_at => k_is)
    (case l_law_cell_at => k_is)
    (case e_law_cell_at => k_is)
    (case p_law_cell_at => k_is)
    (case a_law_mixed => k_is)
    (case l_law_mixed => k_is)
    (case e_law_mixed => k_is)
    (case p_law_mixed => k_is)
    (case a_law_signs => k_is)
    (case l_law_signs => k_is)
    (case e_law_signs => k_is)
    (case p_law_signs => k_is)
    (case a_law_names => k_is)
    (case l_law_names => k_is)
    (case e_law_names => k_is)
    (case p_law_names => k_is)
    (case a_law_worth => k_is)
    (case l_law_worth => k_is)
    (case e_law_worth => k_is)
    (case p_law_worth => k_is)
    (case a_law_parts => k_is)
    (case l_law_parts => k_is)
    (case e_law_parts => k_is)
    (case p_law_parts => k_is)
    (case a_law_grammar => k_is)
    (case l_law_grammar => k_is)
    (case e_law_grammar => k_is)
    (case p_law_grammar => k_is)
    (case a_law_text => k_is)
    (case l_law_text => k_is)
    (case e_law_text => k_is)
    (case p_law_text => k_is)
    (case a_law_bad_rule => k_is)
    (case l_law_bad_rule => k_is)
    (case e_law_bad_rule => k_is)
    (case p_law_bad_rule => k_is)
    (case a_law_bad_grammar => k_is)
    (case l_law_bad_grammar => k_is)
    (case e_law_bad_grammar => k_is)
    (case p_law_bad_grammar => k_is)
    (case a_law_bad_text => k_is)
    (case l_law_bad_text => k_is)
    (case e_law_bad_text => k_is)
    (case p_law_bad_text => k_is)
    (case a_law_refused => k_is)
    (case l_law_refused => k_is)
    (case e_law_refused => k_is)
    (case p_law_refused => k_is)
    (case a_law => k_is)
    (case l_law => k_is)
    (case e_law => k_is)
    (case p_law => k_is)
